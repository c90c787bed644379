import PyProof.Rows.All
import Wide.All
import OpenK.AllK
import Wide.FinOn
import HandS.ForExc
import HandS.ForMost
import HandS.More
import HandS.IsInst
import HandS.TupAny
import HandS.TupLe
import KE.KDictKeyed
import HandS.TupSets
import HandS.SetKeys
import KE.GoesSet
import HandS.TupLen
import HandS.Conv
import HandS.SortInts
import HandS.Zip
import HandS.SetBool
import HandS.CallRecv
import HandS.Exc
import HandS.Codes
import HandS.HeadHook3
import HandS.Ends
import PySem.Challenge.RW_deedranks_k80_deeds_judged
open PySem PySem.W PyProof.Rows
set_option Elab.async false
set_option maxRecDepth 100000
set_option maxHeartbeats 8000000
open_top k80head for PySem.Challenge.rw_deedranks_k80_deeds_judged
section
set_option Elab.async false
set_option linter.all false
set_option maxRecDepth 100000
set_option maxHeartbeats 4000000
namespace R
open PySem L2

/-- plain data -/
inductive D where
  | non | bl (b : Bool) | int (i : Int) | str (s : Str) | ty (n : String)
  | fn (x : Str) | cls (x : Str)
  | tup (xs : List D) | lst (xs : List D)
  | dic (ks vs : List D)
  | set (xs : List D)
  | obj (c : Str) (fs : List Str) (vs : List D)
  /-- the store's cell l -/
  | mut (l : Nat)
instance : Inhabited D := ⟨.non⟩

/-- a list of the written part -/
def KLst (K : PySem.W.Frag) (a : Addr) (xs : List V) : Prop :=
  ∃ (o : Obj) (its : Array Value) (n : Nat), K.lookup a = some o ∧ o.cls = .type "list" ∧ o.dict = none ∧ o.data = .seq its n ∧ its.size ≤ sizeLine ∧ Vals xs its.toList
def KTup (K : PySem.W.Frag) (a : Addr) (xs : List V) : Prop :=
  ∃ (o : Obj) (its : Array Value) (n : Nat), K.lookup a = some o ∧ o.cls = .type "tuple" ∧ o.data = .seq its n ∧ its.size ≤ sizeLine ∧ Vals xs its.toList

/-- a dict of the written part, its keys texts -/
def KDic (K : PySem.W.Frag) (w : World) (a : Addr) (ss : List Str) (xs : List V) : Prop :=
  ∃ es n, KDict K w a es n ∧ Paired (fun (s : Str) (e : DictEntry) => ∃ t, e.key = .str s t) ss es.toList ∧ Vals xs (es.toList.map (·.val)) ∧ es.size ≤ sizeLine ∧ ss.Nodup

/-- what never changes again -/
def Cold (M : Addr → Prop) (H : Hp) (a : Addr) (u : HO) : Prop := Rd H a u ∧ ¬ M a

/-- a set, or a dict, of so many items -/
def SetLen (h : Heap) (a : Addr) (n : Nat) : Prop :=
  ∃ o, h.get? a = some o ∧ n ≤ sizeLine ∧ ((∃ es ep t, o.ExactSet ∧ o.data = .set es ep t ∧ t.fits es.size = true ∧ es.size = n) ∨ (∃ es ep, o.ExactDict ∧ o.data = .dict es ep ∧ es.size = n ∧ (a == sysModules) = false))

/-- texts are no longer than this -/
def strMax : Nat := 1000000
def keyOk : Key → Prop
  | .inl _ => True
  | .inr s => s.length ≤ strMax
def keyD : Key → D
  | .inl i => .int i
  | .inr s => .str s

def kinds : List String := ["NoneType", "bool", "int", "str", "tuple", "list", "dict"]
/-- what is asked of a class of which instances are data -/
structure ClsOk (K : PySem.W.Frag) (C : Addr) : Prop where
  cl : Cls K C
  ha : PySem.W.findIn K (.ref C) "__class__" = some (some (.builtin "object.__class__"))
  hn : PySem.W.specialIn K (.builtin "object.__class__") "__get__" = some (some (.builtin "getset_descriptor.__get__"))
  htk : PySem.W.takesIn K (.builtin "object.__class__") = some true
  hm : PySem.W.mroIn K C (.type "object") = some true
  k1 : ∀ T ∈ kinds, PySem.W.kitOne K (.type T) (.ref C) = some false
  k2 : ∀ T ∈ kinds, PySem.W.kitOne K (.ref C) (.type T) = some false

def IsGl (K : PySem.W.Frag) (x : Str) (a : Addr) : Prop := PySem.W.nsIn K mainGlobals x = some (some (.ref a))

section
variable (K : PySem.W.Frag) (w : World) (ι : List Addr) (M : Addr → Prop) (H : Hp)
mutual
def Rep : D → V → Prop
  | .non, v => v = .non
  | .bl b, v => v = .bl b
  | .int i, v => v = .int i
  | .str s, v => v = .str s ∧ s.length ≤ strMax
  | .ty n, v => v = .ty n
  | .fn x, v => ∃ a, v = .ref a ∧ IsGl K x a ∧ PySem.W.fnIn K a = true
  | .cls x, v => ∃ a, v = .ref a ∧ IsGl K x a ∧ ClsOk K a
  | .tup ds, v => ∃ a xs, v = .ref a ∧ (Cold M H a (.tup xs) ∨ KTup K a xs) ∧ Reps ds xs
  | .lst ds, v => ∃ a xs, v = .ref a ∧ (Cold M H a (.lst xs) ∨ KLst K a xs) ∧ Reps ds xs
  | .dic ks vs, v => ∃ a, v = .ref a ∧
      ((∃ kvs : List (Key × V), Cold M H a (.dK kvs) ∧ ks = kvs.map (fun p => keyD p.1) ∧ (∀ p ∈ kvs, keyOk p.1) ∧ Reps vs (kvs.map (·.2))) ∨
       (∃ kvs : List (List Key × V), (H a = some (.dT kvs) ∧ ¬ M a) ∧ kvs ≠ [] ∧ ks = kvs.map (fun p => .tup (p.1.map keyD)) ∧ (∀ p ∈ kvs, ∀ q ∈ p.1, keyOk q) ∧ Reps vs (kvs.map (·.2))) ∨
       (∃ (ss : List Str) (xs : List V), KDic K w a ss xs ∧ ss ≠ [] ∧ ks = ss.map .str ∧ (∀ s ∈ ss, s.length ≤ strMax) ∧ Reps vs xs))
  | .set ds, v => ∃ a φ, v = .ref a ∧ Cold M H a (.ext φ) ∧ ∀ h, φ h → SetLen h a ds.length
  | .obj c fs ds, v => ∃ a C dx fv, v = .ref a ∧ (H a = some (.ins C dx fv) ∧ ¬ M a) ∧ IsGl K c C ∧ (ClsOk K C ∧ ∀ f ∈ fs, NoAttr K C f) ∧ fv.map (·.1) = fs ∧ Reps ds (fv.map (·.2))
  | .mut l, v => ∃ a, ι[l]? = some a ∧ v = .ref a
def Reps : List D → List V → Prop
  | [], xs => xs = []
  | d :: ds, xs => ∃ x r, xs = x :: r ∧ Rep d x ∧ Reps ds r
end
end

/-- what was cold stays, and stays cold -/
def Grow (M : Addr → Prop) (H : Hp) (M' : Addr → Prop) (H' : Hp) : Prop := ∀ a o, H a = some o → ¬ M a → H' a = some o ∧ ¬ M' a
theorem Grow.refl {M : Addr → Prop} {H : Hp} : Grow M H M H := fun _ _ h n => ⟨h, n⟩
theorem Grow.trans {M M1 M2 : Addr → Prop} {H H1 H2 : Hp} (a : Grow M H M1 H1) (b : Grow M1 H1 M2 H2) : Grow M H M2 H2 := fun c o h n =>
  let ⟨h1, n1⟩ := a c o h n
  b c o h1 n1
theorem Cold.grow {M M' : Addr → Prop} {H H' : Hp} {a : Addr} {u : HO} (g : Grow M H M' H') (c : Cold M H a u) : Cold M' H' a u := by
  obtain ⟨r, n⟩ := c
  rcases r with r | ⟨o, r⟩
  · obtain ⟨r', n'⟩ := g a _ r n
    exact ⟨.inl r', n'⟩
  · obtain ⟨r', n'⟩ := g a _ r n
    exact ⟨.inr ⟨o, r'⟩, n'⟩

section
variable {K : PySem.W.Frag} {w : World} {ι ι' : List Addr} {M M' : Addr → Prop} {H H' : Hp}
mutual
theorem Rep.grow (g : Grow M H M' H') (hp : ι <+: ι') : ∀ (d : D) (v : V), Rep K w ι M H d v → Rep K w ι' M' H' d v
  | .non, v, h => h
  | .bl _, v, h => h
  | .int _, v, h => h
  | .str _, v, h => h
  | .ty _, v, h => h
  | .fn _, v, h => h
  | .cls _, v, h => h
  | .tup ds, v, h => by
    obtain ⟨a, xs, e, c, r⟩ := (show ∃ a xs, v = .ref a ∧ (Cold M H a (.tup xs) ∨ KTup K a xs) ∧ Reps K w ι M H ds xs from h)
    exact ⟨a, xs, e, c.imp (Cold.grow g) id, Reps.grow g hp ds xs r⟩
  | .lst ds, v, h => by
    obtain ⟨a, xs, e, c, r⟩ := (show ∃ a xs, v = .ref a ∧ (Cold M H a (.lst xs) ∨ KLst K a xs) ∧ Reps K w ι M H ds xs from h)
    exact ⟨a, xs, e, c.imp (Cold.grow g) id, Reps.grow g hp ds xs r⟩
  | .dic ks vs, v, h => by
    have h' : ∃ a, v = .ref a ∧ ((∃ kvs : List (Key × V), Cold M H a (.dK kvs) ∧ ks = kvs.map (fun p => keyD p.1) ∧ (∀ p ∈ kvs, keyOk p.1) ∧ Reps K w ι M H vs (kvs.map (·.2))) ∨
       (∃ kvs : List (List Key × V), (H a = some (.dT kvs) ∧ ¬ M a) ∧ kvs ≠ [] ∧ ks = kvs.map (fun p => .tup (p.1.map keyD)) ∧ (∀ p ∈ kvs, ∀ q ∈ p.1, keyOk q) ∧ Reps K w ι M H vs (kvs.map (·.2))) ∨
       (∃ (ss : List Str) (xs : List V), KDic K w a ss xs ∧ ss ≠ [] ∧ ks = ss.map .str ∧ (∀ s ∈ ss, s.length ≤ strMax) ∧ Reps K w ι M H vs xs)) := h
    obtain ⟨a, e, h'⟩ := h'
    rcases h' with ⟨kvs, c, k, ok, r⟩ | ⟨kvs, c, ne, k, ok, r⟩ | ⟨ss, xs, c, ne, k, ok, r⟩
    · exact ⟨a, e, .inl ⟨kvs, c.grow g, k, ok, Reps.grow g hp vs _ r⟩⟩
    · exact ⟨a, e, .inr (.inl ⟨kvs, g a _ c.1 c.2, ne, k, ok, Reps.grow g hp vs _ r⟩)⟩
    · exact ⟨a, e, .inr (.inr ⟨ss, xs, c, ne, k, ok, Reps.grow g hp vs _ r⟩)⟩
  | .set ds, v, h => by
    obtain ⟨a, φ, e, c, r⟩ := (show ∃ a φ, v = .ref a ∧ Cold M H a (.ext φ) ∧ ∀ h, φ h → SetLen h a ds.length from h)
    exact ⟨a, φ, e, c.grow g, r⟩
  | .obj c fs ds, v, h => by
    obtain ⟨a, C, dx, fv, e, c1, c2, c3, c4, r⟩ := (show ∃ a C dx fv, v = .ref a ∧ (H a = some (.ins C dx fv) ∧ ¬ M a) ∧ IsGl K c C ∧ (ClsOk K C ∧ ∀ f ∈ fs, NoAttr K C f) ∧ fv.map (·.1) = fs ∧ Reps K w ι M H ds (fv.map (·.2)) from h)
    exact ⟨a, C, dx, fv, e, ⟨(g a _ c1.1 c1.2).1, (g a _ c1.1 c1.2).2⟩, c2, c3, c4, Reps.grow g hp ds _ r⟩
  | .mut l, v, h => by
    obtain ⟨a, e, q⟩ := (show ∃ a, ι[l]? = some a ∧ v = .ref a from h)
    refine ⟨a, ?_, q⟩
    obtain ⟨t, rfl⟩ := hp
    have hl : l < ι.length := (List.getElem?_eq_some_iff.mp e).1
    rw [List.getElem?_append_left hl]
    exact e
theorem Reps.grow (g : Grow M H M' H') (hp : ι <+: ι') : ∀ (ds : List D) (xs : List V), Reps K w ι M H ds xs → Reps K w ι' M' H' ds xs
  | [], xs, h => h
  | d :: ds, xs, h => by
    obtain ⟨x, r, e, h1, h2⟩ := (show ∃ x r, xs = x :: r ∧ Rep K w ι M H d x ∧ Reps K w ι M H ds r from h)
    exact ⟨x, r, e, Rep.grow g hp d x h1, Reps.grow g hp ds r h2⟩
end
theorem Reps.nil : Reps K w ι M H [] [] := rfl
theorem Reps.cons {d : D} {ds : List D} {x : V} {xs : List V} (h : Rep K w ι M H d x) (r : Reps K w ι M H ds xs) : Reps K w ι M H (d :: ds) (x :: xs) := ⟨x, xs, rfl, h, r⟩
theorem Reps.nil_inv {xs : List V} (h : Reps K w ι M H [] xs) : xs = [] := h
theorem Reps.cons_inv {d : D} {ds : List D} {xs : List V} (h : Reps K w ι M H (d :: ds) xs) : ∃ x r, xs = x :: r ∧ Rep K w ι M H d x ∧ Reps K w ι M H ds r := h
theorem Reps.length : ∀ {ds : List D} {xs : List V}, Reps K w ι M H ds xs → ds.length = xs.length
  | [], _, h => by cases Reps.nil_inv h; rfl
  | d :: ds, _, h => by
    obtain ⟨x, r, rfl, _, h2⟩ := h.cons_inv
    rw [List.length_cons, List.length_cons, Reps.length h2]
theorem Reps.append : ∀ {ds es : List D} {xs ys : List V}, Reps K w ι M H ds xs → Reps K w ι M H es ys → Reps K w ι M H (ds ++ es) (xs ++ ys)
  | [], es, xs, ys, h, r => by rw [Reps.nil_inv h]; exact r
  | d :: ds, es, xs, ys, h, r => by
    obtain ⟨x, q, rfl, h1, h2⟩ := h.cons_inv
    exact .cons h1 (Reps.append h2 r)
theorem Reps.get : ∀ {ds : List D} {xs : List V} {i : Nat} {d : D}, Reps K w ι M H ds xs → ds[i]? = some d → ∃ x, xs[i]? = some x ∧ Rep K w ι M H d x
  | [], _, _, _, h, e => by simp at e
  | d :: ds, _, 0, _, h, e => by
    obtain ⟨x, r, rfl, h1, h2⟩ := h.cons_inv
    simp at e; subst e
    exact ⟨x, rfl, h1⟩
  | d :: ds, _, i + 1, _, h, e => by
    obtain ⟨x, r, rfl, h1, h2⟩ := h.cons_inv
    obtain ⟨y, h3, h4⟩ := Reps.get (i := i) h2 (by simpa using e)
    exact ⟨y, by simpa using h3, h4⟩
theorem Reps.set {d : D} {x : V} (h0 : Rep K w ι M H d x) : ∀ {ds : List D} {xs : List V} (i : Nat), Reps K w ι M H ds xs → Reps K w ι M H (ds.set i d) (xs.set i x)
  | [], _, _, h => by rw [Reps.nil_inv h]; exact rfl
  | e :: ds, _, 0, h => by
    obtain ⟨y, r, rfl, h1, h2⟩ := h.cons_inv
    exact .cons h0 h2
  | e :: ds, _, i + 1, h => by
    obtain ⟨y, r, rfl, h1, h2⟩ := h.cons_inv
    exact .cons h1 (Reps.set h0 i h2)
theorem Reps.take : ∀ {ds : List D} {xs : List V} (n : Nat), Reps K w ι M H ds xs → Reps K w ι M H (ds.take n) (xs.take n)
  | _, _, 0, _ => rfl
  | [], _, n + 1, h => by rw [Reps.nil_inv h]; exact rfl
  | d :: ds, _, n + 1, h => by
    obtain ⟨y, r, rfl, h1, h2⟩ := h.cons_inv
    exact .cons h1 (Reps.take n h2)
theorem Reps.drop : ∀ {ds : List D} {xs : List V} (n : Nat), Reps K w ι M H ds xs → Reps K w ι M H (ds.drop n) (xs.drop n)
  | _, _, 0, h => h
  | [], _, n + 1, h => by rw [Reps.nil_inv h]; exact rfl
  | d :: ds, _, n + 1, h => by
    obtain ⟨y, r, rfl, h1, h2⟩ := h.cons_inv
    exact Reps.drop n h2
theorem Reps.eraseIdx {ds : List D} {xs : List V} (n : Nat) (h : Reps K w ι M H ds xs) : Reps K w ι M H (ds.eraseIdx n) (xs.eraseIdx n) := by
  rw [List.eraseIdx_eq_take_drop_succ, List.eraseIdx_eq_take_drop_succ]
  exact (h.take n).append (h.drop (n + 1))
theorem Reps.reverse : ∀ {ds : List D} {xs : List V}, Reps K w ι M H ds xs → Reps K w ι M H ds.reverse xs.reverse
  | [], _, h => by rw [Reps.nil_inv h]; exact rfl
  | d :: ds, _, h => by
    obtain ⟨y, r, rfl, h1, h2⟩ := h.cons_inv
    rw [List.reverse_cons, List.reverse_cons]
    exact (Reps.reverse h2).append (.cons h1 .nil)
end
end R
end
section
set_option Elab.async false
set_option linter.all false
set_option maxRecDepth 100000
set_option maxHeartbeats 4000000
namespace R
open PySem L2

/-- what a slot holds: a value; a list of its own; an instance of its own (self within __init__) -/
inductive SV where
  | v (d : D)
  | ol (ds : List D)
  | oo (c : Str) (fs : List Str) (vs : List D)
def SV.isOwn : SV → Bool
  | .v _ => false
  | _ => true
abbrev Env := List (Option SV)
inductive Cell where
  | lst (ds : List D)
  | obj (c : Str) (fs : List Str) (vs : List D)
abbrev Sto := List Cell

/-- where a def (or a part of it) was entered: ex: what may change -/
structure Entry where
  H : Hp
  M : Addr → Prop
  ex : Addr → Prop
  ι : List Addr
  /-- self, within __init__ -/
  sf : Addr → Prop
def Own (F : Entry) (ι : List Addr) (M : Addr → Prop) (a : Addr) : Prop := M a ∧ a ∉ ι ∧ (F.H a = none ∨ F.ex a)
section
variable (K : PySem.W.Frag) (w : World) (F : Entry) (ι : List Addr) (M : Addr → Prop) (H : Hp)
def RepS : SV → V → Prop
  | .v d, v => Rep K w ι M H d v
  | .ol ds, v => ∃ a xs, v = .ref a ∧ Own F ι M a ∧ H a = some (.lst xs) ∧ Reps K w ι M H ds xs
  | .oo c fs ds, v => ∃ a C dx fv, v = .ref a ∧ Own F ι M a ∧ H a = some (.ins C dx fv) ∧ IsGl K c C ∧ ((ClsOk K C ∧ ∀ f ∈ fs, NoAttr K C f) ∧ F.sf a) ∧ fv.map (·.1) = fs ∧ Reps K w ι M H ds (fv.map (·.2))
def RepC : Cell → Addr → Prop
  | .lst ds, a => ∃ xs, H a = some (.lst xs) ∧ Reps K w ι M H ds xs
  | .obj c fs ds, a => ∃ C dx fv, H a = some (.ins C dx fv) ∧ IsGl K c C ∧ (ClsOk K C ∧ ∀ f ∈ fs, NoAttr K C f) ∧ fv.map (·.1) = fs ∧ Reps K w ι M H ds (fv.map (·.2))
end

/-- without the slots -/
structure RelG (K : PySem.W.Frag) (w : World) (F : Entry) (M : Addr → Prop) (ι : List Addr) (S : Sto) (H : Hp) : Prop where
  hot : ∀ a, M a → H a ≠ none
  sub : ∀ a ∈ ι, M a
  nd : ι.Nodup
  pre : F.ι <+: ι
  newι : ∀ a ∈ ι, F.ex a ∨ F.H a = none
  frame : ∀ a o, F.H a = some o → ¬ F.ex a → H a = some o ∧ (M a ↔ F.M a)
  exH : ∀ a, F.ex a → H a ≠ none
  lenS : S.length = ι.length
  cell : ∀ (l : Nat) c a, S[l]? = some c → ι[l]? = some a → RepC K w ι M H c a
structure Rel (K : PySem.W.Frag) (w : World) (F : Entry) (M : Addr → Prop) (ι : List Addr) (ρ : Env) (S : Sto) (σ : L2.St) (H : Hp) : Prop extends RelG K w F M ι S H where
  len : ρ.length = σ.length
  slot : ∀ (i : Nat) sv, ρ[i]? = some (some sv) → ∃ v, σ[i]? = some (some v) ∧ RepS K w F ι M H sv v
  own : ∀ (i j : Nat) sv sv', ρ[i]? = some (some sv) → sv.isOwn = true → ρ[j]? = some (some sv') → sv'.isOwn = true → σ[i]? = σ[j]? → i = j

section
variable {K : PySem.W.Frag} {w : World} {F : Entry} {M M' : Addr → Prop} {ι ι' : List Addr} {ρ : Env} {S : Sto} {σ : L2.St} {H H' : Hp}

theorem Grow.same (s : Same H H') : Grow M H M H' := fun a o h n => ⟨s a o h, n⟩
theorem same_upd {p : Addr} {o : HO} (hp : H p = none) : Same H (upd H p o) := fun b u e => by rw [upd_ne (ne_of_none e hp)]; exact e
theorem RepS.grow_v {d : D} {v : V} (g : Grow M H M' H') (hp : ι <+: ι') (h : RepS K w F ι M H (.v d) v) : RepS K w F ι' M' H' (.v d) v := Rep.grow g hp d v h

theorem RelG.same (R : RelG K w F M ι S H) (s : Same H H') : RelG K w F M ι S H' where
  hot := fun a m => by
    have h := R.hot a m
    cases e : H a with
    | none => exact absurd e h
    | some o => rw [s a o e]; exact fun z => by cases z
  sub := R.sub
  nd := R.nd
  pre := R.pre
  newι := R.newι
  frame := fun a o e x => let ⟨h1, h2⟩ := R.frame a o e x; ⟨s a o h1, h2⟩
  exH := fun a m => by
    have h := R.exH a m
    cases e : H a with
    | none => exact absurd e h
    | some o => rw [s a o e]; exact fun z => by cases z
  lenS := R.lenS
  cell := fun l c a h1 h2 => by
    have h := R.cell l c a h1 h2
    have g : Grow M H M H' := Grow.same s
    cases c with
    | lst ds =>
      obtain ⟨xs, e, r⟩ := h
      exact ⟨xs, s a _ e, Reps.grow g (List.prefix_refl _) ds xs r⟩
    | obj c fs ds =>
      obtain ⟨C, dx, fv, e, c1, c2, c3, r⟩ := h
      exact ⟨C, dx, fv, s a _ e, c1, c2, c3, Reps.grow g (List.prefix_refl _) ds _ r⟩
theorem RepS.same {sv : SV} {v : V} (s : Same H H') (h : RepS K w F ι M H sv v) : RepS K w F ι M H' sv v := by
  have g : Grow M H M H' := Grow.same s
  cases sv with
  | v d => exact Rep.grow g (List.prefix_refl _) d v h
  | ol ds =>
    obtain ⟨a, xs, e, o, ha, r⟩ := h
    exact ⟨a, xs, e, o, s a _ ha, Reps.grow g (List.prefix_refl _) ds xs r⟩
  | oo c fs ds =>
    obtain ⟨a, C, dx, fv, e, o, ha, c1, c2, c3, r⟩ := h
    exact ⟨a, C, dx, fv, e, o, s a _ ha, c1, c2, c3, Reps.grow g (List.prefix_refl _) ds _ r⟩
/-- new things are laid -/
theorem Rel.same (R : Rel K w F M ι ρ S σ H) (s : Same H H') : Rel K w F M ι ρ S σ H' :=
  ⟨R.toRelG.same s, R.len, fun i sv e => let ⟨v, h1, h2⟩ := R.slot i sv e; ⟨v, h1, h2.same s⟩, R.own⟩
theorem Rel.fresh (R : RelG K w F M ι S H) {p : Addr} (hp : H p = none) : F.H p = none ∧ ¬ F.ex p ∧ ¬ M p ∧ p ∉ ι := by
  have nx : ¬ F.ex p := fun z => R.exH p z hp
  refine ⟨?_, nx, fun z => R.hot p z hp, fun z => R.hot p (R.sub p z) hp⟩
  cases e : F.H p with
  | none => rfl
  | some o =>
    have z := (R.frame p o e nx).1
    rw [hp] at z; cases z

def ownAt (ρ : Env) (σ : L2.St) (a : Addr) : Prop := ∃ (i : Nat) (sv : SV), ρ[i]? = some (some sv) ∧ sv.isOwn = true ∧ σ[i]? = some (some (.ref a))
def entr (F : Entry) (M : Addr → Prop) (ι : List Addr) (ρ : Env) (σ : L2.St) (H : Hp) : Entry := ⟨H, M, fun a => a ∈ ι ∨ ownAt ρ σ a, ι, F.sf⟩
theorem RepS.own_at {sv : SV} {v : V} (h : RepS K w F ι M H sv v) (o : sv.isOwn = true) : ∃ a, v = .ref a ∧ Own F ι M a ∧ H a ≠ none := by
  cases sv with
  | v d => cases o
  | ol ds =>
    obtain ⟨a, xs, e, ow, ha, _⟩ := h
    exact ⟨a, e, ow, by rw [ha]; exact fun z => by cases z⟩
  | oo c fs ds =>
    obtain ⟨a, C, dx, fv, e, ow, ha, _⟩ := h
    exact ⟨a, e, ow, by rw [ha]; exact fun z => by cases z⟩
theorem Rel.ownAt (R : Rel K w F M ι ρ S σ H) {a : Addr} (h : ownAt ρ σ a) : Own F ι M a ∧ H a ≠ none := by
  obtain ⟨i, sv, e, o, q⟩ := h
  obtain ⟨v, h1, h2⟩ := R.slot i sv e
  rw [q] at h1; cases h1
  obtain ⟨b, e', ow, hb⟩ := h2.own_at o
  cases e'
  exact ⟨ow, hb⟩
theorem RepS.reown {F' : Entry} {sv : SV} {v : V} (h : RepS K w F ι M H sv v) (hf : ∀ a, v = .ref a → sv.isOwn = true → Own F' ι M a) (hsf : F'.sf = F.sf) : RepS K w F' ι M H sv v := by
  cases sv with
  | v d => exact h
  | ol ds =>
    obtain ⟨a, xs, e, o, ha, r⟩ := h
    exact ⟨a, xs, e, hf a e rfl, ha, r⟩
  | oo c fs ds =>
    obtain ⟨a, C, dx, fv, e, o, ha, r⟩ := h
    obtain ⟨c1, c2, c3, r⟩ := r
    exact ⟨a, C, dx, fv, e, hf a e rfl, ha, c1, ⟨c2.1, by rw [hsf]; exact c2.2⟩, c3, r⟩
theorem Rel.enter (R : Rel K w F M ι ρ S σ H) : Rel K w (entr F M ι ρ σ H) M ι ρ S σ H where
  hot := R.hot
  sub := R.sub
  nd := R.nd
  pre := List.prefix_refl _
  newι := fun a h => .inl (.inl h)
  frame := fun a o e _ => ⟨e, Iff.rfl⟩
  exH := fun a h => by
    rcases h with h | h
    · exact R.hot a (R.sub a h)
    · exact (R.ownAt h).2
  lenS := R.lenS
  cell := R.cell
  len := R.len
  slot := fun i sv e => by
    obtain ⟨v, h1, h2⟩ := R.slot i sv e
    refine ⟨v, h1, h2.reown (fun a ea o => ?_) rfl⟩
    subst ea
    obtain ⟨b, e', ow, hb⟩ := h2.own_at o
    cases e'
    exact ⟨ow.1, ow.2.1, .inr (.inr ⟨i, sv, e, o, h1⟩)⟩
  own := R.own
/-- back -/
theorem RelG.back {M1 : Addr → Prop} {ι1 : List Addr} {S1 : Sto} {H1 : Hp} {ex sf : Addr → Prop} (R1 : RelG K w F M1 ι1 S1 H1) (hex : ∀ a, ex a → F.ex a ∨ F.H a = none)
    (R : RelG K w ⟨H1, M1, ex, ι1, sf⟩ M ι S H) : RelG K w F M ι S H where
  hot := R.hot
  sub := R.sub
  nd := R.nd
  pre := R1.pre.trans R.pre
  newι := fun a h => by
    rcases R.newι a h with z | z
    · exact hex a z
    · by_cases x : F.ex a
      · exact .inl x
      · right
        cases e : F.H a with
        | none => rfl
        | some o =>
          have q := (R1.frame a o e x).1
          rw [show H1 a = none from z] at q; cases q
  frame := fun a o e x => by
    obtain ⟨h1, h2⟩ := R1.frame a o e x
    have nx : ¬ ex a := fun z => by
      rcases hex a z with q | q
      · exact x q
      · rw [e] at q; cases q
    obtain ⟨h3, h4⟩ := R.frame a o h1 nx
    exact ⟨h3, h4.trans h2⟩
  exH := fun a x => by
    have h1 := R1.exH a x
    by_cases z : ex a
    · exact R.exH a z
    · cases e : H1 a with
      | none => exact absurd e h1
      | some o => rw [(R.frame a o e z).1]; exact fun q => by cases q
  lenS := R.lenS
  cell := R.cell
theorem RelG.grow {ex sf : Addr → Prop} {M1 : Addr → Prop} {ι1 : List Addr} {H1 : Hp} (hex : ∀ a, ex a → M1 a) (R : RelG K w ⟨H1, M1, ex, ι1, sf⟩ M ι S H) : Grow M1 H1 M H := fun a o h n => by
  obtain ⟨h1, h2⟩ := R.frame a o h fun z => n (hex a z)
  exact ⟨h1, fun z => n (h2.mp z)⟩
theorem Rel.enter_ex (R : Rel K w F M ι ρ S σ H) : ∀ a, (entr F M ι ρ σ H).ex a → F.ex a ∨ F.H a = none := fun a z => by
  rcases z with z | z
  · exact R.newι a z
  · exact (R.ownAt z).1.2.2.symm
theorem Rel.enter_hot (R : Rel K w F M ι ρ S σ H) : ∀ a, (entr F M ι ρ σ H).ex a → M a := fun a z => by
  rcases z with z | z
  · exact R.sub a z
  · exact (R.ownAt z).1.1
theorem Rel.back {M1 : Addr → Prop} {ι1 : List Addr} {ρ1 ρ : Env} {S1 : Sto} {σ1 : L2.St} {H1 : Hp} (R1 : Rel K w F M1 ι1 ρ1 S1 σ1 H1) (R : Rel K w (entr F M1 ι1 ρ1 σ1 H1) M ι ρ S σ H) : Rel K w F M ι ρ S σ H :=
  ⟨RelG.back R1.toRelG R1.enter_ex R.toRelG, R.len, fun i sv e => by
    obtain ⟨v, h1, h2⟩ := R.slot i sv e
    refine ⟨v, h1, h2.reown (fun a ea o => ?_) rfl⟩
    subst ea
    obtain ⟨b, e', ow, hb⟩ := h2.own_at o
    cases e'
    refine ⟨ow.1, ow.2.1, ?_⟩
    rcases ow.2.2 with z | z
    · by_cases x : F.ex a
      · exact .inr x
      · left
        cases e : F.H a with
        | none => rfl
        | some o =>
          have q := (R1.frame a o e x).1
          rw [show H1 a = none from z] at q; cases q
    · exact (R1.enter_ex a z).symm, R.own⟩
end
end R
end
section
set_option Elab.async false
set_option linter.all false
set_option maxRecDepth 100000
set_option maxHeartbeats 4000000
namespace R
open PySem L2

/-- truth -/
def tru : D → Option Bool
  | .non => some false
  | .bl b => some b
  | .int i => some (i != 0)
  | .str s => some ((s.length : Int) != 0)
  | .tup ds => some (!ds.isEmpty)
  | .lst ds => some (!ds.isEmpty)
  | _ => none
/-- flat data and its == -/
def flatD : D → Bool
  | .non => true
  | .bl _ => true
  | .int _ => true
  | .str _ => true
  | _ => false
def feqD : D → D → Bool
  | .non, .non => true
  | .bl a, .bl b => a == b
  | .bl a, .int b => (if a then 1 else 0) == b
  | .int a, .bl b => a == (if b then 1 else 0)
  | .int a, .int b => a == b
  | .str a, .str b => a == b
  | _, _ => false
/-- == of data -/
def eqL (f : D → D → Option Bool) : List D → List D → Option Bool
  | a :: r, b :: s => match f a b, eqL f r s with
    | some x, some y => some (x && y)
    | _, _ => none
  | _, _ => some true
def plainD : D → Bool
  | .non => true
  | .bl _ => true
  | .int _ => true
  | .str _ => true
  | .tup _ => true
  | .lst _ => true
  | _ => false
def eqS (f : D → D → Option Bool) : D → D → Option Bool
  | .tup ds, .tup es => match eqL f ds es with
    | some x => some (x && ds.length == es.length)
    | none => none
  | .lst ds, .lst es => if ds.length = es.length then eqL f ds es else some false
  | a, b => if plainD a && plainD b then some (if flatD a && flatD b then feqD a b else false) else none
def eqF : Nat → D → D → Option Bool
  | 0 => fun _ _ => none
  | n + 1 => eqS (eqF n)
def eqD (a b : D) : Option Bool := eqF 9 a b
def ltD : D → D → Option Bool
  | .int a, .int b => some (decide (a < b))
  | .str a, .str b => some (decide (a.cps.toList < b.cps.toList))
  | _, _ => none
def leD : D → D → Option Bool
  | .int a, .int b => some (decide (a ≤ b))
  | .str a, .str b => some (!decide (b.cps.toList < a.cps.toList))
  | _, _ => none
def isD : D → D → Option Bool
  | .non, .non => some true
  | .bl _, .non => some false
  | .int _, .non => some false
  | .str _, .non => some false
  | .tup _, .non => some false
  | .lst _, .non => some false
  | .dic _ _, .non => some false
  | .obj _ _ _, .non => some false
  | .mut _, .non => some false
  | .bl a, .bl b => some (decide (a = b))
  | _, _ => none
/-- keys: an int, a text, a tuple of these -/
def keyEq : D → D → Bool
  | .int a, .int b => decide (a = b)
  | .str a, .str b => decide (a = b)
  | _, _ => false
def keysEq : List D → List D → Bool
  | [], [] => true
  | a :: r, b :: s => keyEq a b && keysEq r s
  | _, _ => false
def kEq : D → D → Bool
  | .tup a, .tup b => keysEq a b
  | a, b => keyEq a b
def isKey : D → Bool
  | .int _ => true
  | .str _ => true
  | _ => false
def kget (ks vs : List D) (k : D) : Option D := match ks, vs with
  | q :: qs, v :: ws => if kEq q k then some v else kget qs ws k
  | _, _ => none
def isInt : D → Bool
  | .int _ => true
  | _ => false
/-- what stands at a key -/
def dget (ks vs : List D) : D → Option (Option D)
  | .str a => if ks.all isKey then some (kget ks vs (.str a)) else none
  | .int a => if ks.all isInt then some (kget ks vs (.int a)) else none
  | _ => none
def inD : D → D → Option Bool
  | .str a, .str b => some (!(Builtin.Str.occurrences b a 0 b.length 1).isEmpty)
  | x, .tup ds => if flatD x && ds.all flatD then some (ds.any fun y => feqD y x) else none
  | x, .lst ds => if flatD x && ds.all flatD then some (ds.any fun y => feqD y x) else none
  | k, .dic ks vs => (dget ks vs k).map (·.isSome)
  | _, _ => none
def addD : D → D → Option D
  | .int a, .int b => some (.int (a + b))
  | .str a, .str b => if a.length + b.length ≤ strMax then some (.str (a ++ b)) else none
  | .tup a, .tup b => if a.length + b.length ≤ sizeLine then some (.tup (a ++ b)) else none
  | .lst a, .lst b => if a.length + b.length ≤ sizeLine then some (.lst (a ++ b)) else none
  | _, _ => none
def itemD : D → D → Option D
  | .tup ds, .int i => atI ds i
  | .lst ds, .int i => atI ds i
  | .str s, .int i => (atI s.cps.toList i).map fun c => .str ⟨#[c]⟩
  | .dic ks vs, k => match dget ks vs k with
    | some (some v) => some v
    | _ => none
  | _, _ => none
def cutL {α : Type} (xs : List α) (lo hi : Option Int) : List α := (xs.drop (HT.sIx xs.length 0 lo)).take (HT.sIx xs.length xs.length hi - HT.sIx xs.length 0 lo)
def sliceD (d : D) (lo hi : Option Int) : Option D := match d with
  | .tup ds => some (.tup (cutL ds lo hi))
  | .lst ds => some (.lst (cutL ds lo hi))
  | .str s => some (.str (cutS s lo hi))
  | _ => none
def lenD : D → Option D
  | .str s => some (.int s.length)
  | .tup ds => some (.int ds.length)
  | .lst ds => some (.int ds.length)
  | .dic ks _ => some (.int ks.length)
  | .set ds => some (.int ds.length)
  | _ => none
/-- the kind of a value, as isinstance asks it -/
def kindD : D → Option D
  | .non => some (.ty "NoneType")
  | .bl _ => some (.ty "bool")
  | .int _ => some (.ty "int")
  | .str _ => some (.ty "str")
  | .tup _ => some (.ty "tuple")
  | .lst _ => some (.ty "list")
  | .dic _ _ => some (.ty "dict")
  | .obj c _ _ => some (.cls c)
  | _ => none
def subKind : D → D → Option Bool
  | .ty a, .ty b => if kinds.contains b then some (a == b || (a == "bool" && b == "int")) else none
  | .ty _, .cls _ => some false
  | .cls _, .ty b => if kinds.contains b then some false else none
  | .cls a, .cls b => if a = b then some true else none
  | _, _ => none
def isiD (x : D) : D → Option Bool
  | .tup ts => match kindD x with
    | some k => ts.foldr (fun t r => match subKind k t, r with
        | some a, some b => some (a || b)
        | _, _ => none) (some false)
    | none => none
  | t => match kindD x with
    | some k => subKind k t
    | none => none
def isBl : D → Bool
  | .bl _ => true
  | _ => false
def blOf : D → Bool
  | .bl b => b
  | _ => false
def strsD : List D → Option (List Str)
  | [] => some []
  | .str s :: r => (strsD r).map (s :: ·)
  | _ => none
def intsD : List D → Option (List Int)
  | [] => some []
  | .int s :: r => (intsD r).map (s :: ·)
  | _ => none
def sumLen (sep : Str) (ys : List Str) : Nat := (ys.map fun y => y.length + sep.length).sum
/-- the attributes of an instance -/
def fieldD : List Str → List D → Str → Option D
  | f :: fs, v :: vs, g => if g = f then some v else fieldD fs vs g
  | _, _, _ => none
def putD (f : Str) (v : D) : List Str → List D → List Str × List D
  | g :: fs, x :: vs => if g = f then (g :: fs, v :: vs) else let r := putD f v fs vs; (g :: r.1, x :: r.2)
  | _, _ => ([f], [v])
/-- strs in order -/
def insS (s : Str) : List Str → List Str
  | [] => [s]
  | t :: r => if s.cps.toList < t.cps.toList then s :: t :: r else t :: insS s r
def sortS : List Str → List Str
  | [] => []
  | s :: r => insS s (sortS r)
def insI (s : Int) : List Int → List Int
  | [] => [s]
  | t :: r => if s ≤ t then s :: t :: r else t :: insI s r
def sortI : List Int → List Int
  | [] => []
  | s :: r => insI s (sortI r)
def sortedD (ds : List D) : Option (List D) := match strsD ds with
  | some ss => if ss.length < 64 then some ((sortS ss).map .str) else none
  | none => match intsD ds with
    | some is => if is.length < 64 then some ((sortI is).map .int) else none
    | none => none

/-- without what is there again -/
def dd {α : Type} [DecidableEq α] : List α → List α
  | [] => []
  | a :: r => if a ∈ r then dd r else a :: dd r
def mapO {α β : Type} (f : α → Option β) : List α → Option (List β)
  | [] => some []
  | a :: r => match f a, mapO f r with
    | some b, some s => some (b :: s)
    | _, _ => none
def tupInts : D → Option (List Int)
  | .tup ds => intsD ds
  | _ => none
def keyO : D → Option Key
  | .int i => some (.inl i)
  | .str s => some (.inr s)
  | _ => none
def keyT : D → Option (List Key)
  | .tup ds => mapO keyO ds
  | _ => none
def fstD : D → Option D
  | .tup [k, _] => some k
  | _ => none
/-- a set of tuples of ints: what is known of it is how many there are -/
def setOfD : D → Option D
  | .tup ds => match mapO tupInts ds with
    | some ks => if ks.length < 64 then some (.set ((dd ks).map fun k => .tup (k.map .int))) else none
    | none => none
  | _ => none
/-- a dict of pairs, as a thing of so many items -/
def dictOfD : D → Option D
  | .lst ds => match mapO fstD ds with
    | some ks => (match mapO keyO ks with
      | some qs => some (.set ((dd qs).map keyD))
      | none => match mapO keyT ks with
        | some qs => some (.set ((dd qs).map fun q => .tup (q.map keyD)))
        | none => none)
    | none => none
  | _ => none

/-- operations that change nothing -/
inductive Prim where
  | set | dict | add | sub | mul | fdiv | mod | pow | neg
  | eq | ne | lt | le | gt | ge | is | isnot | in_ | notin
  | item | len | abs | int | isi | all | any | join | get | list | tuple | sorted
  | attr (f : Str)
def notO : Option Bool → Option D
  | some b => some (.bl (!b))
  | none => none
def blO : Option Bool → Option D
  | some b => some (.bl b)
  | none => none
def lstO : Option (List D) → Option D
  | some b => some (.lst b)
  | none => none
def listD : D → Option (List D)
  | .lst ds => some ds
  | .tup ds => some ds
  | .str s => some (s.cps.toList.map fun c => .str ⟨#[c]⟩)
  | .dic ks _ => if ks.all isKey then some ks else none
  | _ => none
def small64 (i : Int) : Prop := -(2 ^ 64) < i ∧ i < 2 ^ 64
instance (i : Int) : Decidable (small64 i) := by unfold small64; exact inferInstance
def subD : D → D → Option D
  | .int a, .int b => some (.int (a - b))
  | _, _ => none
def mulD : D → D → Option D
  | .int a, .int b => if small64 a ∨ small64 b then some (.int (a * b)) else none
  | _, _ => none
def fdivD : D → D → Option D
  | .int a, .int b => if 0 < b ∧ b < 1073741824 then some (.int (a / b)) else none
  | _, _ => none
def modD : D → D → Option D
  | .int a, .int b => if 0 < b then some (.int (a % b)) else none
  | _, _ => none
def powD : D → D → Option D
  | .int a, .int b => if 0 ≤ b ∧ b ≤ 1000000 ∧ a.natAbs < 2 ^ 64 then some (.int (a ^ b.toNat)) else none
  | _, _ => none
def negD : D → Option D
  | .int a => some (.int (-a))
  | _ => none
def absD : D → Option D
  | .int a => some (.int (if a < 0 then -a else a))
  | _ => none
def intD : D → Option D
  | .int a => some (.int a)
  | .bl a => some (.int (if a then 1 else 0))
  | _ => none
def itemsD : D → Option (List D)
  | .lst ds => some ds
  | .tup ds => some ds
  | _ => none
def joinL (s : Str) (ds : List D) : Option D := match strsD ds with
  | some ss => if sumLen s ss ≤ strMax then some (.str (Txt.join s ss)) else none
  | none => none
def joinD : D → D → Option D
  | .str s, .lst ds => joinL s ds
  | .str s, .tup ds => joinL s ds
  | _, _ => none
/-- the same whether it is looked at or held -/
def stableD : D → Bool
  | .lst _ => false
  | .obj _ _ _ => false
  | _ => true
def getD2 : D → D → D → Option D
  | .dic ks vs, k, d => if stableD d then (dget ks vs k).map (·.getD d) else none
  | _, _, _ => none
def allO : D → Option D
  | .lst ds => if ds.all isBl then some (.bl (ds.all blOf)) else none
  | _ => none
def anyO : D → Option D
  | .lst ds => if ds.all isBl then some (.bl (ds.any blOf)) else none
  | _ => none
def tupleD : D → Option D
  | .lst ds => some (.tup ds)
  | .tup ds => some (.tup ds)
  | _ => none
def sortO : D → Option D
  | .lst ds => lstO (sortedD ds)
  | _ => none
def attrD (f : Str) : D → Option D
  | .obj _ fs vs => fieldD fs vs f
  | _ => none
def primD : Prim → List D → Option D
  | .add, [a, b] => addD a b
  | .sub, [a, b] => subD a b
  | .mul, [a, b] => mulD a b
  | .fdiv, [a, b] => fdivD a b
  | .mod, [a, b] => modD a b
  | .pow, [a, b] => powD a b
  | .neg, [a] => negD a
  | .eq, [a, b] => blO (eqD a b)
  | .ne, [a, b] => notO (eqD a b)
  | .lt, [a, b] => blO (ltD a b)
  | .le, [a, b] => blO (leD a b)
  | .gt, [a, b] => blO (ltD b a)
  | .ge, [a, b] => blO (leD b a)
  | .is, [a, b] => blO (isD a b)
  | .isnot, [a, b] => notO (isD a b)
  | .in_, [a, b] => blO (inD a b)
  | .notin, [a, b] => notO (inD a b)
  | .item, [a, b] => itemD a b
  | .len, [a] => lenD a
  | .abs, [a] => absD a
  | .int, [a] => intD a
  | .isi, [a, b] => blO (isiD a b)
  | .all, [a] => allO a
  | .any, [a] => anyO a
  | .join, [s, d] => joinD s d
  | .get, [a, k] => getD2 a k .non
  | .get, [a, k, d] => getD2 a k d
  | .list, [d] => lstO (listD d)
  | .tuple, [d] => tupleD d
  | .sorted, [d] => sortO d
  | .set, [d] => setOfD d
  | .dict, [d] => dictOfD d
  | .attr f, [d] => attrD f d
  | _, _ => none

/-- operations that change a list -/
inductive MPrim where
  | append | insert | pop | put
def appendM (ds : List D) : List D → Option (D × List D)
  | [x] => if ds.length < sizeLine then some (.non, ds ++ [x]) else none
  | _ => none
def insertM (ds : List D) : List D → Option (D × List D)
  | [.int i, x] => if 0 ≤ i ∧ i < 2 ^ 62 ∧ ds.length < sizeLine then some (.non, ds.take i.toNat ++ x :: ds.drop i.toNat) else none
  | _ => none
def popM (ds : List D) : List D → Option (D × List D)
  | [] => match ds[ds.length - 1]? with
    | some x => some (x, ds.dropLast)
    | none => none
  | [.int i] => match ixN ds.length i with
    | some k => match ds[k]? with
      | some x => some (x, ds.eraseIdx k)
      | none => none
    | none => none
  | _ => none
def putM (ds : List D) : List D → Option (D × List D)
  | [.int i, x] => match ixN ds.length i with
    | some k => some (.non, ds.set k x)
    | none => none
  | _ => none
def mprimD : MPrim → List D → List D → Option (D × List D)
  | .append, ds, es => appendM ds es
  | .insert, ds, es => insertM ds es
  | .pop, ds, es => popM ds es
  | .put, ds, es => putM ds es

inductive Tg where
  | nm (i : Nat)
  | tup (ts : List Tg)
mutual
inductive CE where
  | var (i : Nat)
  | peek (i : Nat)
  | const (d : D)
  | prim (p : Prim) (args : List CE)
  | slice (lo hi : Bool) (o : CE) (ps : List CE)
  | meth (p : Prim) (T : String) (o : CE) (args : List CE)
  | mprim (p : MPrim) (o : CE) (args : List CE)
  | tup (es : List CE)
  | lst (es : List CE)
  | cell (es : List CE)
  | dic (ks : List D) (vs : List CE)
  | and_ (a b : CE)
  | or_ (a b : CE)
  | not_ (a : CE)
  | ifE (c a b : CE)
  | chain (a : CE) (ps : List Prim) (es : List CE)
  | call (f : Str) (args : List CE) (dfl : List D)
  | callv (ok : List Str) (f : CE) (args : List CE)
  | new (c : Str) (args : List CE) (dfl : List D)
  | comp (own : List Nat) (t : Tg) (it : CI) (ifs : List CE) (elt : CE)
  | scomp (own : List Nat) (t : Tg) (it : CI) (ifs : List CE) (elt : CE)
  | bad
inductive CI where
  | seq (e : CE)
  | range (es : List CE)
  | zip (es : List CE)
  | enum (e : CE)
  | bad
end
inductive CS where
  | asg (t : Tg) (e : CE)
  | asgO (i : Nat) (e : CE)
  | par (ts : List (Nat × Bool)) (es : List CE)
  | fld (o : CE) (f : Str) (e : CE)
  | put (o i e : CE)
  | expr (e : CE)
  | ret (e : CE)
  | retN
  | ite (c : CE) (a b : List CS)
  | for_ (t : Tg) (it : CI) (body : List CS)
  | while_ (c : CE) (body : List CS)
  | pass | brk | cont
  | bad

structure Ex where
  cls : Str
  fs : List Str
  vs : List D
inductive Res (α : Type) where
  | ok (a : α) (ρ : Env) (S : Sto)
  | exc (x : Ex) (ρ : Env) (S : Sto)
  | no
def Res.bind {α β : Type} (r : Res α) (f : α → Env → Sto → Res β) : Res β := match r with
  | .ok a ρ S => f a ρ S
  | .exc x ρ S => .exc x ρ S
  | .no => .no
inductive FRes where
  | ret (d : D) (S : Sto)
  | exc (x : Ex) (S : Sto)
  | no
inductive Fid where
  | fn (x : Str)
  | new (c : Str)
abbrev Orc := Fid → List D → Sto → FRes
inductive Flw where
  | nx | ret (d : D) | brk | ct

def ofO {α : Type} (o : Option α) (ρ : Env) (S : Sto) : Res α := match o with
  | some a => .ok a ρ S
  | none => .no
def FRes.res (r : FRes) (ρ : Env) : Res D := match r with
  | .ret d S => .ok d ρ S
  | .exc x S => .exc x ρ S
  | .no => .no
/-- a value to be handed on: a list of one's own is given away -/
def readV (i : Nat) (ρ : Env) (S : Sto) : Res D := match ρ[i]? with
  | some (some (.v d)) => .ok d ρ S
  | some (some (.ol ds)) => .ok (.lst ds) (ρ.set i (some (.v (.lst ds)))) S
  | _ => .no
/-- a value to be looked at -/
inductive AV where
  | d (x : D)
  | pk (i : Nat)
def viewD (S : Sto) : D → Option D
  | .mut l => match S[l]? with
    | some (.lst ds) => some (.lst ds)
    | some (.obj c fs vs) => some (.obj c fs vs)
    | none => none
  | d => some d
def lookAV (ρ : Env) (S : Sto) : AV → Option D
  | .d x => viewD S x
  | .pk i => match ρ[i]? with
    | some (some (.v d)) => viewD S d
    | some (some (.ol ds)) => some (.lst ds)
    | some (some (.oo c fs vs)) => some (.obj c fs vs)
    | _ => none
def lookAll (ρ : Env) (S : Sto) : List AV → Option (List D)
  | [] => some []
  | a :: r => match lookAV ρ S a, lookAll ρ S r with
    | some d, some ds => some (d :: ds)
    | _, _ => none
/-- a list is changed where it stands -/
def changeAV (p : MPrim) (ds : List D) (ρ : Env) (S : Sto) : AV → Res D
  | .d (.mut l) => match S[l]? with
    | some (.lst xs) => match mprimD p xs ds with
      | some (d, ys) => .ok d ρ (S.set l (.lst ys))
      | none => .no
    | _ => .no
  | .pk i => match ρ[i]? with
    | some (some (.ol xs)) => match mprimD p xs ds with
      | some (d, ys) => .ok d (ρ.set i (some (.ol ys))) S
      | none => .no
    | some (some (.v (.mut l))) => match S[l]? with
      | some (.lst xs) => match mprimD p xs ds with
        | some (d, ys) => .ok d ρ (S.set l (.lst ys))
        | none => .no
      | _ => .no
    | _ => .no
  | _ => .no
/-- the slots of a comprehension's own names go -/
def wipeE (ρ : Env) (own : List Nat) : Env := own.foldl (fun r i => r.set i none) ρ
/-- .. and come back -/
def backE (ρ0 ρ : Env) (own : List Nat) : Env := own.foldl (fun r i => r.set i (ρ0[i]?.getD none)) ρ
def noOwn (ρ : Env) (own : List Nat) : Bool := own.all fun i => match ρ[i]? with
  | some (some sv) => !sv.isOwn
  | _ => true
mutual
def bindT : Tg → D → Env → Option Env
  | .nm i, d, ρ => if i < ρ.length && noOwn ρ [i] then some (ρ.set i (some (.v d))) else none
  | .tup ts, .tup ds, ρ => if ts.length = ds.length then bindTs ts ds ρ else none
  | _, _, _ => none
def bindTs : List Tg → List D → Env → Option Env
  | [], [], ρ => some ρ
  | t :: ts, d :: ds, ρ => match bindT t d ρ with
    | some ρ' => bindTs ts ds ρ'
    | none => none
  | _, _, _ => none
end
/-- a comprehension's loop -/
def loopC (turn : D → Env → Sto → Res (Option D)) (own : List Nat) : List D → List D → Env → Sto → Res (List D)
  | [], acc, ρ, S => .ok acc ρ S
  | d :: r, acc, ρ, S => (turn d ρ S).bind fun o ρ' S' => match o with
    | some y => if acc.length < sizeLine then loopC turn own r (acc ++ [y]) (wipeE ρ' own) S' else .no
    | none => loopC turn own r acc (wipeE ρ' own) S'
def noExc {α : Type} : Res α → Res α
  | .exc _ _ _ => .no
  | r => r
def rangeD (lo hi : Int) : List D := (List.range (hi - lo).toNat).map fun (i : Nat) => D.int (lo + (i : Int))
def okRange (i : Int) : Bool := decide (-(2 ^ 62) ≤ i) && decide (i < 2 ^ 62)
def zipD : List D → List D → List D
  | a :: r, b :: s => .tup [a, b] :: zipD r s
  | _, _ => []
def enumD (k : Nat) : List D → List D
  | [] => []
  | a :: r => .tup [.int k, a] :: enumD (k + 1) r
def seqD : D → Option (List D)
  | .lst ds => some ds
  | .tup ds => some ds
  | .str s => some (s.cps.toList.map fun c => .str ⟨#[c]⟩)
  | _ => none
def peekOf : CE → Option Nat
  | .peek i => some i
  | _ => none
def slPart : Bool → Bool → List Int → Option (Option Int × Option Int)
  | false, false, [] => some (none, none)
  | true, false, [i] => some (some i, none)
  | false, true, [j] => some (none, some j)
  | true, true, [i, j] => some (some i, some j)
  | _, _, _ => none
def isStrK : D → Bool
  | .str s => decide (s.length ≤ 60)
  | _ => false
def keyNd : List D → Bool
  | [] => true
  | k :: r => !(r.any fun q => kEq q k) && keyNd r
/-- a dict display of texts -/
def dicOk (ks vs : List D) : Bool := ks.all isStrK && keyNd ks && ks.length == vs.length && decide (ks.length ≤ 60)
def tyIs (T : String) : Option D → Bool
  | some (.str _) => T == "str"
  | some (.lst _) => T == "list"
  | some (.dic _ _) => T == "dict"
  | _ => false
/-- an operand: a name is looked at, all else gives a value -/
def avOf (e : CE) (r : Res D) (ρ : Env) (S : Sto) : Res AV := match peekOf e with
  | some i => (match ρ[i]? with
    | some (some _) => .ok (.pk i) ρ S
    | _ => .no)
  | none => r.bind fun d ρ S => .ok (.d d) ρ S
section
variable (O : Orc) (L : Nat)
mutual
def evE : CE → Env → Sto → Res D
  | .var i, ρ, S => readV i ρ S
  | .peek _, _, _ => .no
  | .const d, ρ, S => .ok d ρ S
  | .prim p as, ρ, S => (evL as ρ S).bind fun avs ρ S => match lookAll ρ S avs with
    | some ds => ofO (primD p ds) ρ S
    | none => .no
  | .slice lo hi o ps, ρ, S => (avOf o (evE o ρ S) ρ S).bind fun av ρ S => (evP ps ρ S).bind fun is ρ S => match lookAV ρ S av, slPart lo hi is with
      | some d, some (l, h) => ofO (sliceD d l h) ρ S
      | _, _ => .no
  | .meth p T o as, ρ, S => (avOf o (evE o ρ S) ρ S).bind fun av ρ S => if tyIs T (lookAV ρ S av) then (evL as ρ S).bind fun avs ρ S => match lookAll ρ S (av :: avs) with
      | some ds => ofO (primD p ds) ρ S
      | none => .no
    else .no
  | .mprim p o as, ρ, S => (avOf o (evE o ρ S) ρ S).bind fun av ρ S => if tyIs "list" (lookAV ρ S av) then (evV as ρ S).bind fun ds ρ S => changeAV p ds ρ S av else .no
  | .tup es, ρ, S => (evV es ρ S).bind fun ds ρ S => if ds.length ≤ 1000 then .ok (.tup ds) ρ S else .no
  | .lst es, ρ, S => (evV es ρ S).bind fun ds ρ S => if ds.length ≤ 1000 then .ok (.lst ds) ρ S else .no
  | .cell es, ρ, S => (evV es ρ S).bind fun ds ρ S => if ds.length ≤ 1000 then .ok (.mut S.length) ρ (S ++ [.lst ds]) else .no
  | .dic ks vs, ρ, S => (noExc (evV vs ρ S)).bind fun ds ρ S => if dicOk ks ds then .ok (.dic ks ds) ρ S else .no
  | .and_ a b, ρ, S => (evE a ρ S).bind fun x ρ S => match tru x with
    | some true => evE b ρ S
    | some false => .ok x ρ S
    | none => .no
  | .or_ a b, ρ, S => (evE a ρ S).bind fun x ρ S => match tru x with
    | some false => evE b ρ S
    | some true => .ok x ρ S
    | none => .no
  | .not_ a, ρ, S => (evE a ρ S).bind fun x ρ S => match tru x with
    | some t => .ok (.bl (!t)) ρ S
    | none => .no
  | .ifE c a b, ρ, S => (evE c ρ S).bind fun x ρ S => match tru x with
    | some true => evE a ρ S
    | some false => evE b ρ S
    | none => .no
  | .chain a ps es, ρ, S => (evE a ρ S).bind fun x ρ S => evCh x ps es ρ S
  | .call f as dfl, ρ, S => (evV as ρ S).bind fun ds ρ S => (O (.fn f) (ds ++ dfl) S).res ρ
  | .callv ok f as, ρ, S => (evE f ρ S).bind fun g ρ S => match g with
    | .fn x => if ok.contains x then (evV as ρ S).bind fun ds ρ S => (O (.fn x) ds S).res ρ else .no
    | _ => .no
  | .new c as dfl, ρ, S => (evV as ρ S).bind fun ds ρ S => (O (.new c) (ds ++ dfl) S).res ρ
  | .comp own t it ifs elt, ρ, S => (evI it ρ S).bind fun ds ρ S => if noOwn ρ own then
      (loopC (fun d ρ S => match bindT t d ρ with
        | some ρ => noExc ((evIfs ifs ρ S).bind fun b ρ S => if b then (evE elt ρ S).bind fun y ρ S => .ok (some y) ρ S else .ok none ρ S)
        | none => .no) own ds [] (wipeE ρ own) S).bind fun ys ρ' S => .ok (.lst ys) (backE ρ ρ' own) S
    else .no
  | .scomp own t it ifs elt, ρ, S => (evI it ρ S).bind fun ds ρ S => if noOwn ρ own then
      (loopC (fun d ρ S => match bindT t d ρ with
        | some ρ => noExc ((evIfs ifs ρ S).bind fun b ρ S => if b then (evE elt ρ S).bind fun y ρ S => .ok (some y) ρ S else .ok none ρ S)
        | none => .no) own ds [] (wipeE ρ own) S).bind fun ys ρ' S => match mapO keyO ys with
        | some qs => if qs.length ≤ 60 then .ok (.set ((dd qs).map keyD)) (backE ρ ρ' own) S else .no
        | none => .no
    else .no
  | .bad, _, _ => .no
def evL : List CE → Env → Sto → Res (List AV)
  | [], ρ, S => .ok [] ρ S
  | e :: es, ρ, S => (avOf e (evE e ρ S) ρ S).bind fun a ρ S => (evL es ρ S).bind fun as ρ S => .ok (a :: as) ρ S
def evV : List CE → Env → Sto → Res (List D)
  | [], ρ, S => .ok [] ρ S
  | e :: es, ρ, S => (evE e ρ S).bind fun d ρ S => (evV es ρ S).bind fun ds ρ S => .ok (d :: ds) ρ S
def evP : List CE → Env → Sto → Res (List Int)
  | [], ρ, S => .ok [] ρ S
  | e :: es, ρ, S => (evE e ρ S).bind fun d ρ S => match d with
    | .int i => if -(2 ^ 62) ≤ i ∧ i ≤ 2 ^ 62 then (evP es ρ S).bind fun is ρ S => .ok (i :: is) ρ S else .no
    | _ => .no
def evCh : D → List Prim → List CE → Env → Sto → Res D
  | x, [p], [e], ρ, S => (evE e ρ S).bind fun y ρ S => match viewD S x, viewD S y with
    | some x, some y => ofO (primD p [x, y]) ρ S
    | _, _ => .no
  | x, p :: ps, e :: es, ρ, S => (evE e ρ S).bind fun y ρ S => match viewD S x, viewD S y with
    | some x', some y' => (ofO (primD p [x', y']) ρ S).bind fun r ρ S => match tru r with
      | some true => evCh y ps es ρ S
      | some false => .ok r ρ S
      | none => .no
    | _, _ => .no
  | _, _, _, _, _ => .no
def evIfs : List CE → Env → Sto → Res Bool
  | [], ρ, S => .ok true ρ S
  | c :: r, ρ, S => (evE c ρ S).bind fun x ρ S => match tru x with
    | some true => evIfs r ρ S
    | some false => .ok false ρ S
    | none => .no
def evI : CI → Env → Sto → Res (List D)
  | .seq e, ρ, S => (evE e ρ S).bind fun d ρ S => ofO (seqD d) ρ S
  | .range es, ρ, S => (evV es ρ S).bind fun ds ρ S => match ds with
    | [.int j] => if okRange j then .ok (rangeD 0 j) ρ S else .no
    | [.int i, .int j] => if okRange i && okRange j then .ok (rangeD i j) ρ S else .no
    | _ => .no
  | .zip es, ρ, S => (evV es ρ S).bind fun ds ρ S => match ds with
    | [.lst xs, .lst ys] => .ok (zipD xs ys) ρ S
    | [.tup xs, .tup ys] => .ok (zipD xs ys) ρ S
    | _ => .no
  | .enum a, ρ, S => (evE a ρ S).bind fun x ρ S => match x with
    | .lst xs => .ok (enumD 0 xs) ρ S
    | _ => .no
  | .bad, _, _ => .no
end
/-- a loop over given items -/
def loopS (body : D → Env → Sto → Res Flw) : List D → Env → Sto → Res Flw
  | [], ρ, S => .ok .nx ρ S
  | d :: r, ρ, S => (body d ρ S).bind fun f ρ S => match f with
    | .nx => loopS body r ρ S
    | .ct => loopS body r ρ S
    | .brk => .ok .nx ρ S
    | .ret d => .ok (.ret d) ρ S
/-- a while, of at most so many turns -/
def loopW (test : Env → Sto → Res D) (body : Env → Sto → Res Flw) : Nat → Env → Sto → Res Flw
  | 0, _, _ => .no
  | n + 1, ρ, S => (test ρ S).bind fun x ρ S => match tru x with
    | some true => (body ρ S).bind fun f ρ S => match f with
      | .nx => loopW test body n ρ S
      | .ct => loopW test body n ρ S
      | .brk => .ok .nx ρ S
      | .ret d => .ok (.ret d) ρ S
    | some false => .ok .nx ρ S
    | none => .no
def freeAt (ρ : Env) (i : Nat) : Bool := decide (i < ρ.length) && noOwn ρ [i]
def setPar : List (Nat × Bool) → List D → Env → Option Env
  | [], [], ρ => some ρ
  | (i, o) :: ts, d :: ds, ρ => match o, d with
    | false, d => if freeAt ρ i then setPar ts ds (ρ.set i (some (.v d))) else none
    | true, .lst xs => if freeAt ρ i then setPar ts ds (ρ.set i (some (.ol xs))) else none
    | _, _ => none
  | _, _, _ => none
section
variable (O : Orc) (L : Nat) (Fl : Str → Str → Bool)
mutual
def evS : CS → Env → Sto → Res Flw
  | .asg t e, ρ, S => (evE O e ρ S).bind fun d ρ S => match bindT t d ρ with
    | some ρ => .ok .nx ρ S
    | none => .no
  | .asgO i e, ρ, S => (evE O e ρ S).bind fun d ρ S => match d with
    | .lst ds => if freeAt ρ i then .ok .nx (ρ.set i (some (.ol ds))) S else .no
    | _ => .no
  | .par ts es, ρ, S => (evV O es ρ S).bind fun ds ρ S => match setPar ts ds ρ with
    | some ρ => .ok .nx ρ S
    | none => .no
  | .fld o f e, ρ, S => match peekOf o with
    | some i => (evE O e ρ S).bind fun d ρ S => match ρ[i]? with
      | some (some (.oo c fs vs)) => if fs.length < 900 && Fl c f then .ok .nx (ρ.set i (some (.oo c (putD f d fs vs).1 (putD f d fs vs).2))) S else .no
      | _ => .no
    | none => .no
  | .put o i e, ρ, S => (evE O e ρ S).bind fun d ρ S => (avOf o (evE O o ρ S) ρ S).bind fun av ρ S => (evE O i ρ S).bind fun k ρ S =>
      (changeAV .put [k, d] ρ S av).bind fun _ ρ S => .ok .nx ρ S
  | .expr e, ρ, S => (evE O e ρ S).bind fun _ ρ S => .ok .nx ρ S
  | .ret e, ρ, S => (evE O e ρ S).bind fun d ρ S => .ok (.ret d) ρ S
  | .retN, ρ, S => .ok (.ret .non) ρ S
  | .ite c a b, ρ, S => (evE O c ρ S).bind fun x ρ S => match tru x with
    | some true => evB a ρ S
    | some false => evB b ρ S
    | none => .no
  | .for_ t it body, ρ, S => (evI O it ρ S).bind fun ds ρ S => loopS (fun d ρ S => match bindT t d ρ with
      | some ρ => evB body ρ S
      | none => .no) ds ρ S
  | .while_ c body, ρ, S => loopW (evE O c) (evB body) L ρ S
  | .pass, ρ, S => .ok .nx ρ S
  | .brk, ρ, S => .ok .brk ρ S
  | .cont, ρ, S => .ok .ct ρ S
  | .bad, _, _ => .no
def evB : List CS → Env → Sto → Res Flw
  | [], ρ, S => .ok .nx ρ S
  | s :: r, ρ, S => (evS s ρ S).bind fun f ρ S => match f with
    | .nx => evB r ρ S
    | f => .ok f ρ S
end
end
/-- a def: its parameters, its slots, its body; the class whose __init__ it is -/
structure CF where
  np : Nat
  nl : Nat
  init : Option Str
  body : List CS
def objAt (ρ : Env) : Option D := match ρ[0]? with
  | some (some (SV.oo c fs vs)) => some (.obj c fs vs)
  | _ => none
def finF (r : Res Flw) : FRes := match r with
  | .ok .nx _ S => .ret .non S
  | .ok (.ret d) _ S => .ret d S
  | .exc x _ S => .exc x S
  | _ => .no
def finI (r : Res Flw) : FRes := match r with
  | .ok .nx ρ S => (match objAt ρ with
    | some d => .ret d S
    | none => .no)
  | .exc x _ S => .exc x S
  | _ => .no
def env0 (nl : Nat) (as : List D) : Env := as.map (fun d => some (SV.v d)) ++ List.replicate (nl - as.length) none
def envI (nl : Nat) (c : Str) (as : List D) : Env := some (SV.oo c [] []) :: (as.map (fun d => some (SV.v d)) ++ List.replicate (nl - (as.length + 1)) none)
def evF (L : Nat) (Fl : Str → Str → Bool) (O : Orc) (f : CF) (as : List D) (S : Sto) : FRes := match f.init with
  | none => if as.length = f.np ∧ f.np ≤ f.nl then finF (evB O L Fl f.body (env0 f.nl as) S) else .no
  | some c => if as.length + 1 = f.np ∧ f.np ≤ f.nl then finI (evB O L Fl f.body (envI f.nl c as) S) else .no
/-- the whole program, by the depth of calls -/
def evG (L : Nat) (Fl : Str → Str → Bool) (tab : Fid → Option CF) : Nat → Orc
  | 0 => fun _ _ _ => .no
  | n + 1 => fun f as S => match tab f with
    | some c => evF L Fl (evG L Fl tab n) c as S
    | none => .no
example (O : Orc) (d : D) (ρ : Env) (S : Sto) : evE O (.const d) ρ S = .ok d ρ S := rfl
example (O : Orc) (d : D) (ρ : Env) (S : Sto) : evS O 3 (fun _ _ => true) (.ret (.const d)) ρ S = .ok (.ret d) ρ S := rfl
end
end R
end
section
set_option Elab.async false
set_option linter.all false
set_option maxRecDepth 100000
set_option maxHeartbeats 4000000
namespace R
open PySem PySem.Spec PyProof.Rows L2

def Hot (M : Addr → Prop) (H : Hp) : Prop := ∀ a, M a → H a ≠ none
section
variable (K : PySem.W.Frag) (w : World) (ι : List Addr) (M : Addr → Prop) (H : Hp)
/-- as Rep, to be looked at only: a list or an instance may still change -/
def Vw : D → V → Prop
  | .lst ds, v => ∃ a xs, v = .ref a ∧ SqL K H a xs ∧ Reps K w ι M H ds xs
  | .obj c fs ds, v => ∃ a C dx fv, v = .ref a ∧ H a = some (.ins C dx fv) ∧ IsGl K c C ∧ (ClsOk K C ∧ ∀ f ∈ fs, NoAttr K C f) ∧ fv.map (·.1) = fs ∧ Reps K w ι M H ds (fv.map (·.2))
  | d, v => Rep K w ι M H d v
/-- the result is handed on -/
def Out (d : D) (Q : VK) : Prop := ∀ v H', Same H H' → Rep K w ι M H' d v → Q v H'
end
section
variable {K : PySem.W.Frag} {w : World} {ι : List Addr} {M : Addr → Prop} {H H' : Hp} {Q : VK} {d : D} {v : V}
theorem sqT_of {a : Addr} {xs : List V} (h : Cold M H a (.tup xs) ∨ KTup K a xs) : SqT K H a xs := h.imp (·.1) id
theorem sqL_of {a : Addr} {xs : List V} (h : Cold M H a (.lst xs) ∨ KLst K a xs) : SqL K H a xs := h.imp (·.1) id
theorem Vw.of (h : Rep K w ι M H d v) : Vw K w ι M H d v := by
  cases d with
  | lst ds =>
    obtain ⟨a, xs, e, c, r⟩ := h
    exact ⟨a, xs, e, sqL_of c, r⟩
  | obj c fs ds =>
    obtain ⟨a, C, dx, fv, e, c1, c2, c3, c4, r⟩ := h
    exact ⟨a, C, dx, fv, e, c1.1, c2, c3, c4, r⟩
  | _ => exact h
theorem Vw.str {s : Str} (h : Vw K w ι M H (.str s) v) : v = .str s ∧ s.length ≤ strMax := h
theorem Vw.int {i : Int} (h : Vw K w ι M H (.int i) v) : v = .int i := h
theorem Vw.bl {i : Bool} (h : Vw K w ι M H (.bl i) v) : v = .bl i := h
theorem Vw.non (h : Vw K w ι M H .non v) : v = .non := h
theorem Vw.tup {ds : List D} (h : Vw K w ι M H (.tup ds) v) : ∃ a xs, v = .ref a ∧ SqT K H a xs ∧ Reps K w ι M H ds xs := by
  obtain ⟨a, xs, e, c, r⟩ := h
  exact ⟨a, xs, e, sqT_of c, r⟩
theorem Vw.lst {ds : List D} (h : Vw K w ι M H (.lst ds) v) : ∃ a xs, v = .ref a ∧ SqL K H a xs ∧ Reps K w ι M H ds xs := h
theorem Out.here (o : Out K w ι M H d Q) (r : Rep K w ι M H d v) : Q v H := o v H (Same.refl H) r
theorem Out.bl {b : Bool} (o : Out K w ι M H (.bl b) Q) : Q (.bl b) H := o.here rfl
theorem Out.int {b : Int} (o : Out K w ι M H (.int b) Q) : Q (.int b) H := o.here rfl
theorem Out.non (o : Out K w ι M H .non Q) : Q .non H := o.here rfl
theorem Out.str {s : Str} (o : Out K w ι M H (.str s) Q) (h : s.length ≤ strMax) : Q (.str s) H := o.here ⟨rfl, h⟩
theorem Reps.same (s : Same H H') {ds : List D} {xs : List V} (h : Reps K w ι M H ds xs) : Reps K w ι M H' ds xs := Reps.grow (Grow.same s) (List.prefix_refl _) ds xs h
theorem Rep.same (s : Same H H') (h : Rep K w ι M H d v) : Rep K w ι M H' d v := Rep.grow (Grow.same s) (List.prefix_refl _) d v h
theorem not_hot {p : Addr} (hot : Hot M H) (hp : H p = none) : ¬ M p := fun z => hot p z hp
theorem Out.newTup {ds : List D} {xs : List V} {p : Addr} (o : Out K w ι M H (.tup ds) Q) (hot : Hot M H) (r : Reps K w ι M H ds xs) (hp : H p = none) : Q (.ref p) (upd H p (.tup xs)) :=
  o _ _ (same_upd hp) ⟨p, xs, rfl, .inl ⟨.inl upd_same, not_hot hot hp⟩, r.same (same_upd hp)⟩
theorem Out.newLst {ds : List D} {xs : List V} {p : Addr} (o : Out K w ι M H (.lst ds) Q) (hot : Hot M H) (r : Reps K w ι M H ds xs) (hp : H p = none) : Q (.ref p) (upd H p (.lst xs)) :=
  o _ _ (same_upd hp) ⟨p, xs, rfl, .inl ⟨.inl upd_same, not_hot hot hp⟩, r.same (same_upd hp)⟩
theorem strMax_line {n : Nat} (h : n ≤ strMax) : n ≤ sizeLine := by rw [sizeLine_eq]; unfold strMax at h; omega
/-- a view that is a value for good, where the list isn't a hot one: not needed for tuples -/
theorem Vw.tupRep {ds : List D} (h : Vw K w ι M H (.tup ds) v) : Rep K w ι M H (.tup ds) v := h
end

/-- two operands -/
def opD (K : PySem.W.Frag) (w : World) (p : Prim) : R2 := fun x y H Q => ∃ ι M dx dy d, Hot M H ∧ Vw K w ι M H dx x ∧ Vw K w ι M H dy y ∧ primD p [dx, dy] = some d ∧ Out K w ι M H d Q
def unD (K : PySem.W.Frag) (w : World) (p : Prim) : V → Hp → VK → Prop := fun x H Q => ∃ ι M dx d, Hot M H ∧ Vw K w ι M H dx x ∧ primD p [dx] = some d ∧ Out K w ι M H d Q
def caD (K : PySem.W.Frag) (w : World) (p : Prim) : List V → Hp → VK → Prop := fun xs H Q => ∃ ι M ds d, Hot M H ∧ Paired (fun d v => Vw K w ι M H d v) ds xs ∧ primD p ds = some d ∧ Out K w ι M H d Q

section
variable {X : Cx}
theorem op_imp {f : Value → Value → Sem Value} {r r' : R2} (h : OpR X f r) (i : ∀ x y H Q, r' x y H Q → r x y H Q) : OpR X f r' :=
  fun pins s σ H x y v u Q I rx ry q => h pins s σ H x y v u Q I rx ry (i x y H Q q)

/-- xs + ys, any two lists -/
theorem op_catL : OpR X (binaryOp .Add) (fun x y H Q => ∃ a b xs ys, x = .ref a ∧ y = .ref b ∧ SqL X.K H a xs ∧ SqL X.K H b ys ∧ xs.length + ys.length ≤ sizeLine ∧ ∀ p, H p = none → Q (.ref p) (upd H p (.lst (xs ++ ys)))) := by
  intro pins s σ H x y v u Q I rx ry h
  obtain ⟨a, b, xs, ys, rfl, rfl, ha, hb, hz, q⟩ := h
  cases rx
  cases ry
  obtain ⟨its, r1, p1, _⟩ := I.list ha
  obtain ⟨its2, r2, p2, _⟩ := I.list hb
  obtain ⟨⟨cls, dd, data, sl⟩, ho, hc, n, hd⟩ := p1.isList
  obtain ⟨⟨cls2, dd2, data2, sl2⟩, ho2, hc2, n2, hd2⟩ := p2.isList
  simp only at hc hd hc2 hd2
  subst hc hd hc2 hd2
  have l1 := r1.length
  have l2 := r2.length
  refine concat_meets ⟨_, ho, rfl⟩ ⟨_, ho2, rfl⟩ noFill_list_add seq_list_add PySem.F.slot_list_add PySem.F.entry_list_add (PySem.F.args_list_add_2 _ _) (list_addW a b its.toArray its2.toArray n n2 dd dd2 sl sl2 (by simp; omega)) ⟨ho, ho2, ?_⟩
  have e : its.toArray ++ its2.toArray = (its ++ its2).toArray := by simp
  rw [e]
  exact ⟨.ref _, _, I.lnew (t' := s.toks) (r1.append r2) (by rw [List.length_append]; omega), rfl, q _ I.fresh⟩

theorem op_addD : OpR X (binaryOp .Add) (opD X.K X.w .add) := by
  intro pins s σ H x y v u Q I rx ry h
  obtain ⟨ι, M, dx, dy, d, hot, vx, vy, e, o⟩ := h
  replace e : addD dx dy = some d := e
  unfold addD at e
  split at e
  · cases vx.int
    cases vy.int
    cases e
    exact op_add pins s σ H _ _ v u Q I rx ry ⟨_, _, rfl, rfl, o.int⟩
  · obtain ⟨rfl, l1⟩ := vx.str
    obtain ⟨rfl, l2⟩ := vy.str
    split at e
    · rename_i a b hl
      cases e
      refine op_add_str pins s σ H _ _ v u Q I rx ry ⟨_, _, rfl, rfl, strMax_line hl, o.str ?_⟩
      have : (a ++ b).length = a.length + b.length := by
        show (a.cps ++ b.cps).size = _
        rw [Array.size_append] <;> rfl
      omega
    · cases e
  · obtain ⟨a, xs, rfl, h1, r1⟩ := vx.tup
    obtain ⟨b, ys, rfl, h2, r2⟩ := vy.tup
    split at e
    · cases e
      have n1 := r1.length
      have n2 := r2.length
      refine op_catA pins s σ H _ _ v u Q I rx ry ⟨a, b, xs, ys, rfl, rfl, h1, h2, by omega, fun z => ?_, fun z z2 => ?_, fun z z2 p hp => o.newTup hot (r1.append r2) hp⟩
      · subst z
        have z1 := List.length_eq_zero_iff.mp (n1.trans rfl)
        rw [z1, List.nil_append] at o
        exact o.here vy.tupRep
      · subst z2
        have z1 := List.length_eq_zero_iff.mp (n2.trans rfl)
        rw [z1, List.append_nil] at o
        exact o.here vx.tupRep
    · cases e
  · obtain ⟨a, xs, rfl, h1, r1⟩ := vx.lst
    obtain ⟨b, ys, rfl, h2, r2⟩ := vy.lst
    split at e
    · cases e
      have n1 := r1.length
      have n2 := r2.length
      exact op_catL pins s σ H _ _ v u Q I rx ry ⟨a, b, xs, ys, rfl, rfl, h1, h2, by omega, fun p hp => o.newLst hot (r1.append r2) hp⟩
    · cases e
  · cases e
theorem op_subD : OpR X (binaryOp .Sub) (opD X.K X.w .sub) := by
  intro pins s σ H x y v u Q I rx ry h
  obtain ⟨ι, M, dx, dy, d, hot, vx, vy, e, o⟩ := h
  replace e : subD dx dy = some d := e
  unfold subD at e
  split at e
  · cases vx.int; cases vy.int; cases e
    exact op_sub pins s σ H _ _ v u Q I rx ry ⟨_, _, rfl, rfl, o.int⟩
  · cases e
theorem op_mulD : OpR X (binaryOp .Mult) (opD X.K X.w .mul) := by
  intro pins s σ H x y v u Q I rx ry h
  obtain ⟨ι, M, dx, dy, d, hot, vx, vy, e, o⟩ := h
  replace e : mulD dx dy = some d := e
  unfold mulD at e
  split at e
  · cases vx.int; cases vy.int
    split at e
    · rename_i hc
      cases e
      exact op_mul pins s σ H _ _ v u Q I rx ry ⟨_, _, rfl, rfl, hc, o.int⟩
    · cases e
  · cases e
theorem op_fdivD : OpR X (binaryOp .FloorDiv) (opD X.K X.w .fdiv) := by
  intro pins s σ H x y v u Q I rx ry h
  obtain ⟨ι, M, dx, dy, d, hot, vx, vy, e, o⟩ := h
  replace e : fdivD dx dy = some d := e
  unfold fdivD at e
  split at e
  · cases vx.int; cases vy.int
    split at e
    · rename_i hc
      cases e
      exact op_fdiv pins s σ H _ _ v u Q I rx ry ⟨_, _, rfl, rfl, hc, o.int⟩
    · cases e
  · cases e
theorem op_modD : OpR X (binaryOp .Mod) (opD X.K X.w .mod) := by
  intro pins s σ H x y v u Q I rx ry h
  obtain ⟨ι, M, dx, dy, d, hot, vx, vy, e, o⟩ := h
  replace e : modD dx dy = some d := e
  unfold modD at e
  split at e
  · cases vx.int; cases vy.int
    split at e
    · rename_i hc
      cases e
      exact op_mod pins s σ H _ _ v u Q I rx ry ⟨_, _, rfl, rfl, hc, o.int⟩
    · cases e
  · cases e
theorem op_powD : OpR X (binaryOp .Pow) (opD X.K X.w .pow) := by
  intro pins s σ H x y v u Q I rx ry h
  obtain ⟨ι, M, dx, dy, d, hot, vx, vy, e, o⟩ := h
  replace e : powD dx dy = some d := e
  unfold powD at e
  split at e
  · cases vx.int; cases vy.int
    split at e
    · rename_i hc
      cases e
      exact op_pow pins s σ H _ _ v u Q I rx ry ⟨_, _, rfl, rfl, hc, o.int⟩
    · cases e
  · cases e
theorem un_negD : UnR X (unaryOp .USub) (unD X.K X.w .neg) := by
  intro pins s σ H x v Q I rx h
  obtain ⟨ι, M, dx, d, hot, vx, e, o⟩ := h
  replace e : negD dx = some d := e
  unfold negD at e
  split at e
  · cases vx.int; cases e
    exact un_neg pins s σ H _ v Q I rx ⟨_, rfl, o.int⟩
  · cases e
theorem feq_V {K : PySem.W.Frag} {w : World} {ι : List Addr} {M : Addr → Prop} {H : Hp} {dx dy : D} {x y : V} (fx : flatD dx = true) (fy : flatD dy = true) (vx : Rep K w ι M H dx x) (vy : Rep K w ι M H dy y) :
    flatV x = true ∧ flatV y = true ∧ eqV x y = feqD dx dy := by
  cases dx with
  | non =>
    cases (show x = .non from vx)
    cases dy with
    | non => cases (show y = .non from vy); exact ⟨rfl, rfl, rfl⟩
    | bl b => cases (show y = .bl b from vy); exact ⟨rfl, rfl, rfl⟩
    | int b => cases (show y = .int b from vy); exact ⟨rfl, rfl, rfl⟩
    | str b => obtain ⟨rfl, _⟩ := (show y = .str b ∧ _ from vy); exact ⟨rfl, rfl, rfl⟩
    | _ => cases fy
  | bl a =>
    cases (show x = .bl a from vx)
    cases dy with
    | non => cases (show y = .non from vy); exact ⟨rfl, rfl, rfl⟩
    | bl b => cases (show y = .bl b from vy); exact ⟨rfl, rfl, rfl⟩
    | int b => cases (show y = .int b from vy); exact ⟨rfl, rfl, rfl⟩
    | str b => obtain ⟨rfl, _⟩ := (show y = .str b ∧ _ from vy); exact ⟨rfl, rfl, rfl⟩
    | _ => cases fy
  | int a =>
    cases (show x = .int a from vx)
    cases dy with
    | non => cases (show y = .non from vy); exact ⟨rfl, rfl, rfl⟩
    | bl b => cases (show y = .bl b from vy); exact ⟨rfl, rfl, rfl⟩
    | int b => cases (show y = .int b from vy); exact ⟨rfl, rfl, rfl⟩
    | str b => obtain ⟨rfl, _⟩ := (show y = .str b ∧ _ from vy); exact ⟨rfl, rfl, rfl⟩
    | _ => cases fy
  | str a =>
    obtain ⟨rfl, _⟩ := (show x = .str a ∧ _ from vx)
    cases dy with
    | non => cases (show y = .non from vy); exact ⟨rfl, rfl, rfl⟩
    | bl b => cases (show y = .bl b from vy); exact ⟨rfl, rfl, rfl⟩
    | int b => cases (show y = .int b from vy); exact ⟨rfl, rfl, rfl⟩
    | str b => obtain ⟨rfl, _⟩ := (show y = .str b ∧ _ from vy); exact ⟨rfl, rfl, rfl⟩
    | _ => cases fy
  | _ => cases fx
theorem Vw.stable {K : PySem.W.Frag} {w : World} {ι : List Addr} {M : Addr → Prop} {H : Hp} {dx : D} {x : V} (fx : stableD dx = true) (vx : Vw K w ι M H dx x) : Rep K w ι M H dx x := by
  cases dx <;> first | exact vx | cases fx
theorem Vw.flat {K : PySem.W.Frag} {w : World} {ι : List Addr} {M : Addr → Prop} {H : Hp} {dx : D} {x : V} (fx : flatD dx = true) (vx : Vw K w ι M H dx x) : Rep K w ι M H dx x := by
  cases dx <;> first | exact vx | cases fx
/-- the items' answers, by their places -/
theorem eqL_get {f : D → D → Option Bool} : ∀ {ds es : List D} {b : Bool}, eqL f ds es = some b →
    ∃ e : Nat → Bool, (∀ (j : Nat) dx dy, ds[j]? = some dx → es[j]? = some dy → f dx dy = some (e j)) ∧ b = (List.range (min ds.length es.length)).all e := by
  intro ds
  induction ds with
  | nil =>
    intro es b h
    cases h
    exact ⟨fun _ => true, fun j dx dy h => by simp at h, by simp⟩
  | cons a r ih =>
    intro es b h
    cases es with
    | nil => cases h; exact ⟨fun _ => true, fun j dx dy _ h => by simp at h, by simp⟩
    | cons c s =>
      unfold eqL at h
      split at h
      · rename_i x y hx hy
        cases h
        obtain ⟨e, he, hb⟩ := ih hy
        refine ⟨fun j => if j = 0 then x else e (j - 1), fun j dx dy h1 h2 => ?_, ?_⟩
        · cases j with
          | zero => simp at h1 h2; subst h1 h2; simpa using hx
          | succ j => simp at h1 h2; simpa using he j dx dy h1 h2
        · have hm : min (a :: r).length (c :: s).length = min r.length s.length + 1 := by simp only [List.length_cons]; omega
          rw [hm, List.range_succ_eq_map, List.all_cons, List.all_map, hb]
          rfl
      · cases h
/-- the same thing twice -/
theorem eqSame {X : Cx} {pins : List (Addr × Obj)} {s : Shared} {σ : L2.St} {H : Hp} {ι : List Addr} {M : Addr → Prop} (I : L2.Inv X pins σ H s) : ∀ (n : Nat) (dx dy : D) (b : Bool) (x : V),
    eqF n dx dy = some b → Vw X.K X.w ι M H dx x → Vw X.K X.w ι M H dy x → b = true
  | 0, _, _, _, _, h, _, _ => by cases h
  | n + 1, dx, dy, b, x, h, vx, vy => by
    have all : ∀ {ds es : List D} {b : Bool} {xs : List V}, eqL (eqF n) ds es = some b → Reps X.K X.w ι M H ds xs → Reps X.K X.w ι M H es xs → b = true := by
      intro ds
      induction ds with
      | nil => intro es b xs h _ _; cases h; rfl
      | cons d ds ih =>
        intro es b xs h r1 r2
        cases es with
        | nil => cases h; rfl
        | cons e es =>
          obtain ⟨x, r, rfl, q1, q2⟩ := r1.cons_inv
          obtain ⟨x', r', ee, q3, q4⟩ := r2.cons_inv
          cases ee
          unfold eqL at h
          split at h
          · rename_i b1 b2 h1 h2
            cases h
            rw [eqSame I n _ _ _ _ h1 (.of q1) (.of q3), ih h2 q2 q4]; rfl
          · cases h
    replace h : eqS (eqF n) dx dy = some b := h
    unfold eqS at h
    split at h
    · rename_i ds es
      obtain ⟨a, xs, rfl, h1, r1⟩ := vx.tup
      obtain ⟨c, ys, ec, h2, r2⟩ := vy.tup
      cases ec
      obtain ⟨its, rv1, p1, _⟩ := I.tuple h1
      obtain ⟨its2, rv2, p2, _⟩ := I.tuple h2
      obtain ⟨o1, g1, _, _, d1⟩ := p1
      obtain ⟨o2, g2, _, _, d2⟩ := p2
      rw [g1] at g2; cases g2
      rw [d1] at d2
      injection d2 with d2 _
      have d3 : its = its2 := by simpa using d2
      subst d3
      have := Vals.inj rv1 rv2
      subst this
      split at h
      · rename_i x hx
        cases h
        rw [all hx r1 r2, r1.length, r2.length]; simp
      · cases h
    · rename_i ds es
      obtain ⟨a, xs, rfl, h1, r1⟩ := vx.lst
      obtain ⟨c, ys, ec, h2, r2⟩ := vy.lst
      cases ec
      obtain ⟨its, rv1, p1, _⟩ := I.list h1
      obtain ⟨its2, rv2, p2, _⟩ := I.list h2
      obtain ⟨o1, g1, _, _, d1⟩ := p1.isList
      obtain ⟨o2, g2, _, _, d2⟩ := p2.isList
      rw [g1] at g2; cases g2
      rw [d1] at d2
      injection d2 with d2 _
      have d3 : its = its2 := by simpa using d2
      subst d3
      have := Vals.inj rv1 rv2
      subst this
      rw [if_pos (r1.length.trans r2.length.symm)] at h
      exact all h r1 r2
    · split at h
      · rename_i hp
        cases h
        have notup : ∀ {a : Addr} {ds : List D}, Vw X.K X.w ι M H (.tup ds) (.ref a) → ∀ {es : List D}, Vw X.K X.w ι M H (.lst es) (.ref a) → False := by
          intro a ds v1 es v2
          obtain ⟨a1, xs, e1, h1, r1⟩ := v1.tup
          obtain ⟨c, ys, ec, h2, r2⟩ := v2.lst
          cases e1
          cases ec
          obtain ⟨its, rv1, p1, _⟩ := I.tuple h1
          obtain ⟨its2, rv2, p2, _⟩ := I.list h2
          exact SeqAt.ne_of_list_tuple p2.isList p1 rfl
        cases dx with
        | non => cases vx.non; cases dy with
          | non => rfl
          | bl b => cases vy.bl
          | int b => cases vy.int
          | str b => cases vy.str.1
          | tup _ => obtain ⟨a, xs, e, _⟩ := vy.tup; cases e
          | lst _ => obtain ⟨a, xs, e, _⟩ := vy.lst; cases e
          | _ => cases hp
        | bl b => cases vx.bl; cases dy with
          | non => cases vy.non
          | bl b => cases vy.bl; simp [flatD, feqD]
          | int b => cases vy.int
          | str b => cases vy.str.1
          | tup _ => obtain ⟨a, xs, e, _⟩ := vy.tup; cases e
          | lst _ => obtain ⟨a, xs, e, _⟩ := vy.lst; cases e
          | _ => cases hp
        | int b => cases vx.int; cases dy with
          | non => cases vy.non
          | bl b => cases vy.bl
          | int b => cases vy.int; simp [flatD, feqD]
          | str b => cases vy.str.1
          | tup _ => obtain ⟨a, xs, e, _⟩ := vy.tup; cases e
          | lst _ => obtain ⟨a, xs, e, _⟩ := vy.lst; cases e
          | _ => cases hp
        | str b => cases vx.str.1; cases dy with
          | non => cases vy.non
          | bl b => cases vy.bl
          | int b => cases vy.int
          | str b => cases vy.str.1; simp [flatD, feqD]
          | tup _ => obtain ⟨a, xs, e, _⟩ := vy.tup; cases e
          | lst _ => obtain ⟨a, xs, e, _⟩ := vy.lst; cases e
          | _ => cases hp
        | tup ds =>
          obtain ⟨a, xs, rfl, h1, r1⟩ := vx.tup
          cases dy with
          | non => cases vy.non
          | bl b => cases vy.bl
          | int b => cases vy.int
          | str b => cases vy.str.1
          | tup es => rename_i hn _; exact absurd rfl (hn ds es rfl)
          | lst _ => exact (notup vx vy).elim
          | _ => cases hp
        | lst ds =>
          obtain ⟨a, xs, rfl, h1, r1⟩ := vx.lst
          cases dy with
          | non => cases vy.non
          | bl b => cases vy.bl
          | int b => cases vy.int
          | str b => cases vy.str.1
          | lst es => rename_i hn; exact absurd rfl (hn ds es rfl)
          | tup _ => exact (notup vy vx).elim
          | _ => cases hp
        | _ => cases hp
      · cases h
/-- == of data: as an operation, as its contrary, between items -/
structure Eqs (A : Around) (s : Shared) (v u : Value) (b : Bool) : Prop where
  rc : SeqAt.RcAt A s v u b
  ne : SeqAt.RcNeAt A s v u (!b)
  eq : SeqAt.EqAt A s v u b
theorem eqsAt {X : Cx} {pins : List (Addr × Obj)} {s : Shared} {σ : L2.St} {H : Hp} {ι : List Addr} {M : Addr → Prop} (I : L2.Inv X pins σ H s) : ∀ (n : Nat) (A : Around) (dx dy : D) (b : Bool) (x y : V) (v u : Value),
    A.units + n < cLine → eqF n dx dy = some b → Vw X.K X.w ι M H dx x → Vw X.K X.w ι M H dy y → RelV x v → RelV y u → Eqs A s v u b
  | 0, _, _, _, _, _, _, _, _, _, h, _, _, _, _ => by cases h
  | n + 1, A, dx, dy, b, x, y, v, u, hu, h, vx, vy, rx, ry => by
    have hu1 : A.in1.units + n < cLine := by show A.units + 1 + n < cLine; omega
    have hu0 : A.units < cLine := by omega
    have h0 := h
    have items : ∀ {ds es : List D} {b : Bool} {xs ys : List V} {its its2 : List Value}, eqL (eqF n) ds es = some b → Reps X.K X.w ι M H ds xs → Reps X.K X.w ι M H es ys → Vals xs its → Vals ys its2 →
        ∃ e : Nat → Bool, (∀ j (h1 : j < its.toArray.size) (h2 : j < its2.toArray.size), SeqAt.EqAt A.in1 s its.toArray[j] its2.toArray[j] (e j)) ∧ b = (List.range (min its.toArray.size its2.toArray.size)).all e := by
      intro ds es b xs ys its its2 hq r1 r2 rv1 rv2
      obtain ⟨e, he, hb⟩ := eqL_get hq
      have n1 : ds.length = its.length := r1.length.trans rv1.length
      have n2 : es.length = its2.length := r2.length.trans rv2.length
      refine ⟨e, fun j h1 h2 => ?_, by rw [hb, n1, n2]; rfl⟩
      have h1' : j < ds.length := by rw [n1]; simpa using h1
      have h2' : j < es.length := by rw [n2]; simpa using h2
      obtain ⟨x1, ex1, q1⟩ := r1.get (List.getElem?_eq_getElem h1')
      obtain ⟨y1, ey1, q2⟩ := r2.get (List.getElem?_eq_getElem h2')
      obtain ⟨u1, eu1, ru1⟩ := rv1.get ex1
      obtain ⟨u2, eu2, ru2⟩ := rv2.get ey1
      have e1 : its.toArray[j] = u1 := by
        have := List.getElem?_eq_some_iff.mp eu1
        obtain ⟨_, z⟩ := this
        simpa using z
      have e2 : its2.toArray[j] = u2 := by
        have := List.getElem?_eq_some_iff.mp eu2
        obtain ⟨_, z⟩ := this
        simpa using z
      rw [e1, e2]
      exact (eqsAt I n A.in1 _ _ _ x1 y1 u1 u2 hu1 (he j _ _ (List.getElem?_eq_getElem h1') (List.getElem?_eq_getElem h2')) (.of q1) (.of q2) ru1 ru2).eq
    have refs : ∀ {a c : Addr}, x = .ref a → y = .ref c → SeqAt.RcAt A s (.ref a) (.ref c) b → SeqAt.EqAt A s (.ref a) (.ref c) b := by
      intro a c ea ec R
      by_cases e : a = c
      · subst e ea ec
        have := eqSame I _ _ _ _ _ h0 vx vy
        rw [this]
        exact SeqAt.EqAt.same _
      · exact .of_refs e R
    replace h : eqS (eqF n) dx dy = some b := h
    unfold eqS at h
    split at h
    · rename_i ds es
      split at h
      · rename_i bb hq
        cases h
        obtain ⟨a, xs, rfl, h1, r1⟩ := vx.tup
        obtain ⟨c, ys, rfl, h2, r2⟩ := vy.tup
        cases rx
        cases ry
        obtain ⟨its, rv1, p1, _⟩ := I.tuple h1
        obtain ⟨its2, rv2, p2, _⟩ := I.tuple h2
        obtain ⟨e, he, hb⟩ := items hq r1 r2 rv1 rv2
        have n1 : ds.length = its.length := r1.length.trans rv1.length
        have n2 : es.length = its2.length := r2.length.trans rv2.length
        have fin : (bb && ds.length == es.length) = ((List.range (min its.toArray.size its2.toArray.size)).all e && its.toArray.size == its2.toArray.size) := by
          rw [hb, n1, n2] <;> rfl
        rw [fin] at refs ⊢
        have R := SeqAt.RcAt.tuples (A := A) (e := e) p1 p2 hu0 he
        exact ⟨R, SeqAt.RcNeAt.tuples (A := A) (e := e) p1 p2 hu0 he, refs rfl rfl R⟩
      · cases h
    · rename_i ds es
      obtain ⟨a, xs, rfl, h1, r1⟩ := vx.lst
      obtain ⟨c, ys, rfl, h2, r2⟩ := vy.lst
      cases rx
      cases ry
      obtain ⟨its, rv1, p1, _⟩ := I.list h1
      obtain ⟨its2, rv2, p2, _⟩ := I.list h2
      have n1 : ds.length = its.length := r1.length.trans rv1.length
      have n2 : es.length = its2.length := r2.length.trans rv2.length
      split at h
      · rename_i hl
        obtain ⟨e, he, hb⟩ := items h r1 r2 rv1 rv2
        have hs : its.toArray.size = its2.toArray.size := by simp; omega
        have fin : b = (List.range its.toArray.size).all e := by rw [hb, ← hs, Nat.min_self]
        rw [fin] at refs ⊢
        have R := SeqAt.RcAt.lists (A := A) (e := e) p1.isList p2.isList hs hu0 he
        exact ⟨R, SeqAt.RcNeAt.lists (A := A) (e := e) p1.isList p2.isList hs hu0 he, refs rfl rfl R⟩
      · rename_i hl
        cases h
        have hs : (its.toArray.size != its2.toArray.size) = true := by simp; omega
        have R := SeqAt.RcAt.lists_lengths (A := A) p1.isList p2.isList hs hu0
        exact ⟨R, SeqAt.RcNeAt.lists_lengths (A := A) p1.isList p2.isList hs hu0, refs rfl rfl R⟩
    · split at h
      · rename_i hp
        cases h
        cases dx with
        | non =>
          cases vx.non
          cases (show _ = Value.none from rx)
          cases dy with
          | non =>
            cases vy.non
            cases (show _ = Value.none from ry)
            exact ⟨SeqAt.RcAt.none_none, SeqAt.RcNeAt.none_none, SeqAt.EqAt.same _⟩
          | bl _ =>
            cases vy.bl
            cases (show _ = Value.bool _ from ry)
            exact ⟨SeqAt.RcAt.none_bool _, SeqAt.RcNeAt.none_bool _, SeqAt.EqAt.none_bool _⟩
          | int _ =>
            cases vy.int
            obtain ⟨_, rfl⟩ := ry
            exact ⟨SeqAt.RcAt.none_int _ _, SeqAt.RcNeAt.none_int _ _, SeqAt.EqAt.none_int _ _⟩
          | str _ =>
            cases vy.str.1
            obtain ⟨_, rfl⟩ := ry
            exact ⟨SeqAt.RcAt.none_str _ _, SeqAt.RcNeAt.none_str _ _, SeqAt.EqAt.none_str _ _⟩
          | tup _ =>
            obtain ⟨_, _, rfl, h_vy, r_vy⟩ := vy.tup; obtain ⟨_, _, p_vy, _⟩ := I.tuple h_vy
            cases ry
            exact ⟨SeqAt.RcAt.none_tuple p_vy hu0, SeqAt.RcNeAt.none_tuple p_vy hu0, SeqAt.EqAt.none_tuple p_vy hu0⟩
          | lst _ =>
            obtain ⟨_, _, rfl, h_vy, r_vy⟩ := vy.lst; obtain ⟨_, _, p_vy, _⟩ := I.list h_vy
            cases ry
            exact ⟨SeqAt.RcAt.none_list p_vy.isList hu0, SeqAt.RcNeAt.none_list p_vy.isList hu0, SeqAt.EqAt.none_list p_vy.isList hu0⟩
          | _ => cases hp
        | bl _ =>
          cases vx.bl
          cases (show _ = Value.bool _ from rx)
          cases dy with
          | non =>
            cases vy.non
            cases (show _ = Value.none from ry)
            exact ⟨SeqAt.RcAt.bool_none _, SeqAt.RcNeAt.bool_none _, SeqAt.EqAt.bool_none _⟩
          | bl _ =>
            cases vy.bl
            cases (show _ = Value.bool _ from ry)
            exact ⟨SeqAt.RcAt.bool_bool _ _, SeqAt.RcNeAt.bool_bool _ _, SeqAt.EqAt.bool_bool _ _⟩
          | int _ =>
            cases vy.int
            obtain ⟨_, rfl⟩ := ry
            exact ⟨SeqAt.RcAt.bool_int _ _ _, SeqAt.RcNeAt.bool_int _ _ _, SeqAt.EqAt.bool_int _ _ _⟩
          | str _ =>
            cases vy.str.1
            obtain ⟨_, rfl⟩ := ry
            exact ⟨SeqAt.RcAt.bool_str _ _ _, SeqAt.RcNeAt.bool_str _ _ _, SeqAt.EqAt.bool_str _ _ _⟩
          | tup _ =>
            obtain ⟨_, _, rfl, h_vy, r_vy⟩ := vy.tup; obtain ⟨_, _, p_vy, _⟩ := I.tuple h_vy
            cases ry
            exact ⟨SeqAt.RcAt.bool_tuple _ p_vy hu0, SeqAt.RcNeAt.bool_tuple _ p_vy hu0, SeqAt.EqAt.bool_tuple _ p_vy hu0⟩
          | lst _ =>
            obtain ⟨_, _, rfl, h_vy, r_vy⟩ := vy.lst; obtain ⟨_, _, p_vy, _⟩ := I.list h_vy
            cases ry
            exact ⟨SeqAt.RcAt.bool_list _ p_vy.isList hu0, SeqAt.RcNeAt.bool_list _ p_vy.isList hu0, SeqAt.EqAt.bool_list _ p_vy.isList hu0⟩
          | _ => cases hp
        | int _ =>
          cases vx.int
          obtain ⟨_, rfl⟩ := rx
          cases dy with
          | non =>
            cases vy.non
            cases (show _ = Value.none from ry)
            exact ⟨SeqAt.RcAt.int_none _ _, SeqAt.RcNeAt.int_none _ _, SeqAt.EqAt.int_none _ _⟩
          | bl _ =>
            cases vy.bl
            cases (show _ = Value.bool _ from ry)
            exact ⟨SeqAt.RcAt.int_bool _ _ _, SeqAt.RcNeAt.int_bool _ _ _, SeqAt.EqAt.int_bool _ _ _⟩
          | int _ =>
            cases vy.int
            obtain ⟨_, rfl⟩ := ry
            exact ⟨SeqAt.RcAt.int_int _ _ _ _, SeqAt.RcNeAt.int_int _ _ _ _, SeqAt.EqAt.int_int _ _ _ _⟩
          | str _ =>
            cases vy.str.1
            obtain ⟨_, rfl⟩ := ry
            exact ⟨SeqAt.RcAt.int_str _ _ _ _, SeqAt.RcNeAt.int_str _ _ _ _, SeqAt.EqAt.int_str _ _ _ _⟩
          | tup _ =>
            obtain ⟨_, _, rfl, h_vy, r_vy⟩ := vy.tup; obtain ⟨_, _, p_vy, _⟩ := I.tuple h_vy
            cases ry
            exact ⟨SeqAt.RcAt.int_tuple _ _ p_vy hu0, SeqAt.RcNeAt.int_tuple _ _ p_vy hu0, SeqAt.EqAt.int_tuple _ _ p_vy hu0⟩
          | lst _ =>
            obtain ⟨_, _, rfl, h_vy, r_vy⟩ := vy.lst; obtain ⟨_, _, p_vy, _⟩ := I.list h_vy
            cases ry
            exact ⟨SeqAt.RcAt.int_list _ _ p_vy.isList hu0, SeqAt.RcNeAt.int_list _ _ p_vy.isList hu0, SeqAt.EqAt.int_list _ _ p_vy.isList hu0⟩
          | _ => cases hp
        | str _ =>
          cases vx.str.1
          obtain ⟨_, rfl⟩ := rx
          cases dy with
          | non =>
            cases vy.non
            cases (show _ = Value.none from ry)
            exact ⟨SeqAt.RcAt.str_none _ _, SeqAt.RcNeAt.str_none _ _, SeqAt.EqAt.str_none _ _⟩
          | bl _ =>
            cases vy.bl
            cases (show _ = Value.bool _ from ry)
            exact ⟨SeqAt.RcAt.str_bool _ _ _, SeqAt.RcNeAt.str_bool _ _ _, SeqAt.EqAt.str_bool _ _ _⟩
          | int _ =>
            cases vy.int
            obtain ⟨_, rfl⟩ := ry
            exact ⟨SeqAt.RcAt.str_int _ _ _ _, SeqAt.RcNeAt.str_int _ _ _ _, SeqAt.EqAt.str_int _ _ _ _⟩
          | str _ =>
            cases vy.str.1
            obtain ⟨_, rfl⟩ := ry
            exact ⟨SeqAt.RcAt.str_str _ _ _ _, SeqAt.RcNeAt.str_str _ _ _ _, SeqAt.EqAt.str_str _ _ _ _⟩
          | tup _ =>
            obtain ⟨_, _, rfl, h_vy, r_vy⟩ := vy.tup; obtain ⟨_, _, p_vy, _⟩ := I.tuple h_vy
            cases ry
            exact ⟨SeqAt.RcAt.str_tuple _ _ p_vy hu0, SeqAt.RcNeAt.str_tuple _ _ p_vy hu0, SeqAt.EqAt.str_tuple _ _ p_vy hu0⟩
          | lst _ =>
            obtain ⟨_, _, rfl, h_vy, r_vy⟩ := vy.lst; obtain ⟨_, _, p_vy, _⟩ := I.list h_vy
            cases ry
            exact ⟨SeqAt.RcAt.str_list _ _ p_vy.isList hu0, SeqAt.RcNeAt.str_list _ _ p_vy.isList hu0, SeqAt.EqAt.str_list _ _ p_vy.isList hu0⟩
          | _ => cases hp
        | tup _ =>
          obtain ⟨_, _, rfl, h_vx, r_vx⟩ := vx.tup; obtain ⟨_, _, p_vx, _⟩ := I.tuple h_vx
          cases rx
          cases dy with
          | non =>
            cases vy.non
            cases (show _ = Value.none from ry)
            exact ⟨SeqAt.RcAt.tuple_none p_vx hu0, SeqAt.RcNeAt.tuple_none p_vx hu0, SeqAt.EqAt.tuple_none p_vx hu0⟩
          | bl _ =>
            cases vy.bl
            cases (show _ = Value.bool _ from ry)
            exact ⟨SeqAt.RcAt.tuple_bool _ p_vx hu0, SeqAt.RcNeAt.tuple_bool _ p_vx hu0, SeqAt.EqAt.tuple_bool _ p_vx hu0⟩
          | int _ =>
            cases vy.int
            obtain ⟨_, rfl⟩ := ry
            exact ⟨SeqAt.RcAt.tuple_int _ _ p_vx hu0, SeqAt.RcNeAt.tuple_int _ _ p_vx hu0, SeqAt.EqAt.tuple_int _ _ p_vx hu0⟩
          | str _ =>
            cases vy.str.1
            obtain ⟨_, rfl⟩ := ry
            exact ⟨SeqAt.RcAt.tuple_str _ _ p_vx hu0, SeqAt.RcNeAt.tuple_str _ _ p_vx hu0, SeqAt.EqAt.tuple_str _ _ p_vx hu0⟩
          | tup _ =>
            rename_i hn1 hn2; first | exact absurd rfl (hn1 _ _ rfl) | exact absurd rfl (hn2 _ _ rfl) | exact (hn1 _ _ rfl rfl).elim | exact (hn2 _ _ rfl rfl).elim
          | lst _ =>
            obtain ⟨_, _, rfl, h_vy, r_vy⟩ := vy.lst; obtain ⟨_, _, p_vy, _⟩ := I.list h_vy
            cases ry
            exact ⟨SeqAt.RcAt.tuple_list p_vx p_vy.isList hu0, SeqAt.RcNeAt.tuple_list p_vx p_vy.isList hu0, SeqAt.EqAt.of_refs (SeqAt.ne_of_list_tuple p_vy.isList p_vx).symm (SeqAt.RcAt.tuple_list p_vx p_vy.isList hu0)⟩
          | _ => cases hp
        | lst _ =>
          obtain ⟨_, _, rfl, h_vx, r_vx⟩ := vx.lst; obtain ⟨_, _, p_vx, _⟩ := I.list h_vx
          cases rx
          cases dy with
          | non =>
            cases vy.non
            cases (show _ = Value.none from ry)
            exact ⟨SeqAt.RcAt.list_none p_vx.isList hu0, SeqAt.RcNeAt.list_none p_vx.isList hu0, SeqAt.EqAt.list_none p_vx.isList hu0⟩
          | bl _ =>
            cases vy.bl
            cases (show _ = Value.bool _ from ry)
            exact ⟨SeqAt.RcAt.list_bool _ p_vx.isList hu0, SeqAt.RcNeAt.list_bool _ p_vx.isList hu0, SeqAt.EqAt.list_bool _ p_vx.isList hu0⟩
          | int _ =>
            cases vy.int
            obtain ⟨_, rfl⟩ := ry
            exact ⟨SeqAt.RcAt.list_int _ _ p_vx.isList hu0, SeqAt.RcNeAt.list_int _ _ p_vx.isList hu0, SeqAt.EqAt.list_int _ _ p_vx.isList hu0⟩
          | str _ =>
            cases vy.str.1
            obtain ⟨_, rfl⟩ := ry
            exact ⟨SeqAt.RcAt.list_str _ _ p_vx.isList hu0, SeqAt.RcNeAt.list_str _ _ p_vx.isList hu0, SeqAt.EqAt.list_str _ _ p_vx.isList hu0⟩
          | tup _ =>
            obtain ⟨_, _, rfl, h_vy, r_vy⟩ := vy.tup; obtain ⟨_, _, p_vy, _⟩ := I.tuple h_vy
            cases ry
            exact ⟨SeqAt.RcAt.list_tuple p_vx.isList p_vy hu0, SeqAt.RcNeAt.list_tuple p_vx.isList p_vy hu0, SeqAt.EqAt.of_refs (SeqAt.ne_of_list_tuple p_vx.isList p_vy) (SeqAt.RcAt.list_tuple p_vx.isList p_vy hu0)⟩
          | lst _ =>
            rename_i hn1 hn2; first | exact absurd rfl (hn1 _ _ rfl) | exact absurd rfl (hn2 _ _ rfl) | exact (hn1 _ _ rfl rfl).elim | exact (hn2 _ _ rfl rfl).elim
          | _ => cases hp
        | _ => cases hp
      · cases h
end
end R
end
section
set_option Elab.async false
set_option linter.all false
set_option maxRecDepth 100000
set_option maxHeartbeats 4000000
namespace R
open PySem PySem.Spec PyProof.Rows L2
section
variable {X : Cx}
theorem op_eqD (hu : X.A.units + 9 < cLine) : OpR X (compareOp .Eq) (opD X.K X.w .eq) := by
  intro pins s σ H x y v u Q I rx ry h
  obtain ⟨ι, M, dx, dy, d, hot, vx, vy, e, o⟩ := h
  replace e : blO (eqD dx dy) = some d := e
  cases hb : eqD dx dy with
  | none => rw [hb] at e; cases e
  | some b =>
    rw [hb] at e; cases e
    have E := eqsAt I 9 X.A dx dy b x y v u hu hb vx vy rx ry
    have z : wpAny (model X.prog X.w) X.A (compareOp .Eq v u) (EP X pins σ Q) X.xe s := E.rc X.prog X.w X.xe (EP X pins σ Q) ⟨.bl b, H, I, rfl, o.bl⟩
    exact z
theorem op_neD' (hu : X.A.units + 9 < cLine) : OpR X (compareOp .NotEq) (opD X.K X.w .ne) := by
  intro pins s σ H x y v u Q I rx ry h
  obtain ⟨ι, M, dx, dy, d, hot, vx, vy, e, o⟩ := h
  replace e : notO (eqD dx dy) = some d := e
  cases hb : eqD dx dy with
  | none => rw [hb] at e; cases e
  | some b =>
    rw [hb] at e; cases e
    have E := eqsAt I 9 X.A dx dy b x y v u hu hb vx vy rx ry
    have z : wpAny (model X.prog X.w) X.A (compareOp .NotEq v u) (EP X pins σ Q) X.xe s := E.ne X.prog X.w X.xe (EP X pins σ Q) ⟨.bl (!b), H, I, rfl, o.bl⟩
    exact z
theorem op_ltD : OpR X (compareOp .Lt) (opD X.K X.w .lt) := by
  intro pins s σ H x y v u Q I rx ry h
  obtain ⟨ι, M, dx, dy, d, hot, vx, vy, e, o⟩ := h
  replace e : blO (ltD dx dy) = some d := e
  unfold ltD at e
  split at e
  · cases vx.int; cases vy.int; cases e
    exact op_lt pins s σ H _ _ v u Q I rx ry ⟨_, _, rfl, rfl, o.bl⟩
  · obtain ⟨rfl, _⟩ := vx.str; obtain ⟨rfl, _⟩ := vy.str; cases e
    exact op_lt_str pins s σ H _ _ v u Q I rx ry ⟨_, _, rfl, rfl, o.bl⟩
  · cases e
theorem op_leD : OpR X (compareOp .LtE) (opD X.K X.w .le) := by
  intro pins s σ H x y v u Q I rx ry h
  obtain ⟨ι, M, dx, dy, d, hot, vx, vy, e, o⟩ := h
  replace e : blO (leD dx dy) = some d := e
  unfold leD at e
  split at e
  · cases vx.int; cases vy.int; cases e
    exact op_le pins s σ H _ _ v u Q I rx ry ⟨_, _, rfl, rfl, o.bl⟩
  · obtain ⟨rfl, _⟩ := vx.str; obtain ⟨rfl, _⟩ := vy.str; cases e
    exact op_le_str pins s σ H _ _ v u Q I rx ry ⟨_, _, rfl, rfl, o.bl⟩
  · cases e
theorem op_gtD : OpR X (compareOp .Gt) (opD X.K X.w .gt) := by
  intro pins s σ H x y v u Q I rx ry h
  obtain ⟨ι, M, dx, dy, d, hot, vx, vy, e, o⟩ := h
  replace e : blO (ltD dy dx) = some d := e
  unfold ltD at e
  split at e
  · cases vx.int; cases vy.int; cases e
    exact op_gt pins s σ H _ _ v u Q I rx ry ⟨_, _, rfl, rfl, o.bl⟩
  · obtain ⟨rfl, _⟩ := vx.str; obtain ⟨rfl, _⟩ := vy.str; cases e
    exact op_gt_str pins s σ H _ _ v u Q I rx ry ⟨_, _, rfl, rfl, o.bl⟩
  · cases e
theorem op_geD : OpR X (compareOp .GtE) (opD X.K X.w .ge) := by
  intro pins s σ H x y v u Q I rx ry h
  obtain ⟨ι, M, dx, dy, d, hot, vx, vy, e, o⟩ := h
  replace e : blO (leD dy dx) = some d := e
  unfold leD at e
  split at e
  · cases vx.int; cases vy.int; cases e
    exact op_ge pins s σ H _ _ v u Q I rx ry ⟨_, _, rfl, rfl, o.bl⟩
  · obtain ⟨rfl, _⟩ := vx.str; obtain ⟨rfl, _⟩ := vy.str; cases e
    exact op_ge_str pins s σ H _ _ v u Q I rx ry ⟨_, _, rfl, rfl, o.bl⟩
  · cases e
theorem isD_V {K : PySem.W.Frag} {w : World} {ι : List Addr} {M : Addr → Prop} {H : Hp} {dx dy : D} {b : Bool} {x y : V} (e : isD dx dy = some b) (vx : Vw K w ι M H dx x) (vy : Vw K w ι M H dy y) :
    (y = .non ∧ b = decide (x = .non)) ∨ ∃ p q, x = .bl p ∧ y = .bl q ∧ b = decide (p = q) := by
  unfold isD at e
  split at e
  · cases vx.non; cases vy.non; cases e; exact .inl ⟨rfl, rfl⟩
  · cases vx.bl; cases vy.non; cases e; exact .inl ⟨rfl, rfl⟩
  · cases vx.int; cases vy.non; cases e; exact .inl ⟨rfl, rfl⟩
  · cases vx.str.1; cases vy.non; cases e; exact .inl ⟨rfl, rfl⟩
  · obtain ⟨a, xs, rfl, _⟩ := vx.tup; cases vy.non; cases e; exact .inl ⟨rfl, rfl⟩
  · obtain ⟨a, xs, rfl, _⟩ := vx.lst; cases vy.non; cases e; exact .inl ⟨rfl, rfl⟩
  · obtain ⟨a, rfl, _⟩ := vx; cases vy.non; cases e; exact .inl ⟨rfl, rfl⟩
  · obtain ⟨a, C, dx, fv, rfl, _⟩ := vx; cases vy.non; cases e; exact .inl ⟨rfl, rfl⟩
  · obtain ⟨a, _, rfl⟩ := vx; cases vy.non; cases e; exact .inl ⟨rfl, rfl⟩
  · cases vx.bl; cases vy.bl; cases e; exact .inr ⟨_, _, rfl, rfl, rfl⟩
  · cases e
theorem op_isD : OpR X (compareOp .Is) (opD X.K X.w .is) := by
  intro pins s σ H x y v u Q I rx ry h
  obtain ⟨ι, M, dx, dy, d, hot, vx, vy, e, o⟩ := h
  replace e : blO (isD dx dy) = some d := e
  cases hb : isD dx dy with
  | none => rw [hb] at e; cases e
  | some b =>
    rw [hb] at e; cases e
    rcases isD_V hb vx vy with ⟨rfl, rfl⟩ | ⟨p, q, rfl, rfl, rfl⟩
    · exact op_isN pins s σ H _ _ v u Q I rx ry ⟨rfl, o.bl⟩
    · exact op_is_bl pins s σ H _ _ v u Q I rx ry ⟨p, q, rfl, rfl, o.bl⟩
theorem op_isnotD : OpR X (compareOp .IsNot) (opD X.K X.w .isnot) := by
  intro pins s σ H x y v u Q I rx ry h
  obtain ⟨ι, M, dx, dy, d, hot, vx, vy, e, o⟩ := h
  replace e : notO (isD dx dy) = some d := e
  cases hb : isD dx dy with
  | none => rw [hb] at e; cases e
  | some b =>
    rw [hb] at e; cases e
    rcases isD_V hb vx vy with ⟨rfl, rfl⟩ | ⟨p, q, rfl, rfl, rfl⟩
    · exact op_notN pins s σ H _ _ v u Q I rx ry ⟨rfl, o.bl⟩
    · exact op_isnot_bl pins s σ H _ _ v u Q I rx ry ⟨p, q, rfl, rfl, o.bl⟩

def OptRep (K : PySem.W.Frag) (w : World) (ι : List Addr) (M : Addr → Prop) (H : Hp) : Option D → Option V → Prop
  | some d, some v => Rep K w ι M H d v
  | none, none => True
  | _, _ => False
theorem keyEq_iff (p k : Key) : keyEq (keyD p) (keyD k) = decide (p = k) := by
  cases p <;> cases k <;> simp [keyD, keyEq]
theorem kEq_key (p k : Key) : kEq (keyD p) (keyD k) = decide (p = k) := by
  rw [← keyEq_iff]
  cases p <;> cases k <;> rfl
theorem kget_dK {K : PySem.W.Frag} {w : World} {ι : List Addr} {M : Addr → Prop} {H : Hp} (k : Key) : ∀ (kvs : List (Key × V)) (vs : List D), Reps K w ι M H vs (kvs.map (·.2)) → OptRep K w ι M H (kget (kvs.map fun p => keyD p.1) vs (keyD k)) (valV kvs k)
  | [], vs, h => by
    cases vs with
    | nil => exact True.intro
    | cons d ds => obtain ⟨x, r, e, _⟩ := h.cons_inv; cases e
  | p :: kvs, vs, h => by
    cases vs with
    | nil => exact absurd (Reps.nil_inv h) (fun z => by cases z)
    | cons d ds =>
      obtain ⟨x, r, e, h1, h2⟩ := h.cons_inv
      cases e
      show OptRep K w ι M H (if kEq (keyD p.1) (keyD k) then some d else kget (kvs.map fun p => keyD p.1) ds (keyD k)) _
      rw [kEq_key]
      by_cases e : p.1 = k
      · rw [valV_pos e]; simp only [e, decide_true, if_true]; exact h1
      · rw [valV_neg e]; simp only [e, decide_false, Bool.false_eq_true, if_false]; exact kget_dK k kvs ds h2
theorem kd_find {K : PySem.W.Frag} {w : World} {ι : List Addr} {M : Addr → Prop} {H : Hp} (z : Str) : ∀ (es : List DictEntry) (ss : List Str) (xs : List V) (vs : List D), Paired (fun (s : Str) (e : DictEntry) => ∃ t, e.key = .str s t) ss es →
    Vals xs (es.map (·.val)) → Reps K w ι M H vs xs →
    (match es.find? (·.key.isStr z) with
      | some e => ∃ d v, kget (ss.map .str) vs (.str z) = some d ∧ Rep K w ι M H d v ∧ RelV v e.val
      | none => kget (ss.map .str) vs (.str z) = none) ∧ es.any (·.refKey) = false
  | [], ss, xs, vs, hk, hv, hr => by
    cases hk
    cases hv
    cases vs with
    | nil => exact ⟨rfl, rfl⟩
    | cons d ds => obtain ⟨x, r, e, _⟩ := hr.cons_inv; cases e
  | e :: es, ss, xs, vs, hk, hv, hr => by
    cases hk with
    | @cons s _ ss _ h1 h2 =>
      cases hv with
      | @cons x _ xs _ g1 g2 =>
        cases vs with
        | nil => exact absurd (Reps.nil_inv hr) (fun z => by cases z)
        | cons d ds =>
          obtain ⟨x', r, ex, q1, q2⟩ := hr.cons_inv
          cases ex
          obtain ⟨t, ek⟩ := h1
          obtain ⟨i1, i2⟩ := kd_find z es ss xs ds h2 g2 q2
          have rk : e.refKey = false := by rw [DictEntry.refKey, ek]
          refine ⟨?_, by rw [List.any_cons, rk, i2]; rfl⟩
          have is : e.key.isStr z = decide (s = z) := by
            rw [ek]
            by_cases c : s = z <;> simp [Value.isStr, c]
          have kq : kEq (.str s) (.str z) = decide (s = z) := rfl
          by_cases c : s = z
          · rw [List.find?_cons, is]; simp only [c, decide_true]
            refine ⟨d, x, ?_, q1, g1⟩
            subst c
            have : kEq (.str s) (.str s) = true := by rw [kq]; simp
            show (if kEq (.str s) (.str s) then some d else _) = some d
            rw [this]; rfl
          · rw [List.find?_cons, is]; simp only [c, decide_false]
            have : kget ((s :: ss).map D.str) (d :: ds) (.str z) = kget (ss.map .str) ds (.str z) := by
              show (if kEq (.str s) (.str z) then some d else _) = _
              rw [kq]; simp only [c, decide_false, Bool.false_eq_true, if_false]
            rw [this]
            exact i1
theorem kdic_at {K : PySem.W.Frag} {w : World} {ι : List Addr} {M : Addr → Prop} {H : Hp} {a : Addr} {ss : List Str} {xs : List V} {vs : List D} (z : Str) (h : KDic K w a ss xs) (hr : Reps K w ι M H vs xs) :
    ∃ es n r, KDict K w a es n ∧ PySem.W.nsIn K a z = some r ∧ (match r with
      | some u => ∃ d v, kget (ss.map .str) vs (.str z) = some d ∧ Rep K w ι M H d v ∧ RelV v u
      | none => kget (ss.map .str) vs (.str z) = none) := by
  obtain ⟨es, n, kd, hk, hv, _⟩ := h
  obtain ⟨i1, i2⟩ := kd_find z es.toList ss xs vs hk hv hr
  refine ⟨es, n, (es.toList.find? (·.key.isStr z)).map (·.val), kd, ?_, ?_⟩
  · unfold PySem.W.nsIn
    rw [kd.at_]
    simp only
    cases e : es.toList.find? (·.key.isStr z) with
    | some e => rfl
    | none => simp only [i2]; rfl
  · cases e : es.toList.find? (·.key.isStr z) with
    | some e2 => rw [e] at i1; exact i1
    | none => rw [e] at i1; exact i1
theorem dT_keys {kvs : List (List Key × V)} (ne : kvs ≠ []) : ((kvs.map fun p => D.tup (p.1.map keyD)).all isKey) = false := by
  cases kvs with
  | nil => exact absurd rfl ne
  | cons p r => rfl
theorem dT_keys' {kvs : List (List Key × V)} (ne : kvs ≠ []) : ((kvs.map fun p => D.tup (p.1.map keyD)).all isInt) = false := by
  cases kvs with
  | nil => exact absurd rfl ne
  | cons p r => rfl
/-- a dict with a plain key -/
theorem dic_get {K : PySem.W.Frag} {w : World} {ι : List Addr} {M : Addr → Prop} {H : Hp} {ks vs : List D} {k : D} {x y : V} {o : Option D} (hk : dget ks vs k = some o) (h : Rep K w ι M H (.dic ks vs) y) (hx : Vw K w ι M H k x) :
    ∃ a, y = .ref a ∧ ((∃ r, DGet H a x r ∧ OptRep K w ι M H o r) ∨
      (∃ (z : Str) (es : Array DictEntry) (n : Nat) (r : Option Value), x = .str z ∧ KDict K w a es n ∧ PySem.W.nsIn K a z = some r ∧ (match r with
      | some u => ∃ d v, o = some d ∧ Rep K w ι M H d v ∧ RelV v u
      | none => o = none))) := by
  obtain ⟨a, rfl, h⟩ := h
  refine ⟨a, rfl, ?_⟩
  unfold dget at hk
  split at hk
  · rename_i z
    obtain ⟨rfl, _⟩ := hx.str
    split at hk
    · rename_i hks
      cases hk
      rcases h with ⟨kvs, c, e, _, r⟩ | ⟨kvs, c, ne, e, _⟩ | ⟨ss, xs, c, ne, e, _, r⟩
      · exact .inl ⟨valV kvs (.inr z), .inl ⟨kvs, .inr z, c.1, rfl, rfl⟩, by rw [e]; exact kget_dK (.inr z) kvs vs r⟩
      · rw [e, dT_keys ne] at hks; cases hks
      · obtain ⟨es, n, r2, kd2, hn, hm⟩ := kdic_at z c r
        rw [e]
        exact .inr ⟨z, es, n, r2, rfl, kd2, hn, hm⟩
    · cases hk
  · rename_i z
    cases hx.int
    split at hk
    · rename_i hks
      cases hk
      rcases h with ⟨kvs, c, e, _, r⟩ | ⟨kvs, c, ne, e, _⟩ | ⟨ss, xs, c, ne, e, _, r⟩
      · exact .inl ⟨valV kvs (.inl z), .inl ⟨kvs, .inl z, c.1, rfl, rfl⟩, by rw [e]; exact kget_dK (.inl z) kvs vs r⟩
      · rw [e, dT_keys' ne] at hks; cases hks
      · rw [e] at hks
        cases ss with
        | nil => exact absurd rfl ne
        | cons s ss => cases hks
    · cases hk
  · cases hk
theorem feq_any {K : PySem.W.Frag} {w : World} {ι : List Addr} {M : Addr → Prop} {H : Hp} {dx : D} {x : V} (fx : flatD dx = true) (vx : Rep K w ι M H dx x) : ∀ {ds : List D} {xs : List V}, ds.all flatD = true → Reps K w ι M H ds xs →
    flatV x = true ∧ xs.all flatV = true ∧ inV x xs = ds.any fun y => feqD y dx
  | [], _, _, r => by
    cases Reps.nil_inv r
    exact ⟨(feq_V fx fx vx vx).1, rfl, rfl⟩
  | d :: ds, _, f, r => by
    obtain ⟨y, ys, rfl, h1, h2⟩ := r.cons_inv
    rw [List.all_cons, Bool.and_eq_true] at f
    obtain ⟨a1, a2, a3⟩ := feq_any fx vx f.2 h2
    obtain ⟨b1, b2, b3⟩ := feq_V f.1 fx h1 vx
    refine ⟨a1, by rw [List.all_cons, b1, a2]; rfl, ?_⟩
    unfold inV at a3 ⊢
    rw [List.any_cons, List.any_cons, b3, a3]
theorem OptRep.isSome {K : PySem.W.Frag} {w : World} {ι : List Addr} {M : Addr → Prop} {H : Hp} {o : Option D} {r : Option V} (h : OptRep K w ι M H o r) : o.isSome = r.isSome := by
  cases o <;> cases r <;> first | rfl | exact h.elim
theorem inD_run (neg : Bool) (hu : X.A.units + 1 < cLine) {pins : List (Addr × Obj)} {s : Shared} {σ : L2.St} {H : Hp} {x y : V} {v u : Value} {Q : VK} (I : L2.Inv X pins σ H s) (rx : RelV x v) (ry : RelV y u) {ι : List Addr} {M : Addr → Prop} {dx dy : D} {b : Bool}
    (vx : Vw X.K X.w ι M H dx x) (vy : Vw X.K X.w ι M H dy y) (e : inD dx dy = some b) (q : Q (.bl (if neg then !b else b)) H) :
    wpAny (model X.prog X.w) X.A (compareOp (if neg then .NotIn else .In) v u) (EP X pins σ Q) X.xe s := by
  unfold inD at e
  split at e
  · obtain ⟨rfl, _⟩ := vx.str; obtain ⟨rfl, _⟩ := vy.str; cases e
    cases neg with
    | false => exact op_in_str pins s σ H _ _ v u Q I rx ry ⟨_, _, rfl, rfl, q⟩
    | true => exact op_notIn_str pins s σ H _ _ v u Q I rx ry ⟨_, _, rfl, rfl, q⟩
  · obtain ⟨a, xs, rfl, h2, r2⟩ := vy.tup
    split at e
    · rename_i hf
      cases e
      rw [Bool.and_eq_true] at hf
      obtain ⟨a1, a2, a3⟩ := feq_any hf.1 (vx.flat hf.1) hf.2 r2
      rw [← a3] at q
      cases neg with
      | false => exact op_in_seq pins s σ H _ _ v u Q I rx ry ⟨a, xs, rfl, .inr h2, a1, a2, q⟩
      | true => exact op_notIn_seq pins s σ H _ _ v u Q I rx ry ⟨a, xs, rfl, .inr h2, a1, a2, q⟩
    · cases e
  · obtain ⟨a, xs, rfl, h2, r2⟩ := vy.lst
    split at e
    · rename_i hf
      cases e
      rw [Bool.and_eq_true] at hf
      obtain ⟨a1, a2, a3⟩ := feq_any hf.1 (vx.flat hf.1) hf.2 r2
      rw [← a3] at q
      cases neg with
      | false => exact op_in_seq pins s σ H _ _ v u Q I rx ry ⟨a, xs, rfl, .inl h2, a1, a2, q⟩
      | true => exact op_notIn_seq pins s σ H _ _ v u Q I rx ry ⟨a, xs, rfl, .inl h2, a1, a2, q⟩
    · cases e
  · rename_i ks vs
    cases hk : dget ks vs dx with
    | none => rw [hk] at e; cases e
    | some o =>
      rw [hk] at e
      replace e : some o.isSome = some b := e
      cases e
      obtain ⟨a, rfl, h⟩ := dic_get hk (show Rep X.K X.w ι M H (.dic ks vs) y from vy) vx
      rcases h with ⟨r, g, h⟩ | ⟨z, es, n, r2, rfl, kd2, hn, hm⟩
      · have hs := h.isSome
        rw [hs] at q
        cases ry
        cases neg with
        | false => exact d_in hu I g rx fun s' I' => ⟨.bl _, H, I', rfl, q⟩
        | true => exact d_notIn hu I g rx fun s' I' => ⟨.bl _, H, I', rfl, q⟩
      · have hs : o.isSome = r2.isSome := by
          cases r2 with
          | none => rw [show o = none from hm]; rfl
          | some w => obtain ⟨d, v, h1, _⟩ := hm; rw [h1]; rfl
        rw [hs] at q
        cases neg with
        | false => exact op_in_kd kd2 pins s σ H _ _ v u Q I rx ry ⟨z, r2, rfl, rfl, hn, q⟩
        | true => exact op_notIn_kd kd2 pins s σ H _ _ v u Q I rx ry ⟨z, r2, rfl, rfl, hn, q⟩
  · cases e
theorem op_inD' (hu : X.A.units + 1 < cLine) : OpR X (compareOp .In) (opD X.K X.w .in_) := by
  intro pins s σ H x y v u Q I rx ry h
  obtain ⟨ι, M, dx, dy, d, hot, vx, vy, e, o⟩ := h
  replace e : blO (inD dx dy) = some d := e
  cases hb : inD dx dy with
  | none => rw [hb] at e; cases e
  | some b =>
    rw [hb] at e; cases e
    exact inD_run false hu I rx ry vx vy hb o.bl
theorem op_notInD' (hu : X.A.units + 1 < cLine) : OpR X (compareOp .NotIn) (opD X.K X.w .notin) := by
  intro pins s σ H x y v u Q I rx ry h
  obtain ⟨ι, M, dx, dy, d, hot, vx, vy, e, o⟩ := h
  replace e : notO (inD dx dy) = some d := e
  cases hb : inD dx dy with
  | none => rw [hb] at e; cases e
  | some b =>
    rw [hb] at e; cases e
    exact inD_run true hu I rx ry vx vy hb o.bl

theorem tail_dict {a : Addr} {h : Hp} (value slice : Expr) : True := True.intro
theorem Reps.atI {K : PySem.W.Frag} {w : World} {ι : List Addr} {M : Addr → Prop} {H : Hp} {ds : List D} {xs : List V} {i : Int} {d : D} (r : Reps K w ι M H ds xs) (e : atI ds i = some d) : ∃ x, L2.atI xs i = some x ∧ Rep K w ι M H d x := by
  unfold L2.atI at e ⊢
  rw [← r.length]
  cases hk : ixN ds.length i with
  | none => rw [hk] at e; cases e
  | some k =>
    rw [hk] at e
    exact r.get e
theorem sign_ok (c : Nat) : (⟨#[c]⟩ : Str).length ≤ strMax := by show 1 ≤ strMax; unfold strMax; omega
theorem ix_D (hu : X.A.units + 1 < cLine) : IxR X (opD X.K X.w .item) := by
  intro value slice pins s σ H x y v u Q I rx ry h hs
  obtain ⟨ι, M, dx, dy, d, hot, vx, vy, e, o⟩ := h
  replace e : itemD dx dy = some d := e
  unfold itemD at e
  split at e
  · obtain ⟨a, xs, rfl, h1, r1⟩ := vx.tup
    cases vy.int
    obtain ⟨z, hz, hr⟩ := r1.atI e
    exact ix_tup value slice pins s σ H _ _ v u Q I rx ry ⟨a, xs, _, z, rfl, rfl, h1, hz, o.here hr⟩ hs
  · obtain ⟨a, xs, rfl, h1, r1⟩ := vx.lst
    cases vy.int
    obtain ⟨z, hz, hr⟩ := r1.atI e
    exact ix_list value slice pins s σ H _ _ v u Q I rx ry ⟨a, xs, _, z, rfl, rfl, h1, hz, o.here hr⟩ hs
  · rename_i z i
    obtain ⟨rfl, hl⟩ := vx.str
    cases vy.int
    cases hc : L2.atI z.cps.toList i with
    | none => rw [hc] at e; cases e
    | some c =>
      rw [hc] at e; cases e
      exact ix_str value slice pins s σ H _ _ v u Q I rx ry ⟨z, i, c, rfl, rfl, strMax_line hl, hc, o.str (sign_ok c)⟩ hs
  · rename_i ks vs
    split at e
    · rename_i w hk
      cases e
      obtain ⟨a, rfl, h⟩ := dic_get hk (show Rep X.K X.w ι M H (.dic ks vs) x from vx) vy
      rcases h with ⟨r, g, h⟩ | ⟨z, es, n, r2, rfl, kd2, hn, hm⟩
      · cases r with
        | none => exact h.elim
        | some w =>
          cases rx
          refine tail_any (T := "dict") ?_ slot_dict_getitem.lookup (d_getItem hu I g ry fun w' s' I' r' => ⟨w, H, I', r', o.here h⟩) hs
          rcases g with ⟨kvs, k, e, _⟩ | ⟨kvs, k, b, e, _⟩
          · obtain ⟨_, _, vs, rel, dd⟩ := dk_rd I.hok e
            exact dd.mapOf.typeIs
          · obtain ⟨_, _, xs, rel, dd⟩ := dt_rd I.hok e
            exact dd.typeIs
      · cases r2 with
        | none => cases hm
        | some w0 =>
          obtain ⟨d', v', h1, h2, h3⟩ := hm
          cases h1
          exact ix_kdict value slice pins s σ H _ _ v u Q I rx ry ⟨a, z, v', rfl, rfl, ⟨es, n, w0, kd2.at_, kd2.lit, hn, h3⟩, o.here h2⟩ hs
    · cases e
  · cases e
def slD (K : PySem.W.Frag) (w : World) : V → Option Int → Option Int → Hp → VK → Prop := fun x lo hi H Q => ∃ ι M dx d, Hot M H ∧ Vw K w ι M H dx x ∧ sliceD dx lo hi = some d ∧ Out K w ι M H d Q
theorem Reps.cut {K : PySem.W.Frag} {w : World} {ι : List Addr} {M : Addr → Prop} {H : Hp} {ds : List D} {xs : List V} (lo hi : Option Int) (r : Reps K w ι M H ds xs) : Reps K w ι M H (cutL ds lo hi) (cutV xs lo hi) := by
  unfold cutL
  rw [r.length]
  exact (r.drop _).take _
theorem cut_all {α : Type} {xs : List α} {lo hi : Option Int} (h : HT.sIx xs.length 0 lo = 0 ∧ HT.sIx xs.length xs.length hi = xs.length) : cutL xs lo hi = xs := by
  unfold cutL
  rw [h.1, h.2]
  simp
theorem sl_D : SlR X (slD X.K X.w) := by
  intro pins s σ H x v vl vu lo hi sl Q I rx hs pl pu h
  obtain ⟨ι, M, dx, d, hot, vx, e, o⟩ := h
  unfold sliceD at e
  split at e
  · cases e
    obtain ⟨a, xs, rfl, h1, r1⟩ := vx.tup
    refine sl_tupA pins s σ H _ v vl vu lo hi sl Q I rx hs pl pu ⟨a, xs, rfl, h1, fun hw => ?_, fun _ p hp => o.newTup hot (r1.cut lo hi) hp⟩
    rw [← r1.length] at hw
    rw [cut_all hw] at o
    exact o.here vx.tupRep
  · cases e
    obtain ⟨a, xs, rfl, h1, r1⟩ := vx.lst
    exact sl_list pins s σ H _ v vl vu lo hi sl Q I rx hs pl pu ⟨a, xs, rfl, h1, fun p hp => o.newLst hot (r1.cut lo hi) hp⟩
  · rename_i z
    cases e
    obtain ⟨rfl, hl⟩ := vx.str
    refine sl_str pins s σ H _ v vl vu lo hi sl Q I rx hs pl pu ⟨z, rfl, strMax_line hl, o.str ?_⟩
    refine Nat.le_trans ?_ hl
    show (((z.cps.toList.drop _).take _).toArray).size ≤ z.cps.size
    rw [List.size_toArray, List.length_take, List.length_drop, Array.length_toList]
    omega
  · cases e
end
end R
end
section
set_option Elab.async false
set_option linter.all false
set_option maxRecDepth 100000
set_option maxHeartbeats 4000000
namespace R
open PySem PySem.Spec PyProof.Rows L2
section
variable {X : Cx} {pins : List (Addr × Obj)} {σ : L2.St} {H : Hp} {s : Shared}
/-- a written dict is a dict by texts -/
theorem pairs_of {P : Program} {w : World} : ∀ (es : List DictEntry) (ss : List Str), Paired (fun (s : Str) (e : DictEntry) => ∃ t, e.key = .str s t) ss es → Pairs (strKind P w) es (ss.zip (es.map (·.val)))
  | [], _, h => by cases h; exact .nil
  | e :: es, _, h => by
    cases h with
    | @cons z _ zs _ h1 h2 =>
      obtain ⟨t, ek⟩ := h1
      exact .cons (by rw [ek]; exact strKind_is P w z t) rfl (pairs_of es zs h2)
theorem zip_maps {ss : List Str} : ∀ {es : List DictEntry}, Paired (fun (s : Str) (e : DictEntry) => ∃ t, e.key = .str s t) ss es → (ss.zip (es.map (·.val))).map (·.1) = ss ∧ (ss.zip (es.map (·.val))).map (·.2) = es.map (·.val) := by
  induction ss with
  | nil => intro es h; cases h; exact ⟨rfl, rfl⟩
  | cons z zs ih =>
    intro es h
    cases h with
    | cons h1 h2 =>
      obtain ⟨a, b⟩ := ih h2
      exact ⟨by simp [a], by simp [b]⟩
theorem kdic_of (I : L2.Inv X pins σ H s) {a : Addr} {ss : List Str} {xs : List V} (h : KDic X.K X.w a ss xs) : (a == sysModules) = false ∧ ∃ kvs : List (Str × Value), s.heap.DictOf (strKind X.prog X.w) a kvs ∧ kvs.map (·.1) = ss ∧ Vals xs (kvs.map (·.2)) ∧ kvs.length ≤ sizeLine := by
  obtain ⟨es, n, kd, hk, hv, hz, nd⟩ := h
  obtain ⟨z1, z2⟩ := zip_maps hk
  refine ⟨kd.low, ss.zip (es.toList.map (·.val)), ⟨_, es, n, I.kIn _ _ kd.at_, ⟨rfl, rfl, rfl⟩, rfl, fun e he => ?_, pairs_of _ _ hk, by rw [z1]; exact nd⟩, z1, by rw [z2]; exact hv, ?_⟩
  · obtain ⟨x, t, e1, e2⟩ := kd.lit.all e (Array.mem_toList_iff.mpr he)
    exact ⟨x, by rw [e1]; exact strKind_is X.prog X.w x t, e2⟩
  · have := congrArg List.length z2
    simp only [List.length_map, Array.length_toList] at this
    omega
theorem dic_len {K : PySem.W.Frag} {w : World} {ι : List Addr} {M : Addr → Prop} {ks vs : List D} {kvs : List (Key × V)} (e : ks = kvs.map (fun p => keyD p.1)) : ks.length = kvs.length := by rw [e, List.length_map]
/-- len of a dict, whatever its keys -/
theorem len_raw {prog : Program} {w : World} {A : Around} {E : Value → Shared → Prop} {s : Shared} {d : Addr} {es : Array DictEntry} {ep : Nat} {Q : Value → Shared → Prop} (hd : (d == sysModules) = false) (hm : s.heap.DictRaw d es ep) (hz : (es.size : Int) < 2 ^ 63)
    (h : Q (.int es.size (s.toks + 1)) { s with toks := s.toks + 1 + 1 }) : wpAny (PySem.model prog w) A (call (.builtin "len") [.ref d]) Q E s := by
  refine PySem.Calls.call_function_entry kind_len plain_len entry_len (args_len1 _) ?_
  unfold Builtin.«len»
  refine wpAny_bind (m := oneArg "len" _) (wpAny_pure ?_)
  refine wpAny_bind (m := callSpecial? (.ref d) (Str.ofString "__len__")) (wpAny_callSpecial?_slot (name := Str.ofString "__len__") hm.typeIs PySem.F.slot_dict_len
    (call_meetsIn PySem.F.slot_dict_len hm.typeIs PySem.F.entry_dict_len (PySem.F.args_dict_len_1 _) (meets_dict_len_raw d hd) ⟨es, ep, hm, ?_⟩))
  show wpAny _ _ _ _ _ { s with toks := s.toks + 1 }
  refine wpAny_bind (wpAny_holding (wpAny_pure (wpAny_bind (wpAny_letGo ?_))))
  have c1 : ¬ ((es.size : Nat) : Int) < 0 := by omega
  have c2 : ¬ ((es.size : Nat) : Int) ≥ 2 ^ 63 := by omega
  show wpAny _ _ (if ((es.size : Nat) : Int) < 0 then _ else _) _ _ _
  rw [if_neg c1]
  show wpAny _ _ (if ((es.size : Nat) : Int) ≥ 2 ^ 63 then _ else _) _ _ _
  rw [if_neg c2]
  exact wpAny_bind (wpAny_mkInt (wpAny_pure ⟨_, rfl, h⟩))
theorem call_lenX : CallR X (.builtin "len") (caD X.K X.w .len) := by
  intro pins s σ H xs us Q I r h
  obtain ⟨ι, M, ds, d, hot, vs, e, o⟩ := h
  cases vs with
  | nil => cases e
  | @cons dx x _ _ v1 vs =>
    cases vs with
    | cons _ _ => cases e
    | nil =>
      replace e : lenD dx = some d := e
      unfold lenD at e
      split at e
      · cases e
        obtain ⟨rfl, hl⟩ := v1.str
        exact call_len pins s σ H _ us Q I r ⟨_, _, rfl, ⟨strMax_line hl, rfl⟩, o.int⟩
      · cases e
        obtain ⟨a, xs, rfl, h1, r1⟩ := v1.tup
        exact call_len pins s σ H _ us Q I r ⟨_, xs.length, rfl, .inr ⟨xs, h1, rfl⟩, by rw [← r1.length]; exact o.int⟩
      · cases e
        obtain ⟨a, xs, rfl, h1, r1⟩ := v1.lst
        exact call_len pins s σ H _ us Q I r ⟨_, xs.length, rfl, .inl ⟨xs, h1, rfl⟩, by rw [← r1.length]; exact o.int⟩
      · cases e
        obtain ⟨a, rfl, h⟩ := (show ∃ a, x = .ref a ∧ _ from v1)
        rcases h with ⟨kvs, c, e, _, _⟩ | ⟨kvs, c, ne, e, _⟩ | ⟨ss, ys, c, ne, e, _, rr⟩
        · rw [Vals.ref1 r]
          refine d_len I c.1 fun t s' I' => ⟨.int kvs.length, H, I', ⟨t, rfl⟩, ?_⟩
          have := o.int
          rw [e, List.length_map] at this
          exact this
        · refine call_len_dT pins s σ H _ us Q I r ⟨a, kvs, rfl, c.1, ?_⟩
          have := o.int
          rw [e, List.length_map] at this
          exact this
        · rw [Vals.ref1 r]
          obtain ⟨lo, kvs, hd, k1, k2, kz⟩ := kdic_of I c
          refine call_len_dict lo hd (by rw [sizeLine_eq] at kz; omega) ⟨.int kvs.length, H, I.tok _, ⟨_, rfl⟩, ?_⟩
          have := o.int
          rw [e, List.length_map, ← k1, List.length_map] at this
          exact this
      · cases e
        obtain ⟨a, φ, rfl, c, f⟩ := (show ∃ a φ, x = .ref a ∧ Cold M H a (.ext φ) ∧ _ from v1)
        obtain ⟨ob, ho, hz, ⟨es, ep, t, hex, hd, hf, hn⟩ | ⟨es, ep, hex, hd, hn, hm⟩⟩ := f s.heap (c.1.ok I.hok).1
        · rw [Vals.ref1 r]
          exact call_len_set ho hex hd hf (by rw [sizeLine_eq] at hz; omega) ⟨.int es.size, H, I.tok _, ⟨_, rfl⟩, by rw [hn]; exact o.int⟩
        · rw [Vals.ref1 r]
          exact len_raw (es := es) (ep := ep) hm ⟨ob, ho, hex, hd⟩ (by rw [sizeLine_eq] at hz; omega) ⟨.int es.size, H, I.tok _, ⟨_, rfl⟩, by rw [hn]; exact o.int⟩
      · cases e
theorem call_absX : CallR X (.builtin "abs") (caD X.K X.w .abs) := by
  intro pins s σ H xs us Q I r h
  obtain ⟨ι, M, ds, d, hot, vs, e, o⟩ := h
  cases vs with
  | nil => cases e
  | @cons dx x _ _ v1 vs =>
    cases vs with
    | cons _ _ => cases e
    | nil =>
      replace e : absD dx = some d := e
      unfold absD at e
      split at e
      · cases e; cases v1.int
        exact call_abs pins s σ H _ us Q I r ⟨_, rfl, o.int⟩
      · cases e
theorem call_intX : CallR X (.type "int") (caD X.K X.w .int) := by
  intro pins s σ H xs us Q I r h
  obtain ⟨ι, M, ds, d, hot, vs, e, o⟩ := h
  cases vs with
  | nil => cases e
  | @cons dx x _ _ v1 vs =>
    cases vs with
    | cons _ _ => cases e
    | nil =>
      replace e : intD dx = some d := e
      unfold intD at e
      split at e
      · cases e; cases v1.int
        exact call_int1 pins s σ H _ us Q I r (.inl ⟨_, rfl, o.int⟩)
      · cases e; cases v1.bl
        exact call_int1 pins s σ H _ us Q I r (.inr ⟨_, rfl, o.int⟩)
      · cases e
/-- the kind as a type value -/
def kVal (K : PySem.W.Frag) : D → Value → Prop
  | .ty n, t => t = .type n ∧ n ∈ kinds
  | .cls c, t => ∃ C, t = .ref C ∧ IsGl K c C ∧ ClsOk K C
  | _, _ => False
theorem mem_kinds {n : String} (h : n ∈ kinds) : n ∈ kinds := h
theorem tyx {K : PySem.W.Frag} {w : World} {ι : List Addr} {M : Addr → Prop} {H : Hp} {dx k : D} {x : V} (e : kindD dx = some k) (v : Vw K w ι M H dx x) : ∃ t, TyX K H x t ∧ kVal K k t := by
  unfold kindD at e
  split at e
  · cases e; cases v.non; exact ⟨_, .base .non, rfl, by simp [kinds]⟩
  · cases e; cases v.bl; exact ⟨_, .base (.bl _), rfl, by simp [kinds]⟩
  · cases e; cases v.int; exact ⟨_, .base (.int _), rfl, by simp [kinds]⟩
  · cases e; cases v.str.1; exact ⟨_, .base (.str _), rfl, by simp [kinds]⟩
  · cases e
    obtain ⟨a, xs, rfl, h, _⟩ := v.tup
    refine ⟨.type "tuple", ?_, rfl, by simp [kinds]⟩
    rcases h with (h | ⟨ob, h⟩) | ⟨ob, its, n, h1, h2, _⟩
    · exact .base (.tup h)
    · exact .fTuple h
    · exact .kTuple h1 h2
  · cases e
    obtain ⟨a, xs, rfl, h, _⟩ := v.lst
    refine ⟨.type "list", ?_, rfl, by simp [kinds]⟩
    rcases h with (h | ⟨ob, h⟩) | ⟨ob, its, n, h1, h2, _⟩
    · exact .base (.lst h)
    · exact .base (.frz h)
    · exact .kList h1 h2
  · cases e
    obtain ⟨a, rfl, h⟩ := (show ∃ a, x = .ref a ∧ _ from v)
    refine ⟨.type "dict", ?_, rfl, by simp [kinds]⟩
    rcases h with ⟨kvs, c, _⟩ | ⟨kvs, c, _⟩ | ⟨ss, ys, c, _⟩
    · rcases c.1 with h | ⟨ob, h⟩
      · exact .base (.dK h)
      · exact .fDict h
    · exact .base (.dT c.1)
    · obtain ⟨es, n, kd, _⟩ := c
      exact .kDict kd.at_ rfl
  · cases e
    obtain ⟨a, C, dx, fv, rfl, h1, h2, h3, _⟩ := (show ∃ a C dx fv, x = .ref a ∧ H a = some (.ins C dx fv) ∧ IsGl K _ C ∧ (ClsOk K C ∧ _) ∧ _ from v)
    exact ⟨.ref C, .base (.ins h1 h3.1.cl h3.1.ha h3.1.hn h3.1.htk h3.1.hm), C, rfl, h2, h3.1⟩
  · cases e
def kindB (a b : String) : Bool := a == b || (a == "bool" && b == "int")
theorem kitB_all : (kinds.all fun a => kinds.all fun b => kitB a b == some (kindB a b)) = true := by decide +kernel
theorem kitB_of {a b : String} (ha : a ∈ kinds) (hb : b ∈ kinds) : kitB a b = some (kindB a b) := by
  have := List.all_eq_true.mp (List.all_eq_true.mp kitB_all a ha) b hb
  simpa using this
theorem isGl_inj {K : PySem.W.Frag} {x : Str} {a b : Addr} (h : IsGl K x a) (g : IsGl K x b) : a = b := by
  unfold IsGl at h g
  rw [h] at g
  injection g with g
  injection g with g
  injection g
theorem subKind_ok {K : PySem.W.Frag} {k t : D} {kt tt : Value} {b : Bool} (e : subKind k t = some b) (hk : kVal K k kt) (ht : kVal K t tt) : PySem.W.kitOne K kt tt = some b := by
  unfold subKind at e
  split at e
  · split at e
    · cases e
      obtain ⟨rfl, h1⟩ := hk
      obtain ⟨rfl, h2⟩ := ht
      exact kit_ty (kitB_of h1 h2)
    · cases e
  · cases e
    obtain ⟨rfl, h1⟩ := hk
    obtain ⟨C, rfl, h2, h3⟩ := ht
    exact h3.k1 _ h1
  · split at e
    · cases e
      obtain ⟨C, rfl, h2, h3⟩ := hk
      obtain ⟨rfl, h1⟩ := ht
      exact h3.k2 _ h1
    · cases e
  · split at e
    · rename_i hc
      cases e
      subst hc
      obtain ⟨C, rfl, h2, h3⟩ := hk
      obtain ⟨C', rfl, h4, h5⟩ := ht
      cases isGl_inj h2 h4
      unfold PySem.W.kitOne
      simp
    · cases e
  · cases e
theorem kVal_clsV {K : PySem.W.Frag} {w : World} {ι : List Addr} {M : Addr → Prop} {H : Hp} {t : D} {c : V} (h : Rep K w ι M H t c) (hk : ∃ n, (t = .ty n ∧ n ∈ kinds) ∨ ∃ x, t = .cls x) : ∃ u, ClsV c u ∧ kVal K t u := by
  obtain ⟨n, h1 | ⟨x, h1⟩⟩ := hk
  · obtain ⟨rfl, hm⟩ := h1
    cases (show c = .ty n from h)
    exact ⟨_, .ty n, rfl, hm⟩
  · subst h1
    obtain ⟨a, rfl, g, ok⟩ := h
    exact ⟨_, .own a, a, rfl, g, ok⟩
theorem subKind_kinds {k t : D} {b : Bool} (e : subKind k t = some b) : ∃ n, (t = .ty n ∧ n ∈ kinds) ∨ ∃ x, t = .cls x := by
  unfold subKind at e
  split at e
  · rename_i a c
    split at e
    · rename_i h; exact ⟨c, .inl ⟨rfl, by simpa using h⟩⟩
    · cases e
  · exact ⟨"", .inr ⟨_, rfl⟩⟩
  · rename_i a c
    split at e
    · rename_i h; exact ⟨c, .inl ⟨rfl, by simpa using h⟩⟩
    · cases e
  · exact ⟨"", .inr ⟨_, rfl⟩⟩
  · cases e
def anyKind (k : D) (ts : List D) : Option Bool := ts.foldr (fun t r => match subKind k t, r with
        | some a, some b => some (a || b)
        | _, _ => none) (some false)
theorem anyKind_ok {K : PySem.W.Frag} {w : World} {ι : List Addr} {M : Addr → Prop} {H : Hp} {k : D} {kt : Value} (hk : kVal K k kt) : ∀ (ts : List D) (cs : List V) (b : Bool), anyKind k ts = some b → Reps K w ι M H ts cs →
    ∃ us, Paired ClsV cs us ∧ PySem.W.kitAny K kt us = some b
  | [], cs, b, e, r => by
    cases Reps.nil_inv r
    cases e
    exact ⟨[], .nil, rfl⟩
  | t :: ts, cs, b, e, r => by
    obtain ⟨c, cs', rfl, h1, h2⟩ := r.cons_inv
    have e' : (match subKind k t, anyKind k ts with
        | some a, some b => some (a || b)
        | _, _ => none) = some b := e
    split at e'
    · rename_i p q hp hq
      cases e'
      obtain ⟨us, i1, i2⟩ := anyKind_ok hk ts cs' q hq h2
      obtain ⟨u, g1, g2⟩ := kVal_clsV h1 (subKind_kinds hp)
      refine ⟨u :: us, .cons g1 i1, kitAny_cons (subKind_ok hp hk g2) (fun z => ?_) (fun z => by rw [z]; rfl)⟩
      subst z
      rw [Bool.false_or]
      exact i2
    · cases e'
theorem call_isiX : CallR X (.builtin "isinstance") (caD X.K X.w .isi) := by
  intro pins s σ H xs us Q I r h
  obtain ⟨ι, M, ds, d, hot, vs, e, o⟩ := h
  cases vs with
  | nil => cases e
  | @cons dx x _ _ v1 vs =>
    cases vs with
    | nil => cases e
    | @cons dy y _ _ v2 vs =>
      cases vs with
      | cons _ _ => cases e
      | nil =>
        replace e : blO (isiD dx dy) = some d := e
        cases hb : isiD dx dy with
        | none => rw [hb] at e; cases e
        | some b =>
          rw [hb] at e; cases e
          unfold isiD at hb
          split at hb
          · rename_i ts
            split at hb
            · rename_i k hk
              obtain ⟨t, ty, kv⟩ := tyx hk v1
              obtain ⟨a, cs, rfl, h1, r1⟩ := v2.tup
              obtain ⟨ws, g1, g2⟩ := anyKind_ok kv ts cs b hb r1
              obtain ⟨u1, u2, rfl, r1', r2'⟩ := vals2 r
              cases (show u2 = Value.ref a from r2')
              obtain ⟨P, Z, p, hx⟩ := kit_of I r1' ty
              obtain ⟨its, rv, ⟨ob, ho, hc, n, hd⟩, _⟩ := I.tuple h1
              have e3 := ClsV.all g1 rv
              subst e3
              obtain ⟨oc, od, dt, sl⟩ := ob
              simp only at hc hd
              subst hc hd
              exact PySem.W.kia_tup Z I.kIn p ho g2 hx fun tk => ⟨.bl b, H, I.tok tk, rfl, o.bl⟩
            · cases hb
          · split at hb
            · rename_i k hk
              obtain ⟨t, ty, kv⟩ := tyx hk v1
              have kk := subKind_kinds hb
              have rr : Rep X.K X.w ι M H dy y := by
                obtain ⟨n, ⟨rfl, _⟩ | ⟨x, rfl⟩⟩ := kk
                · exact v2
                · exact v2
              obtain ⟨u, g1, g2⟩ := kVal_clsV rr kk
              exact call_isi pins s σ H _ us Q I r ⟨x, y, t, u, b, rfl, g1, ty, subKind_ok hb kv g2, o.bl⟩
            · cases hb
theorem Reps.bools {K : PySem.W.Frag} {w : World} {ι : List Addr} {M : Addr → Prop} {H : Hp} : ∀ {ds : List D} {xs : List V}, ds.all isBl = true → Reps K w ι M H ds xs → ∃ bs : List Bool, ds = bs.map .bl ∧ xs = bs.map .bl
  | [], _, _, r => ⟨[], rfl, Reps.nil_inv r⟩
  | d :: ds, _, h, r => by
    obtain ⟨x, q, rfl, h1, h2⟩ := r.cons_inv
    rw [List.all_cons, Bool.and_eq_true] at h
    obtain ⟨bs, e1, e2⟩ := Reps.bools h.2 h2
    cases d with
    | bl b =>
      cases (show x = .bl b from h1)
      exact ⟨b :: bs, by rw [e1]; rfl, by rw [e2]; rfl⟩
    | _ => cases h.1
theorem all_bl (bs : List Bool) : (bs.map D.bl).all blOf = bs.all id := by rw [List.all_map]; rfl
theorem any_bl (bs : List Bool) : (bs.map D.bl).any blOf = bs.any id := by rw [List.any_map]; rfl
theorem call_allX (hc : X.calm = true) : CallR X (.builtin "all") (caD X.K X.w .all) := by
  intro pins s σ H xs us Q I r h
  obtain ⟨ι, M, ds, d, hot, vs, e, o⟩ := h
  cases vs with
  | nil => cases e
  | @cons dx x _ _ v1 vs =>
    cases vs with
    | cons _ _ => cases e
    | nil =>
      replace e : allO dx = some d := e
      unfold allO at e
      split at e
      · rename_i zs
        split at e
        · rename_i hb
          cases e
          obtain ⟨a, ys, rfl, h1, r1⟩ := v1.lst
          obtain ⟨bs, rfl, rfl⟩ := r1.bools hb
          exact cr_all hc pins s σ H _ us Q I r ⟨a, bs, rfl, h1, by rw [← all_bl]; exact o.bl⟩
        · cases e
      · cases e
theorem call_anyX (hc : X.calm = true) : CallR X (.builtin "any") (caD X.K X.w .any) := by
  intro pins s σ H xs us Q I r h
  obtain ⟨ι, M, ds, d, hot, vs, e, o⟩ := h
  cases vs with
  | nil => cases e
  | @cons dx x _ _ v1 vs =>
    cases vs with
    | cons _ _ => cases e
    | nil =>
      replace e : anyO dx = some d := e
      unfold anyO at e
      split at e
      · rename_i zs
        split at e
        · rename_i hb
          cases e
          obtain ⟨a, ys, rfl, h1, r1⟩ := v1.lst
          obtain ⟨bs, rfl, rfl⟩ := r1.bools hb
          exact cr_any hc pins s σ H _ us Q I r ⟨a, bs, rfl, h1, by rw [← any_bl]; exact o.bl⟩
        · cases e
      · cases e
end
end R
end
section
set_option Elab.async false
set_option linter.all false
set_option maxRecDepth 100000
set_option maxHeartbeats 4000000
namespace R
open PySem PySem.Spec PyProof.Rows L2
def leS (a b : Str) : Prop := ¬ b.cps.toList < a.cps.toList
theorem leS_trans {a b c : Str} (h : leS a b) (g : leS b c) : leS a c := by
  unfold leS at *
  rw [List.not_lt] at *
  exact List.le_trans h g
theorem leS_total (a b : Str) : leS a b ∨ leS b a := by
  unfold leS
  rw [List.not_lt, List.not_lt]
  exact List.le_total _ _
theorem leS_anti {a b : Str} (h : leS a b) (g : leS b a) : a = b := by
  unfold leS at *
  rw [List.not_lt] at *
  have := List.le_antisymm h g
  cases a; cases b
  simp only at this
  congr 1
  exact Array.ext' this
theorem insS_perm (s : Str) : ∀ l, (insS s l).Perm (s :: l)
  | [] => List.Perm.refl _
  | t :: r => by
    unfold insS
    split
    · exact List.Perm.refl _
    · exact ((insS_perm s r).cons t).trans (List.Perm.swap s t r)
theorem sortS_perm : ∀ l, (sortS l).Perm l
  | [] => List.Perm.refl _
  | s :: r => (insS_perm s (sortS r)).trans ((sortS_perm r).cons s)
theorem insS_pw (s : Str) : ∀ l, l.Pairwise leS → (insS s l).Pairwise leS
  | [], _ => List.pairwise_singleton _ _
  | t :: r, h => by
    obtain ⟨h1, h2⟩ := List.pairwise_cons.mp h
    unfold insS
    split
    · rename_i hc
      refine List.pairwise_cons.mpr ⟨fun b hb => ?_, h⟩
      have st : leS s t := fun z => absurd (List.lt_trans z hc) (List.lt_irrefl _)
      rcases List.mem_cons.mp hb with rfl | hb
      · exact st
      · exact leS_trans st (h1 b hb)
    · rename_i hc
      refine List.pairwise_cons.mpr ⟨fun b hb => ?_, insS_pw s r h2⟩
      rcases List.mem_cons.mp ((insS_perm s r).subset hb) with rfl | hb
      · exact hc
      · exact h1 b hb
theorem sortS_pw : ∀ l, (sortS l).Pairwise leS
  | [] => List.Pairwise.nil
  | s :: r => insS_pw s _ (sortS_pw r)
theorem risingS_pw : ∀ (l : List Str) (p : Str), risingS p l = true → (∀ x ∈ l, leS p x) ∧ l.Pairwise leS
  | [], _, _ => ⟨fun _ h => (by cases h), List.Pairwise.nil⟩
  | x :: r, p, h => by
    unfold risingS at h
    rw [Bool.and_eq_true] at h
    obtain ⟨h1, h2⟩ := h
    obtain ⟨i1, i2⟩ := risingS_pw r x h2
    have px : leS p x := by
      rw [PyProof.Rows.ltCps_eq] at h1
      intro z
      simp [z] at h1
    refine ⟨fun y hy => ?_, List.pairwise_cons.mpr ⟨i1, i2⟩⟩
    rcases List.mem_cons.mp hy with rfl | hy
    · exact px
    · exact leS_trans px (i1 y hy)
theorem sortedS_pw {l : List Str} (h : sortedS l = true) : l.Pairwise leS := by
  cases l with
  | nil => exact List.Pairwise.nil
  | cons x r =>
    obtain ⟨a, b⟩ := risingS_pw r x h
    exact List.pairwise_cons.mpr ⟨a, b⟩
theorem sortS_uniq {l ys : List Str} (p : ys.Perm l) (h : sortedS ys = true) : ys = sortS l :=
  List.Perm.eq_of_pairwise (le := leS) (fun _ _ _ _ a b => leS_anti a b) (sortedS_pw h) (sortS_pw l) (p.trans (sortS_perm l).symm)
theorem insI_perm (s : Int) : ∀ l, (insI s l).Perm (s :: l)
  | [] => List.Perm.refl _
  | t :: r => by
    unfold insI
    split
    · exact List.Perm.refl _
    · exact ((insI_perm s r).cons t).trans (List.Perm.swap s t r)
theorem sortI_perm : ∀ l, (sortI l).Perm l
  | [] => List.Perm.refl _
  | s :: r => (insI_perm s (sortI r)).trans ((sortI_perm r).cons s)
theorem insI_pw (s : Int) : ∀ l, l.Pairwise (· ≤ ·) → (insI s l).Pairwise (· ≤ ·)
  | [], _ => List.pairwise_singleton _ _
  | t :: r, h => by
    obtain ⟨h1, h2⟩ := List.pairwise_cons.mp h
    unfold insI
    split
    · rename_i hc
      refine List.pairwise_cons.mpr ⟨fun b hb => ?_, h⟩
      rcases List.mem_cons.mp hb with rfl | hb
      · exact hc
      · exact Int.le_trans hc (h1 b hb)
    · rename_i hc
      refine List.pairwise_cons.mpr ⟨fun b hb => ?_, insI_pw s r h2⟩
      rcases List.mem_cons.mp ((insI_perm s r).subset hb) with rfl | hb
      · omega
      · exact h1 b hb
theorem sortI_pw : ∀ l, (sortI l).Pairwise (· ≤ ·)
  | [] => List.Pairwise.nil
  | s :: r => insI_pw s _ (sortI_pw r)
theorem sortI_uniq {l ys : List Int} (p : ys.Perm l) (h : ys.Pairwise (· ≤ ·)) : ys = sortI l :=
  List.Perm.eq_of_pairwise (le := (· ≤ ·)) (fun _ _ _ _ a b => Int.le_antisymm a b) h (sortI_pw l) (p.trans (sortI_perm l).symm)

section
variable {X : Cx}
theorem strsD_rep {K : PySem.W.Frag} {w : World} {ι : List Addr} {M : Addr → Prop} {H : Hp} : ∀ {ds : List D} {xs : List V} {ss : List Str}, strsD ds = some ss → Reps K w ι M H ds xs → ds = ss.map .str ∧ xs = ss.map .str ∧ ∀ s ∈ ss, s.length ≤ strMax
  | [], _, _, e, r => by cases e; exact ⟨rfl, Reps.nil_inv r, fun _ h => (by cases h)⟩
  | d :: ds, _, ss, e, r => by
    obtain ⟨x, q, rfl, h1, h2⟩ := r.cons_inv
    cases d with
    | str s =>
      cases hq : strsD ds with
      | none => rw [show strsD (.str s :: ds) = (strsD ds).map (s :: ·) from rfl, hq] at e; cases e
      | some zs =>
        rw [show strsD (.str s :: ds) = (strsD ds).map (s :: ·) from rfl, hq] at e
        cases e
        obtain ⟨e1, e2, e3⟩ := strsD_rep hq h2
        obtain ⟨rfl, hl⟩ := (show x = .str s ∧ _ from h1)
        refine ⟨by rw [e1]; rfl, by rw [e2]; rfl, fun z hz => ?_⟩
        rcases List.mem_cons.mp hz with rfl | hz
        · exact hl
        · exact e3 z hz
    | _ => cases e
theorem intsD_rep {K : PySem.W.Frag} {w : World} {ι : List Addr} {M : Addr → Prop} {H : Hp} : ∀ {ds : List D} {xs : List V} {ss : List Int}, intsD ds = some ss → Reps K w ι M H ds xs → ds = ss.map .int ∧ xs = ss.map .int
  | [], _, _, e, r => by cases e; exact ⟨rfl, Reps.nil_inv r⟩
  | d :: ds, _, ss, e, r => by
    obtain ⟨x, q, rfl, h1, h2⟩ := r.cons_inv
    cases d with
    | int s =>
      cases hq : intsD ds with
      | none => rw [show intsD (.int s :: ds) = (intsD ds).map (s :: ·) from rfl, hq] at e; cases e
      | some zs =>
        rw [show intsD (.int s :: ds) = (intsD ds).map (s :: ·) from rfl, hq] at e
        cases e
        obtain ⟨e1, e2⟩ := intsD_rep hq h2
        cases (show x = .int s from h1)
        exact ⟨by rw [e1]; rfl, by rw [e2]; rfl⟩
    | _ => cases e
theorem reps_strs {K : PySem.W.Frag} {w : World} {ι : List Addr} {M : Addr → Prop} {H : Hp} : ∀ {ss : List Str}, (∀ s ∈ ss, s.length ≤ strMax) → Reps K w ι M H (ss.map .str) (ss.map .str)
  | [], _ => rfl
  | s :: ss, h => .cons ⟨rfl, h s List.mem_cons_self⟩ (reps_strs fun z hz => h z (List.mem_cons_of_mem _ hz))
theorem reps_ints {K : PySem.W.Frag} {w : World} {ι : List Addr} {M : Addr → Prop} {H : Hp} : ∀ {ss : List Int}, Reps K w ι M H (ss.map .int) (ss.map .int)
  | [] => rfl
  | s :: ss => .cons rfl reps_ints
theorem call_sortedX : CallR X (.builtin "sorted") (caD X.K X.w .sorted) := by
  intro pins s σ H xs us Q I r h
  obtain ⟨ι, M, ds, d, hot, vs, e, o⟩ := h
  cases vs with
  | nil => cases e
  | @cons dx x _ _ v1 vs =>
    cases vs with
    | cons _ _ => cases e
    | nil =>
      replace e : sortO dx = some d := e
      unfold sortO at e
      split at e
      · rename_i zs
        obtain ⟨a, ys, rfl, h1, r1⟩ := v1.lst
        cases hs : sortedD zs with
        | none => rw [hs] at e; cases e
        | some ws =>
          rw [hs] at e
          cases e
          unfold sortedD at hs
          split at hs
          · rename_i ss hss
            split at hs
            · rename_i hl
              cases hs
              obtain ⟨e1, e2, e3⟩ := strsD_rep hss r1
              rw [e2] at h1
              refine cr_sortedS pins s σ H _ us Q I r ⟨a, ss, rfl, h1, hl, fun ys' p hp hs hn => ?_⟩
              have := sortS_uniq hp hs
              subst this
              exact o.newLst hot (reps_strs fun z hz => e3 z ((sortS_perm ss).subset hz)) hn
            · cases hs
          · split at hs
            · rename_i is his
              split at hs
              · rename_i hl
                cases hs
                obtain ⟨e1, e2⟩ := intsD_rep his r1
                rw [e2] at h1
                refine cr_sorted pins s σ H _ us Q I r ⟨a, is, rfl, h1, hl, fun ys' p hp hs hn => ?_⟩
                have := sortI_uniq hp hs
                subst this
                exact o.newLst hot reps_ints hn
              · cases hs
            · cases hs
      · cases e
theorem call_tupleX : CallR X (.type "tuple") (caD X.K X.w .tuple) := by
  intro pins s σ H xs us Q I r h
  obtain ⟨ι, M, ds, d, hot, vs, e, o⟩ := h
  cases vs with
  | nil => cases e
  | @cons dx x _ _ v1 vs =>
    cases vs with
    | cons _ _ => cases e
    | nil =>
      replace e : tupleD dx = some d := e
      unfold tupleD at e
      split at e
      · cases e
        obtain ⟨a, ys, rfl, h1, r1⟩ := v1.lst
        exact call_tuple_of pins s σ H _ us Q I r ⟨a, ys, rfl, .inl ⟨h1, fun l hl => o.newTup hot r1 hl⟩⟩
      · cases e
        obtain ⟨a, ys, rfl, h1, r1⟩ := v1.tup
        exact call_tuple_of pins s σ H _ us Q I r ⟨a, ys, rfl, .inr ⟨h1, o.here v1.tupRep⟩⟩
      · cases e
theorem keys_rep {K : PySem.W.Frag} {w : World} {ι : List Addr} {M : Addr → Prop} {H : Hp} : ∀ {kvs : List (Key × V)}, (∀ p ∈ kvs, keyOk p.1) → Reps K w ι M H (kvs.map fun p => keyD p.1) (kvs.map fun p => kV p.1)
  | [], _ => rfl
  | p :: kvs, h => by
    refine .cons ?_ (keys_rep fun q hq => h q (List.mem_cons_of_mem _ hq))
    have := h p List.mem_cons_self
    obtain ⟨k, v⟩ := p
    cases k with
    | inl i => exact rfl
    | inr z => exact ⟨rfl, this⟩
end
end R
end
section
set_option Elab.async false
set_option linter.all false
set_option maxRecDepth 100000
set_option maxHeartbeats 4000000
namespace R
open PySem PySem.Spec PyProof.Rows L2
section
variable {X : Cx}
theorem vals_at {xs : List V} {us : List Value} (hl : us.length = xs.length) (h : ∀ (j : Nat) (v : Value), us[j]? = some v → ∃ x, xs[j]? = some x ∧ RelV x v) : Vals xs us := by
  induction xs generalizing us with
  | nil => cases us with
    | nil => exact .nil
    | cons _ _ => cases hl
  | cons x xs ih => cases us with
    | nil => cases hl
    | cons u us =>
      obtain ⟨y, e, r⟩ := h 0 u rfl
      cases e
      exact .cons r (ih (Nat.succ.inj hl) fun j v e => h (j + 1) v e)
theorem signs_rep {K : PySem.W.Frag} {w : World} {ι : List Addr} {M : Addr → Prop} {H : Hp} : ∀ (cs : List Nat), Reps K w ι M H (cs.map fun c => D.str ⟨#[c]⟩) (cs.map fun c => V.str ⟨#[c]⟩)
  | [] => rfl
  | c :: cs => .cons ⟨rfl, sign_ok c⟩ (signs_rep cs)
/-- the result is a new list -/
def OutL (K : PySem.W.Frag) (w : World) (ι : List Addr) (M : Addr → Prop) (H : Hp) (ds : List D) (Q : VK) : Prop := ∀ p xs, H p = none → Reps K w ι M H ds xs → Q (.ref p) (upd H p (.lst xs))
def caN (K : PySem.W.Frag) (w : World) : List V → Hp → VK → Prop := fun xs H Q => ∃ ι M ds d, Hot M H ∧ Paired (fun d v => Vw K w ι M H d v) ds xs ∧ primD .list ds = some (.lst d) ∧ OutL K w ι M H d Q
theorem call_listN (hcm : X.calm = true) : CallR X (.type "list") (caN X.K X.w) := by
  intro pins s σ H xs us Q I r h
  obtain ⟨ι, M, ds, d, hot, vs, e, o⟩ := h
  cases vs with
  | nil => cases e
  | @cons dx x _ _ v1 vs =>
    cases vs with
    | cons _ _ => cases e
    | nil =>
      replace e : lstO (listD dx) = some (.lst d) := e
      cases hb : listD dx with
      | none => rw [hb] at e; cases e
      | some zs =>
        rw [hb] at e; cases e
        unfold listD at hb
        split at hb
        · cases hb
          obtain ⟨a, ys, rfl, h1, r1⟩ := v1.lst
          exact call_list_of pins s σ H _ us Q I r ⟨a, ys, rfl, .inl h1, fun l hl => o _ _ hl r1⟩
        · cases hb
          obtain ⟨a, ys, rfl, h1, r1⟩ := v1.tup
          exact call_list_of pins s σ H _ us Q I r ⟨a, ys, rfl, .inr h1, fun l hl => o _ _ hl r1⟩
        · rename_i z
          cases hb
          obtain ⟨rfl, hl⟩ := v1.str
          obtain ⟨u, rfl, rx⟩ := vals1 r
          obtain ⟨t, rfl⟩ := rx
          have hz : z.cps.size ≤ sizeLine := strMax_line hl
          refine call_list_str (I.ok.hd hcm) z t (fun h' tk acc c' hk hD hacc => ?_) hz
          have hv : Vals (z.cps.toList.map fun c => V.str ⟨#[c]⟩) acc.toList := by
            refine vals_at (by rw [Array.length_toList, hacc.1]; simp) fun j v e => ?_
            obtain ⟨c, u, e1, rfl⟩ := hacc.2 j v (by rw [← Array.getElem?_toList]; exact e)
            refine ⟨.str ⟨#[c]⟩, ?_, u, rfl⟩
            rw [List.getElem?_map, Array.getElem?_toList, e1]; rfl
          refine ⟨.ref s.heap.objs.size, upd H s.heap.objs.size (.lst (z.cps.toList.map fun c => V.str ⟨#[c]⟩)), I.laid (t' := tk) hk (Nat.le_refl _)
            (show ObjOk X.prog X.w _ _ _ (.lst _) from ⟨by rw [List.length_map, Array.length_toList]; exact hz, acc.toList, c', hv, by rw [Array.toArray_toList]; exact hD⟩), rfl, o _ _ (I.hok.fresh (Nat.le_refl _)) (signs_rep _)⟩
        · rename_i ks ws
          split at hb
          · rename_i hk
            cases hb
            obtain ⟨a, rfl, h⟩ := (show ∃ a, x = .ref a ∧ _ from v1)
            rcases h with ⟨kvs, c, e, ok, _⟩ | ⟨kvs, c, ne, e, _⟩ | ⟨ss, ys, c, ne, e, ok, rr⟩
            · rw [e] at o
              exact call_listD hcm pins s σ H _ us Q I r ⟨a, kvs, rfl, c.1, fun p hp => o _ _ hp (keys_rep ok)⟩
            · rw [e, dT_keys ne] at hk; cases hk
            · rw [Vals.ref1 r]
              obtain ⟨lo, kvs, hd, k1, k2, kz⟩ := kdic_of I c
              obtain ⟨ep, hat⟩ := hd.dictAt
              refine PySem.W.kdl_call (PySem.W.kdl_dict (knd := strKind X.prog X.w) (kvs := kvs) (ep := ep) lo) (I.ok.hd hcm) hat kz fun h' tk acc c' hk hD hacc => ?_
              have hlen : acc.toList.length = ss.length := by rw [Array.length_toList, hacc.1, ← k1, List.length_map]
              have hv : Vals (ss.map V.str) acc.toList := by
                refine vals_at (by rw [hlen, List.length_map]) fun j v e => ?_
                obtain ⟨k, x, e1, e2⟩ := hacc.2 j v (by rw [← Array.getElem?_toList]; exact e)
                refine ⟨.str k, ?_, ?_⟩
                · rw [← k1, List.getElem?_map, List.getElem?_map, e1]; rfl
                · obtain ⟨t, rfl⟩ := Value.isStrOf_shape e2
                  exact ⟨t, rfl⟩
              rw [e] at o
              refine ⟨.ref s.heap.objs.size, upd H s.heap.objs.size (.lst (ss.map V.str)), I.laid (t' := tk) hk (Nat.le_refl _)
                (show ObjOk X.prog X.w _ _ _ (.lst _) from ⟨by rw [← hv.length] at hlen; rw [hv.length, Array.length_toList, hacc.1]; exact kz, acc.toList, c', hv, by rw [Array.toArray_toList]; exact hD⟩), rfl, o _ _ (I.hok.fresh (Nat.le_refl _)) (reps_strs ok)⟩
          · cases hb
        · cases hb
theorem call_listX (hcm : X.calm = true) : CallR X (.type "list") (caD X.K X.w .list) := by
  intro pins s σ H xs us Q I r h
  obtain ⟨ι, M, ds, d, hot, vs, e, o⟩ := h
  have hd : ∃ zs, d = .lst zs := by
    cases ds with
    | nil => cases e
    | cons a ds => cases ds with
      | nil =>
        have e' : lstO (listD a) = some d := e
        cases hb : listD a with
        | none => rw [hb] at e'; cases e'
        | some zs => rw [hb] at e'; cases e'; exact ⟨zs, rfl⟩
      | cons _ _ => cases e
  obtain ⟨zs, rfl⟩ := hd
  exact call_listN hcm pins s σ H xs us Q I r ⟨ι, M, ds, zs, hot, vs, e, fun p xs hp r => o.newLst hot r hp⟩
/-- truth -/
def truD (K : PySem.W.Frag) (w : World) (x : V) (H : Hp) (k : Bool) : Prop := ∃ ι M dx, Vw K w ι M H dx x ∧ tru dx = some k
theorem isEmpty_rep {K : PySem.W.Frag} {w : World} {ι : List Addr} {M : Addr → Prop} {H : Hp} {ds : List D} {xs : List V} (r : Reps K w ι M H ds xs) : ds.isEmpty = xs.isEmpty := by
  cases ds with
  | nil => rw [Reps.nil_inv r]; rfl
  | cons d ds => obtain ⟨x, q, rfl, _⟩ := r.cons_inv; rfl
theorem truV_D {K : PySem.W.Frag} {w : World} {x : V} {H : Hp} {k : Bool} (h : truD K w x H k) : TruV K x H k := by
  obtain ⟨ι, M, dx, v, e⟩ := h
  unfold tru at e
  split at e
  · cases e; cases v.non; exact rfl
  · cases e; cases v.bl; exact rfl
  · cases e; cases v.int; exact rfl
  · cases e
    obtain ⟨rfl, hl⟩ := v.str
    exact ⟨strMax_line hl, rfl⟩
  · cases e
    obtain ⟨a, xs, rfl, h, r⟩ := v.tup
    exact .inr (.inl ⟨xs, h, by rw [isEmpty_rep r]⟩)
  · cases e
    obtain ⟨a, xs, rfl, h, r⟩ := v.lst
    exact .inl ⟨xs, h, by rw [isEmpty_rep r]⟩
  · cases e
theorem tru_D : TruR X (fun x H Q => ∃ k, truD X.K X.w x H k ∧ Q k H) := by
  intro pins s σ H x v Q I rx h
  obtain ⟨k, e, q⟩ := h
  exact tru_ok pins s σ H x v Q I rx ⟨k, truV_D e, q⟩

def mtD (K : PySem.W.Frag) (w : World) (p : Prim) : V → List V → Hp → VK → Prop := fun x xs H Q => caD K w p (x :: xs) H Q
theorem joinLen (a : Str) : ∀ (ys : List Str), (ys.map (·.length)).sum + ys.length * a.length = sumLen a ys
  | [] => by simp [sumLen]
  | y :: ys => by
    have := joinLen a ys
    unfold sumLen at *
    simp only [List.map_cons, List.sum_cons, List.length_cons, Nat.succ_mul]
    omega
theorem str_app_len (a b : Str) : (a ++ b).length = a.length + b.length := by
  show (a.cps ++ b.cps).size = a.cps.size + b.cps.size
  exact Array.size_append
theorem fold_len (g : Str) : ∀ (l : List Str) (acc : Array Nat), (l.foldl (fun acc p => acc ++ g.cps ++ p.cps) acc).size = acc.size + (l.map fun p => p.length + g.length).sum
  | [], acc => by simp
  | p :: l, acc => by
    rw [List.foldl_cons, fold_len g l, List.map_cons, List.sum_cons, Array.size_append, Array.size_append]
    have h1 : g.cps.size = g.length := rfl
    have h2 : p.cps.size = p.length := rfl
    omega
theorem join_len (a : Str) (ys : List Str) : (Txt.join a ys).length ≤ sumLen a ys := by
  cases ys with
  | nil => exact Nat.zero_le _
  | cons y r =>
    show (r.foldl (fun acc p => acc ++ a.cps ++ p.cps) y.cps).size ≤ _
    rw [fold_len]
    unfold sumLen
    rw [List.map_cons, List.sum_cons]
    have : y.cps.size = y.length := rfl
    omega
theorem joinL_run {K : PySem.W.Frag} {w : World} {ι : List Addr} {M : Addr → Prop} {H : Hp} {z : Str} {zs : List D} {xs : List V} {d : D} (e : joinL z zs = some d) (r : Reps K w ι M H zs xs) :
    ∃ ss : List Str, xs = ss.map .str ∧ (ss.map (·.length)).sum + ss.length * z.length ≤ 16777216 ∧ d = .str (Txt.join z ss) ∧ (Txt.join z ss).length ≤ strMax := by
  unfold joinL at e
  split at e
  · rename_i ss hss
    split at e
    · rename_i hl
      cases e
      obtain ⟨e1, e2, e3⟩ := strsD_rep hss r
      refine ⟨ss, e2, ?_, rfl, Nat.le_trans (join_len z ss) hl⟩
      rw [joinLen]
      unfold strMax at hl
      omega
    · cases e
  · cases e
theorem mt_joinX : MtR X "str.join" (mtD X.K X.w .join) := by
  intro pins s σ H x xs v us Q I rx rs h
  obtain ⟨ι, M, ds, d, hot, vs, e, o⟩ := h
  cases vs with
  | @cons dx _ _ _ v1 vs =>
    cases vs with
    | nil => cases e
    | @cons dy y _ _ v2 vs =>
      cases vs with
      | cons _ _ => cases e
      | nil =>
        replace e : joinD dx dy = some d := e
        unfold joinD at e
        split at e
        · rename_i z zs
          obtain ⟨rfl, hz⟩ := v1.str
          obtain ⟨a, ys, rfl, h1, r1⟩ := v2.lst
          obtain ⟨ss, rfl, hl, rfl, fin⟩ := joinL_run e r1
          exact mt_join pins s σ H _ _ v us Q I rx rs ⟨z, a, ss, rfl, rfl, .inl h1, hl, o.str fin⟩
        · rename_i z zs
          obtain ⟨rfl, hz⟩ := v1.str
          obtain ⟨a, ys, rfl, h1, r1⟩ := v2.tup
          obtain ⟨ss, rfl, hl, rfl, fin⟩ := joinL_run e r1
          exact mt_join pins s σ H _ _ v us Q I rx rs ⟨z, a, ss, rfl, rfl, .inr h1, hl, o.str fin⟩
        · cases e
theorem mt_getX (hu : X.A.units + 1 < cLine) : MtR X "dict.get" (mtD X.K X.w .get) := by
  intro pins s σ H x xs v us Q I rx rs h
  obtain ⟨ι, M, ds, d, hot, vs, e, o⟩ := h
  cases vs with
  | @cons dx _ _ _ v1 vs =>
    cases vs with
    | nil => cases e
    | @cons dk k _ _ v2 vs =>
      have main : ∀ (dd : D) (y0 : V) (w0 : Value), getD2 dx dk dd = some d → stableD dd = true → Rep X.K X.w ι M H dd y0 → RelV y0 w0 → ∀ (u0 : Value), RelV k u0 → 
          (∀ (a : Addr) (r : Option V), x = .ref a → DGet H a k r → Q (r.getD y0) H → wpAny (model X.prog X.w) X.A (call (.builtin "dict.get") (v :: us)) (EP X pins σ Q) X.xe s) →
          (∀ (a : Addr) (z : Str) (es : Array DictEntry) (n : Nat) (r : Option Value), x = .ref a → k = .str z → KDict X.K X.w a es n → PySem.W.nsIn X.K a z = some r → (∃ q, RelV q (r.getD w0) ∧ Q q H) → wpAny (model X.prog X.w) X.A (call (.builtin "dict.get") (v :: us)) (EP X pins σ Q) X.xe s) →
          wpAny (model X.prog X.w) X.A (call (.builtin "dict.get") (v :: us)) (EP X pins σ Q) X.xe s := by
        intro dd y0 w0 e hst rdd rw0 u0 ru0 c1 c2
        unfold getD2 at e
        split at e
        · rename_i ks ws _
          rw [if_pos hst] at e
          cases hk : dget ks ws dk with
          | none => rw [hk] at e; cases e
          | some ov =>
            rw [hk] at e
            replace e : some (ov.getD dd) = some d := e
            cases e
            obtain ⟨a, rfl, h⟩ := dic_get hk (show Rep X.K X.w ι M H (.dic ks ws) x from v1) v2
            rcases h with ⟨r, g, h⟩ | ⟨z, es, n, r2, rfl, kd2, hn, hm⟩
            · refine c1 a r rfl g ?_
              cases ov with
              | none => cases r with
                | none => exact o.here rdd
                | some _ => exact h.elim
              | some _ => cases r with
                | none => exact h.elim
                | some _ => exact o.here h
            · refine c2 a z es n r2 rfl rfl kd2 hn ?_
              cases r2 with
              | none =>
                rw [show ov = none from hm] at o
                exact ⟨y0, rw0, o.here rdd⟩
              | some u =>
                obtain ⟨d', q, rfl, h1, h2⟩ := hm
                exact ⟨q, h2, o.here h1⟩
        · cases e
      cases vs with
      | nil =>
        obtain ⟨u0, rfl, ru0⟩ := vals1 rs
        refine main .non .non .none e rfl rfl rfl u0 ru0 (fun a r ea g q => ?_) fun a z es n r ea ek kd hn hq => ?_
        · subst ea
          cases rx
          exact d_get1 hu I g ru0 fun w' s' I' r' => ⟨_, H, I', r', q⟩
        · subst ea ek
          cases rx
          obtain ⟨t, rfl⟩ := ru0
          obtain ⟨q, rq, hq⟩ := hq
          have hm := PySem.W.mapOf_K (prog := X.prog) I.kIn kd.at_ kd.lit
          refine call_meetsIn PySem.F.slot_dict_get hm.typeIs PySem.F.entry_dict_get (PySem.F.args_dict_get_2 _ _) (meets_dict_get (strKind X.prog X.w) a (strKind_is X.prog X.w z t) kd.low) ⟨_, hm, ?_⟩
          rw [PySem.W.find_K kd.at_ hn]
          exact ⟨q, H, I.tok _, rq, hq⟩
      | @cons dd y0 _ _ v3 vs =>
        cases vs with
        | cons _ _ => cases e
        | nil =>
          obtain ⟨u0, u1, rfl, ru0, ru1⟩ := vals2 rs
          replace e : getD2 dx dk dd = some d := e
          have st : stableD dd = true := by
            unfold getD2 at e
            split at e
            · split at e
              · assumption
              · cases e
            · cases e
          refine main dd y0 u1 e st (v3.stable st) ru1 u0 ru0 (fun a r ea g q => ?_) fun a z es n r ea ek kd hn hq => ?_
          · subst ea
            cases rx
            exact d_get2 hu I g ru0 ru1 fun w' s' I' r' => ⟨_, H, I', r', q⟩
          · subst ea ek
            cases rx
            obtain ⟨t, rfl⟩ := ru0
            obtain ⟨q, rq, hq⟩ := hq
            have hm := PySem.W.mapOf_K (prog := X.prog) I.kIn kd.at_ kd.lit
            refine call_meetsIn PySem.F.slot_dict_get hm.typeIs PySem.F.entry_dict_get (PySem.F.args_dict_get_3 _ _ _) (meets_dict_get_default (strKind X.prog X.w) a (strKind_is X.prog X.w z t) kd.low u1) ⟨_, hm, ?_⟩
            rw [PySem.W.find_K kd.at_ hn]
            exact ⟨q, H, I.tok _, rq, hq⟩
def mpD (K : PySem.W.Frag) (w : World) (p : MPrim) : V → List V → Hp → VK → Prop := fun x vs H Q => ∃ ι M a xs ds es d ys, x = .ref a ∧ H a = some (.lst xs) ∧ Reps K w ι M H ds xs ∧ Reps K w ι M H es vs ∧ mprimD p ds es = some (d, ys) ∧
  ∀ v ws, Rep K w ι M H d v → Reps K w ι M H ys ws → Q v (upd H a (.lst ws))
theorem mt_appendX : MtR X "list.append" (mpD X.K X.w .append) := by
  intro pins s σ H x vs v us Q I rx rv h
  obtain ⟨ι, M, a, xs, ds, es, d, ys, rfl, ha, r1, r2, e, q⟩ := h
  replace e : appendM ds es = some (d, ys) := e
  unfold appendM at e
  split at e
  · obtain ⟨v1, r, rfl, h1, h2⟩ := r2.cons_inv
    cases Reps.nil_inv h2
    split at e
    · rename_i hl
      cases e
      exact mt_append pins s σ H _ _ v us Q I rx rv ⟨a, xs, v1, rfl, rfl, ha, by rw [← r1.length]; exact hl, q _ _ rfl (r1.append (.cons h1 .nil))⟩
    · cases e
  · cases e
theorem mt_insertX : MtR X "list.insert" (mpD X.K X.w .insert) := by
  intro pins s σ H x vs v us Q I rx rv h
  obtain ⟨ι, M, a, xs, ds, es, d, ys, rfl, ha, r1, r2, e, q⟩ := h
  replace e : insertM ds es = some (d, ys) := e
  unfold insertM at e
  split at e
  · obtain ⟨v1, r, rfl, h1, h2⟩ := r2.cons_inv
    obtain ⟨v2, r', rfl, h3, h4⟩ := h2.cons_inv
    cases Reps.nil_inv h4
    cases (show v1 = .int _ from h1)
    split at e
    · rename_i hl
      cases e
      refine mt_insert pins s σ H _ _ v us Q I rx rv ⟨a, xs, _, v2, rfl, rfl, ha, by rw [← r1.length]; exact hl.2.2, hl.1, by have := hl.2.1; omega, ?_⟩
      rw [List.append_assoc]
      exact q _ _ rfl ((r1.take _).append (.cons h3 (r1.drop _)))
    · cases e
  · cases e
theorem Reps.dropLast {K : PySem.W.Frag} {w : World} {ι : List Addr} {M : Addr → Prop} {H : Hp} {ds : List D} {xs : List V} (r : Reps K w ι M H ds xs) : Reps K w ι M H ds.dropLast xs.dropLast := by
  rw [List.dropLast_eq_take, List.dropLast_eq_take, r.length]
  exact r.take _
theorem mt_popX (hz : True) : MtR X "list.pop" (mpD X.K X.w .pop) := by
  intro pins s σ H x vs v us Q I rx rv h
  obtain ⟨ι, M, a, xs, ds, es, d, ys, rfl, ha, r1, r2, e, q⟩ := h
  replace e : popM ds es = some (d, ys) := e
  unfold popM at e
  split at e
  · cases Reps.nil_inv r2
    split at e
    · rename_i z hy
      cases e
      obtain ⟨y, hy', ry⟩ := r1.get hy
      rw [r1.length] at hy'
      exact mt_pop pins s σ H _ _ v us Q I rx rv ⟨a, xs, y, rfl, rfl, ha, hy', q _ _ ry r1.dropLast⟩
    · cases e
  · rename_i i
    obtain ⟨v1, r, rfl, h1, h2⟩ := r2.cons_inv
    cases Reps.nil_inv h2
    cases (show v1 = .int _ from h1)
    split at e
    · rename_i k hk
      split at e
      · rename_i z hy
        cases e
        obtain ⟨y, hy', ry⟩ := r1.get hy
        rw [r1.length] at hk
        obtain ⟨g1, g2, g3, g4⟩ := ixN_seq hk
        have hl : xs.length ≤ sizeLine := (I.hok a _ ha).1
        rw [sizeLine_eq] at hl
        exact mt_popAt pins s σ H _ _ v us Q I rx rv ⟨a, xs, i, k, y, rfl, rfl, ha, by omega, by omega, g1, hy', q _ _ ry (r1.eraseIdx k)⟩
      · cases e
    · cases e
  · cases e
def setD (K : PySem.W.Frag) (w : World) : V → V → V → Hp → (Hp → Prop) → Prop := fun o i v H Q => ∃ ι M a xs ds es d ys, o = .ref a ∧ H a = some (.lst xs) ∧ Reps K w ι M H ds xs ∧ Reps K w ι M H es [i, v] ∧ mprimD .put ds es = some (d, ys) ∧
  ∀ ws, Reps K w ι M H ys ws → Q (upd H a (.lst ws))
theorem set_D : PSet X (setD X.K X.w) := by
  intro pins s σ H o i v ov iv u Q I ro ri rv h
  obtain ⟨ι, M, a, xs, ds, es, d, ys, rfl, ha, r1, r2, e, q⟩ := h
  replace e : putM ds es = some (d, ys) := e
  unfold putM at e
  split at e
  · obtain ⟨v1, r, e1, h1, h2⟩ := r2.cons_inv
    cases e1
    obtain ⟨v2, r', e2, h3, h4⟩ := h2.cons_inv
    cases e2
    cases (show i = .int _ from h1)
    split at e
    · rename_i k hk
      cases e
      rw [r1.length] at hk
      exact set_list pins s σ H _ _ _ ov iv u Q I ro ri rv ⟨a, xs, _, k, rfl, rfl, ha, hk, q _ (Reps.set h3 k r1)⟩
    · cases e
  · cases e
end
end R
end
section
set_option Elab.async false
set_option linter.all false
set_option maxRecDepth 100000
set_option maxHeartbeats 4000000
namespace R
open PySem PySem.Spec PyProof.Rows L2

section
variable {K : PySem.W.Frag} {w : World} {F : Entry} {M M' : Addr → Prop} {ι ι' : List Addr} {ρ : Env} {S : Sto} {σ : L2.St} {H H' : Hp}
theorem RelG.isHot (R : RelG K w F M ι S H) : Hot M H := R.hot
theorem RepC.grow {c : Cell} {a : Addr} (g : Grow M H M' H') (hp : ι <+: ι') (ha : ∀ o, H a = some o → H' a = some o) (h : RepC K w ι M H c a) : RepC K w ι' M' H' c a := by
  cases c with
  | lst ds =>
    obtain ⟨xs, e, r⟩ := h
    exact ⟨xs, ha _ e, Reps.grow g hp ds xs r⟩
  | obj c fs ds =>
    obtain ⟨C, dx, fv, e, c1, c2, c3, r⟩ := h
    exact ⟨C, dx, fv, ha _ e, c1, c2, c3, Reps.grow g hp ds _ r⟩
theorem RepS.grow {sv : SV} {v : V} (g : Grow M H M' H') (hp : ι <+: ι') (hm : ∀ a, v = .ref a → sv.isOwn = true → (∀ o, H a = some o → H' a = some o) ∧ M' a ∧ a ∉ ι') (h : RepS K w F ι M H sv v) : RepS K w F ι' M' H' sv v := by
  cases sv with
  | v d => exact Rep.grow g hp d v h
  | ol ds =>
    obtain ⟨a, xs, e, o, ha, r⟩ := h
    obtain ⟨h1, h2, h3⟩ := hm a e rfl
    exact ⟨a, xs, e, ⟨h2, h3, o.2.2⟩, h1 _ ha, Reps.grow g hp ds xs r⟩
  | oo c fs ds =>
    obtain ⟨a, C, dx, fv, e, o, ha, c1, c2, c3, r⟩ := h
    obtain ⟨h1, h2, h3⟩ := hm a e rfl
    exact ⟨a, C, dx, fv, e, ⟨h2, h3, o.2.2⟩, h1 _ ha, c1, c2, c3, Reps.grow g hp ds _ r⟩
/-- what is handed on: an own list is now cold -/
def rm (M : Addr → Prop) (a : Addr) : Addr → Prop := fun b => M b ∧ b ≠ a
theorem grow_rm {a : Addr} : Grow M H (rm M a) H := fun b o h n => ⟨h, fun z => n z.1⟩
theorem getElem?_set_ne' {α : Type} {l : List α} {i j : Nat} {x : α} (h : i ≠ j) : (l.set i x)[j]? = l[j]? := List.getElem?_set_ne h
/-- an own address cooled; sl: what becomes of its slot -/
theorem Rel.cool {a : Addr} (R : Rel K w F M ι ρ S σ H) (ow : Own F ι M a) (ρ' : Env) (hl : ρ'.length = ρ.length)
    (hs : ∀ (i : Nat) sv, ρ'[i]? = some (some sv) → (ρ[i]? = some (some sv) ∧ (sv.isOwn = true → σ[i]? ≠ some (some (.ref a)))) ∨ ∃ d v, sv = .v d ∧ σ[i]? = some (some v) ∧ Rep K w ι (rm M a) H d v) : Rel K w F (rm M a) ι ρ' S σ H where
  hot := fun b h => R.hot b h.1
  sub := fun b h => ⟨R.sub b h, fun z => ow.2.1 (z ▸ h)⟩
  nd := R.nd
  pre := R.pre
  newι := R.newι
  frame := fun b o e x => by
    obtain ⟨h1, h2⟩ := R.frame b o e x
    refine ⟨h1, Iff.trans ⟨fun z => z.1, fun z => ⟨z, fun q => ?_⟩⟩ h2⟩
    subst q
    rcases ow.2.2 with q | q
    · rw [e] at q; cases q
    · exact x q
  exH := R.exH
  lenS := R.lenS
  cell := fun l c b h1 h2 => (R.cell l c b h1 h2).grow grow_rm (List.prefix_refl _) fun _ e => e
  len := hl.trans R.len
  slot := fun i sv e => by
    rcases hs i sv e with ⟨h1, h2⟩ | ⟨d, v, rfl, h1, h2⟩
    · obtain ⟨v, q1, q2⟩ := R.slot i sv h1
      refine ⟨v, q1, q2.grow grow_rm (List.prefix_refl _) fun b eb ob => ?_⟩
      subst eb
      obtain ⟨c, ec, oc, _⟩ := q2.own_at ob
      cases ec
      exact ⟨fun _ e => e, ⟨oc.1, fun z => h2 ob (by rw [q1, z])⟩, oc.2.1⟩
    · exact ⟨v, h1, h2⟩
  own := fun i j sv sv' e o e' o' q => by
    rcases hs i sv e with ⟨h1, _⟩ | ⟨d, v, rfl, _⟩
    · rcases hs j sv' e' with ⟨h3, _⟩ | ⟨d, v, rfl, _⟩
      · exact R.own i j sv sv' h1 o h3 o' q
      · cases o'
    · cases o
/-- a fresh list is laid, and hot -/
def ad (M : Addr → Prop) (a : Addr) : Addr → Prop := fun b => M b ∨ b = a
theorem grow_ad {a : Addr} {o : HO} (hp : H a = none) : Grow M H (ad M a) (upd H a o) := fun b u h n => by
  have ne : b ≠ a := fun z => by rw [z, hp] at h; cases h
  exact ⟨by rw [upd_ne ne]; exact h, fun z => z.elim n ne⟩
theorem Rel.heat {a : Addr} {o : HO} (R : Rel K w F M ι ρ S σ H) (hp : H a = none) : Rel K w F (ad M a) ι ρ S σ (upd H a o) ∧ Own F ι (ad M a) a ∧ ∀ i : Nat, ∀ sv, ρ[i]? = some (some sv) → sv.isOwn = true → σ[i]? ≠ some (some (.ref a)) := by
  obtain ⟨f1, f2, f3, f4⟩ := Rel.fresh R.toRelG hp
  have g : Grow M H (ad M a) (upd H a o) := grow_ad hp
  have keep : ∀ b u, H b = some u → upd H a o b = some u := fun b u h => by rw [upd_ne (fun z => by rw [z, hp] at h; cases h)]; exact h
  refine ⟨⟨⟨fun b h => ?_, fun b h => .inl (R.sub b h), R.nd, R.pre, R.newι, fun b u e x => ?_, fun b x => ?_, R.lenS, fun l c b h1 h2 => (R.cell l c b h1 h2).grow g (List.prefix_refl _) (keep b)⟩, R.len, fun i sv e => ?_, R.own⟩, ⟨.inr rfl, f4, .inl f1⟩, fun i sv e ow z => ?_⟩
  · by_cases c : b = a
    · rw [c, upd_same]; exact fun z => by cases z
    · rw [upd_ne c]; exact R.hot b (h.elim id fun z => absurd z c)
  · obtain ⟨h1, h2⟩ := R.frame b u e x
    have ne : b ≠ a := fun z => by rw [z, hp] at h1; cases h1
    exact ⟨keep b u h1, Iff.trans ⟨fun z => z.elim id fun q => absurd q ne, .inl⟩ h2⟩
  · by_cases c : b = a
    · rw [c, upd_same]; exact fun z => by cases z
    · rw [upd_ne c]; exact R.exH b x
  · obtain ⟨v, q1, q2⟩ := R.slot i sv e
    refine ⟨v, q1, q2.grow g (List.prefix_refl _) fun b eb ob => ?_⟩
    subst eb
    obtain ⟨c, ec, oc, _⟩ := q2.own_at ob
    cases ec
    exact ⟨keep _, .inl oc.1, oc.2.1⟩
  · obtain ⟨v, q1, q2⟩ := R.slot i sv e
    rw [z] at q1; cases q1
    obtain ⟨c, ec, oc, hc⟩ := q2.own_at ow
    cases ec
    exact hc hp
/-- a hot list of ours is changed in its slot -/
theorem grow_upd {a : Addr} {o : HO} (ha : M a) : Grow M H M (upd H a o) := fun b u h n => ⟨by rw [upd_ne (fun (z : b = a) => n (z ▸ ha))]; exact h, n⟩
theorem Rel.setOl {i : Nat} {ds ys : List D} {a : Addr} {ws : List V} (R : Rel K w F M ι ρ S σ H) (hi : ρ[i]? = some (some (.ol ds))) (hs : σ[i]? = some (some (.ref a))) (r : Reps K w ι M H ys ws) :
    Rel K w F M ι (ρ.set i (some (.ol ys))) S σ (upd H a (.lst ws)) := by
  obtain ⟨v, q1, q2⟩ := R.slot i _ hi
  rw [hs] at q1; cases q1
  obtain ⟨b, xs, eb, ow, hb, _⟩ := q2
  cases eb
  have g : Grow M H M (upd H a (.lst ws)) := grow_upd ow.1
  have hil : i < ρ.length := (List.getElem?_eq_some_iff.mp hi).1
  refine ⟨⟨fun b h => ?_, R.sub, R.nd, R.pre, R.newι, fun b u e x => ?_, fun b x => ?_, R.lenS, fun l c b h1 h2 => ?_⟩, by rw [List.length_set]; exact R.len, fun j sv e => ?_, fun j k sv sv' e o e' o' q => ?_⟩
  · by_cases c : b = a
    · rw [c, upd_same]; exact fun z => by cases z
    · rw [upd_ne c]; exact R.hot b h
  · obtain ⟨h1, h2⟩ := R.frame b u e x
    have ne : b ≠ a := fun z => by
      subst z
      rcases ow.2.2 with q | q
      · rw [e] at q; cases q
      · exact x q
    exact ⟨by rw [upd_ne ne]; exact h1, h2⟩
  · by_cases c : b = a
    · rw [c, upd_same]; exact fun z => by cases z
    · rw [upd_ne c]; exact R.exH b x
  · have ne : b ≠ a := fun z => ow.2.1 (z ▸ List.mem_of_getElem? h2)
    exact (R.cell l c b h1 h2).grow g (List.prefix_refl _) fun o e => by rw [upd_ne ne]; exact e
  · by_cases c : i = j
    · subst c
      rw [List.getElem?_set_self hil] at e
      cases e
      exact ⟨_, hs, a, ws, rfl, ow, upd_same, Reps.grow g (List.prefix_refl _) _ _ r⟩
    · rw [List.getElem?_set_ne c] at e
      obtain ⟨v, q1, q2⟩ := R.slot j sv e
      refine ⟨v, q1, q2.grow g (List.prefix_refl _) fun b eb ob => ?_⟩
      subst eb
      obtain ⟨d, ed, od, _⟩ := q2.own_at ob
      cases ed
      have ne : b ≠ a := fun z => c (R.own i j _ _ hi rfl e ob (by rw [hs, q1, z]))
      exact ⟨fun o e => by rw [upd_ne ne]; exact e, od.1, od.2.1⟩
  · have key : ∀ (j : Nat) (sv : SV), (ρ.set i (some (SV.ol ys)))[j]? = some (some sv) → sv.isOwn = true → ∃ sv0, ρ[j]? = some (some sv0) ∧ sv0.isOwn = true := fun j sv e o => by
      by_cases c : i = j
      · subst c; exact ⟨_, hi, rfl⟩
      · rw [List.getElem?_set_ne c] at e; exact ⟨sv, e, o⟩
    obtain ⟨s1, e1, o1⟩ := key j sv e o
    obtain ⟨s2, e2, o2⟩ := key k sv' e' o'
    exact R.own j k s1 s2 e1 o1 e2 o2 q
/-- a cell is changed -/
theorem Rel.setCell {l : Nat} {ds ys : List D} {a : Addr} {ws : List V} (R : Rel K w F M ι ρ S σ H) (hl : S[l]? = some (.lst ds)) (ha : ι[l]? = some a) (r : Reps K w ι M H ys ws) :
    Rel K w F M ι ρ (S.set l (.lst ys)) σ (upd H a (.lst ws)) := by
  have mem : a ∈ ι := List.mem_of_getElem? ha
  have g : Grow M H M (upd H a (.lst ws)) := grow_upd (R.sub a mem)
  have hll : l < S.length := (List.getElem?_eq_some_iff.mp hl).1
  refine ⟨⟨fun b h => ?_, R.sub, R.nd, R.pre, R.newι, fun b u e x => ?_, fun b x => ?_, by rw [List.length_set]; exact R.lenS, fun k c b h1 h2 => ?_⟩, R.len, fun j sv e => ?_, R.own⟩
  · by_cases c : b = a
    · rw [c, upd_same]; exact fun z => by cases z
    · rw [upd_ne c]; exact R.hot b h
  · obtain ⟨h1, h2⟩ := R.frame b u e x
    have ne : b ≠ a := fun z => by
      subst z
      rcases R.newι b mem with q | q
      · exact x q
      · rw [e] at q; cases q
    exact ⟨by rw [upd_ne ne]; exact h1, h2⟩
  · by_cases c : b = a
    · rw [c, upd_same]; exact fun z => by cases z
    · rw [upd_ne c]; exact R.exH b x
  · by_cases c' : l = k
    · subst c'
      rw [List.getElem?_set_self hll] at h1
      cases h1
      rw [ha] at h2; cases h2
      exact ⟨ws, upd_same, Reps.grow g (List.prefix_refl _) _ _ r⟩
    · rw [List.getElem?_set_ne c'] at h1
      have ne : b ≠ a := fun z => by
        subst z
        have l1 : l < ι.length := (List.getElem?_eq_some_iff.mp ha).1
        exact c' ((List.getElem?_inj l1 R.nd).mp (ha.trans h2.symm))
      exact (R.cell k c b h1 h2).grow g (List.prefix_refl _) fun o e => by rw [upd_ne ne]; exact e
  · obtain ⟨v, q1, q2⟩ := R.slot j sv e
    refine ⟨v, q1, q2.grow g (List.prefix_refl _) fun b eb ob => ?_⟩
    subst eb
    obtain ⟨d, ed, od, _⟩ := q2.own_at ob
    cases ed
    have ne : b ≠ a := fun z => od.2.1 (z ▸ mem)
    exact ⟨fun o e => by rw [upd_ne ne]; exact e, od.1, od.2.1⟩
/-- a pending list becomes a cell -/
theorem Rel.toCell {a : Addr} {ds : List D} {xs : List V} (R : Rel K w F M ι ρ S σ H) (ow : Own F ι M a) (nx : F.H a = none) (ha : H a = some (.lst xs)) (r : Reps K w ι M H ds xs) (hs : ∀ (i : Nat) sv, ρ[i]? = some (some sv) → sv.isOwn = true → σ[i]? ≠ some (some (.ref a))) :
    Rel K w F M (ι ++ [a]) ρ (S ++ [.lst ds]) σ H ∧ Rep K w (ι ++ [a]) M H (.mut S.length) (.ref a) := by
  have hp : ι <+: ι ++ [a] := List.prefix_append _ _
  refine ⟨⟨⟨R.hot, fun b h => ?_, ?_, R.pre.trans hp, fun b h => ?_, R.frame, R.exH, by rw [List.length_append, List.length_append, R.lenS]; rfl, fun l c b h1 h2 => ?_⟩, R.len, fun j sv e => ?_, R.own⟩, a, ?_, rfl⟩
  · rcases List.mem_append.mp h with h | h
    · exact R.sub b h
    · rw [List.mem_singleton.mp h]; exact ow.1
  · exact List.nodup_append.mpr ⟨R.nd, by simp, fun x hx y hy z => ow.2.1 (by rw [List.mem_singleton.mp hy] at z; exact z ▸ hx)⟩
  · rcases List.mem_append.mp h with h | h
    · exact R.newι b h
    · rw [List.mem_singleton.mp h]; exact .inr nx
  · by_cases c' : l < S.length
    · rw [List.getElem?_append_left c'] at h1
      rw [List.getElem?_append_left (by rw [← R.lenS]; exact c')] at h2
      exact (R.cell l c b h1 h2).grow Grow.refl hp fun _ e => e
    · have hl : l < (S ++ [Cell.lst ds]).length := (List.getElem?_eq_some_iff.mp h1).1
      rw [List.length_append] at hl
      have el : l = S.length := by simp at hl; omega
      subst el
      rw [List.getElem?_append_right (Nat.le_refl _)] at h1
      rw [R.lenS, List.getElem?_append_right (Nat.le_refl _)] at h2
      simp at h1 h2
      subst h1 h2
      exact ⟨xs, ha, Reps.grow Grow.refl hp _ _ r⟩
  · obtain ⟨v, q1, q2⟩ := R.slot j sv e
    refine ⟨v, q1, q2.grow Grow.refl hp fun b eb ob => ?_⟩
    subst eb
    obtain ⟨d, ed, od, _⟩ := q2.own_at ob
    cases ed
    refine ⟨fun _ e => e, od.1, fun z => ?_⟩
    rcases List.mem_append.mp z with z | z
    · exact od.2.1 z
    · rw [List.mem_singleton.mp z] at q1
      exact hs j sv e ob q1
  · rw [R.lenS, List.getElem?_append_right (Nat.le_refl _)]; simp
end
def AvOk (K : PySem.W.Frag) (w : World) (ι : List Addr) (M : Addr → Prop) (H : Hp) (σ : L2.St) : AV → V → Prop
  | .d x, v => Rep K w ι M H x v
  | .pk i, v => σ[i]? = some (some v)
section
variable {K : PySem.W.Frag} {w : World} {F : Entry} {M M' : Addr → Prop} {ι ι' : List Addr} {ρ : Env} {S : Sto} {σ : L2.St} {H H' : Hp}
theorem AvOk.grow {a : AV} {v : V} (g : Grow M H M' H') (hp : ι <+: ι') (h : AvOk K w ι M H σ a v) : AvOk K w ι' M' H' σ a v := by
  cases a with
  | d x => exact Rep.grow g hp x v h
  | pk i => exact h
theorem viewD_ok {x d : D} {v : V} (R : RelG K w F M ι S H) (h : Rep K w ι M H x v) (e : viewD S x = some d) : Vw K w ι M H d v := by
  cases x with
  | «mut» l =>
    obtain ⟨a, ha, rfl⟩ := h
    unfold viewD at e
    split at e
    · rename_i l' hl
      cases hl
      split at e
      · rename_i ds hs
        cases e
        obtain ⟨xs, h1, h2⟩ := R.cell _ _ a hs ha
        exact ⟨a, xs, rfl, .inl (.inl h1), h2⟩
      · rename_i c fs vs hs
        cases e
        obtain ⟨C, dx, fv, h1, h2, h3, h4, h5⟩ := R.cell _ _ a hs ha
        exact ⟨a, C, dx, fv, rfl, h1, h2, h3, h4, h5⟩
      · cases e
    · rename_i hn; exact absurd rfl (hn l)
  | _ => cases e; exact .of h
theorem AvOk.view {a : AV} {d : D} {v : V} (R : Rel K w F M ι ρ S σ H) (h : AvOk K w ι M H σ a v) (e : lookAV ρ S a = some d) : Vw K w ι M H d v := by
  cases a with
  | d x => exact viewD_ok R.toRelG h e
  | pk i =>
    unfold lookAV at e
    split at e
    · rename_i h1; cases h1
    · rename_i i' h1
      cases h1
      split at e
      · rename_i x hx
        obtain ⟨v', q1, q2⟩ := R.slot i _ hx
        rw [show σ[i]? = some (some v) from h] at q1; cases q1
        exact viewD_ok R.toRelG q2 e
      · rename_i ds hx
        cases e
        obtain ⟨v', q1, a, xs, e, o, ha, r⟩ := R.slot i _ hx
        rw [show σ[i]? = some (some v) from h] at q1; cases q1
        exact ⟨a, xs, e, .inl (.inl ha), r⟩
      · rename_i c fs vs hx
        cases e
        obtain ⟨v', q1, a, C, dx, fv, e, o, ha, c1, c2, c3, r⟩ := R.slot i _ hx
        rw [show σ[i]? = some (some v) from h] at q1; cases q1
        exact ⟨a, C, dx, fv, e, ha, c1, c2.1, c3, r⟩
      · cases e
theorem lookAll_ok {as : List AV} {vs : List V} (R : Rel K w F M ι ρ S σ H) (h : Paired (AvOk K w ι M H σ) as vs) : ∀ {ds : List D}, lookAll ρ S as = some ds → Paired (fun d v => Vw K w ι M H d v) ds vs := by
  induction h with
  | nil => intro ds e; cases e; exact .nil
  | @cons a v as vs h1 h2 ih =>
    intro ds e
    unfold lookAll at e
    split at e
    · rename_i d ds' e1 e2
      cases e
      exact .cons (h1.view R e1) (ih e2)
    · cases e
end

/-- an exception: its class, its dict -/
def ExRep (K : PySem.W.Frag) (w : World) (ι : List Addr) (M : Addr → Prop) (H : Hp) (x : Ex) (cls : Value) (d : Option Addr) : Prop := False
theorem ExRep.grow {K : PySem.W.Frag} {w : World} {M M' : Addr → Prop} {ι ι' : List Addr} {H H' : Hp} {x : Ex} {cls : Value} {d : Option Addr} (g : Grow M H M' H') (hp : ι <+: ι') (h : ExRep K w ι M H x cls d) : ExRep K w ι' M' H' x cls d := h.elim

section
variable (K : PySem.W.Frag) (w : World) (F : Entry) (E : XK) (σ : L2.St)
/-- what is asked behind a piece of code, by its result -/
def Kx {α : Type} (M : Addr → Prop) (ι : List Addr) (H : Hp) (r : Res α) (k : α → Env → Sto → (Addr → Prop) → List Addr → Hp → Prop) : Prop :=
  match r with
  | .ok a ρ' S' => ∀ M' ι' H', Rel K w F M' ι' ρ' S' σ H' → Grow M H M' H' → ι <+: ι' → k a ρ' S' M' ι' H'
  | .exc x ρ' S' => ∀ M' ι' H' cls d, Rel K w F M' ι' ρ' S' σ H' → Grow M H M' H' → ι <+: ι' → ExRep K w ι' M' H' x cls d → E cls d H'
  | .no => False
end
section
variable {K : PySem.W.Frag} {w : World} {F : Entry} {E : XK} {σ : L2.St} {M M' : Addr → Prop} {ι ι' : List Addr} {ρ : Env} {S : Sto} {H H' : Hp}
theorem Kx.later {α : Type} {r : Res α} {k : α → Env → Sto → (Addr → Prop) → List Addr → Hp → Prop} (g : Grow M H M' H') (hp : ι <+: ι') (h : Kx K w F E σ M ι H r k) : Kx K w F E σ M' ι' H' r k := by
  cases r with
  | ok a ρ S => exact fun M2 ι2 H2 R g2 hp2 => h M2 ι2 H2 R (g.trans g2) (hp.trans hp2)
  | exc x ρ S => exact fun M2 ι2 H2 cls d R g2 hp2 => h M2 ι2 H2 cls d R (g.trans g2) (hp.trans hp2)
  | no => exact h
theorem Kx.bind {α β : Type} {r : Res α} {f : α → Env → Sto → Res β} {k : β → Env → Sto → (Addr → Prop) → List Addr → Hp → Prop} (h : Kx K w F E σ M ι H (r.bind f) k) :
    Kx K w F E σ M ι H r fun a ρ' S' M' ι' H' => Kx K w F E σ M' ι' H' (f a ρ' S') k := by
  cases r with
  | ok a ρ S => exact fun M2 ι2 H2 R g2 hp2 => Kx.later g2 hp2 h
  | exc x ρ S => exact h
  | no => exact h
theorem Kx.imp' {α : Type} {r : Res α} {k k' : α → Env → Sto → (Addr → Prop) → List Addr → Hp → Prop} (h : Kx K w F E σ M ι H r k) (i : ∀ a ρ' S' M' ι' H', r = .ok a ρ' S' → Rel K w F M' ι' ρ' S' σ H' → Grow M H M' H' → ι <+: ι' → k a ρ' S' M' ι' H' → k' a ρ' S' M' ι' H') : Kx K w F E σ M ι H r k' := by
  cases r with
  | ok a ρ S => exact fun M2 ι2 H2 R g2 hp2 => i _ _ _ _ _ _ rfl R g2 hp2 (h M2 ι2 H2 R g2 hp2)
  | exc x ρ S => exact h
  | no => exact h
theorem Kx.imp {α : Type} {r : Res α} {k k' : α → Env → Sto → (Addr → Prop) → List Addr → Hp → Prop} (h : Kx K w F E σ M ι H r k) (i : ∀ a ρ' S' M' ι' H', Rel K w F M' ι' ρ' S' σ H' → Grow M H M' H' → ι <+: ι' → k a ρ' S' M' ι' H' → k' a ρ' S' M' ι' H') : Kx K w F E σ M ι H r k' := by
  cases r with
  | ok a ρ S => exact fun M2 ι2 H2 R g2 hp2 => i _ _ _ _ _ _ R g2 hp2 (h M2 ι2 H2 R g2 hp2)
  | exc x ρ S => exact h
  | no => exact h
theorem Kx.ok {α : Type} {a : α} {k : α → Env → Sto → (Addr → Prop) → List Addr → Hp → Prop} (R : Rel K w F M ι ρ S σ H) (h : Kx K w F E σ M ι H (.ok a ρ S) k) : k a ρ S M ι H := h M ι H R Grow.refl (List.prefix_refl _)
theorem Res.bind_assoc {α β γ : Type} (r : Res α) (f : α → Env → Sto → Res β) (g : β → Env → Sto → Res γ) : (r.bind f).bind g = r.bind fun a ρ S => (f a ρ S).bind g := by
  cases r <;> rfl
end
section
variable (X : Cx) (F : Entry) (E : XK) (O : Orc)
/-- a value -/
def tE (c : CE) : TE := fun σ H Q => ∃ M ι ρ S, Rel X.K X.w F M ι ρ S σ H ∧ Kx X.K X.w F E σ M ι H (evE O c ρ S) fun d _ _ M' ι' H' => ∀ v, Rep X.K X.w ι' M' H' d v → Q v H'
/-- an operand -/
def tO (c : CE) : TE := fun σ H Q => ∃ M ι ρ S, Rel X.K X.w F M ι ρ S σ H ∧ Kx X.K X.w F E σ M ι H (avOf c (evE O c ρ S) ρ S) fun a _ _ M' ι' H' => ∀ v, AvOk X.K X.w ι' M' H' σ a v → Q v H'
/-- a list of its own, that no slot holds -/
def tP (c : CE) : TE := fun σ H Q => ∃ M ι ρ S, Rel X.K X.w F M ι ρ S σ H ∧ Kx X.K X.w F E σ M ι H (evE O c ρ S) fun d ρ' _ M' ι' H' => ∃ ds, d = .lst ds ∧ ∀ p xs, H' p = some (.lst xs) → Reps X.K X.w ι' M' H' ds xs → Own F ι' M' p →
  (∀ (i : Nat) sv, ρ'[i]? = some (some sv) → sv.isOwn = true → σ[i]? ≠ some (some (.ref p))) → (F.H p = none) → Q (.ref p) H'
/-- a test -/
def tT (c : CE) : TT := fun σ H Q => ∃ M ι ρ S, Rel X.K X.w F M ι ρ S σ H ∧ Kx X.K X.w F E σ M ι H (evE O c ρ S) fun d _ _ M' ι' H' => ∃ k, tru d = some k ∧ Q k H'
/-- values, operands -/
def tV (cs : List CE) : TA := fun σ H Q => ∃ M ι ρ S, Rel X.K X.w F M ι ρ S σ H ∧ Kx X.K X.w F E σ M ι H (evV O cs ρ S) fun ds _ _ M' ι' H' => ∀ vs, Reps X.K X.w ι' M' H' ds vs → Q vs H'
def tL (cs : List CE) : TA := fun σ H Q => ∃ M ι ρ S, Rel X.K X.w F M ι ρ S σ H ∧ Kx X.K X.w F E σ M ι H (evL O cs ρ S) fun as _ _ M' ι' H' => ∀ vs, Paired (AvOk X.K X.w ι' M' H' σ) as vs → Q vs H'
end
theorem pe_imp {X : Cx} {e : Expr} {t t' : TE} (h : PE X e t) (i : ∀ σ H Q, t' σ H Q → t σ H Q) : PE X e t' := ⟨fun pins s σ H Q I q => h.run pins s σ H Q I (i σ H Q q)⟩
theorem pt_imp {X : Cx} {e : Expr} {t t' : TT} (h : PT X e t) (i : ∀ σ H Q, t' σ H Q → t σ H Q) : PT X e t' := ⟨fun pins s σ H Q I q => h.run pins s σ H Q I (i σ H Q q)⟩
theorem pa_imp {X : Cx} {e : List Expr} {t t' : TA} (h : PA X e t) (i : ∀ σ H Q, t' σ H Q → t σ H Q) : PA X e t' := ⟨fun pos pins s σ H Q I q => h.run pos pins s σ H Q I (i σ H Q q)⟩
section
variable {X : Cx} {F : Entry} {E : XK} {O : Orc} {e : Expr} {c : CE}
/-- a fresh list may be handed on -/
theorem pe_cool (hl : ∀ ρ S d ρ' S', evE O c ρ S = .ok d ρ' S' → ∃ ds, d = .lst ds) (h : PE X e (tP X F E O c)) : PE X e (tE X F E O c) := pe_imp h fun σ H Q ⟨M, ι, ρ, S, R, k⟩ => by
  refine ⟨M, ι, ρ, S, R, ?_⟩
  cases hr : evE O c ρ S with
  | no => rw [hr] at k; exact k
  | exc x ρ' S' => rw [hr] at k; exact k
  | ok d ρ' S' =>
    rw [hr] at k
    obtain ⟨ds, rfl⟩ := hl _ _ _ _ _ hr
    intro M' ι' H' R' g hp
    refine ⟨ds, rfl, fun p xs hpl r ow ns nf => ?_⟩
    have R2 : Rel X.K X.w F (rm M' p) ι' ρ' S' σ H' := R'.cool ow ρ' rfl fun i sv e => .inl ⟨e, fun o => ns i sv e o⟩
    refine k (rm M' p) ι' H' R2 (g.trans grow_rm) hp _ ⟨p, xs, rfl, .inl ⟨.inl hpl, fun z => z.2 rfl⟩, Reps.grow grow_rm (List.prefix_refl _) _ _ r⟩
/-- a fresh list, laid at p -/
theorem tP_new {σ : L2.St} {M : Addr → Prop} {ι : List Addr} {ρ : Env} {S : Sto} {H : Hp} {ds : List D} {xs : List V} {p : Addr} {Q : VK} (R : Rel X.K X.w F M ι ρ S σ H)
    (k : ∀ M' ι' H', Rel X.K X.w F M' ι' ρ S σ H' → Grow M H M' H' → ι <+: ι' → ∃ ds', D.lst ds = .lst ds' ∧ ∀ p xs, H' p = some (.lst xs) → Reps X.K X.w ι' M' H' ds' xs → Own F ι' M' p →
      (∀ (i : Nat) sv, ρ[i]? = some (some sv) → sv.isOwn = true → σ[i]? ≠ some (some (.ref p))) → (F.H p = none) → Q (.ref p) H')
    (hp : H p = none) (r : Reps X.K X.w ι M H ds xs) : Q (.ref p) (upd H p (.lst xs)) := by
  obtain ⟨R2, ow, ns⟩ := R.heat (o := .lst xs) hp
  obtain ⟨ds', e, q⟩ := k (ad M p) ι (upd H p (.lst xs)) R2 (grow_ad hp) (List.prefix_refl _)
  cases e
  exact q p xs upd_same (Reps.grow (grow_ad hp) (List.prefix_refl _) _ _ r) ow ns (Rel.fresh R.toRelG hp).1
theorem avOf_val {c : CE} (h : peekOf c = none) (r : Res D) (ρ : Env) (S : Sto) : avOf c r ρ S = r.bind fun d ρ S => .ok (.d d) ρ S := by unfold avOf; rw [h]
/-- a value as an operand -/
theorem po_val (hn : peekOf c = none) (h : PE X e (tE X F E O c)) : PE X e (tO X F E O c) := pe_imp h fun σ H Q ⟨M, ι, ρ, S, R, k⟩ => by
  rw [avOf_val hn] at k
  exact ⟨M, ι, ρ, S, R, k.bind.imp fun d ρ' S' M' ι' H' R' g hp q v hv => Kx.ok R' q v hv⟩
theorem pv_nil : PA X [] (tV X F E O []) := pa_imp pa_nil fun σ H Q ⟨M, ι, ρ, S, R, k⟩ => Kx.ok R k [] rfl
theorem pl_nil : PA X [] (tL X F E O []) := pa_imp pa_nil fun σ H Q ⟨M, ι, ρ, S, R, k⟩ => Kx.ok R k [] .nil
theorem pv_cons {es : List Expr} {cs : List CE} (ha : PE X e (tE X F E O c)) (hr : PA X es (tV X F E O cs)) (hs : starEach (e :: es) X.env = (false, eval e X.env) :: starEach es X.env) : PA X (e :: es) (tV X F E O (c :: cs)) :=
  pa_imp (pa_cons ha hr hs) fun σ H Q ⟨M, ι, ρ, S, R, k⟩ => by
    refine ⟨M, ι, ρ, S, R, k.bind.imp fun d ρ1 S1 M1 ι1 H1 R1 g1 p1 k1 v hv => ?_⟩
    refine ⟨M1, ι1, ρ1, S1, R1, k1.bind.imp fun ds ρ2 S2 M2 ι2 H2 R2 g2 p2 k2 vs hvs => ?_⟩
    exact Kx.ok R2 k2 (v :: vs) (.cons (Rep.grow g2 p2 _ _ hv) hvs)
theorem pl_cons {es : List Expr} {cs : List CE} (ha : PE X e (tO X F E O c)) (hr : PA X es (tL X F E O cs)) (hs : starEach (e :: es) X.env = (false, eval e X.env) :: starEach es X.env) : PA X (e :: es) (tL X F E O (c :: cs)) :=
  pa_imp (pa_cons ha hr hs) fun σ H Q ⟨M, ι, ρ, S, R, k⟩ => by
    refine ⟨M, ι, ρ, S, R, k.bind.imp fun d ρ1 S1 M1 ι1 H1 R1 g1 p1 k1 v hv => ?_⟩
    refine ⟨M1, ι1, ρ1, S1, R1, k1.bind.imp fun ds ρ2 S2 M2 ι2 H2 R2 g2 p2 k2 vs hvs => ?_⟩
    exact Kx.ok R2 k2 (v :: vs) (.cons (hv.grow g2 p2) hvs)
/-- the result of an operation -/
theorem out_of {M : Addr → Prop} {ι : List Addr} {ρ : Env} {S : Sto} {σ : L2.St} {H : Hp} {Q : VK} {d : D} (R : Rel X.K X.w F M ι ρ S σ H)
    (k : Kx X.K X.w F E σ M ι H (.ok d ρ S) fun d _ _ M' ι' H' => ∀ v, Rep X.K X.w ι' M' H' d v → Q v H') : Out X.K X.w ι M H d Q := fun v H' s r =>
  k M ι H' (R.same s) (Grow.same s) (List.prefix_refl _) v r
theorem ofO_ok {α : Type} {o : Option α} {ρ : Env} {S : Sto} {σ : L2.St} {M : Addr → Prop} {ι : List Addr} {H : Hp} {k : α → Env → Sto → (Addr → Prop) → List Addr → Hp → Prop} (h : Kx X.K X.w F E σ M ι H (ofO o ρ S) k) : ∃ a, o = some a ∧ Kx X.K X.w F E σ M ι H (.ok a ρ S) k := by
  cases o with
  | none => exact h.elim
  | some a => exact ⟨a, rfl, h⟩
theorem lookAll_inv {ρ : Env} {S : Sto} {σ : L2.St} {M : Addr → Prop} {ι : List Addr} {H : Hp} {p : Prim} {avs : List AV} {k : D → Env → Sto → (Addr → Prop) → List Addr → Hp → Prop}
    (h : Kx X.K X.w F E σ M ι H (match lookAll ρ S avs with
    | some ds => ofO (primD p ds) ρ S
    | none => .no) k) : ∃ ds d, lookAll ρ S avs = some ds ∧ primD p ds = some d ∧ Kx X.K X.w F E σ M ι H (.ok d ρ S) k := by
  cases e : lookAll ρ S avs with
  | none => rw [e] at h; exact h.elim
  | some ds =>
    rw [e] at h
    obtain ⟨d, h1, h2⟩ := ofO_ok h
    exact ⟨ds, d, rfl, h1, h2⟩
theorem pair1 {α β : Type} {P : α → β → Prop} {as : List α} {b : β} (h : Paired P as [b]) : ∃ a, as = [a] ∧ P a b := by
  cases h with
  | cons h1 h2 => cases h2; exact ⟨_, rfl, h1⟩
theorem pair2 {α β : Type} {P : α → β → Prop} {as : List α} {b c : β} (h : Paired P as [b, c]) : ∃ a a', as = [a, a'] ∧ P a b ∧ P a' c := by
  cases h with
  | cons h1 h2 =>
    obtain ⟨a, rfl, h3⟩ := pair1 h2
    exact ⟨_, a, rfl, h1, h3⟩
/-- two operands, an operation -/
theorem t_bin {p : Prim} {a b : CE} : ∀ σ H Q, tE X F E O (.prim p [a, b]) σ H Q → tOp (opD X.K X.w p) (tO X F E O a) (tO X F E O b) σ H Q := by
  intro σ H Q ⟨M, ι, ρ, S, R, k⟩
  replace k := k.bind
  refine ⟨M, ι, ρ, S, R, k.bind.imp fun a1 ρ1 S1 M1 ι1 H1 R1 g1 p1 k1 v hv => ?_⟩
  replace k1 := k1.bind
  refine ⟨M1, ι1, ρ1, S1, R1, k1.bind.imp fun a2 ρ2 S2 M2 ι2 H2 R2 g2 p2 k2 u hu => ?_⟩
  have k3 := Kx.ok R2 (Kx.ok R2 k2)
  obtain ⟨ds, d, e1, e2, k4⟩ := lookAll_inv k3
  have vw := lookAll_ok R2 (.cons (hv.grow g2 p2) (.cons hu .nil)) e1
  obtain ⟨d1, d2, rfl, v1, v2⟩ := pair2 vw
  exact ⟨ι2, M2, d1, d2, d, R2.isHot, v1, v2, e2, out_of R2 k4⟩
end
end R
end
section
set_option Elab.async false
set_option linter.all false
set_option maxRecDepth 100000
set_option maxHeartbeats 4000000
namespace R
open PySem PySem.Spec PyProof.Rows L2
section
variable {X : Cx} {F : Entry} {E : XK} {O : Orc} {e : Expr} {c : CE}
theorem t_un {p : Prim} {a : CE} : ∀ σ H Q, tE X F E O (.prim p [a]) σ H Q → tUn (unD X.K X.w p) (tO X F E O a) σ H Q := by
  intro σ H Q ⟨M, ι, ρ, S, R, k⟩
  replace k := k.bind
  refine ⟨M, ι, ρ, S, R, k.bind.imp fun a1 ρ1 S1 M1 ι1 H1 R1 g1 p1 k1 v hv => ?_⟩
  have k3 := Kx.ok R1 (Kx.ok R1 (Kx.bind k1))
  obtain ⟨ds, d, e1, e2, k4⟩ := lookAll_inv k3
  have vw := lookAll_ok R1 (.cons hv .nil) e1
  obtain ⟨d1, rfl, v1⟩ := pair1 vw
  exact ⟨ι1, M1, d1, d, R1.isHot, v1, e2, out_of R1 k4⟩
theorem t_cb {p : Prim} {cs : List CE} : ∀ σ H Q, tE X F E O (.prim p cs) σ H Q → tCB (caD X.K X.w p) (tL X F E O cs) σ H Q := by
  intro σ H Q ⟨M, ι, ρ, S, R, k⟩
  replace k := k.bind
  refine ⟨M, ι, ρ, S, R, k.imp fun as ρ1 S1 M1 ι1 H1 R1 g1 p1 k1 vs hv => ?_⟩
  obtain ⟨ds, d, e1, e2, k4⟩ := lookAll_inv k1
  exact ⟨ι1, M1, ds, d, R1.isHot, lookAll_ok R1 hv e1, e2, out_of R1 k4⟩
/-- an attribute -/
theorem lookup_field : ∀ {fs : List Str} {vs : List D} {fv : List (Str × V)} {K : PySem.W.Frag} {w : World} {ι : List Addr} {M : Addr → Prop} {H : Hp} {f : Str} {d : D}, fv.map (·.1) = fs → Reps K w ι M H vs (fv.map (·.2)) → fieldD fs vs f = some d → f ∈ fs ∧ ∃ v, fv.lookup f = some v ∧ Rep K w ι M H d v
  | [], vs, fv, K, w, ι, M, H, f, d, e, r, h => by unfold fieldD at h; cases h
  | g :: fs, [], fv, K, w, ι, M, H, f, d, e, r, h => by unfold fieldD at h; cases h
  | g :: fs, y :: vs, fv, K, w, ι, M, H, f, d, e, r, h => by
    cases fv with
    | nil => cases e
    | cons p fv =>
      obtain ⟨x, q, ex, r1, r2⟩ := r.cons_inv
      cases ex
      rw [List.map_cons] at e
      injection e with e1 e2
      have h' : (if f = g then some y else fieldD fs vs f) = some d := h
      obtain ⟨p1, p2⟩ := p
      simp only at e1 r1 r2
      subst e1
      by_cases c : f = p1
      · rw [if_pos c] at h'
        cases h'
        subst c
        exact ⟨List.mem_cons_self, p2, by simp [List.lookup], r1⟩
      · rw [if_neg c] at h'
        obtain ⟨i1, v, i2, i3⟩ := lookup_field e2 r2 h'
        have : (f == p1) = false := by simpa using c
        exact ⟨List.mem_cons_of_mem _ i1, v, by simp [List.lookup, this, i2], i3⟩
theorem t_attr {f : Str} {a : CE} : ∀ σ H Q, tE X F E O (.prim (.attr f) [a]) σ H Q → tFld X.K (tO X F E O a) f σ H Q := by
  intro σ H Q ⟨M, ι, ρ, S, R, k⟩
  replace k := k.bind
  refine ⟨M, ι, ρ, S, R, k.bind.imp fun a1 ρ1 S1 M1 ι1 H1 R1 g1 p1 k1 v hv => ?_⟩
  have k3 := Kx.ok R1 (Kx.ok R1 (Kx.bind k1))
  obtain ⟨ds, d, e1, e2, k4⟩ := lookAll_inv k3
  have vw := lookAll_ok R1 (.cons hv .nil) e1
  obtain ⟨d1, rfl, v1⟩ := pair1 vw
  replace e2 : attrD f d1 = some d := e2
  unfold attrD at e2
  split at e2
  · rename_i c fs vs
    obtain ⟨a, C, dx, fv, rfl, h1, h2, h3, h4, h5⟩ := (show ∃ a C dx fv, v = .ref a ∧ H1 a = some (.ins C dx fv) ∧ IsGl X.K c C ∧ (ClsOk X.K C ∧ ∀ f ∈ fs, NoAttr X.K C f) ∧ fv.map (·.1) = fs ∧ Reps X.K X.w ι1 M1 H1 vs (fv.map (·.2)) from v1)
    obtain ⟨i1, y, i2, i3⟩ := lookup_field h4 h5 e2
    exact ⟨a, C, dx, fv, y, rfl, h1, h3.1.cl, h3.2 f i1, i2, (out_of R1 k4).here i3⟩
  · cases e2
/-- parts of a slice -/
theorem t_p1 {σ : L2.St} {Q : Option Int → Hp → Prop} {M : Addr → Prop} {ι : List Addr} {ρ : Env} {S : Sto} {H : Hp} (R : Rel X.K X.w F M ι ρ S σ H)
    (k : Kx X.K X.w F E σ M ι H (evP O [c] ρ S) fun is ρ1 S1 M1 ι1 H1 => ∀ i, is = [i] → Q (some i) H1) : tPart (tE X F E O c) σ H Q := by
  refine ⟨M, ι, ρ, S, R, (Kx.bind k).imp fun d ρ1 S1 M1 ι1 H1 R1 g1 p1 k1 v hv => ?_⟩
  split at k1
  · rename_i i
    cases (show v = .int i from hv)
    split at k1
    · exact ⟨i, rfl, Kx.ok R1 (Kx.ok R1 (Kx.bind k1)) i rfl⟩
    · exact k1.elim
  · exact k1.elim
theorem slice_fin {lo hi : Bool} {is : List Int} {l h : Option Int} {av : AV} {x : V} {σ : L2.St} {Q : VK} {M : Addr → Prop} {ι : List Addr} {ρ : Env} {S : Sto} {H : Hp} (R : Rel X.K X.w F M ι ρ S σ H) (hv : AvOk X.K X.w ι M H σ av x)
    (ep : slPart lo hi is = some (l, h)) (k : Kx X.K X.w F E σ M ι H (match lookAV ρ S av, slPart lo hi is with
      | some d, some (l, h) => ofO (sliceD d l h) ρ S
      | _, _ => .no) fun d _ _ M' ι' H' => ∀ v, Rep X.K X.w ι' M' H' d v → Q v H') : slD X.K X.w x l h H Q := by
  rw [ep] at k
  cases e : lookAV ρ S av with
  | none => rw [e] at k; exact k.elim
  | some d =>
    rw [e] at k
    obtain ⟨d2, e2, k2⟩ := ofO_ok k
    exact ⟨ι, M, d, d2, R.isHot, hv.view R e, e2, out_of R k2⟩
theorem t_sl00 {a : CE} : ∀ σ H Q, tE X F E O (.slice false false a []) σ H Q → tSl (slD X.K X.w) (tO X F E O a) tNoPart tNoPart σ H Q := by
  intro σ H Q ⟨M, ι, ρ, S, R, k⟩
  refine ⟨M, ι, ρ, S, R, k.bind.imp fun av ρ1 S1 M1 ι1 H1 R1 g1 p1 k1 v hv => ?_⟩
  exact slice_fin R1 hv (is := []) rfl (Kx.ok R1 (Kx.bind k1))
theorem t_sl10 {a b : CE} : ∀ σ H Q, tE X F E O (.slice true false a [b]) σ H Q → tSl (slD X.K X.w) (tO X F E O a) (tPart (tE X F E O b)) tNoPart σ H Q := by
  intro σ H Q ⟨M, ι, ρ, S, R, k⟩
  refine ⟨M, ι, ρ, S, R, k.bind.imp fun av ρ1 S1 M1 ι1 H1 R1 g1 p1 k1 v hv => ?_⟩
  refine t_p1 R1 ((Kx.bind k1).imp fun is ρ2 S2 M2 ι2 H2 R2 g2 p2 k2 i ei => ?_)
  subst ei
  exact slice_fin R2 (hv.grow g2 p2) (is := [i]) (l := some i) (h := none) rfl k2
theorem t_sl01 {a b : CE} : ∀ σ H Q, tE X F E O (.slice false true a [b]) σ H Q → tSl (slD X.K X.w) (tO X F E O a) tNoPart (tPart (tE X F E O b)) σ H Q := by
  intro σ H Q ⟨M, ι, ρ, S, R, k⟩
  refine ⟨M, ι, ρ, S, R, k.bind.imp fun av ρ1 S1 M1 ι1 H1 R1 g1 p1 k1 v hv => ?_⟩
  show tPart (tE X F E O b) σ H1 (fun u H3 => slD X.K X.w v none u H3 Q)
  refine t_p1 R1 ((Kx.bind k1).imp fun is ρ2 S2 M2 ι2 H2 R2 g2 p2 k2 i ei => ?_)
  subst ei
  exact slice_fin R2 (hv.grow g2 p2) (is := [i]) (l := none) (h := some i) rfl k2
theorem t_sl11 {a b d : CE} : ∀ σ H Q, tE X F E O (.slice true true a [b, d]) σ H Q → tSl (slD X.K X.w) (tO X F E O a) (tPart (tE X F E O b)) (tPart (tE X F E O d)) σ H Q := by
  intro σ H Q ⟨M, ι, ρ, S, R, k⟩
  refine ⟨M, ι, ρ, S, R, k.bind.imp fun av ρ1 S1 M1 ι1 H1 R1 g1 p1 k1 v hv => ?_⟩
  have k1' := Kx.bind k1
  refine ⟨M1, ι1, ρ1, S1, R1, (Kx.bind k1').imp fun d1 ρ2 S2 M2 ι2 H2 R2 g2 p2 k2 v2 hv2 => ?_⟩
  split at k2
  · rename_i i
    cases (show v2 = .int i from hv2)
    split at k2
    · refine ⟨i, rfl, t_p1 R2 ((Kx.bind k2).imp fun is ρ3 S3 M3 ι3 H3 R3 g3 p3 k3 j ej => ?_)⟩
      subst ej
      exact slice_fin R3 (hv.grow (g2.trans g3) (p2.trans p3)) (is := [i, j]) (l := some i) (h := some j) rfl (Kx.ok R3 k3)
    · exact k2.elim
  · exact k2.elim
theorem small_line {n : Nat} (h : n ≤ 1000) : n ≤ sizeLine := by rw [sizeLine_eq]; omega
theorem t_tup {cs : List CE} : ∀ σ H Q, tE X F E O (.tup cs) σ H Q → tTup (tV X F E O cs) σ H Q := by
  intro σ H Q ⟨M, ι, ρ, S, R, k⟩
  refine ⟨M, ι, ρ, S, R, k.bind.imp fun ds ρ1 S1 M1 ι1 H1 R1 g1 p1 k1 xs hv => ?_⟩
  split at k1
  · rename_i hl
    exact ⟨by rw [← hv.length]; exact small_line hl, fun p hp => (out_of R1 k1).newTup R1.isHot hv hp⟩
  · exact k1.elim
theorem t_lst {cs : List CE} : ∀ σ H Q, tP X F E O (.lst cs) σ H Q → tLst (tV X F E O cs) σ H Q := by
  intro σ H Q ⟨M, ι, ρ, S, R, k⟩
  refine ⟨M, ι, ρ, S, R, k.bind.imp fun ds ρ1 S1 M1 ι1 H1 R1 g1 p1 k1 xs hv => ?_⟩
  split at k1
  · rename_i hl
    exact ⟨by rw [← hv.length]; exact small_line hl, fun p hp => tP_new R1 k1 hp hv⟩
  · exact k1.elim
theorem ev_lst {cs : List CE} : ∀ ρ S d ρ' S', evE O (.lst cs) ρ S = .ok d ρ' S' → ∃ ds, d = .lst ds := by
  intro ρ S d ρ' S' h
  have h' : ((evV O cs ρ S).bind fun ds ρ S => if ds.length ≤ 1000 then Res.ok (D.lst ds) ρ S else .no) = .ok d ρ' S' := h
  cases e : evV O cs ρ S with
  | ok ds ρ1 S1 =>
    rw [e] at h'
    replace h' : (if ds.length ≤ 1000 then Res.ok (D.lst ds) ρ1 S1 else .no) = .ok d ρ' S' := h'
    split at h'
    · cases h'; exact ⟨ds, rfl⟩
    · cases h'
  | exc x ρ1 S1 => rw [e] at h'; cases h'
  | no => rw [e] at h'; cases h'
theorem t_cell {cs : List CE} : ∀ σ H Q, tE X F E O (.cell cs) σ H Q → tLst (tV X F E O cs) σ H Q := by
  intro σ H Q ⟨M, ι, ρ, S, R, k⟩
  refine ⟨M, ι, ρ, S, R, k.bind.imp fun ds ρ1 S1 M1 ι1 H1 R1 g1 p1 k1 xs hv => ?_⟩
  split at k1
  · rename_i hl
    refine ⟨by rw [← hv.length]; exact small_line hl, fun p hp => ?_⟩
    obtain ⟨R2, ow, ns⟩ := R1.heat (o := .lst xs) hp
    obtain ⟨R3, rr⟩ := R2.toCell ow (Rel.fresh R1.toRelG hp).1 upd_same (Reps.grow (grow_ad hp) (List.prefix_refl _) _ _ hv) ns
    exact k1 _ _ _ R3 (grow_ad hp) (List.prefix_append _ _) _ rr
  · exact k1.elim
/-- values handed on to a test -/
theorem truD_of {d : D} {v : V} {k : Bool} {ι : List Addr} {M : Addr → Prop} {H : Hp} (h : Rep X.K X.w ι M H d v) (e : tru d = some k) : truD X.K X.w v H k := ⟨ι, M, d, .of h, e⟩
theorem truthy_D {pins : List (Addr × Obj)} {s : Shared} {σ : L2.St} {H : Hp} {x : V} {v : Value} {k : Bool} {Q : Bool → Shared → Prop} (I : L2.Inv X pins σ H s) (rx : RelV x v) (h : truD X.K X.w x H k) (q : ∀ s', L2.Inv X pins σ H s' → Q k s') : wpAny (model X.prog X.w) X.A (truthy v) Q X.xe s := by
  refine thn (tru_D pins s σ H x v (fun k' H' => k' = k ∧ H' = H) I rx ⟨k, h, rfl, rfl⟩) fun b s1 ⟨H1, I1, q1⟩ => ?_
  obtain ⟨rfl, rfl⟩ := q1
  exact q s1 I1
variable {a b : Expr} {rest : List Expr} {pos : Pos} {ca cb : CE}
theorem tru_inv {d : D} {α : Type} {x y : Res α} {σ : L2.St} {M : Addr → Prop} {ι : List Addr} {H : Hp} {k : α → Env → Sto → (Addr → Prop) → List Addr → Hp → Prop} (h : Kx X.K X.w F E σ M ι H (match tru d with
      | some true => x
      | some false => y
      | none => .no) k) : ∃ t, tru d = some t ∧ Kx X.K X.w F E σ M ι H (if t then x else y) k := by
  cases e : tru d with
  | none => rw [e] at h; exact h.elim
  | some t =>
    rw [e] at h
    cases t
    · exact ⟨false, rfl, h⟩
    · exact ⟨true, rfl, h⟩
theorem pe_and' (ha : PE X a (tE X F E O ca)) (hb : PE X (.BoolOp .And (b :: rest) pos) (tE X F E O cb)) : PE X (.BoolOp .And (a :: b :: rest) pos) (tE X F E O (.and_ ca cb)) := by
  refine ⟨fun pins s σ H Q I ⟨M, ι, ρ, S, R, k⟩ => ?_⟩
  refine BoolOp_and (thn (ha.run pins s σ H (fun v H1 => ∃ M1 ι1 ρ1 S1 d, Rel X.K X.w F M1 ι1 ρ1 S1 σ H1 ∧ Rep X.K X.w ι1 M1 H1 d v ∧ Kx X.K X.w F E σ M1 ι1 H1 (match tru d with
      | some true => evE O cb ρ1 S1
      | some false => .ok d ρ1 S1
      | none => .no) fun d _ _ M' ι' H' => ∀ v, Rep X.K X.w ι' M' H' d v → Q v H') I ⟨M, ι, ρ, S, R, k.bind.imp fun d ρ1 S1 M1 ι1 H1 R1 g1 p1 k1 v hv => ⟨M1, ι1, ρ1, S1, d, R1, hv, k1⟩⟩) fun v s1 ⟨x, H1, I1, r1, M1, ι1, ρ1, S1, d, R1, hv, k1⟩ => ?_)
  obtain ⟨t, et, k2⟩ := tru_inv k1
  refine truthy_D I1 r1 (truD_of hv et) fun s2 I2 => ?_
  cases t with
  | true => exact hb.run pins s2 σ H1 Q I2 ⟨M1, ι1, ρ1, S1, R1, k2⟩
  | false => exact ⟨x, H1, I2, r1, Kx.ok R1 k2 x hv⟩
theorem pe_or' (ha : PE X a (tE X F E O ca)) (hb : PE X (.BoolOp .Or (b :: rest) pos) (tE X F E O cb)) : PE X (.BoolOp .Or (a :: b :: rest) pos) (tE X F E O (.or_ ca cb)) := by
  refine ⟨fun pins s σ H Q I ⟨M, ι, ρ, S, R, k⟩ => ?_⟩
  refine BoolOp_or (thn (ha.run pins s σ H (fun v H1 => ∃ M1 ι1 ρ1 S1 d, Rel X.K X.w F M1 ι1 ρ1 S1 σ H1 ∧ Rep X.K X.w ι1 M1 H1 d v ∧ Kx X.K X.w F E σ M1 ι1 H1 (match tru d with
      | some false => evE O cb ρ1 S1
      | some true => .ok d ρ1 S1
      | none => .no) fun d _ _ M' ι' H' => ∀ v, Rep X.K X.w ι' M' H' d v → Q v H') I ⟨M, ι, ρ, S, R, k.bind.imp fun d ρ1 S1 M1 ι1 H1 R1 g1 p1 k1 v hv => ⟨M1, ι1, ρ1, S1, d, R1, hv, k1⟩⟩) fun v s1 ⟨x, H1, I1, r1, M1, ι1, ρ1, S1, d, R1, hv, k1⟩ => ?_)
  cases et : tru d with
  | none => rw [et] at k1; exact k1.elim
  | some t =>
    rw [et] at k1
    refine truthy_D I1 r1 (truD_of hv et) fun s2 I2 => ?_
    cases t with
    | false => exact hb.run pins s2 σ H1 Q I2 ⟨M1, ι1, ρ1, S1, R1, k1⟩
    | true => exact ⟨x, H1, I2, r1, Kx.ok R1 k1 x hv⟩
theorem pe_not' (ha : PE X a (tE X F E O ca)) : PE X (.UnaryOp .Not a pos) (tE X F E O (.not_ ca)) := by
  refine ⟨fun pins s σ H Q I ⟨M, ι, ρ, S, R, k⟩ => ?_⟩
  refine UnaryOp_ (thn (ha.run pins s σ H (fun v H1 => ∃ k, truD X.K X.w v H1 k ∧ Q (.bl (!k)) H1) I ⟨M, ι, ρ, S, R, k.bind.imp fun d ρ1 S1 M1 ι1 H1 R1 g1 p1 k1 v hv => ?_⟩) fun v s1 ⟨x, H1, I1, r1, k, hk, q⟩ => ?_)
  · cases et : tru d with
    | none => rw [et] at k1; exact k1.elim
    | some t =>
      rw [et] at k1
      exact ⟨t, truD_of hv et, Kx.ok R1 k1 _ rfl⟩
  · exact not_of (truthy_D I1 r1 hk fun s2 I2 => ⟨.bl (!k), H1, I2, rfl, q⟩)
/-- an expression as a test -/
theorem pt_plain (h : PE X e (tE X F E O c)) (he : ∀ whole, isTrue e X.env whole = (do let v ← whole; standAt e.pos; holding [v] (truthy v))) : PT X e (tT X F E O c) := by
  refine ⟨fun pins s σ H Q I ⟨M, ι, ρ, S, R, k⟩ => ?_⟩
  refine isTrue_plain (thn (h.run pins s σ H (fun v H1 => ∃ k, truD X.K X.w v H1 k ∧ Q k H1) I ⟨M, ι, ρ, S, R, k.imp fun d ρ1 S1 M1 ι1 H1 R1 g1 p1 k1 v hv => ?_⟩) fun v s1 ⟨x, H1, I1, r1, k, hk, q⟩ => ?_) (he _)
  · obtain ⟨t, et, q⟩ := k1
    exact ⟨t, truD_of hv et, q⟩
  · exact truthy_D I1 r1 hk fun s2 I2 => ⟨H1, I2, q⟩
theorem t_and : ∀ σ H Q, tT X F E O (.and_ ca cb) σ H Q → tAnd (tT X F E O ca) (tT X F E O cb) σ H Q := by
  intro σ H Q ⟨M, ι, ρ, S, R, k⟩
  refine ⟨M, ι, ρ, S, R, k.bind.imp fun d ρ1 S1 M1 ι1 H1 R1 g1 p1 k1 => ?_⟩
  obtain ⟨t, et, k2⟩ := tru_inv k1
  refine ⟨t, et, ?_⟩
  cases t with
  | true => exact ⟨M1, ι1, ρ1, S1, R1, k2⟩
  | false =>
    obtain ⟨k', e', q⟩ := Kx.ok R1 k2
    rw [et] at e'; cases e'
    exact q
theorem t_or : ∀ σ H Q, tT X F E O (.or_ ca cb) σ H Q → tOr (tT X F E O ca) (tT X F E O cb) σ H Q := by
  intro σ H Q ⟨M, ι, ρ, S, R, k⟩
  refine ⟨M, ι, ρ, S, R, k.bind.imp fun d ρ1 S1 M1 ι1 H1 R1 g1 p1 k1 => ?_⟩
  cases et : tru d with
  | none => rw [et] at k1; exact k1.elim
  | some t =>
    rw [et] at k1
    refine ⟨t, rfl, ?_⟩
    cases t with
    | false => exact ⟨M1, ι1, ρ1, S1, R1, k1⟩
    | true =>
      obtain ⟨k', e', q⟩ := Kx.ok R1 k1
      rw [et] at e'; cases e'
      exact q
theorem t_not : ∀ σ H Q, tT X F E O (.not_ ca) σ H Q → tNot (tT X F E O ca) σ H Q := by
  intro σ H Q ⟨M, ι, ρ, S, R, k⟩
  refine ⟨M, ι, ρ, S, R, k.bind.imp fun d ρ1 S1 M1 ι1 H1 R1 g1 p1 k1 => ?_⟩
  cases et : tru d with
  | none => rw [et] at k1; exact k1.elim
  | some t =>
    rw [et] at k1
    obtain ⟨k', e', q⟩ := Kx.ok R1 k1
    cases e'
    exact ⟨t, rfl, q⟩
theorem t_if {cc : CE} : ∀ σ H Q, tE X F E O (.ifE cc ca cb) σ H Q → tIf (tT X F E O cc) (tE X F E O ca) (tE X F E O cb) σ H Q := by
  intro σ H Q ⟨M, ι, ρ, S, R, k⟩
  refine ⟨M, ι, ρ, S, R, k.bind.imp fun d ρ1 S1 M1 ι1 H1 R1 g1 p1 k1 => ?_⟩
  obtain ⟨t, et, k2⟩ := tru_inv k1
  refine ⟨t, et, ?_⟩
  cases t with
  | true => exact ⟨M1, ι1, ρ1, S1, R1, k2⟩
  | false => exact ⟨M1, ι1, ρ1, S1, R1, k2⟩
end
end R
end
section
set_option Elab.async false
set_option linter.all false
set_option maxRecDepth 100000
set_option maxHeartbeats 4000000
namespace R
open PySem PySem.Spec PyProof.Rows L2
section
variable {X : Cx} {F : Entry} {E : XK} {O : Orc} {e : Expr} {c : CE}
theorem t_peek {i : Nat} : ∀ σ H Q, tO X F E O (.peek i) σ H Q → tVar i σ H Q := by
  intro σ H Q ⟨M, ι, ρ, S, R, k⟩
  replace k : Kx X.K X.w F E σ M ι H (match ρ[i]? with
    | some (some _) => .ok (.pk i) ρ S
    | _ => .no) fun a _ _ M' ι' H' => ∀ v, AvOk X.K X.w ι' M' H' σ a v → Q v H' := k
  split at k
  · rename_i sv hsv
    obtain ⟨v, q1, _⟩ := R.slot i sv hsv
    exact ⟨v, q1, Kx.ok R k v q1⟩
  · exact k.elim
theorem t_const {d : D} {v : V} (h : ∀ ι M H, Rep X.K X.w ι M H d v) : ∀ σ H Q, tE X F E O (.const d) σ H Q → tC v σ H Q := by
  intro σ H Q ⟨M, ι, ρ, S, R, k⟩
  exact Kx.ok R k v (h ι M H)
/-- a name's value is handed on -/
theorem t_var {i : Nat} : ∀ σ H Q, tE X F E O (.var i) σ H Q → ∃ v, σ[i]? = some (some v) ∧ Q v H := by
  intro σ H Q ⟨M, ι, ρ, S, R, k⟩
  replace k : Kx X.K X.w F E σ M ι H (readV i ρ S) fun d _ _ M' ι' H' => ∀ v, Rep X.K X.w ι' M' H' d v → Q v H' := k
  unfold readV at k
  split at k
  · rename_i d hd
    obtain ⟨v, q1, q2⟩ := R.slot i _ hd
    exact ⟨v, q1, Kx.ok R k v q2⟩
  · rename_i ds hd
    obtain ⟨v, q1, a, xs, rfl, ow, ha, r⟩ := R.slot i _ hd
    have il : i < ρ.length := (List.getElem?_eq_some_iff.mp hd).1
    have rr : Rep X.K X.w ι (rm M a) H (.lst ds) (.ref a) := ⟨a, xs, rfl, .inl ⟨.inl ha, fun z => z.2 rfl⟩, Reps.grow grow_rm (List.prefix_refl _) _ _ r⟩
    have R2 : Rel X.K X.w F (rm M a) ι (ρ.set i (some (.v (.lst ds)))) S σ H := R.cool ow _ (List.length_set ..) fun j sv e => by
      by_cases cij : i = j
      · subst cij
        rw [List.getElem?_set_self il] at e
        cases e
        exact .inr ⟨.lst ds, .ref a, rfl, q1, rr⟩
      · rw [List.getElem?_set_ne cij] at e
        exact .inl ⟨e, fun o z => cij (R.own i j _ _ hd rfl e o (by rw [q1, z]))⟩
    exact ⟨_, q1, k _ _ _ R2 grow_rm (List.prefix_refl _) _ rr⟩
  · exact k.elim

/-- what stands for each comparison -/
def cmpP : CmpOp → Prim
  | .Eq => .eq
  | .NotEq => .ne
  | .Lt => .lt
  | .LtE => .le
  | .Gt => .gt
  | .GtE => .ge
  | .Is => .is
  | .IsNot => .isnot
  | .In => .in_
  | .NotIn => .notin
theorem op_cmpD (hu : X.A.units + 9 < cLine) (op : CmpOp) : OpR X (compareOp op) (opD X.K X.w (cmpP op)) := by
  have h1 : X.A.units + 1 < cLine := by omega
  cases op with
  | Eq => exact op_eqD hu
  | NotEq => exact op_neD' hu
  | Lt => exact op_ltD
  | LtE => exact op_leD
  | Gt => exact op_gtD
  | GtE => exact op_geD
  | Is => exact op_isD
  | IsNot => exact op_isnotD
  | In => exact op_inD' h1
  | NotIn => exact op_notInD' h1
theorem blO_bl {o : Option Bool} {d : D} (h : blO o = some d) : ∃ b, d = .bl b := by
  cases o with
  | none => cases h
  | some b => cases h; exact ⟨b, rfl⟩
theorem notO_bl {o : Option Bool} {d : D} (h : notO o = some d) : ∃ b, d = .bl b := by
  cases o with
  | none => cases h
  | some b => cases h; exact ⟨!b, rfl⟩
theorem cmp_bl {op : CmpOp} {a b d : D} (h : primD (cmpP op) [a, b] = some d) : ∃ k, d = .bl k := by
  cases op <;> first | exact blO_bl h | exact notO_bl h
variable {a b : Expr} {pos : Pos} {ca cb : CE}
theorem pe_cmpD (hu : X.A.units + 9 < cLine) {op : CmpOp} (ha : PE X a (tO X F E O ca)) (hb : PE X b (tO X F E O cb)) (hm : behindInMarks op b = false) : PE X (.Compare a [op] [b] pos) (tE X F E O (.prim (cmpP op) [ca, cb])) :=
  pe_imp (pe_cmpR (op_cmpD hu op) ha hb hm) t_bin
theorem pt_cmpD (hu : X.A.units + 9 < cLine) {op : CmpOp} (ha : PE X a (tO X F E O ca)) (hb : PE X b (tO X F E O cb)) (hm : behindInMarks op b = false) : PT X (.Compare a [op] [b] pos) (tT X F E O (.prim (cmpP op) [ca, cb])) := by
  refine pt_imp (pt_cmpR (op_cmpD hu op) ha hb hm) fun σ H Q ⟨M, ι, ρ, S, R, k⟩ => ?_
  refine t_bin (F := F) (E := E) (O := O) σ H _ ⟨M, ι, ρ, S, R, k.imp' fun d ρ1 S1 M1 ι1 H1 er R1 g1 p1 k1 v hv => ?_⟩
  obtain ⟨t, et, q⟩ := k1
  have hd : ∃ k, d = .bl k := by
    have er' : ((evL O [ca, cb] ρ S).bind fun avs ρ S => match lookAll ρ S avs with
      | some ds => ofO (primD (cmpP op) ds) ρ S
      | none => .no) = .ok d ρ1 S1 := er
    cases e1 : evL O [ca, cb] ρ S with
    | no => rw [e1] at er'; cases er'
    | exc x r s => rw [e1] at er'; cases er'
    | ok avs r s =>
      rw [e1] at er'
      replace er' : (match lookAll r s avs with
        | some ds => ofO (primD (cmpP op) ds) r s
        | none => .no) = Res.ok d ρ1 S1 := er'
      cases e2 : lookAll r s avs with
      | none => rw [e2] at er'; cases er'
      | some ds =>
        rw [e2] at er'
        replace er' : ofO (primD (cmpP op) ds) r s = Res.ok d ρ1 S1 := er'
        cases e3 : primD (cmpP op) ds with
        | none => rw [e3] at er'; cases er'
        | some d2 =>
          rw [e3] at er'
          cases er'
          cases ds with
          | nil => cases op <;> cases e3
          | cons y ds => cases ds with
            | nil => cases op <;> cases e3
            | cons z ds => cases ds with
              | nil => exact cmp_bl e3
              | cons _ _ => cases op <;> cases e3
  obtain ⟨kb, rfl⟩ := hd
  cases (show v = .bl kb from hv)
  cases et
  exact ⟨_, rfl, q⟩
def cmpPs (ops : List CmpOp) : List Prim := ops.map cmpP
/-- the rest of a chain, the left value given -/
theorem chain_run (hu : X.A.units + 9 < cLine) : ∀ (ops : List CmpOp) (es : List Expr) (cs : List CE), Paired (fun e c => PE X e (tE X F E O c)) es cs → ∀ (op : CmpOp) (e : Expr) (c : CE), PE X e (tE X F E O c) →
    ∀ (pins : List (Addr × Obj)) (s : Shared) (σ : L2.St) (H : Hp) (Q : VK) (dx : D) (x : V) (u : Value) (M : Addr → Prop) (ι : List Addr) (ρ : Env) (S : Sto), L2.Inv X pins σ H s → RelV x u → Rel X.K X.w F M ι ρ S σ H → Rep X.K X.w ι M H dx x →
    (Kx X.K X.w F E σ M ι H (evCh O dx (cmpPs (op :: ops)) (c :: cs) ρ S) fun d _ _ M' ι' H' => ∀ v, Rep X.K X.w ι' M' H' d v → Q v H') → ops.length = es.length →
    wpAny (model X.prog X.w) X.A (compareChain pos u (op :: ops) (evalEach (e :: es) X.env)) (EP X pins σ Q) X.xe s
  | [], es, cs, hp, op, e, c, he, pins, s, σ, H, Q, dx, x, u, M, ι, ρ, S, I, ru, R, hx, k, hl => by
    cases es with
    | cons _ _ => cases hl
    | nil =>
      cases hp
      refine chain_last (thn (he.run pins s σ H (fun v H1 => opD X.K X.w (cmpP op) x v H1 Q) I ⟨M, ι, ρ, S, R, (Kx.bind (show Kx X.K X.w F E σ M ι H ((evE O c ρ S).bind fun y ρ S => match viewD S dx, viewD S y with
        | some x, some y => ofO (primD (cmpP op) [x, y]) ρ S
        | _, _ => .no) _ from k)).imp fun dy ρ1 S1 M1 ι1 H1 R1 g1 p1 k1 v hv => ?_⟩) fun w s1 ⟨y, H1, I1, r1, q1⟩ => op_cmpD hu op pins s1 σ H1 x y u w Q I1 ru r1 q1)
      cases e1 : viewD S1 dx with
      | none => rw [e1] at k1; exact k1.elim
      | some d1 =>
        cases e2 : viewD S1 dy with
        | none => rw [e1, e2] at k1; exact k1.elim
        | some d2 =>
          rw [e1, e2] at k1
          obtain ⟨d, e3, k2⟩ := ofO_ok k1
          exact ⟨ι1, M1, d1, d2, d, R1.isHot, viewD_ok R1.toRelG (Rep.grow g1 p1 _ _ hx) e1, viewD_ok R1.toRelG hv e2, e3, out_of R1 k2⟩
  | op' :: ops, es, cs, hp, op, e, c, he, pins, s, σ, H, Q, dx, x, u, M, ι, ρ, S, I, ru, R, hx, k, hl => by
    cases es with
    | nil => cases hl
    | cons e' es =>
      cases hp with
      | @cons _ c' _ cs h1 h2 =>
        refine chain_link (thn (he.run pins s σ H (fun v H1 => ∃ M1 ι1 ρ1 S1 dy d1 d2 d, Rel X.K X.w F M1 ι1 ρ1 S1 σ H1 ∧ Rep X.K X.w ι1 M1 H1 dy v ∧ Vw X.K X.w ι1 M1 H1 d1 x ∧ Vw X.K X.w ι1 M1 H1 d2 v ∧ primD (cmpP op) [d1, d2] = some d ∧
          (Kx X.K X.w F E σ M1 ι1 H1 (match tru d with
            | some true => evCh O dy (cmpPs (op' :: ops)) (c' :: cs) ρ1 S1
            | some false => .ok d ρ1 S1
            | none => .no) fun d _ _ M' ι' H' => ∀ v, Rep X.K X.w ι' M' H' d v → Q v H')) I ⟨M, ι, ρ, S, R, (Kx.bind (show Kx X.K X.w F E σ M ι H ((evE O c ρ S).bind fun y ρ S => match viewD S dx, viewD S y with
        | some x', some y' => (ofO (primD (cmpP op) [x', y']) ρ S).bind fun r ρ S => match tru r with
          | some true => evCh O y (cmpPs (op' :: ops)) (c' :: cs) ρ S
          | some false => .ok r ρ S
          | none => .no
        | _, _ => .no) _ from k)).imp fun dy ρ1 S1 M1 ι1 H1 R1 g1 p1 k1 v hv => ?_⟩) fun w s1 ⟨y, H1, I1, r1, M1, ι1, ρ1, S1, dy, d1, d2, d, R1, hy, v1, v2, ep, k1⟩ => ?_)
        · cases e1 : viewD S1 dx with
          | none => rw [e1] at k1; exact k1.elim
          | some d1 =>
            cases e2 : viewD S1 dy with
            | none => rw [e1, e2] at k1; exact k1.elim
            | some d2 =>
              rw [e1, e2] at k1
              have k2 := Kx.bind k1
              obtain ⟨d, e3, k3⟩ := ofO_ok k2
              exact ⟨M1, ι1, ρ1, S1, dy, d1, d2, d, R1, hv, viewD_ok R1.toRelG (Rep.grow g1 p1 _ _ hx) e1, viewD_ok R1.toRelG hv e2, e3, Kx.ok R1 k3⟩
        · obtain ⟨kb, rfl⟩ := cmp_bl ep
          refine thn (op_cmpD hu op pins s1 σ H1 x y u w (fun v H2 => v = .bl kb ∧ Same H1 H2) I1 ru r1 ⟨ι1, M1, d1, d2, .bl kb, R1.isHot, v1, v2, ep, fun v H2 sm rv => ⟨rv, sm⟩⟩) fun b s2 ⟨z, H2, I2, r2, ez, sm⟩ => ?_
          subst ez
          cases r2
          refine wpAny_truthy_bool ?_
          have R2 : Rel X.K X.w F M1 ι1 ρ1 S1 σ H2 := R1.same sm
          have k2 := Kx.later (F := F) (E := E) (Grow.same sm) (List.prefix_refl ι1) k1
          cases kb with
          | false => exact ite_ff ⟨.bl false, H2, I2, rfl, Kx.ok R2 k2 _ rfl⟩
          | true => exact ite_tt (chain_run hu ops es cs h2 op' e' c' h1 pins s2 σ H2 Q dy y w M1 ι1 ρ1 S1 I2 r1 R2 (hy.same sm) k2 (Nat.succ.inj hl))
theorem pe_chainD (hu : X.A.units + 9 < cLine) {op op' : CmpOp} {ops : List CmpOp} {e1 e2 : Expr} {es : List Expr} {c0 c1 c2 : CE} {cs : List CE} (h0 : PE X e (tE X F E O c0)) (h1 : PE X e1 (tE X F E O c1)) (h2 : PE X e2 (tE X F E O c2)) (hs : Paired (fun e c => PE X e (tE X F E O c)) es cs) (hl : ops.length = es.length)
    (hm : lastMarks (op :: op' :: ops) (e1 :: e2 :: es) = false) : PE X (.Compare e (op :: op' :: ops) (e1 :: e2 :: es) pos) (tE X F E O (.chain c0 (cmpPs (op :: op' :: ops)) (c1 :: c2 :: cs))) := by
  refine ⟨fun pins s σ H Q I ⟨M, ι, ρ, S, R, k⟩ => ?_⟩
  refine Compare_chain (thn (h0.run pins s σ H (fun v H1 => ∃ M1 ι1 ρ1 S1 d, Rel X.K X.w F M1 ι1 ρ1 S1 σ H1 ∧ Rep X.K X.w ι1 M1 H1 d v ∧ Kx X.K X.w F E σ M1 ι1 H1 (evCh O d (cmpPs (op :: op' :: ops)) (c1 :: c2 :: cs) ρ1 S1) fun d _ _ M' ι' H' => ∀ v, Rep X.K X.w ι' M' H' d v → Q v H') I
    ⟨M, ι, ρ, S, R, (Kx.bind k).imp fun d ρ1 S1 M1 ι1 H1 R1 g1 p1 k1 v hv => ⟨M1, ι1, ρ1, S1, d, R1, hv, k1⟩⟩) fun u s1 ⟨x, H1, I1, r1, M1, ι1, ρ1, S1, d, R1, hv, k1⟩ => ?_) hm
  exact chain_run hu (op' :: ops) (e2 :: es) (c2 :: cs) (.cons h2 hs) op e1 c1 h1 pins s1 σ H1 Q d x u M1 ι1 ρ1 S1 I1 r1 R1 hv k1 (by simp [hl])
theorem test_run (hu : X.A.units + 9 < cLine) : ∀ (ops : List CmpOp) (es : List Expr) (cs : List CE), Paired (fun e c => PE X e (tE X F E O c)) es cs → ∀ (op : CmpOp) (e : Expr) (c : CE), PE X e (tE X F E O c) →
    ∀ (pins : List (Addr × Obj)) (s : Shared) (σ : L2.St) (H : Hp) (Q : Bool → Hp → Prop) (dx : D) (x : V) (u : Value) (M : Addr → Prop) (ι : List Addr) (ρ : Env) (S : Sto), L2.Inv X pins σ H s → RelV x u → Rel X.K X.w F M ι ρ S σ H → Rep X.K X.w ι M H dx x →
    (Kx X.K X.w F E σ M ι H (evCh O dx (cmpPs (op :: ops)) (c :: cs) ρ S) fun d _ _ M' ι' H' => ∃ k, tru d = some k ∧ Q k H') → ops.length = es.length →
    wpAny (model X.prog X.w) X.A (testChain pos u (op :: ops) (evalEach (e :: es) X.env)) (TP X pins σ Q) X.xe s
  | [], es, cs, hp, op, e, c, he, pins, s, σ, H, Q, dx, x, u, M, ι, ρ, S, I, ru, R, hx, k, hl => by
    cases es with
    | cons _ _ => cases hl
    | nil =>
      cases hp
      refine test_last (thn (he.run pins s σ H (fun v H1 => opD X.K X.w (cmpP op) x v H1 fun z H2 => ∃ k, z = .bl k ∧ Q k H2) I ⟨M, ι, ρ, S, R, (Kx.bind (show Kx X.K X.w F E σ M ι H ((evE O c ρ S).bind fun y ρ S => match viewD S dx, viewD S y with
        | some x, some y => ofO (primD (cmpP op) [x, y]) ρ S
        | _, _ => .no) _ from k)).imp fun dy ρ1 S1 M1 ι1 H1 R1 g1 p1 k1 v hv => ?_⟩) fun w s1 ⟨y, H1, I1, r1, q1⟩ => thn (op_cmpD hu op pins s1 σ H1 x y u w _ I1 ru r1 q1) fun b s2 ⟨z, H2, I2, r2, kb, ez, q⟩ => ?_)
      · cases e1 : viewD S1 dx with
        | none => rw [e1] at k1; exact k1.elim
        | some d1 =>
          cases e2 : viewD S1 dy with
          | none => rw [e1, e2] at k1; exact k1.elim
          | some d2 =>
            rw [e1, e2] at k1
            obtain ⟨d, e3, k2⟩ := ofO_ok k1
            obtain ⟨kb, rfl⟩ := cmp_bl e3
            refine ⟨ι1, M1, d1, d2, .bl kb, R1.isHot, viewD_ok R1.toRelG (Rep.grow g1 p1 _ _ hx) e1, viewD_ok R1.toRelG hv e2, e3, fun v H2 sm rv => ?_⟩
            obtain ⟨t, et, q⟩ := k2 M1 ι1 H2 (R1.same sm) (Grow.same sm) (List.prefix_refl _)
            cases et
            exact ⟨_, rv, q⟩
      · subst ez
        cases r2
        exact wpAny_truthy_bool ⟨H2, I2, q⟩
  | op' :: ops, es, cs, hp, op, e, c, he, pins, s, σ, H, Q, dx, x, u, M, ι, ρ, S, I, ru, R, hx, k, hl => by
    cases es with
    | nil => cases hl
    | cons e' es =>
      cases hp with
      | @cons _ c' _ cs h1 h2 =>
        refine test_link (thn (he.run pins s σ H (fun v H1 => ∃ M1 ι1 ρ1 S1 dy d1 d2 d, Rel X.K X.w F M1 ι1 ρ1 S1 σ H1 ∧ Rep X.K X.w ι1 M1 H1 dy v ∧ Vw X.K X.w ι1 M1 H1 d1 x ∧ Vw X.K X.w ι1 M1 H1 d2 v ∧ primD (cmpP op) [d1, d2] = some d ∧
          (Kx X.K X.w F E σ M1 ι1 H1 (match tru d with
            | some true => evCh O dy (cmpPs (op' :: ops)) (c' :: cs) ρ1 S1
            | some false => .ok d ρ1 S1
            | none => .no) fun d _ _ M' ι' H' => ∃ k, tru d = some k ∧ Q k H')) I ⟨M, ι, ρ, S, R, (Kx.bind (show Kx X.K X.w F E σ M ι H ((evE O c ρ S).bind fun y ρ S => match viewD S dx, viewD S y with
        | some x', some y' => (ofO (primD (cmpP op) [x', y']) ρ S).bind fun r ρ S => match tru r with
          | some true => evCh O y (cmpPs (op' :: ops)) (c' :: cs) ρ S
          | some false => .ok r ρ S
          | none => .no
        | _, _ => .no) _ from k)).imp fun dy ρ1 S1 M1 ι1 H1 R1 g1 p1 k1 v hv => ?_⟩) fun w s1 ⟨y, H1, I1, r1, M1, ι1, ρ1, S1, dy, d1, d2, d, R1, hy, v1, v2, ep, k1⟩ => ?_)
        · cases e1 : viewD S1 dx with
          | none => rw [e1] at k1; exact k1.elim
          | some d1 =>
            cases e2 : viewD S1 dy with
            | none => rw [e1, e2] at k1; exact k1.elim
            | some d2 =>
              rw [e1, e2] at k1
              have k2 := Kx.bind k1
              obtain ⟨d, e3, k3⟩ := ofO_ok k2
              exact ⟨M1, ι1, ρ1, S1, dy, d1, d2, d, R1, hv, viewD_ok R1.toRelG (Rep.grow g1 p1 _ _ hx) e1, viewD_ok R1.toRelG hv e2, e3, Kx.ok R1 k3⟩
        · obtain ⟨kb, rfl⟩ := cmp_bl ep
          refine thn (op_cmpD hu op pins s1 σ H1 x y u w (fun v H2 => v = .bl kb ∧ Same H1 H2) I1 ru r1 ⟨ι1, M1, d1, d2, .bl kb, R1.isHot, v1, v2, ep, fun v H2 sm rv => ⟨rv, sm⟩⟩) fun b s2 ⟨z, H2, I2, r2, ez, sm⟩ => ?_
          subst ez
          cases r2
          refine wpAny_truthy_bool ?_
          have R2 : Rel X.K X.w F M1 ι1 ρ1 S1 σ H2 := R1.same sm
          have k2 := Kx.later (F := F) (E := E) (Grow.same sm) (List.prefix_refl ι1) k1
          cases kb with
          | false =>
            obtain ⟨t, et, q⟩ := Kx.ok R2 k2
            cases et
            exact ite_ff ⟨H2, I2, q⟩
          | true => exact ite_tt (test_run hu ops es cs h2 op' e' c' h1 pins s2 σ H2 Q dy y w M1 ι1 ρ1 S1 I2 r1 R2 (hy.same sm) k2 (Nat.succ.inj hl))
theorem pt_chainD (hu : X.A.units + 9 < cLine) {op op' : CmpOp} {ops : List CmpOp} {e1 e2 : Expr} {es : List Expr} {c0 c1 c2 : CE} {cs : List CE} (h0 : PE X e (tE X F E O c0)) (h1 : PE X e1 (tE X F E O c1)) (h2 : PE X e2 (tE X F E O c2)) (hs : Paired (fun e c => PE X e (tE X F E O c)) es cs) (hl : ops.length = es.length)
    (hm : lastMarks (op :: op' :: ops) (e1 :: e2 :: es) = false) : PT X (.Compare e (op :: op' :: ops) (e1 :: e2 :: es) pos) (tT X F E O (.chain c0 (cmpPs (op :: op' :: ops)) (c1 :: c2 :: cs))) := by
  refine ⟨fun pins s σ H Q I ⟨M, ι, ρ, S, R, k⟩ => ?_⟩
  refine isTrue_chain (thn (h0.run pins s σ H (fun v H1 => ∃ M1 ι1 ρ1 S1 d, Rel X.K X.w F M1 ι1 ρ1 S1 σ H1 ∧ Rep X.K X.w ι1 M1 H1 d v ∧ Kx X.K X.w F E σ M1 ι1 H1 (evCh O d (cmpPs (op :: op' :: ops)) (c1 :: c2 :: cs) ρ1 S1) fun d _ _ M' ι' H' => ∃ k, tru d = some k ∧ Q k H') I
    ⟨M, ι, ρ, S, R, (Kx.bind k).imp fun d ρ1 S1 M1 ι1 H1 R1 g1 p1 k1 v hv => ⟨M1, ι1, ρ1, S1, d, R1, hv, k1⟩⟩) fun u s1 ⟨x, H1, I1, r1, M1, ι1, ρ1, S1, d, R1, hv, k1⟩ => ?_) hm
  exact test_run hu (op' :: ops) (e2 :: es) (c2 :: cs) (.cons h2 hs) op e1 c1 h1 pins s1 σ H1 Q d x u M1 ι1 ρ1 S1 I1 r1 R1 hv k1 (by simp [hl])
end
end R
end
section
set_option Elab.async false
set_option linter.all false
set_option maxRecDepth 100000
set_option maxHeartbeats 4000000
namespace R
open PySem PySem.Spec PyProof.Rows L2
section
variable {X : Cx} {F : Entry} {E : XK} {O : Orc} {e : Expr} {c : CE}
theorem ty_at {pins : List (Addr × Obj)} {s : Shared} {σ : L2.St} {H : Hp} {x : V} {v : Value} {T : String} {d : D} {ι : List Addr} {M : Addr → Prop} (I : L2.Inv X pins σ H s) (r : RelV x v) (h : Vw X.K X.w ι M H d x) (e : tyIs T (some d) = true) :
    s.TypeIs v T ∧ ∀ a, v = .ref a → ∃ ob, s.heap.get? a = some ob ∧ ob.dict = none := by
  unfold tyIs at e
  split at e
  · rename_i z ez
    cases ez
    obtain ⟨rfl, _⟩ := h.str
    obtain ⟨t, rfl⟩ := r
    have : T = "str" := by simpa using e
    subst this
    exact ⟨typeIs_str s z t, fun _ e => nomatch e⟩
  · rename_i z ez
    cases ez
    have : T = "list" := by simpa using e
    subst this
    obtain ⟨a, xs, rfl, hq, _⟩ := h.lst
    cases r
    obtain ⟨its, _, pl, _⟩ := I.list hq
    refine ⟨pl.isList.typeIs, fun a e => ?_⟩
    cases e
    obtain ⟨o, n, e, c, hd, _⟩ := pl
    exact ⟨o, e, hd⟩
  · rename_i ks vs ez
    cases ez
    have : T = "dict" := by simpa using e
    subst this
    obtain ⟨a, rfl, hd⟩ := (show ∃ a, x = .ref a ∧ _ from h)
    cases r
    have key : ∃ o, s.heap.get? a = some o ∧ o.ExactDict := by
      rcases hd with ⟨kvs, c, _⟩ | ⟨kvs, c, _⟩ | ⟨ss, xs, c, _⟩
      · obtain ⟨_, _, vs, rel, dd⟩ := dk_rd I.hok c.1
        obtain ⟨o, es, ep, ho, hc, _⟩ := dd
        exact ⟨o, ho, hc⟩
      · obtain ⟨_, _, xs, rel, dd⟩ := dt_rd I.hok (.inl c.1)
        obtain ⟨o, es, ep, ho, hc, _⟩ := dd
        exact ⟨o, ho, hc⟩
      · obtain ⟨es, n, kd, _⟩ := c
        exact ⟨_, I.kIn _ _ kd.at_, rfl, rfl, rfl⟩
    obtain ⟨o, ho, hc⟩ := key
    refine ⟨⟨o, ho, hc.1⟩, fun b e => ?_⟩
    cases e
    exact ⟨o, ho, hc.2.1⟩
  · cases e
def TyM (K : PySem.W.Frag) (w : World) (T : String) (x : V) (H : Hp) : Prop := ∃ ι M d, Vw K w ι M H d x ∧ tyIs T (some d) = true
def tBX (K : PySem.W.Frag) (w : World) (T : String) (r : V → List V → Hp → VK → Prop) (to : TE) (t : TA) : TE := fun σ H Q => to σ H fun x H1 => TyM K w T x H1 ∧ t σ H1 fun xs H2 => r x xs H2 Q
variable {o : Expr} {es : List Expr} {to : TE} {t : TA} {name : Str} {apos cpos : Pos} {T id : String} {r : V → List V → Hp → VK → Prop}
theorem pe_bx0 (pa : PlainAttrs T) (slot : Slot T name id) (hty : typeOf (.builtin id) = pure (.type "method_descriptor")) (hm : MtR X id r) (ho : PE X o to)
    (hbase : attributeBase o name X.env (eval o X.env) = eval o X.env) (hline : (apos.endLine == cpos.line) = true) (hn : t = tNil) : PE X (.Call (.Attribute o name apos) [] [] cpos) (tBX X.K X.w T r to t) := by
  subst hn
  refine ⟨fun pins s σ H Q I h => ?_⟩
  refine wpAny_Call_method0_late hbase hline (thn (ho.run pins s σ H _ I h) fun v s1 ⟨x, H1, I1, r1, ty, q1⟩ => ?_)
  obtain ⟨ι, M, d, hv, e⟩ := ty
  obtain ⟨h1, h2⟩ := ty_at I1 r1 hv e
  exact ⟨T, id, pa, slot, hty, h1, h2, Calls.callWith_builtin rfl (PySem.evalArgs_none (hm pins s1 σ H1 x [] v [] Q I1 r1 .nil q1))⟩
theorem pe_bx (pa : PlainAttrs T) (slot : Slot T name id) (hty : typeOf (.builtin id) = pure (.type "method_descriptor")) (hm : MtR X id r) (ho : PE X o to) (ha : PA X (e :: es) t)
    (hbase : attributeBase o name X.env (eval o X.env) = eval o X.env)
    (hfew : ((backTo cpos (starEach (e :: es) X.env)).all (fun x => !x.1) && (backToKw cpos (keywordEach [] X.env)).all (fun x => x.1.isSome)
      && decide ((e :: es).length + ([] : List Keyword).length + (if ([] : List Keyword).isEmpty then 0 else 1) < 30)) = true)
    (hline : (apos.endLine == cpos.line) = true) (hs : starEach (e :: es) X.env = (false, eval e X.env) :: starEach es X.env) (hplain : (backTo cpos (starEach es X.env)).any (·.1) = false) :
    PE X (.Call (.Attribute o name apos) (e :: es) [] cpos) (tBX X.K X.w T r to t) := by
  refine ⟨fun pins s σ H Q I h => ?_⟩
  refine wpAny_Call_method_late hbase hfew hline rfl (thn (ho.run pins s σ H _ I h) fun v s1 ⟨x, H1, I1, r1, ty, q1⟩ => ?_)
  obtain ⟨ι, M, d, hv, et⟩ := ty
  obtain ⟨h1, h2⟩ := ty_at I1 r1 hv et
  refine ⟨T, id, pa, slot, hty, h1, h2, ?_⟩
  have hA := ha.run cpos pins s1 σ H1 _ I1 q1
  rw [hs] at hA ⊢
  refine Calls.callWith_builtin (by show (false || (backTo cpos (starEach es X.env)).any (·.1)) = false; rw [hplain] <;> rfl) (Calls.evalArgs_plain ?_)
  exact thn hA fun us s2 ⟨vs, H2, I2, r2, q2⟩ => hm pins s2 σ H2 x vs v us Q I2 r1 r2 q2
theorem t_meth {p : Prim} {co : CE} {cs : List CE} : ∀ σ H Q, tE X F E O (.meth p T co cs) σ H Q → tBX X.K X.w T (mtD X.K X.w p) (tO X F E O co) (tL X F E O cs) σ H Q := by
  intro σ H Q ⟨M, ι, ρ, S, R, k⟩
  refine ⟨M, ι, ρ, S, R, k.bind.imp fun av ρ1 S1 M1 ι1 H1 R1 g1 p1 k1 v hv => ?_⟩
  split at k1
  · rename_i hty
    cases el : lookAV ρ1 S1 av with
    | none => rw [el] at hty; cases hty
    | some d0 =>
      rw [el] at hty
      refine ⟨⟨ι1, M1, d0, hv.view R1 el, hty⟩, M1, ι1, ρ1, S1, R1, (Kx.bind k1).imp fun as ρ2 S2 M2 ι2 H2 R2 g2 p2 k2 vs hvs => ?_⟩
      obtain ⟨ds, d, e1, e2, k4⟩ := lookAll_inv k2
      exact ⟨ι2, M2, ds, d, R2.isHot, lookAll_ok R2 (.cons (hv.grow g2 p2) hvs) e1, e2, out_of R2 k4⟩
  · exact k1.elim
/-- a change of a list -/
theorem change_run {p : MPrim} {ds : List D} {av : AV} {x : V} {vs : List V} {σ : L2.St} {M : Addr → Prop} {ι : List Addr} {ρ : Env} {S : Sto} {H : Hp} {Q : VK} (R : Rel X.K X.w F M ι ρ S σ H) (hv : AvOk X.K X.w ι M H σ av x) (hr : Reps X.K X.w ι M H ds vs)
    (k : Kx X.K X.w F E σ M ι H (changeAV p ds ρ S av) fun d _ _ M' ι' H' => ∀ v, Rep X.K X.w ι' M' H' d v → Q v H') : mpD X.K X.w p x vs H Q := by
  have cell : ∀ (l : Nat) (xs : List D) (d : D) (ys : List D), Rep X.K X.w ι M H (.mut l) x → S[l]? = some (.lst xs) → mprimD p xs ds = some (d, ys) → (Kx X.K X.w F E σ M ι H (.ok d ρ (S.set l (.lst ys))) fun d _ _ M' ι' H' => ∀ v, Rep X.K X.w ι' M' H' d v → Q v H') →
      mpD X.K X.w p x vs H Q := by
    intro l xs d ys h1 h2 h3 k
    obtain ⟨a, ha, rfl⟩ := h1
    obtain ⟨zs, h4, h5⟩ := R.cell l _ a h2 ha
    refine ⟨ι, M, a, zs, xs, ds, d, ys, rfl, h4, h5, hr, h3, fun v ws rv rw => ?_⟩
    have g : Grow M H M (upd H a (.lst ws)) := grow_upd (R.sub a (List.mem_of_getElem? ha))
    exact k M ι _ (R.setCell h2 ha rw) g (List.prefix_refl _) v (Rep.grow g (List.prefix_refl _) _ _ rv)
  unfold changeAV at k
  split at k
  · rename_i l
    split at k
    · rename_i xs hs
      split at k
      · rename_i d ys hm
        exact cell l xs d ys hv hs hm k
      · exact k.elim
    · exact k.elim
  · rename_i i
    split at k
    · rename_i xs hs
      split at k
      · rename_i d ys hm
        obtain ⟨v', q1, a, zs, rfl, ow, ha, rz⟩ := R.slot i _ hs
        rw [show σ[i]? = some (some x) from hv] at q1
        cases q1
        refine ⟨ι, M, a, zs, xs, ds, d, ys, rfl, ha, rz, hr, hm, fun v ws rv rw => ?_⟩
        have g : Grow M H M (upd H a (.lst ws)) := grow_upd ow.1
        exact k M ι _ (R.setOl hs hv rw) g (List.prefix_refl _) v (Rep.grow g (List.prefix_refl _) _ _ rv)
      · exact k.elim
    · rename_i l hs
      split at k
      · rename_i xs hl
        split at k
        · rename_i d ys hm
          obtain ⟨v', q1, q2⟩ := R.slot i _ hs
          rw [show σ[i]? = some (some x) from hv] at q1
          cases q1
          exact cell l xs d ys q2 hl hm k
        · exact k.elim
      · exact k.elim
    · exact k.elim
  · exact k.elim
theorem t_mprim {p : MPrim} {co : CE} {cs : List CE} : ∀ σ H Q, tE X F E O (.mprim p co cs) σ H Q → tBX X.K X.w "list" (mpD X.K X.w p) (tO X F E O co) (tV X F E O cs) σ H Q := by
  intro σ H Q ⟨M, ι, ρ, S, R, k⟩
  refine ⟨M, ι, ρ, S, R, k.bind.imp fun av ρ1 S1 M1 ι1 H1 R1 g1 p1 k1 v hv => ?_⟩
  split at k1
  · rename_i hty
    cases el : lookAV ρ1 S1 av with
    | none => rw [el] at hty; cases hty
    | some d0 =>
      rw [el] at hty
      refine ⟨⟨ι1, M1, d0, hv.view R1 el, hty⟩, M1, ι1, ρ1, S1, R1, (Kx.bind k1).imp fun ds ρ2 S2 M2 ι2 H2 R2 g2 p2 k2 vs hvs => ?_⟩
      exact change_run R2 (hv.grow g2 p2) hvs k2
  · exact k1.elim
end

/-- what a def's promise asks behind it -/
def Fx (K : PySem.W.Frag) (w : World) (F : Entry) (E : XK) (M : Addr → Prop) (ι : List Addr) (H : Hp) (r : FRes) (Q : VK) : Prop := match r with
  | .ret d S' => ∀ M' ι' H' v, RelG K w F M' ι' S' H' → Grow M H M' H' → ι <+: ι' → Rep K w ι' M' H' d v → Q v H'
  | .exc x S' => ∀ M' ι' H' cls d, RelG K w F M' ι' S' H' → Grow M H M' H' → ι <+: ι' → ExRep K w ι' M' H' x cls d → E cls d H'
  | .no => False
/-- the promise of a def -/
def spD (K : PySem.W.Frag) (w : World) (np : Nat) (f : List D → Sto → FRes) : Sp := fun vs H Q E => vs.length = np ∧ ∃ M ι S ex sf ds, RelG K w ⟨H, M, ex, ι, sf⟩ M ι S H ∧ (∀ a, ex a → M a) ∧ Reps K w ι M H ds vs ∧ Fx K w ⟨H, M, ex, ι, sf⟩ E M ι H (f ds S) Q
section
variable {K : PySem.W.Frag} {w : World} {F : Entry} {E : XK} {M M' : Addr → Prop} {ι ι' : List Addr} {ρ : Env} {S : Sto} {σ : L2.St} {H H' : Hp}
/-- a def is entered: the cells alone may change -/
def entc (M : Addr → Prop) (ι : List Addr) (H : Hp) : Entry := ⟨H, M, (· ∈ ι), ι, fun _ => False⟩
theorem RelG.entc (R : RelG K w F M ι S H) : RelG K w (entc M ι H) M ι S H :=
  ⟨R.hot, R.sub, R.nd, List.prefix_refl _, fun a h => .inl h, fun a o e _ => ⟨e, Iff.rfl⟩, fun a h => R.hot a (R.sub a h), R.lenS, R.cell⟩
theorem entc_grow {S' : Sto} (R : RelG K w F M ι S H) (R' : RelG K w (entc M ι H) M' ι' S' H') : Grow M H M' H' := RelG.grow (fun a h => R.sub a h) R'
/-- back from a call: the slots as they were -/
theorem Rel.called {S' : Sto} (R : Rel K w F M ι ρ S σ H) (R' : RelG K w (entc M ι H) M' ι' S' H') : Rel K w F M' ι' ρ S' σ H' := by
  have hp : ι <+: ι' := R'.pre
  have g : Grow M H M' H' := RelG.grow (fun a h => R.sub a h) R'
  refine ⟨RelG.back R.toRelG R.newι R', R.len, fun i sv e => ?_, R.own⟩
  obtain ⟨v, q1, q2⟩ := R.slot i sv e
  refine ⟨v, q1, q2.grow g hp fun a ea oa => ?_⟩
  subst ea
  obtain ⟨b, eb, ow, hb⟩ := q2.own_at oa
  cases eb
  refine ⟨fun o ho => (R'.frame a o ho ow.2.1).1, ?_, fun z => ?_⟩
  · cases ho : H a with
    | none => exact absurd ho hb
    | some o => exact ((R'.frame a o ho ow.2.1).2).mpr ow.1
  · rcases R'.newι a z with q | q
    · exact ow.2.1 q
    · exact hb q
end
end R
end
section
set_option Elab.async false
set_option linter.all false
set_option maxRecDepth 100000
set_option maxHeartbeats 4000000
namespace R
open PySem PySem.Spec PyProof.Rows L2
section
variable {K : PySem.W.Frag} {w : World} {F : Entry} {E : XK} {M M' : Addr → Prop} {ι ι' : List Addr} {ρ : Env} {S : Sto} {σ : L2.St} {H H' : Hp}
theorem wipeE_len : ∀ (own : List Nat) (ρ : Env), (wipeE ρ own).length = ρ.length
  | [], _ => rfl
  | i :: own, ρ => by
    show (wipeE (ρ.set i none) own).length = _
    rw [wipeE_len own, List.length_set]
theorem wipeE_some : ∀ (own : List Nat) (ρ : Env) (j : Nat) (sv : SV), (wipeE ρ own)[j]? = some (some sv) → ρ[j]? = some (some sv) ∧ j ∉ own
  | [], _, _, _, h => ⟨h, by simp⟩
  | i :: own, ρ, j, sv, h => by
    obtain ⟨h1, h2⟩ := wipeE_some own (ρ.set i none) j sv h
    by_cases c : i = j
    · subst c
      by_cases hl : i < ρ.length
      · rw [List.getElem?_set_self hl] at h1; cases h1
      · rw [List.getElem?_eq_none (by rw [List.length_set]; omega)] at h1; cases h1
    · rw [List.getElem?_set_ne c] at h1
      exact ⟨h1, by simp only [List.mem_cons, not_or]; exact ⟨fun z => c z.symm, h2⟩⟩
theorem wipe_get : ∀ (vs : List Nat) (σ : L2.St) (j : Nat), j ∉ vs → (wipe σ vs)[j]? = σ[j]?
  | [], _, _, _ => rfl
  | v :: vs, σ, j, h => by
    simp only [List.mem_cons, not_or] at h
    unfold wipe
    rw [List.getElem?_set_ne (fun z => h.1 z.symm)]
    exact wipe_get vs σ j h.2
theorem wipe_wipe_eq {σ σ' : L2.St} {vs : List Nat} (hl : σ'.length = σ.length) (h : ∀ j, j ∉ vs → σ'[j]? = σ[j]?) : wipe σ' vs = wipe σ vs := by
  apply List.ext_getElem?
  intro j
  by_cases c : j ∈ vs
  · have key : ∀ (vs : List Nat) (σ : L2.St), j ∈ vs → (wipe σ vs)[j]? = if j < σ.length then some none else none := by
      intro vs
      induction vs with
      | nil => intro _ h; cases h
      | cons v vs ih =>
        intro σ hm
        unfold wipe
        by_cases e : v = j
        · subst e
          by_cases hl : v < σ.length
          · rw [List.getElem?_set_self (by rw [wipe_length]; exact hl), if_pos hl]
          · rw [List.getElem?_eq_none (by rw [List.length_set, wipe_length]; omega), if_neg hl]
        · rw [List.getElem?_set_ne e]
          rcases List.mem_cons.mp hm with h | h
          · exact absurd h.symm e
          · exact ih σ h
    rw [key vs σ' c, key vs σ c, hl]
  · rw [wipe_get vs σ' j c, wipe_get vs σ j c]
    exact h j c
/-- the block's own names forgotten -/
theorem Rel.wipe (R : Rel K w F M ι ρ S σ H) (own : List Nat) : Rel K w F M ι (wipeE ρ own) S (L2.wipe σ own) H :=
  ⟨R.toRelG, by rw [wipeE_len, wipe_length]; exact R.len, fun i sv e => by
    obtain ⟨h1, h2⟩ := wipeE_some own ρ i sv e
    obtain ⟨v, q1, q2⟩ := R.slot i sv h1
    exact ⟨v, by rw [wipe_get own σ i h2]; exact q1, q2⟩, fun i j sv sv' e o e' o' q => by
    obtain ⟨h1, h2⟩ := wipeE_some own ρ i sv e
    obtain ⟨h3, h4⟩ := wipeE_some own ρ j sv' e'
    rw [wipe_get own σ i h2, wipe_get own σ j h4] at q
    exact R.own i j sv sv' h1 o h3 o' q⟩
theorem backE_len : ∀ (own : List Nat) (ρ0 ρ : Env), (backE ρ0 ρ own).length = ρ.length
  | [], _, _ => rfl
  | i :: own, ρ0, ρ => by
    show (backE ρ0 (ρ.set i _) own).length = _
    rw [backE_len own, List.length_set]
theorem backE_some : ∀ (own : List Nat) (ρ0 ρ : Env) (j : Nat) (sv : SV), (backE ρ0 ρ own)[j]? = some (some sv) → (ρ0[j]? = some (some sv) ∧ j ∈ own) ∨ (ρ[j]? = some (some sv) ∧ j ∉ own)
  | [], _, _, _, _, h => .inr ⟨h, by simp⟩
  | i :: own, ρ0, ρ, j, sv, h => by
    rcases backE_some own ρ0 (ρ.set i (ρ0[i]?.getD none)) j sv h with ⟨h1, h2⟩ | ⟨h1, h2⟩
    · exact .inl ⟨h1, List.mem_cons_of_mem _ h2⟩
    · by_cases c : i = j
      · subst c
        by_cases hl : i < ρ.length
        · rw [List.getElem?_set_self hl] at h1
          injection h1 with h1
          cases e : ρ0[i]? with
          | none => rw [e] at h1; cases h1
          | some o => rw [e] at h1; exact .inl ⟨by rw [show o = some sv from h1], List.mem_cons_self⟩
        · rw [List.getElem?_eq_none (by rw [List.length_set]; omega)] at h1; cases h1
      · rw [List.getElem?_set_ne c] at h1
        exact .inr ⟨h1, by simp only [List.mem_cons, not_or]; exact ⟨fun z => c z.symm, h2⟩⟩
theorem noOwn_at {own : List Nat} (h : noOwn ρ own = true) {i : Nat} {sv : SV} (hi : i ∈ own) (e : ρ[i]? = some (some sv)) : sv.isOwn = false := by
  have := List.all_eq_true.mp h i hi
  rw [e] at this
  simpa using this
/-- .. and come back -/
theorem Rel.unwipe {ρ' : Env} {own : List Nat} {S' : Sto} (R : Rel K w F M ι ρ S σ H) (no : noOwn ρ own = true) (R' : Rel K w F M' ι' ρ' S' (L2.wipe σ own) H') (g : Grow M H M' H') (hp : ι <+: ι') : Rel K w F M' ι' (backE ρ ρ' own) S' σ H' := by
  refine ⟨R'.toRelG, by rw [backE_len, R'.len, wipe_length], fun i sv e => ?_, fun i j sv sv' e o e' o' q => ?_⟩
  · rcases backE_some own ρ ρ' i sv e with ⟨h1, h2⟩ | ⟨h1, h2⟩
    · obtain ⟨v, q1, q2⟩ := R.slot i sv h1
      have no' := noOwn_at no h2 h1
      exact ⟨v, q1, q2.grow g hp fun _ _ o => by rw [no'] at o; cases o⟩
    · obtain ⟨v, q1, q2⟩ := R'.slot i sv h1
      exact ⟨v, by rw [wipe_get own σ i h2] at q1; exact q1, q2⟩
  · rcases backE_some own ρ ρ' i sv e with ⟨h1, h2⟩ | ⟨h1, h2⟩
    · rw [noOwn_at no h2 h1] at o; cases o
    · rcases backE_some own ρ ρ' j sv' e' with ⟨h3, h4⟩ | ⟨h3, h4⟩
      · rw [noOwn_at no h4 h3] at o'; cases o'
      · exact R'.own i j sv sv' h1 o h3 o' (by rw [wipe_get own σ i h2, wipe_get own σ j h4]; exact q)
/-- a pending list is changed -/
theorem Rel.updP {a : Addr} {ho : HO} (R : Rel K w F M ι ρ S σ H) (ow : Own F ι M a) (ns : ∀ (i : Nat) sv, ρ[i]? = some (some sv) → sv.isOwn = true → σ[i]? ≠ some (some (.ref a))) : Rel K w F M ι ρ S σ (upd H a ho) := by
  have g : Grow M H M (upd H a ho) := grow_upd ow.1
  refine ⟨⟨fun b h => ?_, R.sub, R.nd, R.pre, R.newι, fun b u e x => ?_, fun b x => ?_, R.lenS, fun l c b h1 h2 => ?_⟩, R.len, fun j sv e => ?_, R.own⟩
  · by_cases c : b = a
    · rw [c, upd_same]; exact fun z => by cases z
    · rw [upd_ne c]; exact R.hot b h
  · obtain ⟨h1, h2⟩ := R.frame b u e x
    have ne : b ≠ a := fun z => by
      subst z
      rcases ow.2.2 with q | q
      · rw [e] at q; cases q
      · exact x q
    exact ⟨by rw [upd_ne ne]; exact h1, h2⟩
  · by_cases c : b = a
    · rw [c, upd_same]; exact fun z => by cases z
    · rw [upd_ne c]; exact R.exH b x
  · have ne : b ≠ a := fun z => ow.2.1 (z ▸ List.mem_of_getElem? h2)
    exact (R.cell l c b h1 h2).grow g (List.prefix_refl _) fun o e => by rw [upd_ne ne]; exact e
  · obtain ⟨v, q1, q2⟩ := R.slot j sv e
    refine ⟨v, q1, q2.grow g (List.prefix_refl _) fun b eb ob => ?_⟩
    subst eb
    obtain ⟨d, ed, od, _⟩ := q2.own_at ob
    cases ed
    have ne : b ≠ a := fun z => ns j sv e ob (by rw [q1, z])
    exact ⟨fun o e => by rw [upd_ne ne]; exact e, od.1, od.2.1⟩
/-- a value is stored in a free slot -/
theorem Rel.setV {i : Nat} {d : D} {v : V} (R : Rel K w F M ι ρ S σ H) (hi : i < ρ.length) (no : noOwn ρ [i] = true) (h : Rep K w ι M H d v) : Rel K w F M ι (ρ.set i (some (.v d))) S (σ.set i (some v)) H := by
  have old : ∀ (j : Nat) (sv : SV), (ρ.set i (some (SV.v d)))[j]? = some (some sv) → sv.isOwn = true → i ≠ j ∧ ρ[j]? = some (some sv) := fun j sv e o => by
    by_cases c : i = j
    · subst c; rw [List.getElem?_set_self hi] at e; cases e; cases o
    · rw [List.getElem?_set_ne c] at e; exact ⟨c, e⟩
  refine ⟨R.toRelG, by rw [List.length_set, List.length_set]; exact R.len, fun j sv e => ?_, fun j k sv sv' e o e' o' q => ?_⟩
  · by_cases c : i = j
    · subst c
      rw [List.getElem?_set_self hi] at e
      cases e
      exact ⟨v, List.getElem?_set_self (by rw [← R.len]; exact hi), h⟩
    · rw [List.getElem?_set_ne c] at e
      obtain ⟨v', q1, q2⟩ := R.slot j sv e
      exact ⟨v', by rw [List.getElem?_set_ne c]; exact q1, q2⟩
  · obtain ⟨c1, e1⟩ := old j sv e o
    obtain ⟨c2, e2⟩ := old k sv' e' o'
    rw [List.getElem?_set_ne c1, List.getElem?_set_ne c2] at q
    exact R.own j k sv sv' e1 o e2 o' q
end
mutual
def slotsT : Tg → List Nat
  | .nm i => [i]
  | .tup ts => slotsTs ts
def slotsTs : List Tg → List Nat
  | [] => []
  | t :: ts => slotsT t ++ slotsTs ts
end
section
variable (X : Cx) (F : Entry)
/-- a target takes a value -/
def gT (t : Tg) : TG := fun v σ H Q => ∃ M ι ρ S d ρ', Rel X.K X.w F M ι ρ S σ H ∧ Rep X.K X.w ι M H d v ∧ bindT t d ρ = some ρ' ∧ ∀ σ', Rel X.K X.w F M ι ρ' S σ' H → σ'.length = σ.length → (∀ j, j ∉ slotsT t → σ'[j]? = σ[j]?) → Q σ' H
def gTs (ts : List Tg) : TGs := fun vs σ H Q => ∃ M ι ρ S ds ρ', Rel X.K X.w F M ι ρ S σ H ∧ Reps X.K X.w ι M H ds vs ∧ bindTs ts ds ρ = some ρ' ∧ ∀ σ', Rel X.K X.w F M ι ρ' S σ' H → σ'.length = σ.length → (∀ j, j ∉ slotsTs ts → σ'[j]? = σ[j]?) → Q σ' H
end
section
variable {X : Cx} {F : Entry}
theorem pg_imp {t : Expr} {g g' : TG} (h : PG X t g) (i : ∀ v σ H Q, g' v σ H Q → g v σ H Q) : PG X t g' := ⟨fun pins s σ H v u Q I r q => h.run pins s σ H v u Q I r (i v σ H Q q)⟩
theorem pgs_imp {t : List Expr} {g g' : TGs} (h : PGs X t g) (i : ∀ v σ H Q, g' v σ H Q → g v σ H Q) : PGs X t g' := ⟨fun pins s σ H v u Q I r q => h.run pins s σ H v u Q I r (i v σ H Q q)⟩
theorem g_name {i : Nat} : ∀ v σ H Q, gT X F (.nm i) v σ H Q → gName i v σ H Q := by
  intro v σ H Q ⟨M, ι, ρ, S, d, ρ', R, hv, hb, q⟩
  replace hb : (if i < ρ.length && noOwn ρ [i] then some (ρ.set i (some (.v d))) else none) = some ρ' := hb
  split at hb
  · rename_i hc
    rw [Bool.and_eq_true, decide_eq_true_eq] at hc
    cases hb
    exact q _ (R.setV hc.1 hc.2 hv) (List.length_set ..) fun j hj => List.getElem?_set_ne (fun z => hj (by simp [slotsT, z]))
  · cases hb
theorem g_tup {ts : List Tg} {n : Nat} (hn : ts.length = n) : ∀ v σ H Q, gT X F (.tup ts) v σ H Q → gTup X.K n (gTs X F ts) v σ H Q := by
  intro v σ H Q ⟨M, ι, ρ, S, d, ρ', R, hv, hb, q⟩
  cases d with
  | tup ds =>
    obtain ⟨a, xs, rfl, c, r⟩ := hv
    replace hb : (if ts.length = ds.length then bindTs ts ds ρ else none) = some ρ' := hb
    split at hb
    · rename_i hl
      exact ⟨a, xs, rfl, sqT_of c, by rw [← r.length, ← hl, hn], M, ι, ρ, S, ds, ρ', R, r, hb, q⟩
    · cases hb
  | _ => cases hb
theorem g_nil : ∀ vs σ H Q, gTs X F [] vs σ H Q → gNil vs σ H Q := by
  intro vs σ H Q ⟨M, ι, ρ, S, ds, ρ', R, hv, hb, q⟩
  cases ds with
  | nil =>
    cases hb
    exact ⟨Reps.nil_inv hv, q σ R rfl fun _ _ => rfl⟩
  | cons _ _ => cases hb
theorem g_cons {t : Tg} {ts : List Tg} : ∀ vs σ H Q, gTs X F (t :: ts) vs σ H Q → gCons (gT X F t) (gTs X F ts) vs σ H Q := by
  intro vs σ H Q ⟨M, ι, ρ, S, ds, ρ', R, hv, hb, q⟩
  cases ds with
  | nil => cases hb
  | cons d ds =>
    obtain ⟨v, r, rfl, h1, h2⟩ := hv.cons_inv
    replace hb : (match bindT t d ρ with
      | some ρ' => bindTs ts ds ρ'
      | none => none) = some ρ' := hb
    cases e : bindT t d ρ with
    | none => rw [e] at hb; cases hb
    | some ρ1 =>
      rw [e] at hb
      refine ⟨v, r, rfl, M, ι, ρ, S, d, ρ1, R, h1, e, fun σ1 R1 l1 j1 => ⟨M, ι, ρ1, S, ds, ρ', R1, h2, hb, fun σ2 R2 l2 j2 => q σ2 R2 (l2.trans l1) fun j hj => ?_⟩⟩
      have hj' : j ∉ slotsT t ∧ j ∉ slotsTs ts := by
        have : slotsTs (t :: ts) = slotsT t ++ slotsTs ts := by simp [slotsTs]
        rw [this, List.mem_append, not_or] at hj
        exact hj
      rw [j2 j hj'.2, j1 j hj'.1]
end
end R
end
section
set_option Elab.async false
set_option linter.all false
set_option maxRecDepth 100000
set_option maxHeartbeats 4000000
namespace R
open PySem PySem.Spec PyProof.Rows L2
/-- it yields these items -/
def Yl (K : PySem.W.Frag) (w : World) (ds : List D) (M : Addr → Prop) (ι : List Addr) (H : Hp) (J : It) : Prop := ∀ M2 ι2 H2, Hot M2 H2 → Grow M H M2 H2 → ι <+: ι2 → ∀ i,
  (ds.length ≤ i → J.stop i H2) ∧ ∀ d, ds[i]? = some d → J.go i H2 ∧ ∀ x H3, J.yld i H2 x H3 → Same H2 H3 ∧ Rep K w ι2 M2 H3 d x
section
variable {K : PySem.W.Frag} {w : World} {M : Addr → Prop} {ι : List Addr} {H : Hp}
theorem yl_list {ds : List D} {a : Addr} (h : Rep K w ι M H (.lst ds) (.ref a)) : Yl K w ds M ι H (Itl K a) := by
  intro M2 ι2 H2 hot g hp i
  obtain ⟨b, xs, e, c, r⟩ := (Rep.grow g hp _ _ h : Rep K w ι2 M2 H2 (.lst ds) (.ref a))
  cases e
  have sq := sqL_of c
  refine ⟨fun hi => ⟨xs, sq, by rw [← r.length]; exact hi⟩, fun d hd => ?_⟩
  obtain ⟨x, hx, rx⟩ := r.get hd
  refine ⟨⟨xs, x, sq, hx⟩, fun y H3 hy => ?_⟩
  obtain ⟨rfl, q⟩ := hy
  have := q xs sq
  rw [hx] at this
  cases this
  exact ⟨Same.refl H3, rx⟩
theorem yl_tup {ds : List D} {a : Addr} (h : Rep K w ι M H (.tup ds) (.ref a)) : Yl K w ds M ι H (Itt K a) := by
  intro M2 ι2 H2 hot g hp i
  obtain ⟨b, xs, e, c, r⟩ := (Rep.grow g hp _ _ h : Rep K w ι2 M2 H2 (.tup ds) (.ref a))
  cases e
  have sq := sqT_of c
  refine ⟨fun hi => ⟨xs, sq, by rw [← r.length]; exact hi⟩, fun d hd => ?_⟩
  obtain ⟨x, hx, rx⟩ := r.get hd
  refine ⟨⟨xs, x, sq, hx⟩, fun y H3 hy => ?_⟩
  obtain ⟨rfl, q⟩ := hy
  have := q xs sq
  rw [hx] at this
  cases this
  exact ⟨Same.refl H3, rx⟩
theorem yl_str {z : Str} : Yl K w (z.cps.toList.map fun c => .str ⟨#[c]⟩) M ι H (Its z) := by
  intro M2 ι2 H2 hot g hp i
  refine ⟨fun hi => ?_, fun d hd => ?_⟩
  · rw [List.length_map, Array.length_toList] at hi
    exact hi
  · rw [List.getElem?_map] at hd
    cases e : z.cps.toList[i]? with
    | none => rw [e] at hd; cases hd
    | some c =>
      rw [e] at hd
      cases hd
      rw [Array.getElem?_toList] at e
      refine ⟨(Array.getElem?_eq_some_iff.mp e).1, fun y H3 hy => ?_⟩
      obtain ⟨rfl, c', q, rfl⟩ := hy
      rw [e] at q
      cases q
      exact ⟨Same.refl H3, rfl, sign_ok c⟩
theorem yl_rng {lo hi : Int} {n : Nat} (hn : n = (hi - lo).toNat) : Yl K w (rangeD lo hi) M ι H (Itr lo n) := by
  subst hn
  intro M2 ι2 H2 hot g hp i
  unfold rangeD
  refine ⟨fun h => ?_, fun d hd => ?_⟩
  · rw [List.length_map, List.length_range] at h
    exact h
  · rw [List.getElem?_map] at hd
    cases e : (List.range (hi - lo).toNat)[i]? with
    | none => rw [e] at hd; cases hd
    | some c =>
      rw [e] at hd
      cases hd
      obtain ⟨h1, h2⟩ := List.getElem?_eq_some_iff.mp e
      rw [List.length_range] at h1
      rw [List.getElem_range] at h2
      subst h2
      exact ⟨h1, fun y H3 hy => ⟨by rw [hy.1]; exact Same.refl _, hy.2⟩⟩
theorem zipD_get : ∀ {xs ys : List D} {i : Nat} {d : D}, (zipD xs ys)[i]? = some d → ∃ a b, xs[i]? = some a ∧ ys[i]? = some b ∧ d = .tup [a, b]
  | [], _, _, _, h => by simp [zipD] at h
  | _ :: _, [], _, _, h => by simp [zipD] at h
  | a :: r, b :: s, 0, d, h => by simp [zipD] at h; exact ⟨a, b, rfl, rfl, h.symm⟩
  | a :: r, b :: s, i + 1, d, h => by
    simp [zipD] at h
    obtain ⟨x, y, h1, h2, h3⟩ := zipD_get h
    exact ⟨x, y, by simpa using h1, by simpa using h2, h3⟩
theorem zipD_len : ∀ {xs ys : List D}, (zipD xs ys).length = min xs.length ys.length
  | [], ys => by simp [zipD]
  | _ :: _, [] => by simp [zipD]
  | a :: r, b :: s => by simp [zipD, zipD_len (xs := r) (ys := s)]
theorem pair_rep {M2 : Addr → Prop} {H2 : Hp} {T : Addr} {x y : V} {a b : D} (hot : Hot M2 H2) (hT : H2 T = none) (r1 : Rep K w ι M2 H2 a x) (r2 : Rep K w ι M2 H2 b y) : Rep K w ι M2 (upd H2 T (.tup [x, y])) (.tup [a, b]) (.ref T) :=
  ⟨T, [x, y], rfl, .inl ⟨.inl upd_same, fun z => hot T z hT⟩, .cons (r1.same (same_upd hT)) (.cons (r2.same (same_upd hT)) .nil)⟩
theorem yl_zipL {ds es : List D} {a b : Addr} (h : Rep K w ι M H (.lst ds) (.ref a)) (h' : Rep K w ι M H (.lst es) (.ref b)) : Yl K w (zipD ds es) M ι H (Itz K a b) := by
  intro M2 ι2 H2 hot g hp i
  obtain ⟨a', xs, e, c, r⟩ := (Rep.grow g hp _ _ h : Rep K w ι2 M2 H2 (.lst ds) (.ref a))
  cases e
  obtain ⟨b', ys, e, c', r'⟩ := (Rep.grow g hp _ _ h' : Rep K w ι2 M2 H2 (.lst es) (.ref b))
  cases e
  have s1 := sqL_of c
  have s2 := sqL_of c'
  refine ⟨fun hi => ⟨xs, ys, s1, s2, ?_⟩, fun d hd => ?_⟩
  · rw [zipD_len, r.length, r'.length] at hi; omega
  · obtain ⟨da, db, h1, h2, rfl⟩ := zipD_get hd
    obtain ⟨x, hx, rx⟩ := r.get h1
    obtain ⟨y, hy, ry⟩ := r'.get h2
    refine ⟨⟨xs, ys, x, y, s1, s2, hx, hy⟩, fun z H3 hz => ?_⟩
    obtain ⟨T, x', y', rfl, hT, rfl, q1, q2⟩ := hz
    have z1 := q1 xs s1; rw [hx] at z1; cases z1
    have z2 := q2 ys s2; rw [hy] at z2; cases z2
    exact ⟨same_upd hT, pair_rep hot hT rx ry⟩
theorem yl_zipT {ds es : List D} {a b : Addr} (h : Rep K w ι M H (.tup ds) (.ref a)) (h' : Rep K w ι M H (.tup es) (.ref b)) : Yl K w (zipD ds es) M ι H (RZ.ItzT K a b) := by
  intro M2 ι2 H2 hot g hp i
  obtain ⟨a', xs, e, c, r⟩ := (Rep.grow g hp _ _ h : Rep K w ι2 M2 H2 (.tup ds) (.ref a))
  cases e
  obtain ⟨b', ys, e, c', r'⟩ := (Rep.grow g hp _ _ h' : Rep K w ι2 M2 H2 (.tup es) (.ref b))
  cases e
  have s1 := sqT_of c
  have s2 := sqT_of c'
  refine ⟨fun hi => ⟨xs, ys, s1, s2, ?_⟩, fun d hd => ?_⟩
  · rw [zipD_len, r.length, r'.length] at hi; omega
  · obtain ⟨da, db, h1, h2, rfl⟩ := zipD_get hd
    obtain ⟨x, hx, rx⟩ := r.get h1
    obtain ⟨y, hy, ry⟩ := r'.get h2
    refine ⟨⟨xs, ys, x, y, s1, s2, hx, hy⟩, fun z H3 hz => ?_⟩
    obtain ⟨T, x', y', rfl, hT, rfl, q1, q2⟩ := hz
    have z1 := q1 xs s1; rw [hx] at z1; cases z1
    have z2 := q2 ys s2; rw [hy] at z2; cases z2
    exact ⟨same_upd hT, pair_rep hot hT rx ry⟩
end
section
variable (X : Cx) (F : Entry) (E : XK) (O : Orc)
def tI (ci : CI) : TI := fun σ H R => ∃ M ι ρ S, Rel X.K X.w F M ι ρ S σ H ∧ Kx X.K X.w F E σ M ι H (evI O ci ρ S) fun ds _ _ M' ι' H' => ∀ J, Yl X.K X.w ds M' ι' H' J → R J H'
end
section
variable {X : Cx} {F : Entry} {E : XK} {O : Orc} {e tg : Expr} {c : CE}
theorem pi_seqD (he : PE X e (tE X F E O c)) : PI X tg e (tI X F E O (.seq c)) := by
  refine ⟨fun pins s σ H R I h => ?_⟩
  obtain ⟨M, ι, ρ, S, RR, k⟩ := h
  replace k : Kx X.K X.w F E σ M ι H ((evE O c ρ S).bind fun d ρ S => ofO (seqD d) ρ S) fun ds _ _ M' ι' H' => ∀ J, Yl X.K X.w ds M' ι' H' J → R J H' := k
  have k1 := k.bind
  cases er : evE O c ρ S with
  | no => rw [er] at k; exact k.elim
  | exc x ρ' S' =>
    refine (pi_list he).run pins s σ H R I ⟨M, ι, ρ, S, RR, ?_⟩
    rw [er] at k1 ⊢
    exact k1
  | ok d ρ' S' =>
    rw [er] at k1
    have k2 : ∃ ds, seqD d = some ds := by
      cases es : seqD d with
      | some ds => exact ⟨ds, rfl⟩
      | none =>
        exfalso
        rw [er] at k
        replace k : Kx X.K X.w F E σ M ι H (ofO (seqD d) ρ' S') _ := k
        rw [es] at k
        exact k
    obtain ⟨ds, eds⟩ := k2
    have k3 : ∀ M' ι' H', Rel X.K X.w F M' ι' ρ' S' σ H' → Grow M H M' H' → ι <+: ι' → ∀ J, Yl X.K X.w ds M' ι' H' J → R J H' := fun M' ι' H' R' g hp => by
      have := k1 M' ι' H' R' g hp
      replace this : Kx X.K X.w F E σ M' ι' H' (ofO (seqD d) ρ' S') fun ds _ _ M' ι' H' => ∀ J, Yl X.K X.w ds M' ι' H' J → R J H' := this
      rw [eds] at this
      exact Kx.ok R' this
    cases d with
    | lst zs =>
      cases eds
      refine (pi_list he).run pins s σ H R I ⟨M, ι, ρ, S, RR, ?_⟩
      rw [er]
      intro M' ι' H' R' g hp v hv
      obtain ⟨a, xs, rfl, cc, r⟩ := id hv
      exact ⟨a, rfl, ⟨xs, sqL_of cc⟩, k3 M' ι' H' R' g hp _ (yl_list hv)⟩
    | tup zs =>
      cases eds
      refine (pi_tup he).run pins s σ H R I ⟨M, ι, ρ, S, RR, ?_⟩
      rw [er]
      intro M' ι' H' R' g hp v hv
      obtain ⟨a, xs, rfl, cc, r⟩ := id hv
      exact ⟨a, rfl, ⟨xs, sqT_of cc⟩, k3 M' ι' H' R' g hp _ (yl_tup hv)⟩
    | str z =>
      cases eds
      refine (pi_str he).run pins s σ H R I ⟨M, ι, ρ, S, RR, ?_⟩
      rw [er]
      intro M' ι' H' R' g hp v hv
      obtain ⟨rfl, _⟩ := (show v = .str z ∧ _ from hv)
      exact ⟨z, rfl, k3 M' ι' H' R' g hp _ yl_str⟩
    | _ => cases eds
theorem pi_imp {it : Expr} {t t' : TI} (h : PI X tg it t) (i : ∀ σ H R, t' σ H R → t σ H R) : PI X tg it t' := ⟨fun pins s σ H R I q => h.run pins s σ H R I (i σ H R q)⟩
theorem evV_len : ∀ (es : List CE) (ρ : Env) (S : Sto) (ds : List D) (ρ' : Env) (S' : Sto), evV O es ρ S = .ok ds ρ' S' → ds.length = es.length
  | [], _, _, _, _, _, h => by cases h; rfl
  | e :: es, ρ, S, ds, ρ', S', h => by
    have h' : ((evE O e ρ S).bind fun d ρ S => (evV O es ρ S).bind fun ds ρ S => .ok (d :: ds) ρ S) = .ok ds ρ' S' := h
    cases e1 : evE O e ρ S with
    | no => rw [e1] at h'; cases h'
    | exc x r s => rw [e1] at h'; cases h'
    | ok d r s =>
      rw [e1] at h'
      replace h' : ((evV O es r s).bind fun ds ρ S => Res.ok (d :: ds) ρ S) = .ok ds ρ' S' := h'
      cases e2 : evV O es r s with
      | no => rw [e2] at h'; cases h'
      | exc x r s => rw [e2] at h'; cases h'
      | ok ds2 r2 s2 =>
        rw [e2] at h'
        have z := evV_len es r s ds2 _ _ e2
        cases h'
        rw [List.length_cons, List.length_cons, z]
theorem t_rng1 {a : CE} : ∀ σ H R, tI X F E O (.range [a]) σ H R → iRng1 (tV X F E O [a]) σ H R := by
  intro σ H R ⟨M, ι, ρ, S, RR, k⟩
  refine ⟨M, ι, ρ, S, RR, k.bind.imp' fun ds ρ1 S1 M1 ι1 H1 er R1 g1 p1 k1 vs hvs => ?_⟩
  have el := evV_len _ _ _ _ _ _ er
  split at k1
  · rename_i j
    obtain ⟨v, r, rfl, h1, h2⟩ := hvs.cons_inv
    cases Reps.nil_inv h2
    cases (show v = .int j from h1)
    split at k1
    · rename_i ho
      unfold okRange at ho
      rw [Bool.and_eq_true, decide_eq_true_eq, decide_eq_true_eq] at ho
      exact ⟨j, rfl, ho.1, ho.2, Kx.ok R1 k1 _ (yl_rng (by simp))⟩
    · exact k1.elim
  · cases el
  · exact k1.elim
theorem t_rng2 {a b : CE} : ∀ σ H R, tI X F E O (.range [a, b]) σ H R → iRng2 (tV X F E O [a, b]) σ H R := by
  intro σ H R ⟨M, ι, ρ, S, RR, k⟩
  refine ⟨M, ι, ρ, S, RR, k.bind.imp' fun ds ρ1 S1 M1 ι1 H1 er R1 g1 p1 k1 vs hvs => ?_⟩
  have el := evV_len _ _ _ _ _ _ er
  split at k1
  · cases el
  · rename_i i j
    obtain ⟨v, r, rfl, h1, h2⟩ := hvs.cons_inv
    obtain ⟨v', r', rfl, h3, h4⟩ := h2.cons_inv
    cases Reps.nil_inv h4
    cases (show v = .int i from h1)
    cases (show v' = .int j from h3)
    split at k1
    · rename_i ho
      unfold okRange at ho
      simp only [Bool.and_eq_true, decide_eq_true_eq] at ho
      exact ⟨i, j, rfl, ⟨ho.1.1, ho.1.2, ho.2.1, ho.2.2⟩, Kx.ok R1 k1 _ (yl_rng rfl)⟩
    · exact k1.elim
  · exact k1.elim
theorem t_zip {es : List CE} : ∀ σ H R, tI X F E O (.zip es) σ H R → RZ.iZipA X.K (tV X F E O es) σ H R := by
  intro σ H R ⟨M, ι, ρ, S, RR, k⟩
  refine ⟨M, ι, ρ, S, RR, k.bind.imp fun ds ρ1 S1 M1 ι1 H1 R1 g1 p1 k1 vs hvs => ?_⟩
  split at k1
  · obtain ⟨v, r, rfl, h1, h2⟩ := hvs.cons_inv
    obtain ⟨v', r', rfl, h3, h4⟩ := h2.cons_inv
    cases Reps.nil_inv h4
    obtain ⟨a, xs, rfl, c1, r1⟩ := id h1
    obtain ⟨b, ys, rfl, c2, r2⟩ := id h3
    exact ⟨a, b, xs, ys, rfl, .inl ⟨sqL_of c1, sqL_of c2, Kx.ok R1 k1 _ (yl_zipL h1 h3)⟩⟩
  · obtain ⟨v, r, rfl, h1, h2⟩ := hvs.cons_inv
    obtain ⟨v', r', rfl, h3, h4⟩ := h2.cons_inv
    cases Reps.nil_inv h4
    obtain ⟨a, xs, rfl, c1, r1⟩ := id h1
    obtain ⟨b, ys, rfl, c2, r2⟩ := id h3
    exact ⟨a, b, xs, ys, rfl, .inr ⟨sqT_of c1, sqT_of c2, Kx.ok R1 k1 _ (yl_zipT h1 h3)⟩⟩
  · exact k1.elim
/-- tests, an element: entered anew at each turn -/
def tIfsX (X : Cx) (E : XK) (O : Orc) (cs : List CE) : TT := fun σ H Q => ∃ F M ι ρ S, Rel X.K X.w F M ι ρ S σ H ∧ Kx X.K X.w F E σ M ι H (evIfs O cs ρ S) fun b _ _ M' ι' H' => Q b H'
def tEX (X : Cx) (E : XK) (O : Orc) (c : CE) : TE := fun σ H Q => ∃ F, tE X F E O c σ H Q
def gTX (X : Cx) (t : Tg) : TG := fun v σ H Q => ∃ F, gT X F t v σ H Q
theorem pe_ex {X : Cx} (h : ∀ F, PE X e (tE X F E O c)) : PE X e (fun σ H Q => ∃ F, tE X F E O c σ H Q) := ⟨fun pins s σ H Q I ⟨F, q⟩ => (h F).run pins s σ H Q I q⟩
theorem pg_ex {X : Cx} {tg : Expr} {t : Tg} (h : ∀ F, PG X tg (gT X F t)) : PG X tg (gTX X t) := ⟨fun pins s σ H v u Q I r ⟨F, q⟩ => (h F).run pins s σ H v u Q I r q⟩
/-- one turn -/
def turnC (O : Orc) (t : Tg) (ifs : List CE) (elt : CE) (d : D) (ρ : Env) (S : Sto) : Res (Option D) := match bindT t d ρ with
        | some ρ => noExc ((evIfs O ifs ρ S).bind fun b ρ S => if b then (evE O elt ρ S).bind fun y ρ S => .ok (some y) ρ S else .ok none ρ S)
        | none => .no
theorem turnC_exc {t : Tg} {ifs : List CE} {elt : CE} {d : D} {ρ : Env} {S : Sto} {x : Ex} {ρ' : Env} {S' : Sto} (h : turnC O t ifs elt d ρ S = .exc x ρ' S') : False := by
  unfold turnC at h
  split at h
  · unfold noExc at h
    split at h
    · cases h
    · rename_i hn; exact hn _ _ _ h
  · cases h
theorem loopC_exc {turn : D → Env → Sto → Res (Option D)} (ht : ∀ d ρ S x ρ' S', turn d ρ S = .exc x ρ' S' → False) {own : List Nat} : ∀ {ds acc : List D} {ρ : Env} {S : Sto} {x : Ex} {ρ' : Env} {S' : Sto}, loopC turn own ds acc ρ S = .exc x ρ' S' → False
  | [], acc, ρ, S, x, ρ', S', h => by cases h
  | d :: r, acc, ρ, S, x, ρ', S', h => by
    have h' : ((turn d ρ S).bind fun o ρ' S' => match o with
      | some y => if acc.length < sizeLine then loopC turn own r (acc ++ [y]) (wipeE ρ' own) S' else .no
      | none => loopC turn own r acc (wipeE ρ' own) S') = .exc x ρ' S' := h
    cases e : turn d ρ S with
    | no => rw [e] at h'; cases h'
    | exc y r' s' => exact ht _ _ _ _ _ _ e
    | ok o r' s' =>
      rw [e] at h'
      replace h' : (match o with
        | some y => if acc.length < sizeLine then loopC turn own r (acc ++ [y]) (wipeE r' own) s' else .no
        | none => loopC turn own r acc (wipeE r' own) s') = .exc x ρ' S' := h'
      cases o with
      | none => exact loopC_exc ht h'
      | some y =>
        replace h' : (if acc.length < sizeLine then loopC turn own r (acc ++ [y]) (wipeE r' own) s' else .no) = .exc x ρ' S' := h'
        split at h'
        · exact loopC_exc ht h'
        · cases h'
end
end R
end
section
set_option Elab.async false
set_option linter.all false
set_option maxRecDepth 100000
set_option maxHeartbeats 4000000
namespace R
open PySem PySem.Spec PyProof.Rows L2
section
variable {X : Cx} {F : Entry} {E : XK} {O : Orc} {K : PySem.W.Frag} {w : World}
theorem wipe_idem (σ : L2.St) (vs : List Nat) : wipe (wipe σ vs) vs = wipe σ vs := wipe_wipe_eq (wipe_length σ vs) fun j hj => wipe_get vs σ j hj
/-- what a turn leaves behind of a pending list -/
theorem pend_turn {M M' : Addr → Prop} {ι ι' : List Addr} {ρ ρ' : Env} {S S' : Sto} {σ σ' : L2.St} {H H' : Hp} {D : Addr} {ho : HO} (R : Rel K w F M ι ρ S σ H) (ow : Own F ι M D) (hD : H D = some ho) (ns : ∀ (i : Nat) sv, ρ[i]? = some (some sv) → sv.isOwn = true → σ[i]? ≠ some (some (.ref D)))
    (R' : Rel K w (entr F M ι ρ σ H) M' ι' ρ' S' σ' H') : H' D = some ho ∧ Own F ι' M' D ∧ ∀ (i : Nat) sv, ρ'[i]? = some (some sv) → sv.isOwn = true → σ'[i]? ≠ some (some (.ref D)) := by
  have nx : ¬ (entr F M ι ρ σ H).ex D := fun z => by
    rcases z with z | ⟨i, sv, e, o, q⟩
    · exact ow.2.1 z
    · exact ns i sv e o q
  obtain ⟨h1, h2⟩ := R'.frame D _ hD nx
  have nn : ¬ ((entr F M ι ρ σ H).H D = none ∨ (entr F M ι ρ σ H).ex D) := fun z => by
    rcases z with z | z
    · have : H D = none := z
      rw [hD] at this; cases this
    · exact nx z
  refine ⟨h1, ⟨h2.mpr ow.1, fun z => ?_, ow.2.2⟩, fun i sv e o z => ?_⟩
  · rcases R'.newι D z with q | q
    · exact nx q
    · exact nn (.inl q)
  · obtain ⟨v, q1, q2⟩ := R'.slot i sv e
    rw [z] at q1; cases q1
    obtain ⟨b, eb, ob, _⟩ := q2.own_at o
    cases eb
    exact nn ob.2.2
theorem ns_wipe {ρ : Env} {σ : L2.St} {D : Addr} {own : List Nat} (ns : ∀ (i : Nat) sv, ρ[i]? = some (some sv) → sv.isOwn = true → σ[i]? ≠ some (some (.ref D))) : ∀ (i : Nat) sv, (wipeE ρ own)[i]? = some (some sv) → sv.isOwn = true → (wipe σ own)[i]? ≠ some (some (.ref D)) := fun i sv e o z => by
  obtain ⟨h1, h2⟩ := wipeE_some own ρ i sv e
  rw [wipe_get own σ i h2] at z
  exact ns i sv h1 o z
theorem t_comp {E2 : XK} {own : List Nat} {t : Tg} {ci : CI} {ifs : List CE} {elt : CE} (ht : ∀ j ∈ slotsT t, j ∈ own) : ∀ σ H Q, tP X F E O (.comp own t ci ifs elt) σ H Q → tLc (tI X F E O ci) (gTX X t) (tIfsX X E2 O ifs) (tEX X E2 O elt) own σ H Q := by
  intro σ H Q ⟨M, ι, ρ, S, R, k⟩
  refine ⟨M, ι, ρ, S, R, k.bind.imp fun ds ρ1 S1 M1 ι1 H1 R1 g1 p1 k1 J hJ D hD => ?_⟩
  split at k1
  · rename_i hno
    have turnE : ∀ d ρ S, (match bindT t d ρ with
        | some ρ => noExc ((evIfs O ifs ρ S).bind fun b ρ S => if b then (evE O elt ρ S).bind fun y ρ S => .ok (some y) ρ S else .ok none ρ S)
        | none => .no) = turnC O t ifs elt d ρ S := fun d ρ S => rfl
    replace k1 : Kx X.K X.w F E σ M1 ι1 H1 ((loopC (turnC O t ifs elt) own ds [] (wipeE ρ1 own) S1).bind fun ys ρ' S => .ok (_root_.R.D.lst ys) (backE ρ1 ρ' own) S) fun d ρ' _ M' ι' H' => ∃ ds, d = .lst ds ∧ ∀ p xs, H' p = some (.lst xs) → Reps X.K X.w ι' M' H' ds xs → Own F ι' M' p →
      (∀ (i : Nat) sv, ρ'[i]? = some (some sv) → sv.isOwn = true → σ[i]? ≠ some (some (.ref p))) → (F.H p = none) → Q (.ref p) H' := k1
    cases eL : loopC (turnC O t ifs elt) own ds [] (wipeE ρ1 own) S1 with
    | no => rw [eL] at k1; exact k1.elim
    | exc x r s => exact (loopC_exc (fun d ρ S x ρ' S' h => turnC_exc h) eL).elim
    | ok ys ρe Se =>
      rw [eL] at k1
      have nf : F.H D = none := (Rel.fresh R1.toRelG hD).1
      refine ⟨fun i m H' => ∃ M2 ι2 ρ2 S2 acc accV, m = ds.length - i ∧ i ≤ ds.length ∧ Rel X.K X.w F M2 ι2 ρ2 S2 (wipe σ own) H' ∧ Grow M1 H1 M2 H' ∧ ι1 <+: ι2 ∧ H' D = some (.lst accV) ∧ Reps X.K X.w ι2 M2 H' acc accV ∧ Own F ι2 M2 D ∧
        (∀ (i : Nat) sv, ρ2[i]? = some (some sv) → sv.isOwn = true → (wipe σ own)[i]? ≠ some (some (.ref D))) ∧ loopC (turnC O t ifs elt) own (ds.drop i) acc ρ2 S2 = .ok ys ρe Se, ?_, ?_⟩
      · obtain ⟨R2, ow, ns⟩ := (R1.wipe own).heat (o := .lst []) hD
        exact ⟨_, _, _, _, _, [], [], rfl, Nat.zero_le _, R2, grow_ad hD, List.prefix_refl _, upd_same, rfl, ow, ns, eL⟩
      · rintro i m H' ⟨M2, ι2, ρ2, S2, acc, accV, rfl, hi, R2, g2, p2, hDv, ra, ow, ns, el⟩
        obtain ⟨hstop, hitem⟩ := hJ M2 ι2 H' R2.isHot g2 p2 i
        by_cases c : i < ds.length
        · refine .inr ?_
          obtain ⟨go, yl⟩ := hitem ds[i] (List.getElem?_eq_getElem c)
          refine ⟨go, fun H'' => ∃ M2 ι2 ρ2 S2 acc accV, Rel X.K X.w F M2 ι2 ρ2 S2 (wipe σ own) H'' ∧ Grow M1 H1 M2 H'' ∧ ι1 <+: ι2 ∧ H'' D = some (.lst accV) ∧ Reps X.K X.w ι2 M2 H'' acc accV ∧ Own F ι2 M2 D ∧
            (∀ (i : Nat) sv, ρ2[i]? = some (some sv) → sv.isOwn = true → (wipe σ own)[i]? ≠ some (some (.ref D))) ∧ loopC (turnC O t ifs elt) own (ds.drop (i + 1)) acc ρ2 S2 = .ok ys ρe Se, fun H'' ⟨M3, ι3, ρ3, S3, acc3, accV3, q1, q2, q3, q4, q5, q6, q7, q8⟩ =>
              ⟨ds.length - (i + 1), by omega, M3, ι3, ρ3, S3, acc3, accV3, rfl, c, q1, q2, q3, q4, q5, q6, q7, q8⟩, fun x H3 hy => ?_⟩
          obtain ⟨sm, rx⟩ := yl x H3 hy
          rw [List.drop_eq_getElem_cons c] at el
          replace el : ((turnC O t ifs elt ds[i] ρ2 S2).bind fun o ρ' S' => match o with
            | some y => if acc.length < sizeLine then loopC (turnC O t ifs elt) own (ds.drop (i + 1)) (acc ++ [y]) (wipeE ρ' own) S' else .no
            | none => loopC (turnC O t ifs elt) own (ds.drop (i + 1)) acc (wipeE ρ' own) S') = .ok ys ρe Se := el
          have R3 := R2.same sm
          have hD3 : H3 D = some (.lst accV) := sm _ _ hDv
          have gs : Grow M2 H' M2 H3 := Grow.same sm
          -- the end of a turn
          have fin : ∀ (M6 : Addr → Prop) (ι6 : List Addr) (ρ6 : Env) (S6 : Sto) (H6 : Hp) (σ' : L2.St) (o : Option _root_.R.D), Rel X.K X.w (entr F M2 ι2 ρ2 (wipe σ own) H3) M6 ι6 ρ6 S6 σ' H6 → Grow M2 H3 M6 H6 → ι2 <+: ι6 → wipe σ' own = wipe σ own →
              turnC O t ifs elt ds[i] ρ2 S2 = .ok o ρ6 S6 → (∀ y, o = some y → ∀ v, Rep X.K X.w ι6 M6 H6 y v → ∃ acc', H6 D = some (.lst acc') ∧ acc'.length < sizeLine ∧ ∃ M2 ι2 ρ2 S2 acc accV, Rel X.K X.w F M2 ι2 ρ2 S2 (wipe σ own) (upd H6 D (.lst (acc' ++ [v]))) ∧ Grow M1 H1 M2 (upd H6 D (.lst (acc' ++ [v]))) ∧ ι1 <+: ι2 ∧ (upd H6 D (.lst (acc' ++ [v]))) D = some (.lst accV) ∧ Reps X.K X.w ι2 M2 (upd H6 D (.lst (acc' ++ [v]))) acc accV ∧ Own F ι2 M2 D ∧
            (∀ (i : Nat) sv, ρ2[i]? = some (some sv) → sv.isOwn = true → (wipe σ own)[i]? ≠ some (some (.ref D))) ∧ loopC (turnC O t ifs elt) own (ds.drop (i + 1)) acc ρ2 S2 = .ok ys ρe Se) ∧
              (o = none → ∃ M2 ι2 ρ2 S2 acc accV, Rel X.K X.w F M2 ι2 ρ2 S2 (wipe σ own) H6 ∧ Grow M1 H1 M2 H6 ∧ ι1 <+: ι2 ∧ H6 D = some (.lst accV) ∧ Reps X.K X.w ι2 M2 H6 acc accV ∧ Own F ι2 M2 D ∧
            (∀ (i : Nat) sv, ρ2[i]? = some (some sv) → sv.isOwn = true → (wipe σ own)[i]? ≠ some (some (.ref D))) ∧ loopC (turnC O t ifs elt) own (ds.drop (i + 1)) acc ρ2 S2 = .ok ys ρe Se) := by
            intro M6 ι6 ρ6 S6 H6 σ' o R6 g6 p6 hw eo
            obtain ⟨h1, h2, h3⟩ := pend_turn R3 ow hD3 ns R6
            have R7 := (Rel.back R3 R6).wipe own
            rw [hw] at R7
            have ns7 := ns_wipe (own := own) h3
            rw [hw] at ns7
            rw [eo] at el
            refine ⟨fun y ey v hv => ?_, fun ey => ?_⟩
            · subst ey
              replace el : (if acc.length < sizeLine then loopC (turnC O t ifs elt) own (ds.drop (i + 1)) (acc ++ [y]) (wipeE ρ6 own) S6 else .no) = .ok ys ρe Se := el
              split at el
              · rename_i hlen
                have gu : Grow M6 H6 M6 (upd H6 D (.lst (accV ++ [v]))) := grow_upd h2.1
                refine ⟨accV, h1, by rw [← ra.length]; exact hlen, M6, ι6, _, S6, acc ++ [y], accV ++ [v], R7.updP h2 ns7, ((g2.trans gs).trans g6).trans gu, p2.trans p6, upd_same, ?_, h2, ns7, el⟩
                exact Reps.grow gu (List.prefix_refl _) _ _ ((Reps.grow (gs.trans g6) p6 _ _ ra).append (.cons hv .nil))
              · cases el
            · subst ey
              exact ⟨M6, ι6, _, S6, acc, accV, R7, (g2.trans gs).trans g6, p2.trans p6, h1, Reps.grow (gs.trans g6) p6 _ _ ra, h2, ns7, el⟩
          -- the turn
          cases et : turnC O t ifs elt ds[i] ρ2 S2 with
          | no => rw [et] at el; cases el
          | exc x r s => exact (turnC_exc et).elim
          | ok o r s =>
            have et0 := et
            unfold turnC at et
            cases eb : bindT t ds[i] ρ2 with
            | none => rw [eb] at et; cases et
            | some ρ3 =>
              rw [eb] at et
              replace et : noExc ((evIfs O ifs ρ3 S2).bind fun b ρ S => if b then (evE O elt ρ S).bind fun y ρ S => .ok (some y) ρ S else .ok none ρ S) = .ok o r s := et
              refine ⟨entr F M2 ι2 ρ2 (wipe σ own) H3, M2, ι2, ρ2, S2, ds[i], ρ3, R3.enter, rx, eb, fun σ' R4 l4 j4 => ?_⟩
              have hw : wipe σ' own = wipe σ own := by
                rw [← wipe_idem σ own]
                exact wipe_wipe_eq l4 fun j hj => j4 j fun z => hj (ht j z)
              refine ⟨hw, entr F M2 ι2 ρ2 (wipe σ own) H3, M2, ι2, ρ3, S2, R4, ?_⟩
              cases ei : evIfs O ifs ρ3 S2 with
              | no => rw [ei] at et; cases et
              | exc x r s => rw [ei] at et; cases et
              | ok b ρ5 S5 =>
                rw [ei] at et
                intro M5 ι5 H5 R5 g5 p5
                cases b with
                | false =>
                  cases et
                  exact (fin M5 ι5 _ _ H5 σ' none R5 g5 p5 hw et0).2 rfl
                | true =>
                  refine ⟨entr F M2 ι2 ρ2 (wipe σ own) H3, M5, ι5, ρ5, S5, R5, ?_⟩
                  replace et : noExc ((evE O elt ρ5 S5).bind fun y ρ S => .ok (some y) ρ S) = .ok o r s := et
                  cases ee : evE O elt ρ5 S5 with
                  | no => rw [ee] at et; cases et
                  | exc x r s => rw [ee] at et; cases et
                  | ok y ρ6 S6 =>
                    rw [ee] at et
                    cases et
                    intro M6 ι6 H6 R6 g6 p6 v hv
                    exact (fin M6 ι6 _ _ H6 σ' (some y) R6 (g5.trans g6) (p5.trans p6) hw et0).1 y rfl v hv
        · have ei : i = ds.length := by omega
          refine .inl ⟨hstop (by omega), ?_⟩
          rw [ei, List.drop_length] at el
          cases el
          obtain ⟨ds', e, q⟩ := k1 M2 ι2 H' (R1.unwipe hno R2 g2 p2) g2 p2
          cases e
          refine q D accV hDv ra ow (fun j sv e o z => ?_) nf
          rcases backE_some own ρ1 ρe j sv e with ⟨h1, h2⟩ | ⟨h1, h2⟩
          · rw [noOwn_at hno h2 h1] at o; cases o
          · exact ns j sv h1 o (by rw [wipe_get own σ j h2]; exact z)
  · exact k1.elim
end
end R
end
section
set_option Elab.async false
set_option linter.all false
set_option maxRecDepth 100000
set_option maxHeartbeats 4000000
namespace R
open PySem PySem.Spec PyProof.Rows L2
structure Pat where
  f : Str
  m : Nat
  ks : List Str
  dfl : List D
section
variable {K : PySem.W.Frag} {w : World} {F : Entry} {E : XK} {M M' : Addr → Prop} {ι ι' : List Addr} {ρ : Env} {S : Sto} {σ : L2.St} {H H' : Hp}
theorem Rel.calledX {S' : Sto} {ex sf : Addr → Prop} (R : Rel K w F M ι ρ S σ H) (R' : RelG K w ⟨H, M, ex, ι, sf⟩ M' ι' S' H') (hex : ∀ a, ex a → F.ex a ∨ F.H a = none) (hot : ∀ a, ex a → M a)
    (ho : ∀ (i : Nat) sv a, ρ[i]? = some (some sv) → sv.isOwn = true → σ[i]? = some (some (.ref a)) → ¬ ex a) : Rel K w F M' ι' ρ S' σ H' := by
  have hp : ι <+: ι' := R'.pre
  have g : Grow M H M' H' := RelG.grow hot R'
  refine ⟨RelG.back R.toRelG hex R', R.len, fun i sv e => ?_, R.own⟩
  obtain ⟨v, q1, q2⟩ := R.slot i sv e
  refine ⟨v, q1, q2.grow g hp fun a ea oa => ?_⟩
  subst ea
  have nx := ho i sv a e oa q1
  obtain ⟨b, eb, ow, hb⟩ := q2.own_at oa
  cases eb
  refine ⟨fun o ho => (R'.frame a o ho nx).1, ?_, fun z => ?_⟩
  · cases ho : H a with
    | none => exact absurd ho hb
    | some o => exact ((R'.frame a o ho nx).2).mpr ow.1
  · rcases R'.newι a z with q | q
    · exact nx q
    · exact hb q
/-- the promise of an __init__ -/
def enti (M : Addr → Prop) (ι : List Addr) (H : Hp) (a : Addr) : Entry := ⟨H, M, fun b => b ∈ ι ∨ b = a, ι, (· = a)⟩
def FxI (K : PySem.W.Frag) (w : World) (E : XK) (M : Addr → Prop) (ι : List Addr) (H : Hp) (a : Addr) (r : FRes) (Q : VK) : Prop := match r with
  | .ret d S' => ∀ M' ι' H', RelG K w (enti M ι H a) M' ι' S' H' → Grow M H M' H' → ι <+: ι' → Rep K w ι' M' H' d (.ref a) → Q .non H'
  | .exc x S' => ∀ M' ι' H' cls d, RelG K w (enti M ι H a) M' ι' S' H' → Grow M H M' H' → ι <+: ι' → ExRep K w ι' M' H' x cls d → E cls d H'
  | .no => False
def spI (K : PySem.W.Frag) (w : World) (np : Nat) (c : Str) (f : List D → Sto → FRes) : Sp := fun vs H Q E => vs.length = np ∧ ∃ M ι S a C dx us ds, vs = .ref a :: us ∧ RelG K w (enti M ι H a) M ι S H ∧ (M a ∧ a ∉ ι) ∧ H a = some (.ins C dx []) ∧ IsGl K c C ∧ ClsOk K C ∧ Reps K w ι M H ds us ∧
  FxI K w E M ι H a (f ds S) Q
end
structure FnP (P : Program) (w : World) (K : PySem.W.Frag) (mg : Str → Option Value) (base : Heap) (CX : CXT) (n : Nat) (O : Orc) (p : Pat) : Prop where
  ex : ∃ (fa : Addr) (fd : FuncData) (ps : List Str) (dvs : List V) (ds : List Value), mg p.f = some (.ref fa) ∧ IsGl K p.f fa ∧ PySem.W.keepIn K (.ref fa) = true ∧ FnOk P w K mg base CX n fa fd ps (spD K w ps.length (O (.fn p.f))) ∧
    (∀ (s : Shared) (us ws : List Value), K.In s.heap → us.length = p.m → ws.length = p.ks.length → BindsTo s fd ⟨us, p.ks.zip ws⟩ (ps.zip (us ++ (ws ++ ds)))) ∧ Vals dvs ds ∧ (∀ ι M H, Reps K w ι M H p.dfl dvs) ∧ ps.length = p.m + (p.ks.length + ds.length)
structure MkP (P : Program) (w : World) (K : PySem.W.Frag) (mg : Str → Option Value) (base : Heap) (CX : CXT) (n : Nat) (O : Orc) (p : Pat) : Prop where
  ex : ∃ (C fa : Addr) (fd : FuncData) (ps : List Str) (dvs : List V) (ds : List Value), mg p.f = some (.ref C) ∧ IsGl K p.f C ∧ ClsOk K C ∧ Mk K C fa ∧ FnOk P w K mg base CX n fa fd ps (spI K w ps.length p.f (O (.new p.f))) ∧ Binds K fd ps ds ∧
    Vals dvs ds ∧ (∀ ι M H, Reps K w ι M H p.dfl dvs) ∧ ps.length = 1 + p.m + ds.length
section
variable {X : Cx} {F : Entry} {E : XK} {O : Orc} {CX : CXT} {n : Nat} {p : Pat}
theorem run_fp {fa : Addr} {fd : FuncData} {ps : List Str} {dvs : List V} {ds : List Value} {sp : Sp} (FO : FnOk X.prog X.w X.K X.mg X.base CX n fa fd ps sp)
    (hb : ∀ (s : Shared) (us ws : List Value), X.K.In s.heap → us.length = p.m → ws.length = p.ks.length → BindsTo s fd ⟨us, p.ks.zip ws⟩ (ps.zip (us ++ (ws ++ ds)))) (hd : Vals dvs ds) (hr : Room n X.A) (hx : Passes CX X E)
    {pins : List (Addr × Obj)} {σ : L2.St} {H : Hp} {s : Shared} {Q : VK} {us ws : List Value} {vs zs : List V} (I : L2.Inv X pins σ H s) (r : Vals vs us) (rz : Vals zs ws) (l1 : us.length = p.m) (l2 : ws.length = p.ks.length)
    (h : sp (vs ++ (zs ++ dvs)) H Q E) : wpAny (model X.prog X.w) X.A (call (.ref fa) us (p.ks.zip ws)) (EP X pins σ Q) X.xe s := by
  refine wpAny_call (codeAny_mono (FO.run X.A X.stack s H ⟨us, p.ks.zip ws⟩ (us ++ (ws ++ ds)) (vs ++ (zs ++ dvs)) Q E hr I.env0 (hb s us ws I.kIn l1 l2) (r.append (rz.append hd)) h) fun r s' hq => ?_)
  cases r with
  | error e => exact hx pins σ H s e s' I hq
  | ok fl =>
    cases fl with
    | ret u => exact I.after hq
    | next => exact False.elim hq
    | brk => exact False.elim hq
    | cont => exact False.elim hq
/-- the readings of keyword values -/
def keyExprs (kws : List Keyword) : List Expr := kws.map fun k => k.value
theorem pkv_nil : PK X [] (tV X F E O []) := ⟨fun pos pins s σ H Q I ⟨M, ι, ρ, S, R, k⟩ => wpAny_evalAll_nil ⟨[], H, I, .nil, Kx.ok R k [] rfl⟩⟩
theorem pkv_cons {nm : Option Str} {e : Expr} {kpos : Pos} {kws : List Keyword} {c : CE} {cs : List CE} (ha : PE X e (tE X F E O c)) (hr : PK X kws (tV X F E O cs)) : PK X (⟨nm, e, kpos⟩ :: kws) (tV X F E O (c :: cs)) :=
  ⟨fun pos pins s σ H Q I ⟨M, ι, ρ, S, R, k⟩ => (pk_cons ha hr).run pos pins s σ H Q I (by
    refine ⟨M, ι, ρ, S, R, (Kx.bind k).imp fun d ρ1 S1 M1 ι1 H1 R1 g1 p1 k1 v hv => ?_⟩
    refine ⟨M1, ι1, ρ1, S1, R1, (Kx.bind k1).imp fun ds ρ2 S2 M2 ι2 H2 R2 g2 p2 k2 vs hvs => ?_⟩
    exact Kx.ok R2 k2 (v :: vs) (.cons (Rep.grow g2 p2 _ _ hv) hvs))⟩
theorem evV_app : ∀ (as bs : List CE) (ρ : Env) (S : Sto), evV O (as ++ bs) ρ S = (evV O as ρ S).bind fun x ρ S => (evV O bs ρ S).bind fun y ρ S => .ok (x ++ y) ρ S
  | [], bs, ρ, S => by
    show evV O bs ρ S = (evV O bs ρ S).bind fun y ρ S => .ok ([] ++ y) ρ S
    cases evV O bs ρ S <;> rfl
  | a :: as, bs, ρ, S => by
    show ((evE O a ρ S).bind fun d ρ S => (evV O (as ++ bs) ρ S).bind fun ds ρ S => Res.ok (d :: ds) ρ S) = (((evE O a ρ S).bind fun d ρ S => (evV O as ρ S).bind fun ds ρ S => .ok (d :: ds) ρ S)).bind fun x ρ S => (evV O bs ρ S).bind fun y ρ S => .ok (x ++ y) ρ S
    rw [Res.bind_assoc]
    congr 1
    funext d ρ1 S1
    rw [evV_app as bs ρ1 S1, Res.bind_assoc, Res.bind_assoc]
    congr 1
    funext x ρ2 S2
    rw [Res.bind_assoc]
    show _ = (evV O bs ρ2 S2).bind fun y ρ S => .ok (d :: x ++ y) ρ S
    congr 1
/-- what the promise of a def asks, from what is asked of the call -/
theorem fx_of {f : Str} {ds : List D} {M : Addr → Prop} {ι : List Addr} {ρ : Env} {S : Sto} {σ : L2.St} {H : Hp} {Q : VK} (R : Rel X.K X.w F M ι ρ S σ H)
    (k : Kx X.K X.w F E σ M ι H ((O (.fn f) ds S).res ρ) fun d _ _ M' ι' H' => ∀ v, Rep X.K X.w ι' M' H' d v → Q v H') : Fx X.K X.w (entc M ι H) E M ι H (O (.fn f) ds S) Q := by
  cases e : O (.fn f) ds S with
  | no => rw [e] at k; exact k
  | ret d S' =>
    rw [e] at k
    exact fun M' ι' H' v R' g hp rv => k M' ι' H' (R.called R') g hp v rv
  | exc x S' =>
    rw [e] at k
    exact fun M' ι' H' cls d R' g hp rv => k M' ι' H' cls d (R.called R') g hp rv
theorem spD_of {f : Str} {np : Nat} {ds : List D} {vs : List V} {M : Addr → Prop} {ι : List Addr} {ρ : Env} {S : Sto} {σ : L2.St} {H : Hp} {Q : VK} (R : Rel X.K X.w F M ι ρ S σ H) (hl : vs.length = np) (hv : Reps X.K X.w ι M H ds vs)
    (k : Kx X.K X.w F E σ M ι H ((O (.fn f) ds S).res ρ) fun d _ _ M' ι' H' => ∀ v, Rep X.K X.w ι' M' H' d v → Q v H') : spD X.K X.w np (O (.fn f)) vs H Q E :=
  ⟨hl, M, ι, S, _, _, ds, R.toRelG.entc, fun a h => R.sub a h, hv, fx_of R k⟩
theorem Vals.append' {a b : List V} {c d : List Value} (h : Vals a c) (g : Vals b d) : Vals (a ++ b) (c ++ d) := h.append g
/-- f(e, .., k = v, ..) -/
theorem pe_callP (hp : FnP X.prog X.w X.K X.mg X.base CX n O p) (hr : Room n X.A) (hx : Passes CX X E) {x : Str} {np pos : Pos} {es : List Expr} {kws : List Keyword} {cs ck : List CE} (ex : x = p.f) (hg : Gl X x) (hdb : (x == ("__debug__" : Str)) = false)
    (ha : PA X es (tV X F E O cs)) (hk : PK X kws (tV X F E O ck)) (le : cs.length = es.length) (l1 : cs.length = p.m) (l2 : ck.length = p.ks.length)
    (hse : ∀ e r, es = e :: r → starEach (e :: r) X.env = (false, eval e X.env) :: starEach r X.env) (hpl : (backTo pos (starEach es X.env)).any (·.1) = false)
    (hall : (backToKw pos (keywordEach kws X.env)).all (·.1.isSome) = true) (hks : (backToKw pos (keywordEach kws X.env)).filterMap (·.1) = p.ks) (hnn : (backToKw pos (keywordEach kws X.env)).any (·.1.isNone) = false) :
    PE X (.Call (.Name x np) es kws pos) (tE X F E O (.call p.f (cs ++ ck) p.dfl)) := by
  obtain ⟨fa, fd, ps, dvs, ds, hm, hgl, hkp, FO, hb, hd, hrep, hlen⟩ := hp.ex
  subst ex
  refine ⟨fun pins s σ H Q I ⟨M, ι, ρ, S, R, k⟩ => ?_⟩
  replace k : Kx X.K X.w F E σ M ι H ((evV O (cs ++ ck) ρ S).bind fun ds ρ S => (O (.fn p.f) (ds ++ p.dfl) S).res ρ) fun d _ _ M' ι' H' => ∀ v, Rep X.K X.w ι' M' H' d v → Q v H' := k
  rw [evV_app, Res.bind_assoc] at k
  have hA : ∀ {σ : L2.St} {H : Hp} {Q : VK} {M : Addr → Prop} {ι : List Addr} {ρ : Env} {S : Sto}, Rel X.K X.w F M ι ρ S σ H → (Kx X.K X.w F E σ M ι H ((evV O cs ρ S).bind fun x ρ S => ((evV O ck ρ S).bind fun y ρ S => .ok (x ++ y) ρ S).bind fun ds ρ S => (O (.fn p.f) (ds ++ p.dfl) S).res ρ) fun d _ _ M' ι' H' => ∀ v, Rep X.K X.w ι' M' H' d v → Q v H') →
      tV X F E O cs σ H fun vs H1 => tV X F E O ck σ H1 fun zs H2 => vs.length = p.m ∧ zs.length = p.ks.length ∧ spD X.K X.w ps.length (O (.fn p.f)) (vs ++ (zs ++ dvs)) H2 Q E := by
    intro σ H Q M ι ρ S R k
    refine ⟨M, ι, ρ, S, R, (Kx.bind k).imp' fun xs ρ1 S1 M1 ι1 H1 er R1 g1 p1 k1 vs hvs => ?_⟩
    rw [Res.bind_assoc] at k1
    refine ⟨M1, ι1, ρ1, S1, R1, (Kx.bind k1).imp' fun ys ρ2 S2 M2 ι2 H2 er2 R2 g2 p2 k2 zs hzs => ?_⟩
    have e1 := evV_len _ _ _ _ _ _ er
    have e2 := evV_len _ _ _ _ _ _ er2
    have m1 : vs.length = p.m := by rw [← hvs.length, e1, l1]
    have m2 : zs.length = p.ks.length := by rw [← hzs.length, e2, l2]
    refine ⟨m1, m2, ?_⟩
    have hd' : dvs.length = ds.length := hd.length
    refine spD_of (ds := xs ++ ys ++ p.dfl) R2 (by rw [List.length_append, List.length_append, m1, m2, hd', hlen]) ?_ k2
    rw [List.append_assoc]
    exact (Reps.grow g2 p2 _ _ hvs).append (hzs.append (hrep _ _ _))
  have hT := hA R k
  refine wpAny_Call_Name_kw (ld_glob I hg hm ?_ hdb)
  cases kws with
  | nil =>
    have ck0 : ck = [] := by
      have : p.ks = [] := by rw [← hks]; rfl
      rw [this] at l2
      exact List.length_eq_zero_iff.mp l2
    subst ck0
    have ks0 : p.ks = [] := by rw [← hks]; rfl
    have fin : ∀ {us : List Value} {vs : List V} {H1 : Hp} {s1 : Shared}, L2.Inv X pins σ H1 s1 → Vals vs us → (tV X F E O [] σ H1 fun zs H2 => vs.length = p.m ∧ zs.length = p.ks.length ∧ spD X.K X.w ps.length (O (.fn p.f)) (vs ++ (zs ++ dvs)) H2 Q E) →
        wpAny (model X.prog X.w) X.A (call (.ref fa) us) (EP X pins σ Q) X.xe s1 := by
      intro us vs H1 s1 I1 r q
      obtain ⟨M1, ι1, ρ1, S1, R1, k1⟩ := q
      obtain ⟨m1, m2, q⟩ := Kx.ok R1 k1 [] rfl
      have := run_fp (p := p) FO hb hd hr hx I1 r (zs := []) (ws := []) .nil (by rw [← r.length, m1]) (by rw [ks0]; rfl) q
      rw [ks0] at this
      exact this
    cases es with
    | nil =>
      obtain ⟨M1, ι1, ρ1, S1, R1, k1⟩ := hT
      have cs0 : cs = [] := List.length_eq_zero_iff.mp le
      subst cs0
      exact PySem.W.callWith_K0 I.kIn hkp (fin (us := []) I .nil (Kx.ok R1 k1 [] rfl))
    | cons e es =>
      have he := hse e es rfl
      refine PySem.W.callWith_K (h₀ := X.base) I.ok.mod.kin hkp (thn (ha.run pos pins s σ H _ I hT) fun us s1 ⟨vs, H1, I1, r, q⟩ => ⟨I1.kIn, ?_⟩) he (by rw [he] at hpl; exact hpl)
      exact fin I1 r q
  | cons kw kws =>
    have fin : ∀ {us ws : List Value} {vs zs : List V} {H1 : Hp} {s1 : Shared}, L2.Inv X pins σ H1 s1 → Vals vs us → Vals zs ws → (vs.length = p.m ∧ zs.length = p.ks.length ∧ spD X.K X.w ps.length (O (.fn p.f)) (vs ++ (zs ++ dvs)) H1 Q E) →
        wpAny (model X.prog X.w) X.A (call (.ref fa) us (p.ks.zip ws)) (EP X pins σ Q) X.xe s1 := by
      intro us ws vs zs H1 s1 I1 r rz ⟨m1, m2, q⟩
      exact run_fp (p := p) FO hb hd hr hx I1 r rz (by rw [← r.length, m1]) (by rw [← rz.length, m2]) q
    cases es with
    | nil =>
      obtain ⟨M1, ι1, ρ1, S1, R1, k1⟩ := hT
      have cs0 : cs = [] := List.length_eq_zero_iff.mp le
      subst cs0
      refine PySem.W.callWith_KW0 (h₀ := X.base) I.ok.mod.kin hkp hall ?_ (by rw [hpl, hnn]; rfl)
      refine thn (hk.run pos pins s σ H _ I (Kx.ok R1 k1 [] rfl)) fun ws s2 ⟨zs, H2, I2, rz, q2⟩ => ⟨I2.kIn, ?_⟩
      rw [hks]
      exact fin (us := []) (vs := []) I2 .nil rz q2
    | cons e es =>
      have he := hse e es rfl
      refine PySem.W.callWith_KW (h₀ := X.base) I.ok.mod.kin hkp hall (thn (ha.run pos pins s σ H _ I hT) fun us s1 ⟨vs, H1, I1, r, q⟩ => ?_) (by rw [hpl, hnn]; rfl) he
      refine thn (hk.run pos pins s1 σ H1 _ I1 q) fun ws s2 ⟨zs, H2, I2, rz, q2⟩ => ⟨I2.kIn, ?_⟩
      rw [hks]
      exact fin I2 r rz q2
/-- a local name's def is called -/
theorem pe_callV {ok : List Str} (hok : ∀ x ∈ ok, FnP X.prog X.w X.K X.mg X.base CX n O ⟨x, m, [], []⟩) (hr : Room n X.A) (hx : Passes CX X E) {x : Str} {i : Nat} {np pos : Pos} {es : List Expr} {cs : List CE} (hN : X.N[i]? = some x) (hv : Vis X.env.scope x) (hdb : (x == ("__debug__" : Str)) = false) (hcd : (x == ("__classdict__" : Str)) = false)
    (ha : PA X es (tV X F E O cs)) (le : cs.length = es.length) (l1 : cs.length = m)
    (hse : ∀ e r, es = e :: r → starEach (e :: r) X.env = (false, eval e X.env) :: starEach r X.env) (hpl : (backTo pos (starEach es X.env)).any (·.1) = false) :
    PE X (.Call (.Name x np) es [] pos) (tE X F E O (.callv ok (.var i) cs)) := by
  refine ⟨fun pins s σ H Q I ⟨M, ι, ρ, S, R, k⟩ => ?_⟩
  replace k : Kx X.K X.w F E σ M ι H ((evE O (.var i) ρ S).bind fun g ρ S => match g with
    | .fn x => if ok.contains x then (evV O cs ρ S).bind fun ds ρ S => (O (.fn x) ds S).res ρ else .no
    | _ => .no) fun d _ _ M' ι' H' => ∀ v, Rep X.K X.w ι' M' H' d v → Q v H' := k
  obtain ⟨v0, hs0, M1, ι1, ρ1, S1, g, R1, hg, k1⟩ := t_var (X := X) (F := F) (E := E) (O := O) σ H (fun v H1 => ∃ M1 ι1 ρ1 S1 g, Rel X.K X.w F M1 ι1 ρ1 S1 σ H1 ∧ Rep X.K X.w ι1 M1 H1 g v ∧ Kx X.K X.w F E σ M1 ι1 H1 (match g with
    | .fn x => if ok.contains x then (evV O cs ρ1 S1).bind fun ds ρ S => (O (.fn x) ds S).res ρ else .no
    | _ => .no) fun d _ _ M' ι' H' => ∀ v, Rep X.K X.w ι' M' H' d v → Q v H') ⟨M, ι, ρ, S, R, k.bind.imp fun d ρ1 S1 M1 ι1 H1 R1 g1 p1 k1 v hv => ⟨M1, ι1, ρ1, S1, d, R1, hv, k1⟩⟩
  cases g with
  | fn y =>
    replace k1 : Kx X.K X.w F E σ M1 ι1 H (if ok.contains y then (evV O cs ρ1 S1).bind fun ds ρ S => (O (.fn y) ds S).res ρ else .no) _ := k1
    split at k1
    · rename_i hc
      have hc' : y ∈ ok := by simpa using hc
      obtain ⟨fa, fd, ps, dvs, ds, hm, hgl, hkp, FO, hb, hd, hrep, hlen⟩ := (hok y hc').ex
      obtain ⟨a, rfl, ha2, _⟩ := (show ∃ a, v0 = .ref a ∧ IsGl X.K y a ∧ _ from hg)
      have ea : a = fa := isGl_inj ha2 hgl
      subst ea
      have dv0 : dvs = [] := Reps.nil_inv (hrep [] (fun _ => False) (fun _ => none))
      subst dv0
      have ds0 : ds = [] := by cases hd; rfl
      subst ds0
      refine wpAny_Call_Name_kw (thn ((pe_var (pos := np) hN hv hdb hcd).run pins s σ H (fun v H1 => v = .ref a ∧ H1 = H) I ⟨.ref a, hs0, rfl, rfl⟩) fun u s1 ⟨v, H1, I1, r1, q1⟩ => ?_)
      obtain ⟨rfl, rfl⟩ := q1
      cases r1
      have hT : tV X F E O cs σ H1 fun vs H2 => vs.length = m ∧ spD X.K X.w ps.length (O (.fn y)) (vs ++ []) H2 Q E := by
        refine ⟨M1, ι1, ρ1, S1, R1, (Kx.bind k1).imp' fun xs ρ2 S2 M2 ι2 H2 er R2 g2 p2 k2 vs hvs => ?_⟩
        have e1 := evV_len _ _ _ _ _ _ er
        have m1 : vs.length = m := by rw [← hvs.length, e1, l1]
        exact ⟨m1, by rw [List.append_nil]; exact spD_of R2 (by rw [m1, hlen]; rfl) hvs k2⟩
      have fin : ∀ {us : List Value} {vs : List V} {H1 : Hp} {s1 : Shared}, L2.Inv X pins σ H1 s1 → Vals vs us → vs.length = m ∧ spD X.K X.w ps.length (O (.fn y)) (vs ++ []) H1 Q E → wpAny (model X.prog X.w) X.A (call (.ref a) us) (EP X pins σ Q) X.xe s1 := by
        intro us vs H1 s1 I1 r ⟨m1, q⟩
        exact run_fp (p := ⟨y, m, [], []⟩) FO hb hd hr hx I1 r (zs := []) (ws := []) .nil (by rw [← r.length, m1]) rfl q
      cases es with
      | nil =>
        have cs0 : cs = [] := List.length_eq_zero_iff.mp le
        subst cs0
        obtain ⟨M2, ι2, ρ2, S2, R2, k2⟩ := hT
        exact PySem.W.callWith_K0 I1.kIn hkp (fin (us := []) I1 .nil (Kx.ok R2 k2 [] rfl))
      | cons e es =>
        have he := hse e es rfl
        refine PySem.W.callWith_K (h₀ := X.base) I1.ok.mod.kin hkp (thn (ha.run pos pins s1 σ H1 _ I1 hT) fun us s2 ⟨vs, H2, I2, r, q⟩ => ⟨I2.kIn, ?_⟩) he (by rw [he] at hpl; exact hpl)
        exact fin I2 r q
    · exact k1.elim
  | _ => exact k1.elim
/-- C(e, ..) -/
theorem t_new {c : Str} {np : Nat} {cs : List CE} {dfl : List D} {dvs : List V} {C : Addr} (hg : IsGl X.K c C) (hc : ClsOk X.K C) (hrep : ∀ ι M H, Reps X.K X.w ι M H dfl dvs) (hn : np = 1 + cs.length + dfl.length) : ∀ σ H Q, tE X F E O (.new c cs dfl) σ H Q → tMake C (spI X.K X.w np c (O (.new c))) dvs E (tV X F E O cs) σ H Q := by
  intro σ H Q ⟨M, ι, ρ, S, R, k⟩
  refine ⟨M, ι, ρ, S, R, (Kx.bind k).imp' fun xs ρ1 S1 M1 ι1 H1 er R1 g1 p1 k1 vs hvs x dx hx hdx hne => ?_⟩
  have e1 := evV_len _ _ _ _ _ _ er
  have Ra := R1.same (same_upd (o := .own x) hdx)
  have hx2 : upd H1 dx (.own x) x = none := by rw [upd_ne (Ne.symm hne)]; exact hx
  obtain ⟨Rb, ow, ns⟩ := Ra.heat (o := .ins C dx []) hx2
  have gab : Grow M1 H1 (ad M1 x) (upd (upd H1 dx (.own x)) x (.ins C dx [])) := (Grow.same (same_upd hdx)).trans (grow_ad hx2)
  have hv2 := Reps.grow gab (List.prefix_refl _) _ _ hvs
  obtain ⟨f1, f2, f3, f4⟩ := Rel.fresh Ra.toRelG hx2
  have Rg : RelG X.K X.w (enti (ad M1 x) ι1 (upd (upd H1 dx (.own x)) x (.ins C dx [])) x) (ad M1 x) ι1 S1 (upd (upd H1 dx (.own x)) x (.ins C dx [])) :=
    ⟨Rb.hot, Rb.sub, Rb.nd, List.prefix_refl _, fun a h => .inl (.inl h), fun a o e _ => ⟨e, Iff.rfl⟩, fun a h => h.elim (fun z => Rb.hot a (Rb.sub a z)) fun z => Rb.hot a (.inr z), Rb.lenS, Rb.cell⟩
  have hex : ∀ a, (a ∈ ι1 ∨ a = x) → F.ex a ∨ F.H a = none := fun a z => z.elim (Rb.newι a) fun z => .inr (z ▸ f1)
  have hot : ∀ a, (a ∈ ι1 ∨ a = x) → ad M1 x a := fun a z => z.elim (fun z => .inl (R1.sub a z)) .inr
  have ho : ∀ (i : Nat) sv a, ρ1[i]? = some (some sv) → sv.isOwn = true → σ[i]? = some (some (.ref a)) → ¬ (a ∈ ι1 ∨ a = x) := fun i sv a e o q z => by
    rcases z with z | z
    · obtain ⟨v, q1, q2⟩ := R1.slot i sv e
      rw [q] at q1; cases q1
      obtain ⟨b, eb, ob, _⟩ := q2.own_at o
      cases eb
      exact ob.2.1 z
    · subst z
      exact ns i sv e o q
  refine ⟨by rw [List.length_cons, List.length_append, ← hvs.length, e1, ← (hrep [] (fun _ => False) (fun _ => none)).length, hn]; omega, _, _, S1, x, C, dx, vs ++ dvs, xs ++ dfl, rfl, Rg, ⟨.inr rfl, f4⟩, upd_same, hg, hc, hv2.append (hrep _ _ _), ?_⟩
  cases e : O (.new c) (xs ++ dfl) S1 with
  | no => rw [e] at k1; exact k1
  | ret d S' =>
    rw [e] at k1
    intro M' ι' H' R' g hp rv
    exact ⟨rfl, k1 M' ι' H' (Rb.calledX R' hex hot ho) (gab.trans g) hp _ rv⟩
  | exc y S' =>
    rw [e] at k1
    intro M' ι' H' cls d R' g hp rv
    exact k1 M' ι' H' cls d (Rb.calledX R' hex hot ho) (gab.trans g) hp rv
end
end R
end
section
set_option Elab.async false
set_option linter.all false
set_option maxRecDepth 100000
set_option maxHeartbeats 4000000
namespace R
open PySem PySem.Spec PyProof.Rows L2
section
variable {prog : Program} {w : World} {κ : Type} [DecidableEq κ] {knd : KeyKind prog w κ} {A : Around} {E : Value → Shared → Prop} {s : Shared}
/-- a new key is put behind the others -/
theorem dput_new {d : Addr} {kvs : List (κ × Value)} {k : κ} {key v : Value} {Q : Unit → Shared → Prop} (hkey : knd.is k key = true) (hm : s.heap.DictOf knd d kvs) (fr : k ∉ kvs.map (·.1))
    (hQ : ∀ h', h'.DictOf knd d (kvs ++ [(k, v)]) → Heap.SameBut d s.heap h' → Q () { s with heap := h' }) (hsz : kvs.length ≤ sizeLine) :
    wpAny (model prog w) A (dictPut d (knd.hash k) key v) Q E s := by
  obtain ⟨o, es, ep, ho, hc, hd, hk, hp, hn⟩ := hm
  have sz : es.size = kvs.length := by rw [← hp.length, Array.length_toList]
  have no : (es.findIdx? fun e => knd.is k e.key) = none := by
    rw [Array.findIdx?_eq_none_iff]
    intro e he
    cases c : knd.is k e.key with
    | false => rfl
    | true =>
      exfalso
      obtain ⟨i, hi, rfl⟩ := Array.mem_iff_getElem.mp he
      have hl : i < kvs.length := by rw [← sz]; exact hi
      obtain ⟨h1, _⟩ := hp.get? (i := i) (e := es[i]) (k := kvs[i].1) (v := kvs[i].2) (by simp [hi]) (by rw [List.getElem?_eq_getElem hl])
      have := knd.inj _ _ _ c h1
      exact fr (by rw [this]; exact List.mem_map_of_mem (List.getElem_mem hl))
  unfold dictPut
  refine wpAny_bind (wpAny_dictFind_of hkey ho hd hk ?_)
  rw [no]
  refine wpAny_updateDictKeys (hz := by rw [sz]; exact hsz) ho hd (hQ _ ⟨_, _, ep + 1, Heap.get?_update_self _ ho (Obj.isFreed_of_dict (Obj.data_mapDictKeys hd _)), hc.mapDictKeys _, Obj.data_mapDictKeys hd _, hk.push hkey _, ?_, ?_⟩ (Heap.SameBut.update ..))
  · have := hp.append hkey (knd.hash k) v
    rw [Array.toList_push]
    exact this
  · rw [List.map_append, List.nodup_append]
    exact ⟨hn, by simp, fun a ha b hb e => fr (by
      have e2 : b = k := by simpa using hb
      rw [← e2, ← e]; exact ha)⟩
theorem merge_new {d o : Addr} {kvs more : List (κ × Value)} {Q : Unit → Shared → Prop} (hdo : d ≠ o) (hoS : (o == sysModules) = false) (hd : s.heap.DictOf knd d kvs) (ho : s.heap.DictOf knd o more) (hne : kvs ≠ [])
    (hnd : ((kvs ++ more).map (·.1)).Nodup) (hQ : ∀ h', h'.DictOf knd d (kvs ++ more) → h'.DictOf knd o more → Heap.SameBut d s.heap h' → Q () { s with heap := h' }) (hsz : kvs.length + more.length ≤ sizeLine) :
    wpAny (model prog w) A (mergeMapping d (.ref o) false) Q E s := by
  obtain ⟨od, esd, epd, hod, hcd, hdd, hkd, hpd, hndd⟩ := id hd
  obtain ⟨oo, eso, epo, hoo, hco, hdo', hko, hpo, hno⟩ := id ho
  have hlen : more.length = eso.size := by rw [← hpo.length, Array.length_toList]
  have hld : kvs.length = esd.size := by rw [← hpd.length, Array.length_toList]
  have hemp : esd.isEmpty = false := by
    cases c : esd.isEmpty with
    | false => rfl
    | true =>
      have z : esd = #[] := Array.isEmpty_iff.mp c
      rw [z] at hld
      exact absurd (List.length_eq_zero_iff.mp hld) hne
  unfold mergeMapping
  refine wpAny_bind (wpAny_isInstance ho.typeIs F.sub_dict_dict ?_)
  rw [if_pos rfl]
  refine wpAny_bind (wpAny_specialOf ho.typeIs F.slot_dict_iter.lookup (wpAny_bind (wpAny_pure ?_)))
  have bb : ((some (Value.builtin "dict.__iter__") : Option Value) == some (.builtin "dict.__iter__")) = true := by decide
  rw [bb]
  show wpAny _ _ (if (o == sysModules) = true then _ else _) _ _ _
  rw [if_neg (by rw [hoS]; exact Bool.false_ne_true)]
  refine wpAny_bind (wpAny_dictEntries hod hdd ?_)
  rw [if_neg (by rw [hemp]; exact Bool.false_ne_true)]
  refine wpAny_bind (wpAny_dictEntries hoo hdo' ?_)
  refine wpAny_bind (wpAny_dictEpoch hoo hdo' ?_)
  refine wpAny_bind ?_
  rw [List.range_eq_range']
  refine wpAny_forIn_list _ (fun rest _ s' => ∃ h' i, s' = { s with heap := h' } ∧ rest = List.range' i (eso.size - i) ∧ i ≤ eso.size ∧ h'.DictOf knd d (kvs ++ more.take i) ∧ h'.get? o = some oo ∧ Heap.SameBut d s.heap h')
    _ ?_ ?_ _ _ ⟨s.heap, 0, rfl, by simp, Nat.zero_le _, by simpa using hd, hoo, Heap.SameBut.refl _ _⟩
  · rintro x rest b s' ⟨h1, i, rfl, hr, hi, d1, o1, s1⟩
    have hlt : i < eso.size := by
      rcases Nat.lt_or_ge i eso.size with c | c
      · exact c
      · rw [Nat.sub_eq_zero_of_le c] at hr; cases hr
    have e0 : eso.size - i = (eso.size - (i + 1)) + 1 := by omega
    rw [e0, List.range'_succ] at hr
    injection hr with e1 e2
    subst e1
    have hml : x < more.length := by rw [hlen]; exact hlt
    refine wpAny_bind (wpAny_dictEntries o1 hdo' ?_)
    rw [Array.getElem?_eq_getElem hlt]
    obtain ⟨hkey, hval⟩ := hpo.get? (i := x) (e := eso[x]) (k := more[x].1) (v := more[x].2) (by simp [hlt]) (by rw [List.getElem?_eq_getElem hml])
    obtain ⟨k', hkey', hhash⟩ := hko eso[x] (Array.getElem_mem hlt)
    have ek : k' = more[x].1 := knd.inj _ _ _ hkey' hkey
    rw [ek] at hhash
    have tk : more.take (x + 1) = more.take x ++ [more[x]] := by rw [List.take_add_one, List.getElem?_eq_getElem hml]; rfl
    show wpAny _ _ (holding [eso[x].key, eso[x].val] (dictPut d eso[x].hash eso[x].key eso[x].val) >>= _) _ _ _
    rw [hhash, hval]
    refine wpAny_bind (wpAny_holding (dput_new (hsz := ?_) hkey d1 ?_ fun h2 d2 s2 => ?_))
    · intro z
      rw [List.map_append, List.nodup_append] at hnd
      rw [List.map_append] at z
      rcases List.mem_append.mp z with z | z
      · exact hnd.2.2 _ z _ (List.mem_map_of_mem (List.getElem_mem hml)) rfl
      · have nd2 := hnd.2.1
        obtain ⟨p, hp, ep⟩ := List.mem_map.mp z
        obtain ⟨j, hj, rfl⟩ := List.mem_iff_getElem.mp hp
        rw [List.length_take] at hj
        rw [List.getElem_take] at ep
        have : (more.map (·.1))[j]'(by rw [List.length_map]; omega) = (more.map (·.1))[x]'(by rw [List.length_map]; exact hml) := by simpa using ep
        have := (List.getElem_inj nd2).mp this
        omega
    · rw [List.append_assoc, ← tk] at d2
      have o2 : h2.get? o = some oo := (s2.2 o (Ne.symm hdo)).trans o1
      refine wpAny_bind (wpAny_dictEpoch o2 hdo' ?_)
      rw [if_neg (by simp)]
      exact wpAny_pure ⟨h2, x + 1, rfl, e2, hlt, d2, o2, s1.trans s2⟩
    · rw [List.length_append, List.length_take]; omega
  · rintro b s' ⟨h1, i, rfl, hr, hi, d1, o1, s1⟩
    have hin : i = eso.size := by
      rcases Nat.lt_or_ge i eso.size with c | c
      · have e0 : eso.size - i = (eso.size - (i + 1)) + 1 := by omega
        rw [e0, List.range'_succ] at hr; cases hr
      · exact Nat.le_antisymm hi c
    rw [hin, ← hlen, List.take_length] at d1
    exact wpAny_pure (hQ h1 d1 ⟨oo, eso, epo, o1, hco, hdo', hko, hpo, hno⟩ s1)
end
theorem forIn_first (f : (Option (Sem Value) × Sem Value) → (Option Addr × List (Sem Value × Sem Value)) → Sem (ForInStep (Option Addr × List (Sem Value × Sem Value))))
    (h1 : ∀ (p : Sem Value × Sem Value) (run : List (Sem Value × Sem Value)), run.length + 1 < 17 → f (some p.1, p.2) (none, run) = pure (.yield (none, run ++ [p])))
    (h2 : ∀ (p : Sem Value × Sem Value) (run : List (Sem Value × Sem Value)), run.length + 1 = 17 → f (some p.1, p.2) (none, run) = (do let d ← subDict (run ++ [p]); pure (.yield (some d, []))))
    (h3 : ∀ (d : Addr) (p : Sem Value × Sem Value) (run : List (Sem Value × Sem Value)), run.length + 1 < 17 → f (some p.1, p.2) (some d, run) = pure (.yield (some d, run ++ [p]))) :
    ∀ (items run : List (Sem Value × Sem Value)), run.length < 17 → 17 ≤ run.length + items.length → run.length + items.length < 34 → forIn (items.map fun p => (some p.1, p.2)) ((none : Option Addr), run) f = (do let d ← subDict ((run ++ items).take 17); pure (some d, (run ++ items).drop 17))
  | [], run, a, b, _ => by simp at b; omega
  | p :: rest, run, a, b, c => by
    rw [List.map_cons, List.forIn_cons]
    by_cases e : run.length + 1 = 17
    · rw [h2 p run e]
      have e1 : (run ++ p :: rest).take 17 = run ++ [p] := by
        have : run ++ p :: rest = (run ++ [p]) ++ rest := by simp
        rw [this, List.take_left' (by simp; omega)]
      have e2 : (run ++ p :: rest).drop 17 = rest := by
        have : run ++ p :: rest = (run ++ [p]) ++ rest := by simp
        rw [this, List.drop_left' (by simp; omega)]
      rw [e1, e2, bind_assoc]
      refine congrArg _ (funext fun d => ?_)
      rw [pure_bind]
      have key : ∀ (items run : List (Sem Value × Sem Value)), run.length + items.length < 17 → forIn (items.map fun p => (some p.1, p.2)) ((some d : Option Addr), run) f = pure (some d, run ++ items) := by
        intro items
        induction items with
        | nil => intro run h; simp
        | cons q r ih =>
          intro run h
          rw [List.map_cons, List.forIn_cons, h3 d q run (by simp at h; omega), pure_bind]
          have := ih (run ++ [q]) (by simp at h ⊢; omega)
          simpa using this
      simpa using key rest [] (by simp at c ⊢; omega)
    · rw [h1 p run (by omega), pure_bind]
      have := forIn_first f h1 h2 h3 rest (run ++ [p]) (by simp; omega) (by simp at b ⊢; omega) (by simp at c ⊢; omega)
      simpa using this
theorem disp_two (pairs : List (Sem Value × Sem Value)) (h0 : 17 < pairs.length) (hlen : pairs.length < 34) :
    dictDisplay (pairs.map fun p => (some p.1, p.2)) = (do
      let d ← subDict (pairs.take 17)
      let sub ← holding [.ref d] (subDict (pairs.drop 17))
      (holding [.ref d, .ref sub] (mergeMapping d (.ref sub) false)).onRaise fun x => do let _ ← holding [.ref d, x] (runValue (.builtin "proto.let_go" {}))
      pure (.ref d)) := by
  unfold dictDisplay
  dsimp only
  rw [forIn_first _ (fun p run h => by
    have hne : ((run ++ [(p.1, p.2)]).length == 17) = false := by simp; omega
    simp only [hne, Bool.false_eq_true, if_false]) (fun p run h => by
    have hne : ((run ++ [(p.1, p.2)]).length == 17) = true := by simp; omega
    simp only [hne, if_true]
    simp) (fun d p run h => by
    have hne : ((run ++ [(p.1, p.2)]).length == 17) = false := by simp; omega
    simp only [hne, Bool.false_eq_true, if_false]) pairs [] (by simp) (by simp; omega) (by simp; omega)]
  rw [bind_assoc]
  simp only [List.nil_append, pure_bind]
  refine congrArg _ (funext fun d => ?_)
  have hne : (pairs.drop 17).isEmpty = false := by
    cases c : pairs.drop 17 with
    | nil => have := congrArg List.length c; simp at this; omega
    | cons _ _ => rfl
  simp [hne]
/-- the pairs of a long display, put one by one -/
def tLongP (p : Addr) : List (TE × TE) → List (Key × V) → L2.St → Hp → (List (Key × V) → Hp → Prop) → Prop
  | [], acc, _, H, Q => H p = some (.dK acc) ∧ Q acc H
  | (tk, tv) :: r, acc, σ, H, Q => tk σ H fun x H1 => tv σ H1 fun y H2 => H2 p = some (.dK acc) ∧ ∃ k : Key, x = kV k ∧ acc.length < sizeLine ∧ tLongP p r (putK acc k y) σ (upd H2 p (.dK (putK acc k y))) Q
structure PLs (X : Cx) (pos : Pos) (keys : List (Option Expr)) (values : List Expr) (trs : List (TE × TE)) : Prop where
  run : ∀ (pins : List (Addr × Obj)) (s : Shared) (σ : L2.St) (H : Hp) (p : Addr) (acc : List (Key × V)) (Q : List (Key × V) → Hp → Prop), L2.Inv X pins σ H s → tLongP p trs acc σ H Q →
    wpAny (model X.prog X.w) X.A (forIn (pairTrees keys values X.env pos) PUnit.unit fun (q : Sem Value × Sem Value) (_ : PUnit) => (do
      let kv ← q.1
      let vv ← holding [kv] q.2
      holding [kv, vv] (dictSet p kv vv)
      pure (ForInStep.yield PUnit.unit) : Sem (ForInStep PUnit))) (fun _ s' => ∃ acc' H', L2.Inv X pins σ H' s' ∧ H' p = some (.dK acc') ∧ Q acc' H') X.xe s
theorem pls_nil {X : Cx} {pos : Pos} : PLs X pos [] [] [] := ⟨fun pins s σ H p acc Q I h => by
  show wpAny _ _ (forIn [] _ _) _ _ _
  rw [List.forIn_nil]
  exact wpAny_pure ⟨acc, H, I, h.1, h.2⟩⟩
theorem pls_cons {X : Cx} {pos : Pos} {k v : Expr} {ks : List (Option Expr)} {vs : List Expr} {tk tv : TE} {trs : List (TE × TE)} (hk : PE X k tk) (hv : PE X v tv) (hr : PLs X pos ks vs trs) : PLs X pos (some k :: ks) (v :: vs) ((tk, tv) :: trs) := ⟨fun pins s σ H p acc Q I h => by
  show wpAny _ _ (forIn ((eval k X.env, do let x ← eval v X.env; standAt pos; pure x) :: pairTrees ks vs X.env pos) _ _) _ _ _
  rw [List.forIn_cons]
  refine wpAny_bind (wpAny_bind (thn (hk.run pins s σ H _ I h) fun u s1 ⟨x, H1, I1, rx, q1⟩ => ?_))
  refine wpAny_bind (wpAny_holding (wpAny_bind (thn (hv.run pins s1 σ H1 _ I1 q1) fun u2 s2 ⟨y, H2, I2, ry, e, kk, ex, hl, q2⟩ => wpAny_bind (wpAny_standAt (wpAny_pure ?_)))))
  subst ex
  obtain ⟨z, hd, ws, rel, dd⟩ := dk_of I2.hok e
  have hz : ws.length ≤ sizeLine := by rw [← rel.length]; exact z
  have hp : (putK acc kk y).length ≤ sizeLine := by have := length_putK acc kk y; omega
  refine wpAny_bind (wpAny_holding (wpAny_dictSet_pairs (hsz := hz) (kV_is rx) dd fun h' dd' hs => wpAny_pure ?_))
  have he : ∃ o, h'.get? p = some o := let ⟨o, _, _, ho, _⟩ := dd'; ⟨o, ho⟩
  exact hr.run pins _ σ _ p _ Q (d_write I2 (t' := s2.toks + 1) (by rw [e]; exact True.intro) hs he (dk_new hp hd (rel.put kk ry) dd')) q2⟩
theorem mergeK_app : ∀ (kvs acc : List (Key × V)), ((acc ++ kvs).map (·.1)).Nodup → mergeK acc kvs = acc ++ kvs
  | [], acc, _ => by rw [List.append_nil]; rfl
  | p :: r, acc, h => by
    have nw : valV acc p.1 = none := by
      have c := valV_any p.1 acc
      cases e : valV acc p.1 with
      | none => rfl
      | some y =>
        rw [e] at c
        obtain ⟨q, hq, eq⟩ := List.any_eq_true.mp c
        rw [List.map_append, List.nodup_append] at h
        exact absurd (of_decide_eq_true eq) (h.2.2 _ (List.mem_map_of_mem hq) _ (List.mem_map_of_mem List.mem_cons_self))
    show mergeK (putK acc p.1 p.2) r = _
    rw [putK_new p.2 nw, mergeK_app r (acc ++ [(p.1, p.2)]) (by simpa using h)]
    simp
theorem pairedApp {α β : Type} {P : α → β → Prop} {a1 a2 : List α} {b1 b2 : List β} (h : Paired P a1 b1) (g : Paired P a2 b2) : Paired P (a1 ++ a2) (b1 ++ b2) := by
  induction h with
  | nil => exact g
  | cons h _ ih => exact .cons h ih
/-- seventeen pairs and some more -/
def tDispL (trs1 trs2 : List (TE × TE)) : TE := fun σ H Q => ∀ p, H p = none → tLongP p trs1 [] σ (upd H p (.dK [])) fun acc H1 => acc ≠ [] ∧ ∀ q, H1 q = none → tPairs trs2 σ (upd H1 q (.dK [])) fun ps H2 => H2 p = some (.dK acc) ∧ H2 q = some (.dK []) ∧
  ∃ kvs : List (Key × V), ps = kvs.map (fun kv => (kV kv.1, kv.2)) ∧ acc.length + kvs.length ≤ sizeLine ∧ ((acc ++ kvs).map (·.1)).Nodup ∧ Q (.ref p) (upd (upd H2 q (.dK kvs)) p (.dK (acc ++ kvs)))
theorem pairTrees_app {env : PySem.Env} {pos : Pos} : ∀ (k1 : List (Option Expr)) (v1 : List Expr) (k2 : List (Option Expr)) (v2 : List Expr), k1.all (·.isSome) = true → k1.length = v1.length → pairTrees (k1 ++ k2) (v1 ++ v2) env pos = pairTrees k1 v1 env pos ++ pairTrees k2 v2 env pos
  | [], [], _, _, _, _ => rfl
  | some k :: ks, v :: vs, k2, v2, h, hl => by
    show _ :: pairTrees (ks ++ k2) (vs ++ v2) env pos = _ :: (pairTrees ks vs env pos ++ _)
    rw [pairTrees_app ks vs k2 v2 (by simpa using h) (by simpa using hl)]
  | none :: _, _, _, _, h, _ => by simp at h
  | _ :: _, [], _, _, _, hl => by simp at hl
  | [], _ :: _, _, _, _, hl => by simp at hl
theorem pe_dispL {X : Cx} {pos : Pos} {k1 k2 : List (Option Expr)} {v1 v2 : List Expr} {trs1 trs2 : List (TE × TE)} (h1 : PLs X pos k1 v1 trs1) (h2 : PPs X pos k2 v2 trs2) (a1 : k1.all (·.isSome) = true) (a2 : k2.all (·.isSome) = true) (l1 : k1.length = v1.length) (l2 : k2.length = v2.length)
    (n1 : k1.length = 17) (n2 : k2.length ≤ 15) (n0 : k2 ≠ []) : PE X (.Dict (k1 ++ k2) (v1 ++ v2) pos) (tDispL trs1 trs2) := by
  refine ⟨fun pins s σ H Q I q => ?_⟩
  have hall : (k1 ++ k2).all (·.isSome) = true := by rw [List.all_append, a1, a2]; rfl
  have hln : (k1 ++ k2).length = (v1 ++ v2).length := by rw [List.length_append, List.length_append, l1, l2]
  have p1 := pairTrees_length k1 v1 X.env pos a1 l1
  have p2 := pairTrees_length k2 v2 X.env pos a2 l2
  have c2 : 0 < k2.length := List.length_pos_iff.mpr n0
  rw [arm_eval_Dict, zip_pairTrees _ _ _ _ hall hln, pairTrees_app k1 v1 k2 v2 a1 l1, disp_two _ (by rw [List.length_append, p1, p2]; omega) (by rw [List.length_append, p1, p2]; omega)]
  rw [List.take_left' (by rw [p1]; exact n1), List.drop_left' (by rw [p1]; exact n1)]
  refine wpAny_bind (wpAny_standAt (wpAny_bind ?_))
  have hn := I.hok.fresh (Nat.le_refl s.heap.objs.size)
  have I1 := I.laid (a := s.heap.objs.size) (o := .dK []) (h' := s.heap.push { cls := .type "dict", data := .dict #[] }) (t' := s.toks) (fun _ _ q => Heap.get?_push_of_some _ q) (Nat.le_refl _) (dk_empty s.heap I.big)
  unfold subDict
  refine wpAny_bind (wpAny_alloc (wpAny_bind (wpAny_holding ?_)))
  rw [if_neg (by rw [p1]; omega)]
  refine wpAny_bind (wpAny_rule ?_)
  refine wpAny_bind (thn (h1.run pins _ σ _ _ [] _ I1 (q _ hn)) fun _ s2 ⟨acc, H1, I2, e1, na, q2⟩ => wpAny_pure (wpAny_pure ?_))
  have hn2 := I2.hok.fresh (Nat.le_refl s2.heap.objs.size)
  have I3 := I2.laid (a := s2.heap.objs.size) (o := .dK []) (h' := s2.heap.push { cls := .type "dict", data := .dict #[] }) (t' := s2.toks) (fun _ _ q => Heap.get?_push_of_some _ q) (Nat.le_refl _) (dk_empty s2.heap I2.big)
  have hne : s.heap.objs.size ≠ s2.heap.objs.size := fun z => by rw [z, hn2] at e1; cases e1
  refine wpAny_bind (wpAny_holding (wpAny_subDict (knd := mixKind X.prog X.w) (by rw [p2]; exact n2) (thn (h2.run pins _ σ _ _ I3 (q2 _ hn2)) fun ws s4 ⟨ps, H2, I4, rel, e2, e3, kvs, ep, hl, nd, q4⟩ => ?_)))
  subst ep
  obtain ⟨rs, c, rk⟩ := carries_of (P := X.prog) (w := X.w) rel
  obtain ⟨z3, hd3, vs3, r3, dd3⟩ := dk_of I4.hok e3
  cases r3
  refine ⟨rs, c, dd3, fun h' dd' hs => ?_⟩
  have he : ∃ o, h'.get? s2.heap.objs.size = some o := let ⟨o, _, _, ho, _⟩ := dd'; ⟨o, ho⟩
  have ndk : (kvs.map (·.1)).Nodup := by
    rw [List.map_append, List.nodup_append] at nd
    exact nd.2.1
  have mk : mergeK [] kvs = kvs := by
    have := mergeK_app kvs [] (by simpa using ndk)
    simpa using this
  have rk2 : KV kvs (merged [] rs) := by
    have := rk.merge (show KV [] [] from Paired.nil)
    rw [mk] at this
    exact this
  have I5 := d_write I4 (t' := s4.toks + ws.length) (by rw [e3]; exact True.intro) hs he (dk_new (by omega) hd3 rk2 dd')
  have e5 : upd H2 s2.heap.objs.size (.dK kvs) s.heap.objs.size = some (.dK acc) := by rw [upd_ne hne]; exact e2
  obtain ⟨z6, hd6, vs6, r6, dd6⟩ := dk_of I5.hok e5
  have ndv : ((vs6 ++ merged [] rs).map (·.1)).Nodup := by
    rw [List.map_append, ← r6.keys, ← rk2.keys, ← List.map_append]
    exact nd
  have nv : vs6 ≠ [] := fun z => by
    have := r6.length
    rw [z] at this
    exact na (List.length_eq_zero_iff.mp this)
  refine wpAny_bind (wpAny_onRaise ?_)
  refine wpAny_holding (merge_new hne hd3 dd6 dd' nv ndv (fun h7 d7 _ s7 => wpAny_pure ?_) ?_)
  · have he7 : ∃ o, h7.get? s.heap.objs.size = some o := let ⟨o, _, _, ho, _⟩ := d7; ⟨o, ho⟩
    exact ⟨.ref s.heap.objs.size, _, d_write I5 (t' := s4.toks + ws.length) (by rw [e5]; exact True.intro) s7 he7 (dk_new (by rw [List.length_append]; exact hl) hd6 (pairedApp r6 rk2) d7), rfl, q4⟩
  · rw [← r6.length, ← rk2.length]; exact hl
end R
end
section
set_option Elab.async false
set_option linter.all false
set_option maxRecDepth 100000
set_option maxHeartbeats 4000000
namespace R
open PySem PySem.Spec PyProof.Rows L2
theorem noExc_ok {α : Type} {r : Res α} {a : α} {ρ : Env} {S : Sto} (h : noExc r = .ok a ρ S) : r = .ok a ρ S := by
  cases r with
  | ok => exact h
  | exc => cases h
  | no => cases h
theorem noExc_exc {α : Type} {r : Res α} {x : Ex} {ρ : Env} {S : Sto} (h : noExc r = .exc x ρ S) : False := by
  cases r with
  | ok => cases h
  | exc => cases h
  | no => cases h
section
variable {X : Cx} {F : Entry} {E : XK} {O : Orc} {K : PySem.W.Frag} {w : World}
/-- the readings of the pairs -/
def trsOf (X : Cx) (E : XK) (O : Orc) : List Str → List CE → List (TE × TE)
  | k :: ks, c :: cs => (tC (.str k), tEX X E O c) :: trsOf X E O ks cs
  | _, _ => []
theorem evV_cons {c : CE} {cs : List CE} {ρ : Env} {S : Sto} {ds : List D} {ρ' : Env} {S' : Sto} (h : evV O (c :: cs) ρ S = .ok ds ρ' S') : ∃ d ρ1 S1 r, evE O c ρ S = .ok d ρ1 S1 ∧ evV O cs ρ1 S1 = .ok r ρ' S' ∧ ds = d :: r := by
  have h' : ((evE O c ρ S).bind fun d ρ S => (evV O cs ρ S).bind fun ds ρ S => Res.ok (d :: ds) ρ S) = .ok ds ρ' S' := h
  cases e : evE O c ρ S with
  | no => rw [e] at h'; cases h'
  | exc => rw [e] at h'; cases h'
  | ok d ρ1 S1 =>
    rw [e] at h'
    replace h' : ((evV O cs ρ1 S1).bind fun ds ρ S => Res.ok (d :: ds) ρ S) = .ok ds ρ' S' := h'
    cases e2 : evV O cs ρ1 S1 with
    | no => rw [e2] at h'; cases h'
    | exc => rw [e2] at h'; cases h'
    | ok r ρ2 S2 =>
      rw [e2] at h'
      cases h'
      exact ⟨d, ρ1, S1, r, rfl, e2, rfl⟩
/-- pairs, evaluated ahead of all -/
theorem t_pairs : ∀ {ks : List Str} {cs : List CE} {F : Entry} {M : Addr → Prop} {ι : List Addr} {ρ : Env} {S : Sto} {σ : L2.St} {H : Hp} {ds : List D} {ρ' : Env} {S' : Sto} {Q : List (V × V) → Hp → Prop}, ks.length = cs.length → Rel X.K X.w F M ι ρ S σ H → evV O cs ρ S = .ok ds ρ' S' →
    (∀ M' ι' H' vs, Rel X.K X.w F M' ι' ρ' S' σ H' → Grow M H M' H' → ι <+: ι' → Reps X.K X.w ι' M' H' ds vs → Q ((ks.zip vs).map fun (p : Str × V) => (V.str p.1, p.2)) H') → tPairs (trsOf X E O ks cs) σ H Q
  | [], [], F, M, ι, ρ, S, σ, H, ds, ρ', S', Q, _, R, e, q => by
    cases e
    exact q M ι H [] R Grow.refl (List.prefix_refl _) rfl
  | k :: ks, c :: cs, F, M, ι, ρ, S, σ, H, ds, ρ', S', Q, hl, R, e, q => by
    obtain ⟨d, ρ1, S1, r, e1, e2, rfl⟩ := evV_cons e
    show tEX X E O c σ H _
    refine ⟨F, M, ι, ρ, S, R, ?_⟩
    rw [e1]
    intro M1 ι1 H1 R1 g1 p1 v hv
    refine t_pairs (Nat.succ.inj hl) R1 e2 fun M2 ι2 H2 vs R2 g2 p2 rv => ?_
    exact q M2 ι2 H2 (v :: vs) R2 (g1.trans g2) (p1.trans p2) (.cons (Rep.grow g2 p2 _ _ hv) rv)
  | [], _ :: _, _, _, _, _, _, _, _, _, _, _, _, hl, _, _, _ => by cases hl
  | _ :: _, [], _, _, _, _, _, _, _, _, _, _, _, hl, _, _, _ => by cases hl
/-- pairs, put one by one -/
theorem t_longP : ∀ {ks : List Str} {cs : List CE} {M : Addr → Prop} {ι : List Addr} {ρ : Env} {S : Sto} {σ : L2.St} {H : Hp} {ds : List D} {ρ' : Env} {S' : Sto} {p : Addr} {acc : List (Key × V)} {as : List D} {Q : List (Key × V) → Hp → Prop}, ks.length = cs.length → Rel X.K X.w F M ι ρ S σ H → evV O cs ρ S = .ok ds ρ' S' →
    Own F ι M p → H p = some (.dK acc) → (∀ (i : Nat) sv, ρ[i]? = some (some sv) → sv.isOwn = true → σ[i]? ≠ some (some (.ref p))) → Reps X.K X.w ι M H as (acc.map (·.2)) → (acc.map Prod.fst ++ ks.map (Sum.inr : Str → Key)).Nodup → acc.length + ks.length ≤ sizeLine →
    (∀ M' ι' H' (kvs : List (Key × V)), Rel X.K X.w F M' ι' ρ' S' σ H' → Grow M H M' H' → ι <+: ι' → Own F ι' M' p → H' p = some (.dK kvs) → (∀ (i : Nat) sv, ρ'[i]? = some (some sv) → sv.isOwn = true → σ[i]? ≠ some (some (.ref p))) →
      Reps X.K X.w ι' M' H' (as ++ ds) (kvs.map (·.2)) → kvs.map Prod.fst = acc.map Prod.fst ++ ks.map (Sum.inr : Str → Key) → Q kvs H') → tLongP p (trsOf X E O ks cs) acc σ H Q
  | [], [], M, ι, ρ, S, σ, H, ds, ρ', S', p, acc, as, Q, _, R, e, ow, hp, ns, ra, nd, hz, q => by
    cases e
    exact ⟨hp, q M ι H acc R Grow.refl (List.prefix_refl _) ow hp ns (by rw [List.append_nil]; exact ra) (by simp)⟩
  | k :: ks, c :: cs, M, ι, ρ, S, σ, H, ds, ρ', S', p, acc, as, Q, hl, R, e, ow, hp, ns, ra, nd, hz, q => by
    obtain ⟨d, ρ1, S1, r, e1, e2, rfl⟩ := evV_cons e
    show tEX X E O c σ H _
    refine ⟨entr F M ι ρ σ H, M, ι, ρ, S, R.enter, ?_⟩
    rw [e1]
    intro M1 ι1 H1 R1 g1 p1 v hv
    obtain ⟨h1, ow1, ns1⟩ := pend_turn R ow hp ns R1
    have R2 := Rel.back R R1
    have nw : valV acc (Sum.inr k : Key) = none := by
      have c := valV_any (Sum.inr k : Key) acc
      cases e : valV acc (Sum.inr k : Key) with
      | none => rfl
      | some y =>
        rw [e] at c
        obtain ⟨x, hx, ex⟩ := List.any_eq_true.mp c
        rw [List.nodup_append] at nd
        exact absurd (of_decide_eq_true ex) (nd.2.2 _ (List.mem_map_of_mem hx) _ (by simp))
    have ek : putK acc (Sum.inr k : Key) v = acc ++ [(Sum.inr k, v)] := putK_new v nw
    have gu : Grow M1 H1 M1 (upd H1 p (.dK (acc ++ [(Sum.inr k, v)]))) := grow_upd ow1.1
    rw [List.length_cons] at hz
    refine ⟨h1, Sum.inr k, rfl, by omega, ?_⟩
    rw [ek]
    refine t_longP (as := as ++ [d]) (Nat.succ.inj hl) (R2.updP ow1 ns1) e2 ow1 upd_same ns1 ?_ (by rw [List.map_append, List.append_assoc]; exact nd) (by rw [List.length_append, List.length_singleton]; omega) fun M3 ι3 H3 kvs R3 g3 p3 o3 h3 n3 r3 k3 => ?_
    · rw [List.map_append]
      exact Reps.grow gu (List.prefix_refl _) _ _ ((Reps.grow g1 p1 _ _ ra).append (.cons hv .nil))
    · refine q M3 ι3 H3 kvs R3 (fun b o e n => ?_) (p1.trans p3) o3 h3 n3 (by rw [← List.append_cons] at r3; exact r3) (by rw [k3, List.map_append, List.append_assoc]; rfl)
      obtain ⟨x1, x2⟩ := g1 b o e n
      obtain ⟨x3, x4⟩ := gu b o x1 x2
      exact g3 b o x3 x4
  | [], _ :: _, _, _, _, _, _, _, _, _, _, _, _, _, _, hl, _, _, _, _, _, _, _, _, _ => by cases hl
  | _ :: _, [], _, _, _, _, _, _, _, _, _, _, _, _, _, hl, _, _, _, _, _, _, _, _, _ => by cases hl
/-- a fresh dict is handed on -/
theorem dic_fin {M : Addr → Prop} {ι : List Addr} {ρ : Env} {S : Sto} {σ : L2.St} {H : Hp} {p : Addr} {kvs : List (Key × V)} {ks : List Str} {ds : List D} {Q : VK} (R : Rel X.K X.w F M ι ρ S σ H) (ow : Own F ι M p) (hp : H p = some (.dK kvs)) (ns : ∀ (i : Nat) sv, ρ[i]? = some (some sv) → sv.isOwn = true → σ[i]? ≠ some (some (.ref p)))
    (r : Reps X.K X.w ι M H ds (kvs.map (·.2))) (hk : kvs.map (·.1) = ks.map Sum.inr) (hs : ∀ s ∈ ks, s.length ≤ strMax) (k : Kx X.K X.w F E σ M ι H (.ok (D.dic (ks.map .str) ds) ρ S) fun d _ _ M' ι' H' => ∀ v, Rep X.K X.w ι' M' H' d v → Q v H') : Q (.ref p) H := by
  have R2 : Rel X.K X.w F (rm M p) ι ρ S σ H := R.cool ow ρ rfl fun i sv e => .inl ⟨e, fun o => ns i sv e o⟩
  refine k (rm M p) ι H R2 grow_rm (List.prefix_refl _) _ ⟨p, rfl, .inl ⟨kvs, ⟨.inl hp, fun z => z.2 rfl⟩, ?_, fun x hx => ?_, Reps.grow grow_rm (List.prefix_refl _) _ _ r⟩⟩
  · have : kvs.map (fun p => keyD p.1) = (kvs.map (·.1)).map keyD := by rw [List.map_map]; rfl
    rw [this, hk, List.map_map]; rfl
  · have hx' : x.1 ∈ kvs.map (·.1) := List.mem_map_of_mem hx
    rw [hk] at hx'
    obtain ⟨s, h1, h2⟩ := List.mem_map.mp hx'
    rw [← h2]
    exact hs s h1
theorem strK_all : ∀ {ks : List Str}, (ks.map D.str).all isStrK = true → ∀ s ∈ ks, s.length ≤ strMax := by
  intro ks h s hs
  have := List.all_eq_true.mp h (.str s) (List.mem_map_of_mem hs)
  have h2 : s.length ≤ 60 := of_decide_eq_true this
  unfold strMax; omega
theorem keyNd_ok : ∀ {ks : List Str}, keyNd (ks.map D.str) = true → (ks.map (Sum.inr : Str → Key)).Nodup
  | [], _ => List.nodup_nil
  | k :: r, h => by
    have h' : (!((r.map D.str).any fun q => kEq q (.str k)) && keyNd (r.map D.str)) = true := h
    rw [Bool.and_eq_true, Bool.not_eq_true'] at h'
    rw [List.map_cons, List.nodup_cons]
    refine ⟨fun z => ?_, keyNd_ok h'.2⟩
    obtain ⟨x, hx, ex⟩ := List.mem_map.mp z
    cases ex
    have : ((r.map D.str).any fun q => kEq q (.str k)) = true := List.any_eq_true.mpr ⟨.str k, List.mem_map_of_mem hx, by show decide (k = k) = true; simp⟩
    rw [this] at h'
    cases h'.1
theorem dicOk_of {ks : List Str} {ds : List D} (h : dicOk (ks.map .str) ds = true) : (∀ s ∈ ks, s.length ≤ strMax) ∧ (ks.map (Sum.inr : Str → Key)).Nodup ∧ ks.length = ds.length ∧ ks.length ≤ 60 := by
  unfold dicOk at h
  simp only [Bool.and_eq_true, decide_eq_true_eq, beq_iff_eq, List.length_map] at h
  exact ⟨strK_all h.1.1.1, keyNd_ok h.1.1.2, h.1.2, h.2⟩
theorem zip_keys {ks : List Str} {vs : List V} (h : ks.length = vs.length) : ((ks.zip vs).map fun p => ((Sum.inr p.1 : Key), p.2)).map (·.1) = ks.map Sum.inr ∧ ((ks.zip vs).map fun p => ((Sum.inr p.1 : Key), p.2)).map (·.2) = vs := by
  rw [List.map_map, List.map_map]
  constructor
  · show (ks.zip vs).map (Sum.inr ∘ Prod.fst) = _
    rw [← List.map_map, List.map_fst_zip (by omega)]
  · show (ks.zip vs).map Prod.snd = _
    rw [List.map_snd_zip (by omega)]
theorem t_disp {ks : List Str} {cs : List CE} (hl : ks.length = cs.length) (hn : ks.length ≤ 15) : ∀ σ H Q, tE X F E O (.dic (ks.map .str) cs) σ H Q → tDisp (trsOf X E O ks cs) σ H Q := by
  intro σ H Q ⟨M, ι, ρ, S, R, k⟩ p hp
  replace k : Kx X.K X.w F E σ M ι H ((noExc (evV O cs ρ S)).bind fun ds ρ S => if dicOk (ks.map .str) ds then Res.ok (D.dic (ks.map .str) ds) ρ S else .no) fun d _ _ M' ι' H' => ∀ v, Rep X.K X.w ι' M' H' d v → Q v H' := k
  cases e : noExc (evV O cs ρ S) with
  | no => rw [e] at k; exact k.elim
  | exc x r s => exact (noExc_exc e).elim
  | ok ds ρe Se =>
    rw [e] at k
    replace k : Kx X.K X.w F E σ M ι H (if dicOk (ks.map .str) ds then Res.ok (D.dic (ks.map .str) ds) ρe Se else .no) fun d _ _ M' ι' H' => ∀ v, Rep X.K X.w ι' M' H' d v → Q v H' := k
    split at k
    · rename_i hd
      obtain ⟨d1, d2, d3, d4⟩ := dicOk_of hd
      obtain ⟨R1, ow1, ns1⟩ := R.heat (o := .dK []) hp
      have g0 : Grow M H (ad M p) (upd H p (.dK [])) := grow_ad hp
      refine t_pairs (F := entr F (ad M p) ι ρ σ (upd H p (.dK []))) hl R1.enter (noExc_ok e) fun M2 ι2 H2 vs R2 g2 p2 rv => ?_
      obtain ⟨h2, ow2, ns2⟩ := pend_turn R1 ow1 upd_same ns1 R2
      have R3 := Rel.back R1 R2
      have lv : ks.length = vs.length := by rw [d3]; exact rv.length
      obtain ⟨z1, z2⟩ := zip_keys lv
      refine ⟨h2, (ks.zip vs).map fun p => (Sum.inr p.1, p.2), by rw [List.map_map]; rfl, by rw [List.length_map, List.length_zip]; omega, ?_⟩
      have mk : mergeK [] ((ks.zip vs).map fun p => ((Sum.inr p.1 : Key), p.2)) = (ks.zip vs).map fun p => ((Sum.inr p.1 : Key), p.2) := by
        have := mergeK_app ((ks.zip vs).map fun p => ((Sum.inr p.1 : Key), p.2)) [] (by rw [List.nil_append, z1]; exact d2)
        simpa using this
      rw [mk]
      have gu : Grow M2 H2 M2 (upd H2 p (.dK ((ks.zip vs).map fun p => ((Sum.inr p.1 : Key), p.2)))) := grow_upd ow2.1
      exact dic_fin (R3.updP ow2 ns2) ow2 upd_same ns2 (by rw [z2]; exact Reps.grow gu (List.prefix_refl _) _ _ rv) z1 d1 (Kx.later ((g0.trans g2).trans gu) p2 k)
    · exact k.elim
theorem evV_appD {O : Orc} : ∀ {c1 c2 : List CE} {ρ : Env} {S : Sto} {ds : List D} {ρ' : Env} {S' : Sto}, evV O (c1 ++ c2) ρ S = .ok ds ρ' S' → ∃ d1 ρ1 S1 d2, evV O c1 ρ S = .ok d1 ρ1 S1 ∧ evV O c2 ρ1 S1 = .ok d2 ρ' S' ∧ ds = d1 ++ d2
  | [], c2, ρ, S, ds, ρ', S', h => ⟨[], ρ, S, ds, rfl, h, rfl⟩
  | c :: c1, c2, ρ, S, ds, ρ', S', h => by
    obtain ⟨d, ρ1, S1, r, e1, e2, rfl⟩ := evV_cons h
    obtain ⟨d1, ρ2, S2, d2, e3, e4, rfl⟩ := evV_appD e2
    refine ⟨d :: d1, ρ2, S2, d2, ?_, e4, rfl⟩
    show ((evE O c ρ S).bind fun d ρ S => (evV O c1 ρ S).bind fun ds ρ S => Res.ok (d :: ds) ρ S) = _
    rw [e1]
    show ((evV O c1 ρ1 S1).bind fun ds ρ S => Res.ok (d :: ds) ρ S) = _
    rw [e3]; rfl
theorem t_dispL {k1 k2 : List Str} {c1 c2 : List CE} (l1 : k1.length = c1.length) (l2 : k2.length = c2.length) (n1 : k1 ≠ []) : ∀ σ H Q, tE X F E O (.dic ((k1 ++ k2).map .str) (c1 ++ c2)) σ H Q → tDispL (trsOf X E O k1 c1) (trsOf X E O k2 c2) σ H Q := by
  intro σ H Q ⟨M, ι, ρ, S, R, k⟩ p hp
  replace k : Kx X.K X.w F E σ M ι H ((noExc (evV O (c1 ++ c2) ρ S)).bind fun ds ρ S => if dicOk ((k1 ++ k2).map .str) ds then Res.ok (D.dic ((k1 ++ k2).map .str) ds) ρ S else .no) fun d _ _ M' ι' H' => ∀ v, Rep X.K X.w ι' M' H' d v → Q v H' := k
  cases e : noExc (evV O (c1 ++ c2) ρ S) with
  | no => rw [e] at k; exact k.elim
  | exc x r s => exact (noExc_exc e).elim
  | ok ds ρe Se =>
    rw [e] at k
    replace k : Kx X.K X.w F E σ M ι H (if dicOk ((k1 ++ k2).map .str) ds then Res.ok (D.dic ((k1 ++ k2).map .str) ds) ρe Se else .no) fun d _ _ M' ι' H' => ∀ v, Rep X.K X.w ι' M' H' d v → Q v H' := k
    split at k
    · rename_i hd
      obtain ⟨d1, d2, d3, d4⟩ := dicOk_of hd
      obtain ⟨a1, ρ1, S1, a2, e1, e2, rfl⟩ := evV_appD (noExc_ok e)
      rw [List.length_append] at d4
      rw [List.map_append] at d2
      have hz : k1.length + k2.length ≤ sizeLine := by rw [sizeLine_eq]; omega
      obtain ⟨R1, ow1, ns1⟩ := R.heat (o := .dK []) hp
      have g0 : Grow M H (ad M p) (upd H p (.dK [])) := grow_ad hp
      refine t_longP (as := []) l1 R1 e1 ow1 upd_same ns1 rfl (by rw [List.map_nil, List.nil_append]; exact (List.nodup_append.mp d2).1) (by rw [List.length_nil]; omega) fun M2 ι2 H2 acc R2 g2 p2 ow2 h2 ns2 r2 k2' => ?_
      rw [List.nil_append] at r2
      rw [List.map_nil, List.nil_append] at k2'
      have la : acc.length = k1.length := by
        have := congrArg List.length k2'
        simpa using this
      refine ⟨fun z => n1 (List.length_eq_zero_iff.mp (by rw [← la, z]; rfl)), fun q hq => ?_⟩
      obtain ⟨R3, ow3, ns3⟩ := R2.heat (o := .dK []) hq
      have g3 : Grow M2 H2 (ad M2 q) (upd H2 q (.dK [])) := grow_ad hq
      have hqp : p ≠ q := fun z => by rw [z, hq] at h2; cases h2
      have h3 : upd H2 q (.dK []) p = some (.dK acc) := by rw [upd_ne hqp]; exact h2
      have ow3p : Own F ι2 (ad M2 q) p := ⟨.inl ow2.1, ow2.2.1, ow2.2.2⟩
      refine t_pairs (F := entr F (ad M2 q) ι2 ρ1 σ (upd H2 q (.dK []))) l2 R3.enter e2 fun M4 ι4 H4 vs R4 g4 p4 rv => ?_
      obtain ⟨hq4, owq4, nsq4⟩ := pend_turn R3 ow3 upd_same ns3 R4
      obtain ⟨hp4, owp4, nsp4⟩ := pend_turn R3 ow3p h3 ns2 R4
      have R5 := Rel.back R3 R4
      have l2v : k2.length = vs.length := by
        rw [← rv.length]
        have q1 := r2.length
        rw [List.length_append, List.length_append] at d3
        rw [List.length_map, la] at q1
        omega
      obtain ⟨z1, z2⟩ := zip_keys l2v
      have ndk : ((acc ++ (k2.zip vs).map fun p => ((Sum.inr p.1 : Key), p.2)).map (·.1)).Nodup := by rw [List.map_append, k2', z1]; exact d2
      refine ⟨hp4, hq4, (k2.zip vs).map fun p => (Sum.inr p.1, p.2), by rw [List.map_map]; rfl, by rw [List.length_map, List.length_zip, la]; omega, ndk, ?_⟩
      have R6 := R5.updP (ho := .dK ((k2.zip vs).map fun p => ((Sum.inr p.1 : Key), p.2))) owq4 nsq4
      have gq : Grow M4 H4 M4 (upd H4 q (.dK ((k2.zip vs).map fun p => ((Sum.inr p.1 : Key), p.2)))) := grow_upd owq4.1
      have R7 := R6.updP (ho := .dK (acc ++ (k2.zip vs).map fun p => ((Sum.inr p.1 : Key), p.2))) owp4 nsp4
      have gp : Grow M4 (upd H4 q (.dK ((k2.zip vs).map fun p => ((Sum.inr p.1 : Key), p.2)))) M4 (upd (upd H4 q (.dK ((k2.zip vs).map fun p => ((Sum.inr p.1 : Key), p.2)))) p (.dK (acc ++ (k2.zip vs).map fun p => ((Sum.inr p.1 : Key), p.2)))) := grow_upd owp4.1
      refine dic_fin R7 owp4 upd_same nsp4 ?_ (by rw [List.map_append, k2', z1, List.map_append]) d1 (Kx.later (((((g0.trans g2).trans g3).trans g4).trans gq).trans gp) (p2.trans p4) k)
      rw [List.map_append, z2]
      exact (Reps.grow (((g3.trans g4).trans gq).trans gp) p4 _ _ r2).append (Reps.grow (gq.trans gp) (List.prefix_refl _) _ _ rv)
    · exact k.elim
/-- {} -/
theorem t_dnew : ∀ σ H Q, tE X F E O (.dic [] []) σ H Q → tDNewK σ H Q := by
  intro σ H Q ⟨M, ι, ρ, S, R, k⟩ p hp
  replace k : Kx X.K X.w F E σ M ι H (.ok (D.dic [] []) ρ S) fun d _ _ M' ι' H' => ∀ v, Rep X.K X.w ι' M' H' d v → Q v H' := k
  obtain ⟨R1, ow1, ns1⟩ := R.heat (o := .dK []) hp
  exact dic_fin (ks := []) (ds := []) R1 ow1 upd_same ns1 (show Reps X.K X.w ι (ad M p) (upd H p (.dK [])) [] ([] : List V) from rfl) rfl (fun _ h => by cases h) (Kx.later (grow_ad hp) (List.prefix_refl _) k)
theorem pps_of {Γ : Unit} {f : Expr → CE} {pos : Pos} (hf : ∀ e F, PE X e (tE X F E O (f e))) : ∀ {keys : List (Option Expr)} {ks : List Str} {vs : List Expr}, Paired (fun k s => ∃ p q, k = some (.Constant (.str s) p q)) keys ks → keys.length = vs.length → PPs X pos keys vs (trsOf X E O ks (vs.map f))
  | _, _, [], .nil, _ => pps_nil
  | _, _, v :: vs, .cons (b := s) ⟨p, q, e⟩ h, hl => by
    subst e
    exact pps_cons pe_str (pe_ex fun F => hf v F) (pps_of (Γ := Γ) hf h (Nat.succ.inj hl))
  | _, _, _ :: _, .nil, hl => by cases hl
  | _, _, [], .cons _ _, hl => by cases hl
theorem pls_of {Γ : Unit} {f : Expr → CE} {pos : Pos} (hf : ∀ e F, PE X e (tE X F E O (f e))) : ∀ {keys : List (Option Expr)} {ks : List Str} {vs : List Expr}, Paired (fun k s => ∃ p q, k = some (.Constant (.str s) p q)) keys ks → keys.length = vs.length → PLs X pos keys vs (trsOf X E O ks (vs.map f))
  | _, _, [], .nil, _ => pls_nil
  | _, _, v :: vs, .cons (b := s) ⟨p, q, e⟩ h, hl => by
    subst e
    exact pls_cons pe_str (pe_ex fun F => hf v F) (pls_of (Γ := Γ) hf h (Nat.succ.inj hl))
  | _, _, _ :: _, .nil, hl => by cases hl
  | _, _, [], .cons _ _, hl => by cases hl
end
end R
end
section
set_option Elab.async false
set_option linter.all false
set_option maxRecDepth 100000
set_option maxHeartbeats 4000000
namespace R
open PySem PySem.Spec PyProof.Rows L2
section
variable {α : Type} [DecidableEq α]
theorem mem_dd {x : α} : ∀ {l : List α}, x ∈ dd l ↔ x ∈ l
  | [] => Iff.rfl
  | a :: r => by
    unfold dd
    split
    · rename_i h
      rw [mem_dd, List.mem_cons]
      exact ⟨.inr, fun z => z.elim (fun e => e ▸ h) id⟩
    · rw [List.mem_cons, List.mem_cons, mem_dd]
theorem nodup_dd : ∀ (l : List α), (dd l).Nodup
  | [] => List.nodup_nil
  | a :: r => by
    unfold dd
    split
    · exact nodup_dd r
    · rename_i h
      exact List.nodup_cons.mpr ⟨fun z => h (mem_dd.mp z), nodup_dd r⟩
theorem len_dd {l m : List α} (hn : m.Nodup) (h : ∀ x, x ∈ m ↔ x ∈ l) : m.length = (dd l).length :=
  ((List.perm_ext_iff_of_nodup hn (nodup_dd l)).mpr fun x => (h x).trans mem_dd.symm).length_eq
theorem dd_le (l : List α) : (dd l).length ≤ l.length := by
  induction l with
  | nil => exact Nat.le_refl _
  | cons a r ih =>
    unfold dd
    split
    · exact Nat.le_succ_of_le ih
    · exact Nat.succ_le_succ ih
theorem dd_snoc (l : List α) (x : α) : (dd (l ++ [x])).length = if x ∈ l then (dd l).length else (dd l).length + 1 := by
  split
  · rename_i h
    refine (len_dd (nodup_dd l) fun y => ?_).symm
    rw [mem_dd, List.mem_append, List.mem_singleton]
    exact ⟨.inl, fun z => z.elim id fun e => e ▸ h⟩
  · rename_i h
    have n2 : (dd l ++ [x]).Nodup := List.nodup_append.mpr ⟨nodup_dd l, by simp, fun a ha b hb e => h (by rw [List.mem_singleton.mp hb] at e; exact e ▸ mem_dd.mp ha)⟩
    have := len_dd n2 (l := l ++ [x]) fun y => by rw [List.mem_append, List.mem_append, mem_dd]
    rw [← this, List.length_append]; rfl
end
theorem mapO_len {α β : Type} {f : α → Option β} : ∀ {l : List α} {m : List β}, mapO f l = some m → m.length = l.length
  | [], m, h => by cases h; rfl
  | a :: r, m, h => by
    unfold mapO at h
    split at h
    · rename_i b s e1 e2
      cases h
      rw [List.length_cons, List.length_cons, mapO_len e2]
    · cases h
theorem mapO_cons {α β : Type} {f : α → Option β} {a : α} {r : List α} {m : List β} (h : mapO f (a :: r) = some m) : ∃ b s, f a = some b ∧ mapO f r = some s ∧ m = b :: s := by
  unfold mapO at h
  split at h
  · rename_i b s e1 e2
    cases h
    exact ⟨b, s, e1, e2, rfl⟩
  · cases h
section
variable {P : Program} {w : World} {A : Around} {E : Value → Shared → Prop} {s : Shared}
abbrev nwS (w : World) : Obj := { cls := .type "set", dict := none, data := .set #[] 0 (.fresh 0 0 (!w.params.followText "set-order")) }
/-- a built-in type called, where what is checked of the call is shown by hand -/
theorem ty_checked {T newId initId : String} {Bi : Builtin} {args : List Value} {Q Q1 : Value → Shared → Prop} (ft : TypeCalled T newId initId) (hct : checkTypeCall T ⟨args, []⟩ = pure ()) (ei : entryFor table initId = some Bi)
    (mk : codeAny (PySem.model P w) A.in1 (.call (.builtin newId) ⟨.type T :: args, []⟩) (wants Q1 E) s)
    (nx : ∀ x s1, Q1 x s1 → s1.TypeIs x T ∧ (∀ (A2 : Around) (E2 : Value → Shared → Prop) (Qc : Unit → Shared → Prop), Qc () s1 → wpAny (PySem.model P w) A2 (checkBuiltinCall initId ⟨x :: args, []⟩) Qc E2 s1) ∧
      wpAny (PySem.model P w) A.in1.in1 (Bi ⟨x :: args, []⟩) (fun o s' => match o with | .done f => wants (fun r s2 => r = .none ∧ Q x s2) E (.ok f) s' | .again c => c.quiet = true ∧ codeAny (PySem.model P w) A.in1 c (wants (fun r s2 => r = .none ∧ Q x s2) E) s')
        (fun e s' => wants (fun r s2 => r = .none ∧ Q x s2) E (.error e) s') s1) :
    wpAny (PySem.model P w) A (call (.type T) args) Q E s := by
  obtain ⟨c, tl, hmro⟩ := ft.mro
  have e1 := ft.made
  have e2 := ft.sub
  have e3 := ft.notType
  have e4 := ft.canCreate
  refine wpAny_call (codeAny_of_tree ?_)
  show wpAny _ _ (callAny (.type T) _) _ _ _
  refine wpAny_pure ⟨Code.quiet_builtin _ (by decide +kernel), codeAny_builtin PySem.F.entry_type_call ?_⟩
  rw [Around.under_plain (weight_type_call_type T args []) rfl]
  repeat (any_goals (first | assumption | wp_step))
  refine codeAny_mono mk fun r s1 hr => ?_
  match r, hr with
  | .error e, hr => exact hr
  | .ok (.ret x), hr =>
    obtain ⟨t1, t2, t3⟩ := nx _ _ hr
    have e5 := ft.init.lookup
    have e6 := ft.init.bind x
    repeat (any_goals (first | assumption | wp_step))
    refine codeAny_mono (codeAny_call_builtin ft.init.plain ei (t2 _ _ _ t3)) fun r2 s2 hr2 => ?_
    match r2, hr2 with
    | .error e, hr2 => exact hr2
    | .ok (.ret y), hr2 =>
      obtain ⟨rfl, q⟩ := hr2
      repeat (any_goals (first | assumption | wp_step))
/-- the items of a tuple of tuples of ints, put into a set -/
theorem tt_init {l : Addr} {items : Array Value} (ks : List (Addr × List Int)) {Q : Value → Shared → Prop} (hh : A.handled = none) (hl : s.heap.IsTuple l items) (hit : items.toList = ks.map fun p => Value.ref p.1)
    (hk : ∀ p ∈ ks, IsT P w s.heap p.2 p.1) (hfew : ks.length < 64) (hu : A.units + 3 < cLine)
    (h : ∀ (h' : Heap) (tk : Nat) L es ep t, SetTR P w h' s.heap.objs.size L es ep t → Got ks ks.length L → (∀ b o, s.heap.get? b = some o → h'.get? b = some o) → Q (.ref s.heap.objs.size) { s with heap := h', toks := tk }) :
    wpAny (PySem.model P w) A (call (.type "set") [.ref l]) Q E s := by
  have size : items.size = ks.length := by
    have := congrArg List.length hit
    simpa using this
  refine ty_checked (Q1 := fun obj s₁ => obj = .ref s.heap.objs.size ∧ s₁ = { s with heap := s.heap.push (nwS w) }) PySem.F.called_set (PySem.F.typeCall_set_1 _) PySem.F.entry_set_init (code_set_led1 _ ⟨rfl, rfl⟩) ?_
  rintro obj s₁ ⟨rfl, rfl⟩
  have hS : (s.heap.push (nwS w)).get? s.heap.objs.size = some (nwS w) := Heap.get?_push_size _ rfl
  have hT : Shared.TypeIs { s with heap := s.heap.push (nwS w) } (.ref s.heap.objs.size) "set" := ⟨_, hS, rfl⟩
  refine ⟨hT, fun _ _ _ q => check_set_init_1 hT q, ?_⟩
  obtain ⟨ol, hol, hcl, nl, hdl⟩ := hl
  obtain ⟨ocls, odict, odata, oslots⟩ := ol
  simp only at hcl hdl
  subst hcl; subst hdl
  have hol' : (s.heap.push (nwS w)).get? l = some { cls := .type "tuple", dict := odict, data := .seq items nl, slots := oslots } := Heap.get?_push_of_some _ hol
  have hl1 : (s.heap.push (nwS w)).IsTuple l items := ⟨_, hol', rfl, nl, rfl⟩
  have hsls := PySem.F.sub_tuple_set
  have hslf := PySem.F.sub_tuple_frozenset
  have hne : (Value.type "tuple" == Value.type "dict") = false := by decide
  unfold Builtin.«set.__init__» noKeywords Builtin.Frozenset.updateFrom
  generalize hPI : pyIter = PI
  wp_walk
  subst hPI
  refine wpAny_pyIter_tuple hl1 ?_
  refine wpAny_bind (wpAny_runValue ?_)
  have none_at : ∀ b, s.heap.objs.size ≤ b → s.heap.get? b = none := fun b hb => Heap.get?_none_of_le hb
  have sz1 : (s.heap.push (nwS w)).objs.size = s.heap.objs.size + 1 := Heap.size_push ..
  have llt : l < s.heap.objs.size := Heap.lt_size hol
  have hA : A.in1.in1.in1.handled = none := by simp [hh]
  have val : ∀ (i : Nat) (v : Value), items[i]? = some v → ∃ p, ks[i]? = some p ∧ v = .ref p.1 := fun i v e => by
    rw [← Array.getElem?_toList, hit, List.getElem?_map] at e
    obtain ⟨p, e1, e2⟩ := Option.map_eq_some_iff.mp e
    exact ⟨p, e1, e2.symm⟩
  refine set_update_tups ((Walks.tuple hA (s.heap.push (nwS w)).objs.size l (by rw [sz1]; exact Nat.ne_of_lt (Nat.lt_succ_of_lt llt)) items).toS) s.heap.objs.size (by
      rw [sz1]
      simp only [List.mem_cons, List.mem_singleton, List.not_mem_nil, or_false, not_or]
      exact ⟨Nat.ne_of_lt (Nat.lt_succ_self _), Nat.ne_of_gt llt⟩) ks size hfew val s.heap hk (none_at _ (Nat.le_refl _)) (fun b hb => none_at b (by
      rw [List.mem_singleton.mp hb, sz1]
      exact Nat.le_succ _)) hu (items.size - 0) 0 _ (by omega) (Nat.zero_le _) ⟨⟨_, Heap.get?_push_size _ rfl, rfl, rfl⟩, hl1.push _⟩
    (fun b o e => Heap.get?_push_of_some _ (Heap.get?_push_of_some _ e)) ⟨[], #[], 0, _, setTR_fresh (Heap.get?_push_of_some _ hS), Got.zero ks⟩ fun s' L es ep t hm R g kp => ?_
  obtain ⟨h', g', d', t', o'⟩ := s'
  have eg : g' = s.gens := hm.gens
  have ed : d' = s.drawn := hm.drawn
  have eo : o' = s.os := hm.os
  subst eg ed eo
  rw [size] at g
  exact wpAny_pure (wpAny_pure ⟨rfl, h h' t' L es ep t R g kp⟩)
end
/-- a thing of which only the size is known -/
def lenO (a : Addr) (n : Nat) : HO := .ext fun h => SetLen h a n
theorem lenO_new {P : Program} {w : World} {H : Hp} {h : Heap} {a : Addr} {n : Nat} (R : SetLen h a n) : ObjOk P w H h a (lenO a n) := by
  obtain ⟨o, ho, r⟩ := id R
  exact ⟨R, ⟨o, ho⟩, fun h1 h2 p k => let ⟨o, ho, r⟩ := p; ⟨o, k o ho, r⟩⟩
theorem setLen_of {P : Program} {w : World} {s : Shared} {a : Addr} {L : List (Addr × List Int)} {es : Array (Int × Value)} {ep : Nat} {t : SetTable} (R : SetTR P w s.heap a L es ep t) : SetLen s.heap a L.length := by
  obtain ⟨o, ho, hx, hd⟩ := R.ob
  have := R.few
  exact ⟨o, ho, by rw [sizeLine_eq]; omega, .inl ⟨es, ep, t, hx, hd, R.fits, R.size⟩⟩
theorem intsD_reps {K : PySem.W.Frag} {w : World} {ι : List Addr} {M : Addr → Prop} {H : Hp} : ∀ {ds : List D} {ns : List Int} {xs : List V}, intsD ds = some ns → Reps K w ι M H ds xs → xs = ns.map V.int := fun h r => (intsD_rep h r).2
theorem tups_reps {K : PySem.W.Frag} {w : World} {ι : List Addr} {M : Addr → Prop} {H : Hp} : ∀ {ds : List D} {ks : List (List Int)} {xs : List V}, mapO tupInts ds = some ks → Reps K w ι M H ds xs →
    ∃ ps : List (Addr × List Int), xs = ps.map (fun p => V.ref p.1) ∧ ps.map (·.2) = ks ∧ ∀ p ∈ ps, SqT K H p.1 (p.2.map V.int)
  | [], ks, xs, h, r => by
    cases h
    cases r.nil_inv
    exact ⟨[], rfl, rfl, fun p hp => by cases hp⟩
  | d :: ds, ks, xs, h, r => by
    obtain ⟨k, ks', h1, h2, rfl⟩ := mapO_cons h
    obtain ⟨x, xs', rfl, r1, r2⟩ := r.cons_inv
    obtain ⟨ps, rfl, e2, e3⟩ := tups_reps h2 r2
    unfold tupInts at h1
    split at h1
    · obtain ⟨a, ys, rfl, c, r3⟩ := (Vw.of r1).tup
      have := intsD_reps h1 r3
      subst this
      exact ⟨(a, k) :: ps, rfl, by rw [List.map_cons, e2], fun p hp => by
        rcases List.mem_cons.mp hp with e | hp
        · subst e; exact c
        · exact e3 p hp⟩
    · cases h1
section
variable {X : Cx}
/-- set(t) -/
theorem call_setX (hc : X.calm = true) (hu : X.A.units + 64 < cLine) : CallR X (.type "set") (caD X.K X.w .set) := by
  intro pins s σ H xs us Q I r h
  obtain ⟨ι, M, ds, d, hot, vs, e, o⟩ := h
  cases vs with
  | nil => cases e
  | @cons dx x _ _ v1 vs =>
    cases vs with
    | cons _ _ => cases e
    | nil =>
      replace e : setOfD dx = some d := e
      unfold setOfD at e
      split at e
      · split at e
        · rename_i ks hk
          split at e
          · rename_i hl
            cases e
            obtain ⟨a, ys, rfl, h1, r1⟩ := v1.tup
            obtain ⟨ps, rfl, e2, e3⟩ := tups_reps hk r1
            rw [Vals.ref1 r]
            obtain ⟨its, rv, ht, hz⟩ := I.tuple h1
            have hit : its = ps.map fun p => Value.ref p.1 := refs_of_vals rv
            have hlen : ps.length < 64 := by rw [← List.length_map (f := (·.2)), e2]; exact hl
            have hn : H s.heap.objs.size = none := I.hok.fresh (Nat.le_refl _)
            obtain ⟨ot, hot1, hot2, n, hot3⟩ := ht
            refine tt_init (P := X.prog) (w := X.w) ps (I.ok.hd hc) ⟨ot, hot1, hot2, n, hot3⟩ (by simpa using hit) (fun p hp => I.isT (e3 p hp)) hlen (by omega) fun h' tk L es ep t R g k => ?_
            have hL : L.length = (dd ks).length := by
              rw [← List.length_map (f := (·.2)) (as := L)]
              refine len_dd R.nd fun z => ?_
              rw [← e2]
              constructor
              · intro hz
                obtain ⟨p, hp, rfl⟩ := List.mem_map.mp hz
                exact List.mem_map_of_mem (List.mem_of_mem_take (g.sub p hp))
              · intro hz
                obtain ⟨p, hp, rfl⟩ := List.mem_map.mp hz
                exact g.all p (by rw [List.take_length]; exact hp)
            have sl : SetLen h' s.heap.objs.size (dd ks).length := by
              rw [← hL]
              exact setLen_of (s := { s with heap := h' }) R
            refine ⟨.ref s.heap.objs.size, upd H s.heap.objs.size (lenO s.heap.objs.size (dd ks).length), I.laid (t' := tk) k (Nat.le_refl _) (lenO_new sl), rfl, o _ _ (same_upd hn) ⟨_, _, rfl, ⟨.inl upd_same, not_hot hot hn⟩, fun h z => ?_⟩⟩
            rw [List.length_map]; exact z
          · cases e
        · cases e
      · cases e
theorem merged_mem {κ : Type} [DecidableEq κ] : ∀ (more acc : List (κ × Value)) (x : κ), x ∈ (merged acc more).map (·.1) ↔ x ∈ acc.map (·.1) ∨ x ∈ more.map (·.1)
  | [], acc, x => by simp [merged]
  | p :: r, acc, x => by
    have h1 := merged_mem r (stored acc p.1 p.2) x
    have h2 : x ∈ (stored acc p.1 p.2).map (·.1) ↔ x ∈ acc.map (·.1) ∨ x = p.1 := by
      unfold stored
      split
      · rename_i c
        have e : (acc.map fun kv => if kv.1 = p.1 then (kv.1, p.2) else kv).map (·.1) = acc.map (·.1) := by
          rw [List.map_map]
          refine List.map_congr_left fun y _ => ?_
          by_cases z : y.1 = p.1 <;> simp [z]
        rw [e]
        obtain ⟨y, hy, ey⟩ := List.any_eq_true.mp c
        refine ⟨.inl, fun z => z.elim id fun z => ?_⟩
        rw [z, ← of_decide_eq_true ey]
        exact List.mem_map_of_mem hy
      · rw [List.map_append, List.mem_append]; simp
    show x ∈ (merged (stored acc p.1 p.2) r).map (·.1) ↔ _
    rw [h1, h2, List.map_cons, List.mem_cons, or_assoc]
theorem dict_len {κ : Type} [DecidableEq κ] {kvs : List (κ × Value)} {ks : List κ} (e : kvs.map (·.1) = ks) (nd : ((merged [] kvs).map (·.1)).Nodup) : (merged [] kvs).length = (dd ks).length := by
  rw [← List.length_map (f := (·.1)) (as := merged [] kvs)]
  refine len_dd nd fun x => ?_
  rw [merged_mem, ← e]
  simp
theorem pair_of {ι : List Addr} {M : Addr → Prop} {H : Hp} {d k : D} {x : V} (h : fstD d = some k) (r : Rep X.K X.w ι M H d x) : ∃ a y z, x = .ref a ∧ SqT X.K H a [y, z] ∧ Rep X.K X.w ι M H k y := by
  unfold fstD at h
  split at h
  · cases h
    obtain ⟨a, xs, rfl, c, r1⟩ := (Vw.of r).tup
    obtain ⟨y, q, rfl, ry, r2⟩ := r1.cons_inv
    obtain ⟨z, q2, rfl, rz, r3⟩ := r2.cons_inv
    cases r3.nil_inv
    exact ⟨a, y, z, rfl, c, ry⟩
  · cases h
theorem istup {pins : List (Addr × Obj)} {σ : L2.St} {H : Hp} {s : Shared} (I : L2.Inv X pins σ H s) {a : Addr} {y z : V} (c : SqT X.K H a [y, z]) : ∃ u v, s.heap.IsTuple a #[u, v] ∧ RelV y u := by
  obtain ⟨its, rv, ⟨o, ho, hc, n, hd⟩, _⟩ := I.tuple c
  obtain ⟨u, v, rfl, ru, rw'⟩ := vals2 rv
  exact ⟨u, v, ⟨o, ho, hc, n, hd⟩, ru⟩
theorem keyO_rep {ι : List Addr} {M : Addr → Prop} {H : Hp} {d : D} {k : Key} {y : V} (h : keyO d = some k) (r : Rep X.K X.w ι M H d y) : y = kV k := by
  unfold keyO at h
  split at h
  · cases h; exact r
  · cases h; exact r.1
  · cases h
theorem keys_rep' {ι : List Addr} {M : Addr → Prop} {H : Hp} : ∀ {ds : List D} {ks : List Key} {xs : List V}, mapO keyO ds = some ks → Reps X.K X.w ι M H ds xs → xs = ks.map kV
  | [], ks, xs, h, r => by cases h; exact r.nil_inv
  | d :: ds, ks, xs, h, r => by
    obtain ⟨k, ks', h1, h2, rfl⟩ := mapO_cons h
    obtain ⟨x, xs', rfl, r1, r2⟩ := r.cons_inv
    rw [keyO_rep h1 r1, keys_rep' h2 r2]; rfl
theorem pairs1 {pins : List (Addr × Obj)} {σ : L2.St} {H : Hp} {s : Shared} (I : L2.Inv X pins σ H s) {ι : List Addr} {M : Addr → Prop} : ∀ {ds kd : List D} {ks : List Key} {xs : List V}, mapO fstD ds = some kd → mapO keyO kd = some ks → Reps X.K X.w ι M H ds xs →
    ∃ zs : List (Addr × Value × Value × Key), xs = zs.map (fun z => V.ref z.1) ∧ zs.map (·.2.2.2) = ks ∧ ∀ z ∈ zs, s.heap.IsTuple z.1 #[z.2.1, z.2.2.1] ∧ (mixKind X.prog X.w).is z.2.2.2 z.2.1 = true
  | [], kd, ks, xs, h, g, r => by
    cases h; cases g
    cases r.nil_inv
    exact ⟨[], rfl, rfl, fun z hz => by cases hz⟩
  | d :: ds, kd, ks, xs, h, g, r => by
    obtain ⟨k, kd', h1, h2, rfl⟩ := mapO_cons h
    obtain ⟨q, ks', g1, g2, rfl⟩ := mapO_cons g
    obtain ⟨x, xs', rfl, r1, r2⟩ := r.cons_inv
    obtain ⟨zs, rfl, e2, e3⟩ := pairs1 I h2 g2 r2
    obtain ⟨a, y, z, rfl, c, ry⟩ := pair_of h1 r1
    obtain ⟨u, v, it, ru⟩ := istup I c
    refine ⟨(a, u, v, q) :: zs, rfl, by rw [List.map_cons, e2], fun z hz => ?_⟩
    rcases List.mem_cons.mp hz with e | hz
    · subst e
      rw [keyO_rep g1 ry] at ru
      exact ⟨it, kV_is ru⟩
    · exact e3 z hz
theorem pairs2 {pins : List (Addr × Obj)} {σ : L2.St} {H : Hp} {s : Shared} (I : L2.Inv X pins σ H s) {ι : List Addr} {M : Addr → Prop} : ∀ {ds kd : List D} {ks : List (List Key)} {xs : List V}, mapO fstD ds = some kd → mapO keyT kd = some ks → Reps X.K X.w ι M H ds xs →
    ∃ zs : List (Addr × Addr × Value × List Key), xs = zs.map (fun z => V.ref z.1) ∧ zs.map (·.2.2.2) = ks ∧ ∀ z ∈ zs, s.heap.IsTuple z.1 #[.ref z.2.1, z.2.2.1] ∧ (tupleKind (mixKind X.prog X.w)).is s.heap z.2.2.2 z.2.1
  | [], kd, ks, xs, h, g, r => by
    cases h; cases g
    cases r.nil_inv
    exact ⟨[], rfl, rfl, fun z hz => by cases hz⟩
  | d :: ds, kd, ks, xs, h, g, r => by
    obtain ⟨k, kd', h1, h2, rfl⟩ := mapO_cons h
    obtain ⟨q, ks', g1, g2, rfl⟩ := mapO_cons g
    obtain ⟨x, xs', rfl, r1, r2⟩ := r.cons_inv
    obtain ⟨zs, rfl, e2, e3⟩ := pairs2 I h2 g2 r2
    obtain ⟨a, y, z, rfl, c, ry⟩ := pair_of h1 r1
    obtain ⟨u, v, it, ru⟩ := istup I c
    unfold keyT at g1
    split at g1
    · obtain ⟨b, ys, rfl, c2, r3⟩ := (Vw.of ry).tup
      cases ru
      have := keys_rep' g1 r3
      subst this
      obtain ⟨its, rv, ⟨o, ho, hc, n, hd⟩, _⟩ := I.tuple c2
      refine ⟨(a, b, v, q) :: zs, rfl, by rw [List.map_cons, e2], fun z hz => ?_⟩
      rcases List.mem_cons.mp hz with e | hz
      · subst e
        exact ⟨it, o, its.toArray, n, ho, hc, hd, by simpa using items_are rv⟩
      · exact e3 z hz
    · cases g1
theorem vals_refs {α : Type} {f : α → Addr} : ∀ {zs : List α} {us : List Value}, Vals (zs.map fun z => V.ref (f z)) us → us = zs.map fun z => Value.ref (f z)
  | [], _, .nil => rfl
  | z :: zs, _, .cons r t => by
    cases r
    rw [vals_refs t]; rfl
/-- dict(xs) -/
theorem call_dictX (hc : X.calm = true) (hu : X.A.units + 64 < cLine) : CallR X (.type "dict") (caD X.K X.w .dict) := by
  intro pins s σ H xs us Q I r h
  obtain ⟨ι, M, ds, d, hot, vs, e, o⟩ := h
  have big := I.big
  have hsm : (s.heap.objs.size == sysModules) = false := beq_eq_false_iff_ne.mpr (Nat.ne_of_gt big)
  have hn : H s.heap.objs.size = none := I.hok.fresh (Nat.le_refl _)
  cases vs with
  | nil => cases e
  | @cons dx x _ _ v1 vs =>
    cases vs with
    | cons _ _ => cases e
    | nil =>
      replace e : dictOfD dx = some d := e
      unfold dictOfD at e
      split at e
      · split at e
        · rename_i kd hk
          obtain ⟨a, ys, rfl, h1, r1⟩ := v1.lst
          rw [Vals.ref1 r]
          obtain ⟨its, rv, ⟨ol, n, ho, hcl, hdn, hdat⟩, hz⟩ := I.list h1
          split at e
          · rename_i ks hks
            cases e
            obtain ⟨zs, rfl, e2, e3⟩ := pairs1 I hk hks r1
            have ei := vals_refs rv
            have hlen : zs.length ≤ sizeLine := by rw [List.length_map] at hz; exact hz
            have kk : (zs.map fun z => (z.2.2.2, z.2.2.1)).map (·.1) = ks := by rw [List.map_map]; exact e2
            refine PySem.call_dict_pairs (knd := mixKind X.prog X.w) (kvs := zs.map fun z => (z.2.2.2, z.2.2.1)) (PairArg.list a its.toArray (fun j => ((zs[j]?).map (·.1)).getD 0) (zs.map fun z => (z.2.1, z.2.2.1))) (I.ok.hd hc)
              ⟨⟨ol, n, ho, hcl, hdn, hdat⟩, by simp [ei], fun j k v hj => ?_⟩ ⟨by simp, fun i key v hr => ?_⟩ (by rw [List.length_map]; exact hlen) fun h' tk hd' kp => ?_
            · rw [List.getElem?_map] at hj
              obtain ⟨z, hz1, hz2⟩ := Option.map_eq_some_iff.mp hj
              cases hz2
              refine ⟨?_, .inl ?_⟩
              · simp [ei, hz1]
              · simp only [hz1]
                exact (e3 z (List.mem_of_getElem? hz1)).1
            · have hr' : (zs.map fun z => (z.2.1, z.2.2.1))[i]? = some (key, v) := hr
              rw [List.getElem?_map] at hr'
              obtain ⟨z, hz1, hz2⟩ := Option.map_eq_some_iff.mp hr'
              cases hz2
              exact ⟨z.2.2.2, by rw [List.getElem?_map, hz1]; rfl, (e3 z (List.mem_of_getElem? hz1)).2⟩
            · obtain ⟨od, es, ep, g1, g2, g3, g4, g5, g6⟩ := id hd'
              have hl := dict_len kk g6
              have sl : SetLen h' s.heap.objs.size (dd ks).length := ⟨od, g1, by
                have q := dd_le ks
                rw [← e2, List.length_map] at q
                rw [← e2]; omega, .inr ⟨es, ep, g2, g3, by rw [← hl, ← g5.length, Array.length_toList], hsm⟩⟩
              refine ⟨.ref s.heap.objs.size, upd H s.heap.objs.size (lenO s.heap.objs.size (dd ks).length), I.laid (t' := tk) (fun b o e => kp b o (by simp) e) (Nat.le_refl _) (lenO_new sl), rfl, o _ _ (same_upd hn) ⟨_, _, rfl, ⟨.inl upd_same, not_hot hot hn⟩, fun h z => ?_⟩⟩
              rw [List.length_map]; exact z
          · split at e
            · rename_i ks hks
              cases e
              obtain ⟨zs, rfl, e2, e3⟩ := pairs2 I hk hks r1
              have ei := vals_refs rv
              have hlen : zs.length ≤ sizeLine := by rw [List.length_map] at hz; exact hz
              have kk : (zs.map fun z => (z.2.2.2, z.2.2.1)).map (·.1) = ks := by rw [List.map_map]; exact e2
              refine PySem.dict_keyed (knd := tupleKind (mixKind X.prog X.w)) (kvs := zs.map fun z => (z.2.2.2, z.2.2.1)) tupleKind_stays (PairArg.list a its.toArray (fun j => ((zs[j]?).map (·.1)).getD 0) (zs.map fun z => (.ref z.2.1, z.2.2.1))) (I.ok.hd hc) (show (X.A.in1.in1).units < cLine from by
                  have : (X.A.in1.in1).units = X.A.units + 2 := rfl
                  omega)
                ⟨⟨ol, n, ho, hcl, hdn, hdat⟩, by simp [ei], fun j k v hj => ?_⟩ ⟨zs.map fun z => (z.2.2.2, z.2.1, z.2.2.1), by unfold pairsH; rw [List.map_map]; rfl, ⟨by simp, fun i key v hr => ?_⟩, fun x hx => ?_⟩ tupleKind_stays.all (by rw [List.length_map]; exact hlen) fun h' tk hd' kp => ?_
              · rw [List.getElem?_map] at hj
                obtain ⟨z, hz1, hz2⟩ := Option.map_eq_some_iff.mp hj
                cases hz2
                refine ⟨?_, .inl ?_⟩
                · simp [ei, hz1]
                · simp only [hz1]
                  exact (e3 z (List.mem_of_getElem? hz1)).1
              · have hr' : (zs.map fun z => (Value.ref z.2.1, z.2.2.1))[i]? = some (key, v) := hr
                rw [List.getElem?_map] at hr'
                obtain ⟨z, hz1, hz2⟩ := Option.map_eq_some_iff.mp hr'
                cases hz2
                exact ⟨z.2.2.2, z.2.1, by rw [List.getElem?_map, hz1]; rfl, rfl⟩
              · obtain ⟨z, hz1, rfl⟩ := List.mem_map.mp hx
                exact (e3 z hz1).2
              · obtain ⟨xs', ⟨od, es, ep, g1, g2, g3, g4, g5, g6⟩, g7⟩ := id hd'
                have hl := dict_len kk hd'.nodup
                have sl : SetLen h' s.heap.objs.size (dd ks).length := ⟨od, g1, by
                  have q := dd_le ks
                  rw [← e2, List.length_map] at q
                  rw [← e2]; omega, .inr ⟨es, ep, g2, g3, by
                    rw [← hl, ← g7, pairsH_length]
                    have := congrArg List.length g4
                    simpa using this, hsm⟩⟩
                refine ⟨.ref s.heap.objs.size, upd H s.heap.objs.size (lenO s.heap.objs.size (dd ks).length), I.laid (t' := tk) (fun b o e => kp b o (by simp) e) (Nat.le_refl _) (lenO_new sl), rfl, o _ _ (same_upd hn) ⟨_, _, rfl, ⟨.inl upd_same, not_hot hot hn⟩, fun h z => ?_⟩⟩
                rw [List.length_map]; exact z
            · cases e
        · cases e
      · cases e
end
end R
end
section
set_option Elab.async false
set_option linter.all false
set_option maxRecDepth 100000
set_option maxHeartbeats 4000000
namespace R
open PySem PySem.Spec PyProof.Rows L2
def hasK (acc : List Key) (k : Key) : Bool := acc.any fun j => decide (j = k)
theorem hasK_iff {acc : List Key} {k : Key} : hasK acc k = true ↔ k ∈ acc := by
  unfold hasK
  rw [List.any_eq_true]
  exact ⟨fun ⟨x, hx, e⟩ => of_decide_eq_true e ▸ hx, fun h => ⟨k, h, decide_eq_true rfl⟩⟩
/-- the set being made -/
def accO (P : Program) (w : World) (D : Addr) (acc : List Key) : HO := SetK P w D (hasK acc) (dd acc).length
theorem accO_snoc {P : Program} {w : World} {D : Addr} {acc : List Key} {k : Key} : SetK P w D (fun j => hasK acc j || decide (j = k)) (if hasK acc k = true then (dd acc).length else (dd acc).length + 1) = accO P w D (acc ++ [k]) := by
  unfold accO
  have e1 : (fun j => hasK acc j || decide (j = k)) = hasK (acc ++ [k]) := by
    funext j
    unfold hasK
    rw [List.any_append]
    by_cases h : j = k
    · subst h; simp
    · have h' : ¬ k = j := fun z => h z.symm
      simp [h, h']
  have e2 := dd_snoc acc k
  rw [e1]
  by_cases h : k ∈ acc
  · rw [if_pos h] at e2
    rw [if_pos (hasK_iff.mpr h), e2]
  · rw [if_neg h] at e2
    rw [if_neg (fun z => h (hasK_iff.mp z)), e2]
/-- what is asked of a set comprehension -/
def tSk (P : Program) (w : World) (wi : TI) (g : TG) (tt : TT) (te : TE) (own : List Nat) : TE := fun σ H Q => wi σ H fun J H1 => ∀ D, H1 D = none → ∃ W : Nat → Nat → List Key → Hp → Prop, (∃ m, W 0 m [] (upd H1 D (accO P w D []))) ∧ ∀ i m acc H2, W i m acc H2 →
  (J.stop i H2 ∧ Q (.ref D) H2) ∨ (J.go i H2 ∧ ∃ Nx : List Key → Hp → Prop, (∀ a3 H3, Nx a3 H3 → ∃ m3, m3 < m ∧ W (i + 1) m3 a3 H3) ∧ ∀ x H3, J.yld i H2 x H3 → g x (wipe σ own) H3 fun σ4 H4 => wipe σ4 own = wipe σ own ∧ tt σ4 H4 fun b H5 =>
    if b = true then te σ4 H5 fun y H6 => ∃ k : Key, y = kV k ∧ H6 D = some (accO P w D acc) ∧ acc.length < 1000 ∧ Nx (acc ++ [k]) (upd H6 D (accO P w D (acc ++ [k]))) else Nx acc H5)
theorem accO_new {P : Program} {w : World} {h : Heap} {D : Addr} (e : h.get? D = some (nwS w)) : h.SetOf (mixKind P w) D (hasK []) (dd ([] : List Key)).length :=
  ⟨_, #[], 0, _, e, ⟨rfl, rfl, rfl⟩, rfl, (fun e he => by simp at he), (fun k => by unfold hasK; simp), (by decide), (by rfl), rfl⟩
section
variable {X : Cx}
theorem pe_setc {elt tg iter : Expr} {ifs : List Expr} {scope : Scope} {own : List (Str × Nat)} {pos : Pos} {wi : TI} {g : TG} {tt : TT} {te : TE} (hc : X.calm = true) (hN : X.N.Nodup) (hi : PI X tg iter wi) (ok : BlkOk X.N X.env.scope scope own)
    (hg : ∀ (s : Shared) (H : Hp) (C : Addr) (cl : List (Str × Addr)) (fp : List Addr), PG (X.blk s H scope (compEnvC scope cl C X.env) fp) tg g) (ht : ∀ (s : Shared) (H : Hp) (C : Addr) (cl : List (Str × Addr)) (fp : List Addr), PTs (X.blk s H scope (compEnvC scope cl C X.env) fp) ifs tt)
    (he : ∀ (s : Shared) (H : Hp) (C : Addr) (cl : List (Str × Addr)) (fp : List Addr), PE (X.blk s H scope (compEnvC scope cl C X.env) fp) elt te) (hs : ∀ x, foldedSetIterable iter X.env x = pure x) :
    PE X (.SetComp elt [⟨tg, iter, ifs, 0⟩] scope pos) (tSk X.prog X.w wi g tt te (own.map (·.2))) := by
  refine ⟨fun pins s σ H Q I h => ?_⟩
  show wpAny (PySem.model X.prog X.w) X.A (comprehension (.SetComp elt [⟨tg, iter, ifs, 0⟩] scope pos) scope X.env (firstIterPos [⟨tg, iter, ifs, 0⟩] pos) (newSet (.type "set")) false (eval iter X.env)) _ X.xe s
  have frees : ∀ y ∈ scope.names, y.2 = .free → ∃ c, X.env.cells.lookup y.1 = some c := fun y hy e => (ok.free y hy e).elim (fun z => I.ok.has _ (.inl z)) fun z => I.ok.has _ (.inr z)
  refine wpAny_comprehension_free (use := none) rfl hs (closure_ok frees) ok.kind (fun y hy e => by rw [ok.uniq y hy, e]) (thn (hi.run pins s σ H _ I h) fun xv s1 hx => thn hx fun itv s2 h2 => ?_)
  obtain ⟨it, fp, tn, J, H2, rfl, I2, T, st2, f2, q⟩ := h2
  refine PpSet.newSet_ok (newEnv_comp ?_)
  have hDn : H2 s2.heap.objs.size = none := I2.hok.fresh (Nat.le_refl _)
  obtain ⟨W, ⟨m0, w0⟩, turn⟩ := q _ hDn
  generalize hD : s2.heap.objs.size = D at hDn w0 turn ⊢
  -- the set is laid
  generalize hs3 : ({ s2 with heap := s2.heap.push (nwS X.w) } : Shared) = s3
  have k3 : ∀ b o, s2.heap.get? b = some o → s3.heap.get? b = some o := fun b o e => by rw [← hs3]; exact Heap.get?_push_of_some _ e
  have I3 : L2.Inv X pins σ (upd H2 D (accO X.prog X.w D [])) s3 := by
    rw [← hs3, ← hD]
    exact I2.laid (t' := s2.toks) (fun b o e => Heap.get?_push_of_some _ e) (Nat.le_refl _) (setK_new (accO_new (Heap.get?_push_size _ rfl)))
  have sz3 : s3.heap.objs.size = s2.heap.objs.size + 1 := by rw [← hs3]; exact Heap.size_push ..
  have old : ∀ b ∈ fp, b < s2.heap.objs.size := fun b hb => let ⟨o, e, _⟩ := T.obj _ _ st2 b hb; Heap.lt_size e
  have f3 : ∀ b ∈ fp, FpOk X pins (upd H2 D (accO X.prog X.w D [])) b ∧ b < s3.heap.objs.size := fun b hb =>
    ⟨⟨by rw [upd_ne (by rw [← hD]; exact Nat.ne_of_lt (old b hb))]; exact (f2 b hb).1, (f2 b hb).2⟩, by rw [sz3]; exact Nat.lt_succ_of_lt (old b hb)⟩
  have st3 : tn 0 s3.heap := T.keep _ _ _ st2 fun b _ o e => k3 b o e
  have I4 := block_start I3 ok hN f3
  have pg := hg s3 (upd H2 D (accO X.prog X.w D [])) s3.heap.objs.size (cellsFrom (s3.heap.objs.size + 1) scope.names (cloFrom X.env.cells scope.names [])) fp
  have pt := ht s3 (upd H2 D (accO X.prog X.w D [])) s3.heap.objs.size (cellsFrom (s3.heap.objs.size + 1) scope.names (cloFrom X.env.cells scope.names [])) fp
  have pe := he s3 (upd H2 D (accO X.prog X.w D [])) s3.heap.objs.size (cellsFrom (s3.heap.objs.size + 1) scope.names (cloFrom X.env.cells scope.names [])) fp
  show codeAny _ _ (.compStart (.SetComp elt [⟨tg, iter, ifs, 0⟩] scope pos) 0 (.ref it) (.ref D) (compEnvC scope (cellsFrom (s3.heap.objs.size + 1) scope.names (cloFrom X.env.cells scope.names [])) s3.heap.objs.size X.env)) (compPost (PySem.model X.prog X.w) X.A X.xe none _ (.ref D) s3.heap.objs.size) { s3 with heap := pushCells (s3.heap.push { cls := .type "dict", data := .dict #[] }) scope.names }
  have nfp : ∀ b ∈ fp, (upd H2 D (accO X.prog X.w D [])) b = none := fun b hb => (f3 b hb).1.1
  generalize hce : compEnvC scope (cellsFrom (s3.heap.objs.size + 1) scope.names (cloFrom X.env.cells scope.names [])) s3.heap.objs.size X.env = ce at I4 pg pt pe ⊢
  have cL : ce.locals = s3.heap.objs.size := by subst hce; rfl
  generalize hH3 : upd H2 D (accO X.prog X.w D []) = H3 at I3 I4 pg pt pe w0 nfp f3
  generalize hs4 : ({ s3 with heap := pushCells (s3.heap.push { cls := .type "dict", data := .dict #[] }) scope.names } : Shared) = s4 at I4 ⊢
  have st4 : tn 0 s4.heap := T.keep _ _ _ st3 fun b _ o e => by rw [← hs4]; exact pushCells_keeps _ _ _ _ (Heap.get?_push_of_some _ e)
  have fpo : ∀ {σ' : L2.St} {H' : Hp} {s' : Shared}, L2.Inv (X.blk s3 H3 scope ce fp) [] σ' H' s' → (∀ b ∈ fp, H' b = none) → ∀ b ∈ fp, FpOk (X.blk s3 H3 scope ce fp) [] H' b := fun {σ' H' s'} I' hn b hb =>
    ⟨hn b hb, (I'.ok.exf b hb).1, I'.ok.exfs b hb, .inl hb, fun x c e => (I'.ok.exf b hb).2 x c e, fun p hp => absurd (show p ∈ ([] : List (Addr × Obj)) ++ [] from hp) (by simp)⟩
  have loop : codeAny (PySem.model X.prog X.w) X.A (.compLoop (.SetComp elt [⟨tg, iter, ifs, 0⟩] scope pos) 0 (.ref it) (.ref D) ce) (compPost (PySem.model X.prog X.w) X.A X.xe none (fun v s' => ∃ x H', L2.Inv X pins σ H' s' ∧ RelV x v ∧ Q x H') (.ref D) s3.heap.objs.size) s4 := by
    refine PySem.compLoop_set_any (fun n s' => ∃ i acc H', L2.Inv (X.blk s3 H3 scope ce fp) [] (wipe σ (own.map (·.2))) H' s' ∧ tn i s'.heap ∧ (∀ b ∈ fp, H' b = none) ∧ W i n acc H') ?_ m0 ⟨0, [], H3, I4, st4, nfp, w0⟩
    rintro n s5 ⟨i, acc, H5, I5, st5, n5, w5⟩
    rcases turn i n acc H5 w5 with ⟨stop, qq⟩ | ⟨go, Nx, hNx, step⟩
    · refine thnF (T.done (X.blk s3 H3 scope ce fp) rfl rfl rfl hc i [] s5 _ H5 (fun _ _ => False) I5 (fpo I5 n5) st5 stop) fun r s6 ⟨hr, I6⟩ => ?_
      subst hr
      have I7 : L2.Inv X pins σ H5 s6 := I3.call' (ch := fp) I6.os I6.base I6.hok I6.bare fun b hb => ⟨(f3 b hb).1.2.2.2.1, (f3 b hb).1.2.1, (f3 b hb).1.2.2.2.2.1, (f3 b hb).1.2.2.2.2.2⟩
      have nC : H5 s3.heap.objs.size = none := by rw [← cL]; exact I6.free
      obtain ⟨m, hn, _⟩ := I6.loc
      replace hn : s6.heap.Ns ce.locals m := hn
      rw [cL] at hn
      obtain ⟨f0, f1, f2, f3, f4, f5⟩ := I3.fpOk (Nat.le_refl _) nC
      exact ⟨m, hn, fun h'' sb => ⟨.ref D, H5, I7.turned (t' := s6.toks) (fun b o hb e => (sb.2 b hb).trans e) f0 f1 f3 f4 f5, rfl, qq⟩⟩
    · refine thnF (T.item (X.blk s3 H3 scope ce fp) rfl rfl rfl hc i [] s5 _ H5 (fun _ _ => False) I5 (fpo I5 n5) st5 go) fun r s6 ⟨u, hr, h6⟩ => ?_
      subst hr
      refine thnF h6 fun _ s7 ⟨x, H7, I7, r7, y7, st7, n7⟩ => ?_
      refine thnF (pg.run _ s7 _ H7 x u _ (I7.pinned (fpo I7 n7) (T.obj _ _ st7)) r7 (step x H7 y7)) fun _ s8 ⟨σ8, H8, I8, hw8, q8⟩ => ?_
      refine thnF (pt.run _ s8 σ8 H8 _ I8 q8) fun b s9 ⟨H9, I9, q9⟩ => ?_
      have fin : ∀ {s' : Shared} {a' : List Key} {H' : Hp}, L2.Inv (X.blk s3 H3 scope ce fp) ([] ++ pinsAt fp s7.heap) σ8 H' s' → Nx a' H' → ∃ m, m < n ∧ ∃ i acc H', L2.Inv (X.blk s3 H3 scope ce fp) [] (wipe σ (own.map (·.2))) H' s' ∧ tn i s'.heap ∧ (∀ b ∈ fp, H' b = none) ∧ W i m acc H' := fun {s' a' H'} I' nx => by
        obtain ⟨m', hm, w'⟩ := hNx a' H' nx
        have pin : ∀ b ∈ fp, ∀ o, s7.heap.get? b = some o → s'.heap.get? b = some o ∧ H' b = none := fun b hb o e =>
          let z := I'.pin (b, o) (List.mem_append_right _ (List.mem_append_right _ (mem_pinsAt hb e)))
          ⟨z.1, z.2.1⟩
        refine ⟨m', hm, i + 1, a', H', (I'.unpinned (pins := [])).weak (by rw [← hw8, wipe_length]) (fun j v e => ?_), T.keep _ _ _ st7 fun b hb o e => (pin b hb o e).1, fun b hb => ?_, w'⟩
        · rw [← hw8] at e
          exact (wipe_some e).1
        · obtain ⟨o, e, _⟩ := T.obj _ _ st7 b hb
          exact (pin b hb o e).2
      cases b with
      | false =>
        simp only [Bool.false_eq_true, if_false] at q9 ⊢
        exact fin I9 q9
      | true =>
        simp only [if_true] at q9 ⊢
        refine thnF (pe.run _ s9 σ8 H9 _ I9 q9) fun z s10 ⟨yv, H10, I10, r10, k, ey, hD10, hz10, nx⟩ => ?_
        subst ey
        have room : (dd acc).length + 1 < scanBound := by
          have := dd_le acc
          unfold scanBound
          omega
        refine thnF (mt_saddK (X := X.blk s3 H3 scope ce fp) ([] ++ pinsAt fp s7.heap) s10 σ8 H10 (.ref D) [kV k] (.ref D) [z] (fun _ H' => Nx (acc ++ [k]) H') I10 rfl (.cons r10 .nil) ⟨D, k, _, _, rfl, rfl, hD10, room, ?_⟩) fun _ s11 ⟨_, H11, I11, _, nx11⟩ => fin I11 nx11
        rw [accO_snoc]
        exact nx
  exact PySem.codeAny_compStart_set loop (T.self X.A 0 _ _ _ st4 loop)
end
theorem mapO_app {α β : Type} {f : α → Option β} : ∀ {l m : List α} {r : List β}, mapO f (l ++ m) = some r → ∃ a b, mapO f l = some a ∧ mapO f m = some b ∧ r = a ++ b
  | [], m, r, h => ⟨[], r, rfl, h, rfl⟩
  | x :: l, m, r, h => by
    obtain ⟨b, s, h1, h2, rfl⟩ := mapO_cons (a := x) (r := l ++ m) h
    obtain ⟨a, b2, h3, h4, rfl⟩ := mapO_app h2
    refine ⟨b :: a, b2, ?_, h4, rfl⟩
    unfold mapO
    rw [h1, h3]
theorem loopC_pre {turn : D → Env → Sto → Res (Option D)} {own : List Nat} : ∀ {ds acc : List D} {ρ : Env} {S : Sto} {ys : List D} {ρ' : Env} {S' : Sto}, loopC turn own ds acc ρ S = .ok ys ρ' S' → ∃ r, ys = acc ++ r
  | [], acc, ρ, S, ys, ρ', S', h => by
    have h' : Res.ok acc ρ S = .ok ys ρ' S' := h
    cases h'
    exact ⟨[], (List.append_nil _).symm⟩
  | d :: ds, acc, ρ, S, ys, ρ', S', h => by
    have h' : ((turn d ρ S).bind fun o ρ' S' => match o with
      | some y => if acc.length < sizeLine then loopC turn own ds (acc ++ [y]) (wipeE ρ' own) S' else .no
      | none => loopC turn own ds acc (wipeE ρ' own) S') = .ok ys ρ' S' := h
    cases e : turn d ρ S with
    | no => rw [e] at h'; cases h'
    | exc => rw [e] at h'; cases h'
    | ok o r s =>
      rw [e] at h'
      cases o with
      | none => exact loopC_pre h'
      | some y =>
        replace h' : (if acc.length < sizeLine then loopC turn own ds (acc ++ [y]) (wipeE r own) s else .no) = .ok ys ρ' S' := h'
        split at h'
        · obtain ⟨q, e⟩ := loopC_pre h'
          exact ⟨y :: q, by rw [e, List.append_assoc]; rfl⟩
        · cases h'
theorem acc_len {P : Program} {w : World} {h : Heap} {a : Addr} {S : Key → Bool} {n : Nat} (r : h.SetOf (mixKind P w) a S n) : SetLen h a n := by
  obtain ⟨o, es, ep, t, h1, h2, h3, h4, h5, h6, h7, h8⟩ := r
  refine ⟨o, h1, ?_, .inl ⟨es, ep, t, h2, h3, h7, h8⟩⟩
  rw [sizeLine_eq, ← h8]
  unfold scanBound at h6
  omega
section
variable {X : Cx} {F : Entry} {E : XK} {O : Orc}
/-- how far a set comprehension has come -/
structure SetSt (X : Cx) (F : Entry) (O : Orc) (M1 : Addr → Prop) (ι1 : List Addr) (H1 : Hp) (t : Tg) (ifs : List CE) (elt : CE) (own : List Nat) (σ : L2.St) (D : Addr) (rest ys : List R.D) (ρe : Env) (Se : Sto) (keys : List Key) (H : Hp) : Prop where
  mk :: (ex : ∃ (M2 : Addr → Prop) (ι2 : List Addr) (ρ2 : Env) (S2 : Sto) (acc : List R.D), Rel X.K X.w F M2 ι2 ρ2 S2 (wipe σ own) H ∧ Grow M1 H1 M2 H ∧ ι1 <+: ι2 ∧ H D = some (accO X.prog X.w D keys) ∧ mapO keyO acc = some keys ∧ Own F ι2 M2 D ∧
    (∀ (i : Nat) sv, ρ2[i]? = some (some sv) → sv.isOwn = true → (wipe σ own)[i]? ≠ some (some (.ref D))) ∧ loopC (turnC O t ifs elt) own rest acc ρ2 S2 = .ok ys ρe Se)
theorem t_scomp {E2 : XK} {own : List Nat} {t : Tg} {ci : CI} {ifs : List CE} {elt : CE} (ht : ∀ j ∈ slotsT t, j ∈ own) : ∀ σ H Q, tE X F E O (.scomp own t ci ifs elt) σ H Q → tSk X.prog X.w (tI X F E O ci) (gTX X t) (tIfsX X E2 O ifs) (tEX X E2 O elt) own σ H Q := by
  intro σ H Q ⟨M, ι, ρ, S, R, k⟩
  refine ⟨M, ι, ρ, S, R, k.bind.imp fun ds ρ1 S1 M1 ι1 H1 R1 g1 p1 k1 J hJ D hD => ?_⟩
  split at k1
  · rename_i hno
    replace k1 : Kx X.K X.w F E σ M1 ι1 H1 ((loopC (turnC O t ifs elt) own ds [] (wipeE ρ1 own) S1).bind fun ys ρ' S => match mapO keyO ys with
        | some qs => if qs.length ≤ 60 then Res.ok (_root_.R.D.set ((dd qs).map keyD)) (backE ρ1 ρ' own) S else .no
        | none => .no) fun d _ _ M' ι' H' => ∀ v, Rep X.K X.w ι' M' H' d v → Q v H' := k1
    cases eL : loopC (turnC O t ifs elt) own ds [] (wipeE ρ1 own) S1 with
    | no => rw [eL] at k1; exact k1.elim
    | exc x r s => exact (loopC_exc (fun d ρ S x ρ' S' h => turnC_exc h) eL).elim
    | ok ys ρe Se =>
      rw [eL] at k1
      replace k1 : Kx X.K X.w F E σ M1 ι1 H1 (match mapO keyO ys with
        | some qs => if qs.length ≤ 60 then Res.ok (_root_.R.D.set ((dd qs).map keyD)) (backE ρ1 ρe own) Se else .no
        | none => .no) fun d _ _ M' ι' H' => ∀ v, Rep X.K X.w ι' M' H' d v → Q v H' := k1
      cases eq : mapO keyO ys with
      | none => rw [eq] at k1; exact k1.elim
      | some qs =>
        rw [eq] at k1
        replace k1 : Kx X.K X.w F E σ M1 ι1 H1 (if qs.length ≤ 60 then Res.ok (_root_.R.D.set ((dd qs).map keyD)) (backE ρ1 ρe own) Se else .no) fun d _ _ M' ι' H' => ∀ v, Rep X.K X.w ι' M' H' d v → Q v H' := k1
        split at k1
        · rename_i h60
          refine ⟨fun i m keys H' => m = ds.length - i ∧ i ≤ ds.length ∧ SetSt X F O M1 ι1 H1 t ifs elt own σ D (ds.drop i) ys ρe Se keys H', ?_, ?_⟩
          · obtain ⟨R2, ow, ns⟩ := (R1.wipe own).heat (o := accO X.prog X.w D []) hD
            exact ⟨_, rfl, Nat.zero_le _, ⟨_, _, _, _, [], R2, grow_ad hD, List.prefix_refl _, upd_same, rfl, ow, ns, eL⟩⟩
          · rintro i m keys H' ⟨rfl, hi, ⟨M2, ι2, ρ2, S2, acc, R2, g2, p2, hDv, ra, ow, ns, el⟩⟩
            obtain ⟨hstop, hitem⟩ := hJ M2 ι2 H' R2.isHot g2 p2 i
            by_cases c : i < ds.length
            · refine .inr ?_
              obtain ⟨go, yl⟩ := hitem ds[i] (List.getElem?_eq_getElem c)
              refine ⟨go, fun keys H'' => SetSt X F O M1 ι1 H1 t ifs elt own σ D (ds.drop (i + 1)) ys ρe Se keys H'', fun a3 H3 z => ⟨ds.length - (i + 1), by omega, rfl, c, z⟩, fun x H3 hy => ?_⟩
              obtain ⟨sm, rx⟩ := yl x H3 hy
              rw [List.drop_eq_getElem_cons c] at el
              replace el : ((turnC O t ifs elt ds[i] ρ2 S2).bind fun o ρ' S' => match o with
                | some y => if acc.length < sizeLine then loopC (turnC O t ifs elt) own (ds.drop (i + 1)) (acc ++ [y]) (wipeE ρ' own) S' else .no
                | none => loopC (turnC O t ifs elt) own (ds.drop (i + 1)) acc (wipeE ρ' own) S') = .ok ys ρe Se := el
              have R3 := R2.same sm
              have hD3 := sm _ _ hDv
              have gs : Grow M2 H' M2 H3 := Grow.same sm
              have fin : ∀ (M6 : Addr → Prop) (ι6 : List Addr) (ρ6 : Env) (S6 : Sto) (H6 : Hp) (σ' : L2.St) (o : Option _root_.R.D), Rel X.K X.w (entr F M2 ι2 ρ2 (wipe σ own) H3) M6 ι6 ρ6 S6 σ' H6 → Grow M2 H3 M6 H6 → ι2 <+: ι6 → wipe σ' own = wipe σ own →
                  turnC O t ifs elt ds[i] ρ2 S2 = .ok o ρ6 S6 → (∀ y, o = some y → ∀ v, Rep X.K X.w ι6 M6 H6 y v → ∃ k : Key, v = kV k ∧ H6 D = some (accO X.prog X.w D keys) ∧ keys.length < 1000 ∧ SetSt X F O M1 ι1 H1 t ifs elt own σ D (ds.drop (i + 1)) ys ρe Se (keys ++ [k]) (upd H6 D (accO X.prog X.w D (keys ++ [k])))) ∧
                    (o = none → SetSt X F O M1 ι1 H1 t ifs elt own σ D (ds.drop (i + 1)) ys ρe Se keys H6) := by
                intro M6 ι6 ρ6 S6 H6 σ' o R6 g6 p6 hw eo
                obtain ⟨h1, h2, h3⟩ := pend_turn R3 ow hD3 ns R6
                have R7 := (Rel.back R3 R6).wipe own
                rw [hw] at R7
                have ns7 := ns_wipe (own := own) h3
                rw [hw] at ns7
                rw [eo] at el
                refine ⟨fun y ey v hv => ?_, fun ey => ?_⟩
                · subst ey
                  replace el : (if acc.length < sizeLine then loopC (turnC O t ifs elt) own (ds.drop (i + 1)) (acc ++ [y]) (wipeE ρ6 own) S6 else .no) = .ok ys ρe Se := el
                  split at el
                  · obtain ⟨rr, er⟩ := loopC_pre el
                    have eq' := eq
                    rw [er] at eq'
                    obtain ⟨k1', k2', q1, q2, q3⟩ := mapO_app eq'
                    obtain ⟨k3, k4, q4, q5, q6⟩ := mapO_app q1
                    rw [ra] at q4
                    cases q4
                    obtain ⟨kk, k5, q7, q8, q9⟩ := mapO_cons q5
                    cases q8
                    subst q9 q6
                    have hl : keys.length < 1000 := by
                      have := congrArg List.length q3
                      rw [List.length_append, List.length_append] at this
                      omega
                    exact ⟨kk, keyO_rep q7 hv, h1, hl, ⟨M6, ι6, _, S6, acc ++ [y], R7.updP h2 ns7, ((g2.trans gs).trans g6).trans (grow_upd h2.1), p2.trans p6, upd_same, q1, h2, ns7, el⟩⟩
                  · cases el
                · subst ey
                  exact ⟨M6, ι6, _, S6, acc, R7, (g2.trans gs).trans g6, p2.trans p6, h1, ra, h2, ns7, el⟩
              cases et : turnC O t ifs elt ds[i] ρ2 S2 with
              | no => rw [et] at el; cases el
              | exc x r s => exact (turnC_exc et).elim
              | ok o r s =>
                have et0 := et
                unfold turnC at et
                cases eb : bindT t ds[i] ρ2 with
                | none => rw [eb] at et; cases et
                | some ρ3 =>
                  rw [eb] at et
                  replace et : noExc ((evIfs O ifs ρ3 S2).bind fun b ρ S => if b then (evE O elt ρ S).bind fun y ρ S => .ok (some y) ρ S else .ok none ρ S) = .ok o r s := et
                  refine ⟨entr F M2 ι2 ρ2 (wipe σ own) H3, M2, ι2, ρ2, S2, ds[i], ρ3, R3.enter, rx, eb, fun σ' R4 l4 j4 => ?_⟩
                  have hw : wipe σ' own = wipe σ own := by
                    rw [← wipe_idem σ own]
                    exact wipe_wipe_eq l4 fun j hj => j4 j fun z => hj (ht j z)
                  refine ⟨hw, entr F M2 ι2 ρ2 (wipe σ own) H3, M2, ι2, ρ3, S2, R4, ?_⟩
                  cases ei : evIfs O ifs ρ3 S2 with
                  | no => rw [ei] at et; cases et
                  | exc x r s => rw [ei] at et; cases et
                  | ok b ρ5 S5 =>
                    rw [ei] at et
                    intro M5 ι5 H5 R5 g5 p5
                    cases b with
                    | false =>
                      cases et
                      exact (fin M5 ι5 _ _ H5 σ' none R5 g5 p5 hw et0).2 rfl
                    | true =>
                      refine ⟨entr F M2 ι2 ρ2 (wipe σ own) H3, M5, ι5, ρ5, S5, R5, ?_⟩
                      replace et : noExc ((evE O elt ρ5 S5).bind fun y ρ S => .ok (some y) ρ S) = .ok o r s := et
                      cases ee : evE O elt ρ5 S5 with
                      | no => rw [ee] at et; cases et
                      | exc x r s => rw [ee] at et; cases et
                      | ok y ρ6 S6 =>
                        rw [ee] at et
                        cases et
                        intro M6 ι6 H6 R6 g6 p6 v hv
                        exact (fin M6 ι6 _ _ H6 σ' (some y) R6 (g5.trans g6) (p5.trans p6) hw et0).1 y rfl v hv
            · have ei : i = ds.length := by omega
              refine .inl ⟨hstop (by omega), ?_⟩
              rw [ei, List.drop_length] at el
              cases el
              rw [eq] at ra
              cases ra
              have R3 := R1.unwipe hno R2 g2 p2
              have ns3 : ∀ (j : Nat) sv, (backE ρ1 ρe own)[j]? = some (some sv) → sv.isOwn = true → σ[j]? ≠ some (some (.ref D)) := fun j sv e o z => by
                rcases backE_some own ρ1 ρe j sv e with ⟨h1, h2⟩ | ⟨h1, h2⟩
                · rw [noOwn_at hno h2 h1] at o; cases o
                · exact ns j sv h1 o (by rw [wipe_get own σ j h2]; exact z)
              have R4 : Rel X.K X.w F (rm M2 D) ι2 (backE ρ1 ρe own) Se σ H' := R3.cool ow _ rfl fun i sv e => .inl ⟨e, fun o => ns3 i sv e o⟩
              refine k1 (rm M2 D) ι2 H' R4 (g2.trans grow_rm) p2 _ ⟨D, _, rfl, ⟨.inl hDv, fun z => z.2 rfl⟩, fun h z => ?_⟩
              rw [List.length_map]
              exact acc_len z
        · exact k1.elim
  · exact k1.elim
end
end R
end
section
set_option Elab.async false
set_option linter.all false
set_option maxRecDepth 100000
set_option maxHeartbeats 4000000
namespace R
open PySem PySem.Spec PyProof.Rows L2
structure Gm where
  N : List Str
  sc : Scope
  gl : List (Str × D)
  pats : List Pat
  cpats : List Pat
  nog : List Str
  cells : List (Nat × Nat)
  owns : List (Nat × Nat)
def findIx (x : Str) : List Str → Nat → Option Nat
  | [], _ => none
  | y :: r, i => if y = x then some i else findIx x r (i + 1)
theorem findIx_at {x : Str} : ∀ {l : List Str} {i j : Nat}, findIx x l i = some j → i ≤ j ∧ l[j - i]? = some x
  | [], _, _, h => by cases h
  | y :: r, i, j, h => by
    unfold findIx at h
    split at h
    · rename_i e
      cases h
      exact ⟨Nat.le_refl _, by rw [Nat.sub_self, e]; rfl⟩
    · obtain ⟨h1, h2⟩ := findIx_at h
      refine ⟨by omega, ?_⟩
      rw [show j - i = (j - (i + 1)) + 1 by omega]
      exact h2
def visB (Γ : Gm) (x : Str) : Bool := match Γ.sc.names.lookup x with
  | some .local => true
  | some .cell => true
  | some .free => true
  | _ => false
def locB (Γ : Gm) (x : Str) : Bool := match Γ.sc.names.lookup x with
  | some .local => true
  | _ => false
def glB (Γ : Gm) (x : Str) : Bool := match Γ.sc.names.lookup x with
  | some .globalImplicit => true
  | _ => false
def slot (Γ : Gm) (x : Str) : Option Nat := if visB Γ x then findIx x Γ.N 0 else none
def okName (x : Str) : Bool := !(x == ("__debug__" : Str)) && !(x == ("__classdict__" : Str)) && !(x == ("__name__" : Str))
def baseOk : Expr → Bool
  | .Call (.Name id _) _ _ _ => id != ("super" : Str)
  | .Call _ _ _ _ => false
  | _ => true
def noStar : List Expr → Bool
  | [] => true
  | .Starred _ _ :: _ => false
  | _ :: r => noStar r
def opP : Operator → Option Prim
  | .Add => some .add
  | .Sub => some .sub
  | .Mult => some .mul
  | .FloorDiv => some .fdiv
  | .Mod => some .mod
  | .Pow => some .pow
  | _ => none
def tyNames : List Str := ["int", "bool", "str", "tuple", "list", "dict"]
def tyOf (x : Str) : Option String := if x = "int" then some "int" else if x = "bool" then some "bool" else if x = "str" then some "str" else if x = "tuple" then some "tuple" else if x = "list" then some "list" else if x = "dict" then some "dict" else none
/-- built-in functions by their number of arguments -/
def bltP (x : Str) : Option Prim := if x = "len" then some .len else if x = "abs" then some .abs else if x = "isinstance" then some .isi else if x = "all" then some .all else if x = "any" then some .any else if x = "sorted" then some .sorted else none
def bltT (x : Str) : Option Prim := if x = "int" then some .int else if x = "list" then some .list else if x = "tuple" then some .tuple else if x = "set" then some .set else if x = "dict" then some .dict else none
def isN (Γ : Gm) (x : Str) : Bool := glB Γ x && Γ.nog.contains x
def patOf (ps : List Pat) (f : Str) (m : Nat) (ks : List Str) : Option Pat := ps.find? fun p => decide (p.f = f) && decide (p.m = m) && decide (p.ks = ks)
def kwNames (kws : List Keyword) : List Str := kws.filterMap fun k => k.arg
def kwsOk (kws : List Keyword) : Bool := kws.all fun k => k.arg.isSome
def opd (f : Expr → CE) (Γ : Gm) (e : Expr) : CE := match e with
  | .Name x p => if okName x then (match slot Γ x with
    | some i => .peek i
    | none => f (.Name x p)) else f (.Name x p)
  | e => f e
def compTg (Γ : Gm) : Nat → Expr → Option Tg
  | 0, _ => none
  | n + 1, e => match e with
    | .Name x _ => if locB Γ x then (findIx x Γ.N 0).map .nm else none
    | .Tuple es _ _ => if noStar es then (es.mapM (compTg Γ n)).map .tup else none
    | _ => none
def ownOf (N : List Str) (sc : Scope) : List (Str × Nat) := sc.names.filterMap fun y => match y.2 with
  | .local => (findIx y.1 N 0).map fun i => (y.1, i)
  | .cell => (findIx y.1 N 0).map fun i => (y.1, i)
  | _ => none
def compI (f fo : Expr → CE) (Γ : Gm) (tgTup : Bool) (e : Expr) : CI := match e with
  | .Call (.Name x _) args [] _ => if okName x && isN Γ x && noStar args then
      (if x = "range" then (match args with
        | [a] => .range [f a]
        | [a, b] => .range [f a, f b]
        | _ => .bad)
      else if x = "zip" then (match args with
        | [a, b] => if tgTup then .zip [f a, f b] else .bad
        | _ => .bad)
      else if x = "enumerate" then .bad
      else .seq (f e)) else .seq (f e)
  | .Set _ _ _ => .bad
  | e => .seq (f e)
def isTup : Expr → Bool
  | .Tuple _ _ _ => true
  | _ => false
def boolE (f : Expr → CE) (g : CE → CE → CE) : List Expr → CE
  | [] => .bad
  | [a] => f a
  | a :: b :: r => g (f a) (boolE f g (b :: r))
def compCall (f fo : Expr → CE) (Γ : Gm) (fn : Expr) (args : List Expr) (kws : List Keyword) (pos : Pos) : CE :=
  if !(noStar args && kwsOk kws && decide (args.length < 20)) then .bad else
  match fn with
  | .Name x _ => if !okName x then .bad else (match slot Γ x with
    | some i => if kws.isEmpty then .callv (((Γ.pats.filter fun p => decide (p.m = args.length) && p.ks.isEmpty && p.dfl.isEmpty)).map (·.f)) (.var i) (args.map f) else .bad
    | none => if glB Γ x then
        (if Γ.nog.contains x && kws.isEmpty then (if args.isEmpty then .bad else match bltP x with
          | some p => .prim p (args.map fo)
          | none => match bltT x with
            | some p => .prim p (args.map fo)
            | none => .bad)
        else match patOf Γ.pats x args.length (kwNames kws) with
          | some p => .call p.f (args.map f ++ kws.map fun k => f k.value) p.dfl
          | none => if kws.isEmpty then (match patOf Γ.cpats x args.length [] with
            | some p => .new p.f (args.map f) p.dfl
            | none => .bad) else .bad)
      else .bad)
  | .Attribute o name apos => if kws.isEmpty && baseOk o && (apos.endLine == pos.line) then
      (if name = "append" then (if args.isEmpty then .bad else .mprim .append (fo o) (args.map f))
      else if name = "insert" then (if args.isEmpty then .bad else .mprim .insert (fo o) (args.map f))
      else if name = "pop" then .mprim .pop (fo o) (args.map f)
      else if name = "get" then (if args.isEmpty then .bad else .meth .get "dict" (fo o) (args.map fo))
      else if name = "join" then (if args.isEmpty then .bad else .meth .join "str" (fo o) (args.map fo))
      else .bad) else .bad
  | _ => .bad
/-- the texts that are a display's keys -/
def keysS : List (Option Expr) → Option (List Str)
  | [] => some []
  | some (.Constant (.str s) _ _) :: r => (match keysS r with
    | some ss => some (s :: ss)
    | none => none)
  | _ => none
def sizeOk (n : Nat) : Bool := decide (n ≤ 15) || (decide (17 < n) && decide (n ≤ 32))
def compE : Nat → Gm → Expr → CE
  | 0, _, _ => .bad
  | n + 1, Γ, e => match e with
    | .Constant c _ _ => (match c with
      | .none => .const .non
      | .bool b => .const (.bl b)
      | .int i => .const (.int i)
      | .str s => if s.length ≤ 1000 then .const (.str s) else .bad
      | _ => .bad)
    | .Name x _ => if okName x then (match slot Γ x with
      | some i => .var i
      | none => if glB Γ x then (match Γ.gl.lookup x with
        | some d => .const d
        | none => if Γ.nog.contains x then (match tyOf x with
          | some T => .const (.ty T)
          | none => .bad) else .bad) else .bad) else .bad
    | .BinOp a op b _ => (match opP op with
      | some p => .prim p [opd (compE n Γ) Γ a, opd (compE n Γ) Γ b]
      | none => .bad)
    | .UnaryOp op a _ => (match op with
      | .Not => .not_ (compE n Γ a)
      | .USub => .prim .neg [opd (compE n Γ) Γ a]
      | _ => .bad)
    | .BoolOp op es _ => (match op with
      | .And => boolE (compE n Γ) .and_ es
      | .Or => boolE (compE n Γ) .or_ es)
    | .IfExp c a b _ => .ifE (compE n Γ c) (compE n Γ a) (compE n Γ b)
    | .Compare a ops es _ => if lastMarks ops es then .bad else (match ops, es with
      | [op], [b] => .prim (cmpP op) [opd (compE n Γ) Γ a, opd (compE n Γ) Γ b]
      | o1 :: o2 :: ops, e1 :: e2 :: es => if ops.length = es.length then .chain (compE n Γ a) (cmpPs (o1 :: o2 :: ops)) (compE n Γ e1 :: compE n Γ e2 :: es.map (compE n Γ)) else .bad
      | _, _ => .bad)
    | .Tuple es _ _ => if noStar es then .tup (es.map (compE n Γ)) else .bad
    | .List es pos => if noStar es then (if Γ.cells.contains (pos.line, pos.col) then .cell (es.map (compE n Γ)) else .lst (es.map (compE n Γ))) else .bad
    | .Attribute o f _ => if baseOk o then .prim (.attr f) [opd (compE n Γ) Γ o] else .bad
    | .Subscript o i _ => (match i with
      | .Slice lo hi st _ => (match lo, hi, st with
        | none, none, none => .slice false false (opd (compE n Γ) Γ o) []
        | some a, none, none => .slice true false (opd (compE n Γ) Γ o) [compE n Γ a]
        | none, some b, none => .slice false true (opd (compE n Γ) Γ o) [compE n Γ b]
        | some a, some b, none => .slice true true (opd (compE n Γ) Γ o) [compE n Γ a, compE n Γ b]
        | _, _, _ => .bad)
      | i => .prim .item [opd (compE n Γ) Γ o, opd (compE n Γ) Γ i])
    | .Call fn args kws pos => compCall (compE n Γ) (opd (compE n Γ) Γ) Γ fn args kws pos
    | .ListComp elt gens scope _ => (match gens with
      | [⟨tg, it, ifs, 0⟩] => if blkC Γ.N Γ.sc scope (ownOf Γ.N scope) && decide (ifs.length ≤ 1) then
          (match compTg { Γ with sc := scope } 5 tg with
          | some t => if (slotsT t).all fun j => ((ownOf Γ.N scope).map (·.2)).contains j then
              .comp ((ownOf Γ.N scope).map (·.2)) t (compI (compE n Γ) (opd (compE n Γ) Γ) Γ (isTup tg) it) (ifs.map (compE n { Γ with sc := scope })) (compE n { Γ with sc := scope } elt)
            else .bad
          | none => .bad)
        else .bad
      | _ => .bad)
    | .Dict keys values _ => (match keysS keys with
      | some ks => if decide (keys.length = values.length) && sizeOk keys.length then .dic (ks.map .str) (values.map (compE n Γ)) else .bad
      | none => .bad)
    | .SetComp elt gens scope _ => (match gens with
      | [⟨tg, it, ifs, 0⟩] => if blkC Γ.N Γ.sc scope (ownOf Γ.N scope) && decide (ifs.length ≤ 1) then
          (match compTg { Γ with sc := scope } 5 tg with
          | some t => if (slotsT t).all fun j => ((ownOf Γ.N scope).map (·.2)).contains j then
              .scomp ((ownOf Γ.N scope).map (·.2)) t (compI (compE n Γ) (opd (compE n Γ) Γ) Γ (isTup tg) it) (ifs.map (compE n { Γ with sc := scope })) (compE n { Γ with sc := scope } elt)
            else .bad
          | none => .bad)
        else .bad
      | _ => .bad)
    | _ => .bad
end R
end
section
set_option Elab.async false
set_option linter.all false
set_option maxRecDepth 100000
set_option maxHeartbeats 4000000
namespace R
open PySem PySem.Spec PyProof.Rows L2
abbrev E0 : XK := fun _ _ _ => False
structure Ok (X : Cx) (E : XK) (O : Orc) (n : Nat) (CX : CXT) (Γ : Gm) : Prop where
  hu : X.A.units + 70 < cLine
  calm : X.calm = true
  nd : X.N.Nodup
  N : X.N = Γ.N
  vis : ∀ x, visB Γ x = true → Vis X.env.scope x
  loc : ∀ x, locB Γ x = true → X.env.scope.names.lookup x = some .local
  gl : ∀ x, glB Γ x = true → Gl X x
  frees : ∀ x, (Γ.sc.names.lookup x = some .cell ∨ Γ.sc.names.lookup x = some .free) → X.env.scope.names.lookup x = some .cell ∨ X.env.scope.names.lookup x = some .free
  glob : ∀ x d, Γ.gl.lookup x = some d → ∃ v u, X.mg x = some u ∧ RelV v u ∧ ∀ ι M H, Rep X.K X.w ι M H d v
  nog : ∀ x, Γ.nog.contains x = true → X.mg x = none
  pats : ∀ p ∈ Γ.pats, FnP X.prog X.w X.K X.mg X.base CX n O p
  cpats : ∀ p ∈ Γ.cpats, MkP X.prog X.w X.K X.mg X.base CX n O p
  room : Room (n + 1) X.A
  pass : Passes CX X E
  cx0 : ∀ outer H s u s', CX outer H s E0 u s' → False
section
variable {X : Cx} {E : XK} {O : Orc} {n : Nat} {CX : CXT} {Γ : Gm} {F : Entry}
theorem pe_bad {e : Expr} : PE X e (tE X F E O .bad) := ⟨fun pins s σ H Q I ⟨M, ι, ρ, S, R, k⟩ => k.elim⟩
theorem pt_bad {e : Expr} : PT X e (tT X F E O .bad) := ⟨fun pins s σ H Q I ⟨M, ι, ρ, S, R, k⟩ => k.elim⟩
theorem star_ok {e : Expr} {r : List Expr} {env : PySem.Env} (h : noStar (e :: r) = true) : starEach (e :: r) env = (false, eval e env) :: starEach r env ∧ noStar r = true := by
  cases e <;> first | exact ⟨rfl, h⟩ | cases h
theorem back_ok {pos : Pos} {env : PySem.Env} : ∀ {es : List Expr}, noStar es = true → (backTo pos (starEach es env)).any (·.1) = false
  | [], _ => rfl
  | e :: r, h => by
    obtain ⟨h1, h2⟩ := star_ok (env := env) h
    rw [h1]
    show (false || (backTo pos (starEach r env)).any (·.1)) = false
    rw [back_ok h2]; rfl
theorem back_all {pos : Pos} {env : PySem.Env} : ∀ {es : List Expr}, noStar es = true → (backTo pos (starEach es env)).all (fun x => !x.1) = true
  | [], _ => rfl
  | e :: r, h => by
    obtain ⟨h1, h2⟩ := star_ok (env := env) h
    rw [h1]
    show (true && (backTo pos (starEach r env)).all (fun x => !x.1)) = true
    rw [back_all h2]; rfl
theorem noStar_tail {e : Expr} {r : List Expr} (h : noStar (e :: r) = true) : noStar r = true := by
  cases e <;> first | exact h | cases h
theorem kw_all {pos : Pos} {env : PySem.Env} : ∀ {kws : List Keyword}, kwsOk kws = true → (backToKw pos (keywordEach kws env)).all (·.1.isSome) = true ∧ (backToKw pos (keywordEach kws env)).filterMap (·.1) = kwNames kws ∧ (backToKw pos (keywordEach kws env)).any (·.1.isNone) = false
  | [], _ => ⟨rfl, rfl, rfl⟩
  | ⟨nm, e, p⟩ :: r, h => by
    have h' : nm.isSome = true ∧ kwsOk r = true := by
      have : (nm.isSome && kwsOk r) = true := h
      rwa [Bool.and_eq_true] at this
    obtain ⟨i1, i2, i3⟩ := kw_all (pos := pos) (env := env) h'.2
    cases nm with
    | none => cases h'.1
    | some x =>
      refine ⟨?_, ?_, ?_⟩
      · show (true && (backToKw pos (keywordEach r env)).all (·.1.isSome)) = true
        rw [i1]; rfl
      · show x :: (backToKw pos (keywordEach r env)).filterMap (·.1) = x :: kwNames r
        rw [i2]
      · show (false || (backToKw pos (keywordEach r env)).any (·.1.isNone)) = false
        rw [i3]; rfl
theorem pa_vals {f : Expr → CE} : ∀ {es : List Expr}, (∀ e ∈ es, PE X e (tE X F E O (f e))) → noStar es = true → PA X es (tV X F E O (es.map f))
  | [], _, _ => pv_nil
  | e :: r, h, hs => pv_cons (h e List.mem_cons_self) (pa_vals (fun e he => h e (List.mem_cons_of_mem _ he)) (noStar_tail hs)) (star_ok hs).1
theorem pa_ops {f : Expr → CE} : ∀ {es : List Expr}, (∀ e ∈ es, PE X e (tO X F E O (f e))) → noStar es = true → PA X es (tL X F E O (es.map f))
  | [], _, _ => pl_nil
  | e :: r, h, hs => pl_cons (h e List.mem_cons_self) (pa_ops (fun e he => h e (List.mem_cons_of_mem _ he)) (noStar_tail hs)) (star_ok hs).1
theorem pk_vals {f : Expr → CE} : ∀ {kws : List Keyword}, (∀ e ∈ kws.map (fun k => k.value), PE X e (tE X F E O (f e))) → PK X kws (tV X F E O (kws.map fun k => f k.value))
  | [], _ => pkv_nil
  | ⟨nm, e, p⟩ :: r, h => pkv_cons (h e List.mem_cons_self) (pk_vals fun e he => h e (List.mem_cons_of_mem _ he))
theorem slot_ok (ok : Ok X E O n CX Γ) {x : Str} {i : Nat} (h : slot Γ x = some i) : X.N[i]? = some x ∧ Vis X.env.scope x := by
  unfold slot at h
  split at h
  · rename_i hv
    obtain ⟨_, h2⟩ := findIx_at h
    rw [ok.N]
    exact ⟨h2, ok.vis x hv⟩
  · cases h
theorem okName_d {x : Str} (h : okName x = true) : (x == ("__debug__" : Str)) = false ∧ (x == ("__classdict__" : Str)) = false ∧ x ≠ "__name__" := by
  unfold okName at h
  simp only [Bool.and_eq_true, Bool.not_eq_true'] at h
  refine ⟨h.1.1, h.1.2, fun z => ?_⟩
  have := h.2
  rw [z] at this
  simp at this
theorem base_ok {o : Expr} {attr : Str} {env : PySem.Env} (h : baseOk o = true) : attributeBase o attr env (eval o env) = eval o env := by
  cases o with
  | Call fn args kws pos =>
    cases fn with
    | Name id p =>
      cases args with
      | nil => cases kws with
        | nil => exact abase_call h
        | cons => rfl
      | cons => rfl
    | _ => cases h
  | _ => rfl
theorem peek_bool {f : Expr → CE} {g : CE → CE → CE} (hg : ∀ a b, peekOf (g a b) = none) : ∀ {es : List Expr}, (∀ e ∈ es, peekOf (f e) = none) → peekOf (boolE f g es) = none
  | [], _ => rfl
  | [a], h => h a List.mem_cons_self
  | a :: b :: r, h => hg _ _
theorem np_call {f fo : Expr → CE} {fn : Expr} {args : List Expr} {kws : List Keyword} {pos : Pos} : peekOf (compCall f fo Γ fn args kws pos) = none := by
  unfold compCall
  repeat' split
  all_goals rfl
theorem np : ∀ (k : Nat) (Γ : Gm) (e : Expr), peekOf (compE k Γ e) = none
  | 0, _, _ => rfl
  | k + 1, Γ, e => by
    unfold compE
    cases e with
    | BoolOp op es pos =>
      cases op
      · exact peek_bool (fun _ _ => rfl) fun e _ => np k Γ e
      · exact peek_bool (fun _ _ => rfl) fun e _ => np k Γ e
    | Call fn args kws pos => exact np_call
    | _ =>
      simp only
      repeat' split
      all_goals rfl
theorem pe_opd (ok : Ok X E O n CX Γ) {k : Nat} {e : Expr} (h : PE X e (tE X F E O (compE k Γ e))) : PE X e (tO X F E O (opd (compE k Γ) Γ e)) := by
  unfold opd
  split
  · rename_i x p
    split
    · rename_i hn
      split
      · rename_i i hi
        obtain ⟨h1, h2⟩ := slot_ok ok hi
        obtain ⟨d1, d2, _⟩ := okName_d hn
        exact pe_imp (pe_var h1 h2 d1 d2) t_peek
      · exact po_val (np k Γ _) h
    · exact po_val (np k Γ _) h
  · exact po_val (np k Γ _) h
theorem opP_ok {op : Operator} {p : Prim} (h : opP op = some p) : OpR X (binaryOp op) (opD X.K X.w p) := by
  cases op <;> first
    | (cases h; first | exact op_addD | exact op_subD | exact op_mulD | exact op_fdivD | exact op_modD | exact op_powD)
    | cases h
theorem tyOf_ok {x : Str} {T : String} (h : tyOf x = some T) : bootBuiltins x = some (.type T) := by
  unfold tyOf at h
  split at h
  · rename_i e; cases h; rw [e]; exact boot_int
  · split at h
    · rename_i e; cases h; rw [e]; exact boot_bool
    · split at h
      · rename_i e; cases h; rw [e]; exact boot_str
      · split at h
        · rename_i e; cases h; rw [e]; exact boot_tuple
        · split at h
          · rename_i e; cases h; rw [e]; exact boot_list
          · split at h
            · rename_i e; cases h; rw [e]; exact boot_dict
            · cases h
theorem boot_len' : bootBuiltins "len" = some (.builtin "len") := by decide +kernel
theorem boot_abs' : bootBuiltins "abs" = some (.builtin "abs") := by decide +kernel
theorem boot_isi' : bootBuiltins "isinstance" = some (.builtin "isinstance") := by decide +kernel
theorem boot_all' : bootBuiltins "all" = some (.builtin "all") := by decide +kernel
theorem boot_any' : bootBuiltins "any" = some (.builtin "any") := by decide +kernel
theorem boot_sorted' : bootBuiltins "sorted" = some (.builtin "sorted") := by decide +kernel
theorem boot_int' : bootBuiltins "int" = some (.type "int") := by decide +kernel
theorem boot_list' : bootBuiltins "list" = some (.type "list") := by decide +kernel
theorem boot_tuple' : bootBuiltins "tuple" = some (.type "tuple") := by decide +kernel
theorem bltP_ok (hc : X.calm = true) {x : Str} {p : Prim} (h : bltP x = some p) : ∃ id, bootBuiltins x = some (.builtin id) ∧ CallR X (.builtin id) (caD X.K X.w p) := by
  unfold bltP at h
  split at h
  · rename_i e; cases h; rw [e]; exact ⟨_, boot_len', call_lenX⟩
  · split at h
    · rename_i e; cases h; rw [e]; exact ⟨_, boot_abs', call_absX⟩
    · split at h
      · rename_i e; cases h; rw [e]; exact ⟨_, boot_isi', call_isiX⟩
      · split at h
        · rename_i e; cases h; rw [e]; exact ⟨_, boot_all', call_allX hc⟩
        · split at h
          · rename_i e; cases h; rw [e]; exact ⟨_, boot_any', call_anyX hc⟩
          · split at h
            · rename_i e; cases h; rw [e]; exact ⟨_, boot_sorted', call_sortedX⟩
            · cases h
theorem boot_set' : bootBuiltins "set" = some (.type "set") := by decide +kernel
theorem boot_dict' : bootBuiltins "dict" = some (.type "dict") := by decide +kernel
theorem bltT_ok (hc : X.calm = true) (hu : X.A.units + 70 < cLine) {x : Str} {p : Prim} (h : bltT x = some p) : ∃ T, bootBuiltins x = some (.type T) ∧ CallR X (.type T) (caD X.K X.w p) ∧ (p = .list → T = "list") := by
  unfold bltT at h
  split at h
  · rename_i e; cases h; rw [e]; exact ⟨_, boot_int', call_intX, fun z => by cases z⟩
  · split at h
    · rename_i e; cases h; rw [e]; exact ⟨_, boot_list', call_listX hc, fun _ => rfl⟩
    · split at h
      · rename_i e; cases h; rw [e]; exact ⟨_, boot_tuple', call_tupleX, fun z => by cases z⟩
      · split at h
        · rename_i e; cases h; rw [e]; exact ⟨_, boot_set', call_setX hc (by omega), fun z => by cases z⟩
        · split at h
          · rename_i e; cases h; rw [e]; exact ⟨_, boot_dict', call_dictX hc (by omega), fun z => by cases z⟩
          · cases h
theorem relS_free {sc : Scope} : ∀ {names : List (Str × NameKind)} {x : Str}, names.lookup x = some .free →
    (names.map fun (n, k) => if (k == NameKind.free && sc.kind == .function && sc.names.lookup n == some .cell) then (n, NameKind.cell) else (n, k)).lookup x = some .free ∨
    (names.map fun (n, k) => if (k == NameKind.free && sc.kind == .function && sc.names.lookup n == some .cell) then (n, NameKind.cell) else (n, k)).lookup x = some .cell
  | [], _, h => by simp at h
  | (n, k₀) :: r, x, h => by
    have ih := @relS_free sc r x
    rw [List.map_cons]
    cases hx : x == n with
    | true =>
      simp only [List.lookup_cons, hx] at h
      cases h
      by_cases hc : (NameKind.free == NameKind.free && sc.kind == .function && sc.names.lookup n == some .cell) = true
      · right; simp only [hc]; simp only [List.lookup_cons, hx, if_true]
      · left; simp only [hc]; simp [List.lookup_cons, hx]
    | false =>
      simp only [List.lookup_cons, hx] at h
      by_cases hc : (k₀ == NameKind.free && sc.kind == .function && sc.names.lookup n == some .cell) = true
      · simp only [hc, if_true, List.lookup_cons, hx]; exact ih h
      · simp only [hc, List.lookup_cons, hx]; simpa [hx, List.lookup_cons] using ih h
theorem Ok.blk (ok : Ok X E O n CX Γ) (scope : Scope) (s : Shared) (H : Hp) (C : Addr) (cl : List (Str × Addr)) (fp : List Addr) : Ok (X.blk s H scope (compEnvC scope cl C X.env) fp) E0 O n CX { Γ with sc := scope } where
  hu := ok.hu
  calm := ok.calm
  nd := ok.nd
  N := ok.N
  vis := fun x h => by
    have h' : (match scope.names.lookup x with
      | some .local => true
      | some .cell => true
      | some .free => true
      | _ => false) = true := h
    split at h'
    · rename_i e; exact .inl (lookup_relS_keep (by decide) e)
    · rename_i e; exact .inr (.inl (lookup_relS_keep (by decide) e))
    · rename_i e
      rcases relS_free (sc := X.env.scope) e with q | q
      · exact .inr (.inr q)
      · exact .inr (.inl q)
    · cases h'
  loc := fun x h => by
    have h' : (match scope.names.lookup x with
      | some .local => true
      | _ => false) = true := h
    split at h'
    · rename_i e; exact lookup_relS_keep (by decide) e
    · cases h'
  gl := fun x h => by
    have h' : (match scope.names.lookup x with
      | some .globalImplicit => true
      | _ => false) = true := h
    split at h'
    · rename_i e; exact lookup_relS_keep (by decide) e
    · cases h'
  frees := fun x h => by
    rcases h with e | e
    · exact .inl (lookup_relS_keep (by decide) e)
    · rcases relS_free (sc := X.env.scope) e with q | q
      · exact .inr q
      · exact .inl q
  glob := ok.glob
  nog := ok.nog
  pats := ok.pats
  cpats := ok.cpats
  room := ok.room
  pass := fun _ _ _ _ _ _ _ h => (ok.cx0 _ _ _ _ _ h).elim
  cx0 := ok.cx0
end
end R
end
section
set_option Elab.async false
set_option linter.all false
set_option maxRecDepth 100000
set_option maxHeartbeats 4000000
namespace R
open PySem PySem.Spec PyProof.Rows L2
section
variable {X : Cx} {E : XK} {O : Orc} {n : Nat} {CX : CXT} {Γ : Gm} {F : Entry}
theorem asg_star {e : Expr} {r : List Expr} {env : PySem.Env} (h : noStar (e :: r) = true) : (assignEach (e :: r) env).map (·.2) = assign e env :: (assignEach r env).map (·.2) ∧ (assignEach (e :: r) env).length = (assignEach r env).length + 1 ∧
    ((assignEach r env).findIdx? (·.1) = none → (assignEach (e :: r) env).findIdx? (·.1) = none) := by
  cases e <;> first
    | exact ⟨rfl, rfl, fun z => by
        show List.findIdx? (·.1) ((false, _) :: assignEach r env) = none
        rw [List.findIdx?_cons]; simp [z]⟩
    | cases h
theorem asg_len {env : PySem.Env} : ∀ {es : List Expr}, noStar es = true → (assignEach es env).length = es.length ∧ (assignEach es env).findIdx? (·.1) = none
  | [], _ => ⟨rfl, rfl⟩
  | e :: r, h => by
    obtain ⟨h1, h2, h3⟩ := asg_star (env := env) h
    obtain ⟨i1, i2⟩ := asg_len (env := env) (noStar_tail h)
    exact ⟨by rw [h2, i1]; rfl, h3 i2⟩
theorem mapM_some {α β : Type} {f : α → Option β} : ∀ {as : List α} {bs : List β}, as.mapM f = some bs → Paired (fun a b => f a = some b) as bs
  | [], bs, h => by
    rw [List.mapM_nil] at h
    cases h
    exact .nil
  | a :: as, bs, h => by
    rw [List.mapM_cons] at h
    cases e : f a with
    | none => rw [e] at h; cases h
    | some b =>
      rw [e] at h
      cases e2 : as.mapM f with
      | none => rw [e2] at h; cases h
      | some bs' =>
        rw [e2] at h
        cases h
        exact .cons e (mapM_some e2)
theorem paired_imp {α β : Type} {P Q : α → β → Prop} (i : ∀ a b, P a b → Q a b) : ∀ {as : List α} {bs : List β}, Paired P as bs → Paired Q as bs
  | _, _, .nil => .nil
  | _, _, .cons h t => .cons (i _ _ h) (paired_imp i t)
theorem pgs_of : ∀ {es : List Expr} {ts : List Tg}, Paired (fun e t => PG X e (gT X F t)) es ts → noStar es = true → PGs X es (gTs X F ts) := by
  intro es ts h
  induction h with
  | nil => intro _; exact pgs_imp pgs_nil g_nil
  | cons h1 h2 ih =>
    intro hs
    exact pgs_imp (pgs_cons h1 (ih (noStar_tail hs)) (asg_star hs).1) g_cons
theorem tg_ok (ok : Ok X E O n CX Γ) : ∀ (k : Nat) (tg : Expr) (t : Tg), compTg Γ k tg = some t → PG X tg (gT X F t)
  | 0, _, _, h => by cases h
  | k + 1, tg, t, h => by
    unfold compTg at h
    split at h
    · rename_i x p
      split at h
      · rename_i hl
        cases hi : findIx x Γ.N 0 with
        | none => rw [hi] at h; cases h
        | some i =>
          rw [hi] at h
          cases h
          have hx := ok.loc x hl
          exact pg_imp (pg_name ok.nd (by rw [ok.N]; exact (findIx_at hi).2) (.inl hx) (.inr hx)) g_name
      · cases h
    · rename_i es kk p
      split at h
      · rename_i hs
        cases hm : es.mapM (compTg Γ k) with
        | none => rw [hm] at h; cases h
        | some ts =>
          rw [hm] at h
          cases h
          have hp := mapM_some hm
          have hlen := hp.length
          obtain ⟨l1, l2⟩ := asg_len (env := X.env) hs
          refine pg_imp (pg_tup (n := es.length) ok.calm (pgs_of (paired_imp (fun e t ht => tg_ok ok k e t ht) hp) hs) l1 l2) (g_tup hlen.symm)
      · cases h
    · cases h
theorem isTup_at {tg : Expr} (h : isTup tg = true) : ∃ es k p, tg = .Tuple es k p := by
  cases tg <;> first | exact ⟨_, _, _, rfl⟩ | cases h
theorem pi_bad {tg e : Expr} : PI X tg e (tI X F E O .bad) := ⟨fun pins s σ H R I ⟨M, ι, ρ, S, RR, k⟩ => k.elim⟩
theorem pi_ok (ok : Ok X E O n CX Γ) {f fo : Expr → CE} (hf : ∀ e, PE X e (tE X F E O (f e))) {tg e : Expr} : PI X tg e (tI X F E O (compI f fo Γ (isTup tg) e)) := by
  unfold compI
  split
  · rename_i x p args pos
    split
    · rename_i hc
      simp only [Bool.and_eq_true] at hc
      obtain ⟨⟨h1, h2⟩, h3⟩ := hc
      unfold isN at h2
      rw [Bool.and_eq_true] at h2
      have hg := ok.gl x h2.1
      have hm := ok.nog x h2.2
      split
      · rename_i ex
        split
        · rename_i a
          subst ex
          exact pi_imp (pi_range1 hg hm (pv_cons (hf a) pv_nil (star_ok h3).1) (star_ok h3).1) t_rng1
        · rename_i a b
          subst ex
          exact pi_imp (pi_range2 hg hm (pv_cons (hf a) (pv_cons (hf b) pv_nil (star_ok (noStar_tail h3)).1) (star_ok h3).1) (by rw [(star_ok h3).1, (star_ok (noStar_tail h3)).1]; rfl) (star_ok (noStar_tail h3)).1) t_rng2
        · exact pi_bad
      · split
        · rename_i ex
          split
          · rename_i a b
            split
            · rename_i ht
              obtain ⟨es, kk, pp, rfl⟩ := isTup_at ht
              subst ex
              exact pi_imp (RZ.pi_zipA hg hm (pv_cons (hf a) (pv_cons (hf b) pv_nil (star_ok (noStar_tail h3)).1) (star_ok h3).1) (star_ok h3).1 (back_ok (noStar_tail h3))) t_zip
            · exact pi_bad
          · exact pi_bad
        · split
          · exact pi_bad
          · exact pi_seqD (hf _)
    · exact pi_seqD (hf _)
  · exact pi_bad
  · exact pi_seqD (hf _)
/-- lists that are new -/
def freshC : CE → Bool
  | .lst _ => true
  | .comp _ _ _ _ _ => true
  | .prim .list _ => true
  | _ => false
structure S4 (X : Cx) (E : XK) (O : Orc) (e : Expr) (c : CE) : Prop where
  v : ∀ F, PE X e (tE X F E O c)
  t : ∀ F, PT X e (tT X F E O c)
  p : freshC c = true → ∀ F, PE X e (tP X F E O c)
theorem S4.bad {e : Expr} : S4 X E O e .bad := ⟨fun _ => pe_bad, fun _ => pt_bad, fun h => by cases h⟩
/-- of a plain node -/
theorem S4.plain {e : Expr} {c : CE} (h : ∀ F, PE X e (tE X F E O c)) (he : ∀ whole, isTrue e X.env whole = (do let v ← whole; standAt e.pos; holding [v] (truthy v))) (hn : freshC c = false) : S4 X E O e c :=
  ⟨h, fun F => pt_plain (h F) he, fun z => by rw [hn] at z; cases z⟩
theorem S4.new {e : Expr} {c : CE} (h : ∀ F, PE X e (tP X F E O c)) (he : ∀ whole, isTrue e X.env whole = (do let v ← whole; standAt e.pos; holding [v] (truthy v))) (hl : ∀ ρ S d ρ' S', evE O c ρ S = .ok d ρ' S' → ∃ ds, d = .lst ds) : S4 X E O e c :=
  ⟨fun F => pe_cool hl (h F), fun F => pt_plain (pe_cool hl (h F)) he, fun _ => h⟩
theorem ev_comp {own : List Nat} {t : Tg} {ci : CI} {ifs : List CE} {elt : CE} : ∀ ρ S d ρ' S', evE O (.comp own t ci ifs elt) ρ S = .ok d ρ' S' → ∃ ds, d = .lst ds := by
  intro ρ S d ρ' S' h
  have h' : ((evI O ci ρ S).bind fun ds ρ S => if noOwn ρ own then
      (loopC (turnC O t ifs elt) own ds [] (wipeE ρ own) S).bind fun ys ρ' S => .ok (.lst ys) (backE ρ ρ' own) S
    else .no) = .ok d ρ' S' := h
  cases e : evI O ci ρ S with
  | no => rw [e] at h'; cases h'
  | exc x r s => rw [e] at h'; cases h'
  | ok ds r s =>
    rw [e] at h'
    replace h' : (if noOwn r own then (loopC (turnC O t ifs elt) own ds [] (wipeE r own) s).bind fun ys ρ' S => .ok (D.lst ys) (backE r ρ' own) S else .no) = .ok d ρ' S' := h'
    split at h'
    · cases e2 : loopC (turnC O t ifs elt) own ds [] (wipeE r own) s with
      | no => rw [e2] at h'; cases h'
      | exc x r s => rw [e2] at h'; cases h'
      | ok ys r2 s2 => rw [e2] at h'; cases h'; exact ⟨ys, rfl⟩
    · cases h'
theorem ev_list {cs : List CE} : ∀ ρ S d ρ' S', evE O (.prim .list cs) ρ S = .ok d ρ' S' → ∃ ds, d = .lst ds := by
  intro ρ S d ρ' S' h
  have h' : ((evL O cs ρ S).bind fun avs ρ S => match lookAll ρ S avs with
    | some ds => ofO (primD .list ds) ρ S
    | none => .no) = .ok d ρ' S' := h
  cases e : evL O cs ρ S with
  | no => rw [e] at h'; cases h'
  | exc x r s => rw [e] at h'; cases h'
  | ok avs r s =>
    rw [e] at h'
    replace h' : (match lookAll r s avs with
      | some ds => ofO (primD .list ds) r s
      | none => Res.no) = .ok d ρ' S' := h'
    cases e2 : lookAll r s avs with
    | none => rw [e2] at h'; cases h'
    | some ds =>
      rw [e2] at h'
      replace h' : ofO (primD .list ds) r s = .ok d ρ' S' := h'
      cases e3 : primD .list ds with
      | none => rw [e3] at h'; cases h'
      | some z =>
        rw [e3] at h'
        cases h'
        cases ds with
        | nil => cases e3
        | cons a ds => cases ds with
          | cons _ _ => cases e3
          | nil =>
            replace e3 : lstO (listD a) = some d := e3
            cases hb : listD a with
            | none => rw [hb] at e3; cases e3
            | some zs => rw [hb] at e3; cases e3; exact ⟨zs, rfl⟩
/-- list(..), new -/
theorem t_listN {cs : List CE} : ∀ σ H Q, tP X F E O (.prim .list cs) σ H Q → tCB (caN X.K X.w) (tL X F E O cs) σ H Q := by
  intro σ H Q ⟨M, ι, ρ, S, R, k⟩
  replace k : Kx X.K X.w F E σ M ι H ((evL O cs ρ S).bind fun avs ρ S => match lookAll ρ S avs with
    | some ds => ofO (primD .list ds) ρ S
    | none => .no) fun d ρ' _ M' ι' H' => ∃ ds, d = .lst ds ∧ ∀ p xs, H' p = some (.lst xs) → Reps X.K X.w ι' M' H' ds xs → Own F ι' M' p →
      (∀ (i : Nat) sv, ρ'[i]? = some (some sv) → sv.isOwn = true → σ[i]? ≠ some (some (.ref p))) → (F.H p = none) → Q (.ref p) H' := k
  refine ⟨M, ι, ρ, S, R, k.bind.imp fun as ρ1 S1 M1 ι1 H1 R1 g1 p1 k1 vs hv => ?_⟩
  obtain ⟨ds, d, e1, e2, k4⟩ := lookAll_inv k1
  have hd : ∃ zs, d = .lst zs := by
    cases ds with
    | nil => cases e2
    | cons a ds => cases ds with
      | cons _ _ => cases e2
      | nil =>
        have e2' : lstO (listD a) = some d := e2
        cases hb : listD a with
        | none => rw [hb] at e2'; cases e2'
        | some zs => rw [hb] at e2'; cases e2'; exact ⟨zs, rfl⟩
  obtain ⟨zs, rfl⟩ := hd
  exact ⟨ι1, M1, ds, zs, R1.isHot, lookAll_ok R1 hv e1, e2, fun p xs hp r => tP_new R1 k4 hp r⟩
end
end R
end
section
set_option Elab.async false
set_option linter.all false
set_option maxRecDepth 100000
set_option maxHeartbeats 4000000
namespace R
open PySem PySem.Spec PyProof.Rows L2
section
variable {X : Cx} {E : XK} {O : Orc} {n : Nat} {CX : CXT} {Γ : Gm} {F : Entry}
theorem find_pat {ps : List Pat} {f : Str} {m : Nat} {ks : List Str} {p : Pat} (h : patOf ps f m ks = some p) : p ∈ ps ∧ p.f = f ∧ p.m = m ∧ p.ks = ks := by
  unfold patOf at h
  have h1 := List.mem_of_find?_eq_some h
  have h2 := List.find?_some h
  simp only [Bool.and_eq_true, decide_eq_true_eq] at h2
  exact ⟨h1, h2.1.1, h2.1.2, h2.2⟩
theorem kwNames_len : ∀ {kws : List Keyword}, kwsOk kws = true → (kwNames kws).length = kws.length
  | [], _ => rfl
  | ⟨nm, e, p⟩ :: r, h => by
    have h' : nm.isSome = true ∧ kwsOk r = true := by
      have : (nm.isSome && kwsOk r) = true := h
      rwa [Bool.and_eq_true] at this
    cases nm with
    | none => cases h'.1
    | some x =>
      show (x :: kwNames r).length = _
      rw [List.length_cons, List.length_cons, kwNames_len h'.2]
theorem few_ok {pos : Pos} {env : PySem.Env} {e : Expr} {es : List Expr} (hs : noStar (e :: es) = true) (hl : (e :: es).length < 20) : ((backTo pos (starEach (e :: es) env)).all (fun x => !x.1) && (backToKw pos (keywordEach [] env)).all (fun x => x.1.isSome)
      && decide ((e :: es).length + ([] : List Keyword).length + (if ([] : List Keyword).isEmpty then 0 else 1) < 30)) = true := by
  rw [back_all hs]
  have : ([] : List Keyword).isEmpty = true := rfl
  rw [if_pos this, decide_eq_true (by simp only [List.length_cons, List.length_nil] at *; omega)]
  rfl
theorem call_ok (ok : Ok X E O n CX Γ) {f : Expr → CE} (hf : ∀ e, S4 X E O e (f e)) (hfo : ∀ e F, PE X e (tO X F E O (opd f Γ e))) (hnp : ∀ e, peekOf (f e) = none) (fn : Expr) (args : List Expr) (kws : List Keyword) (pos : Pos) : S4 X E O (.Call fn args kws pos) (compCall f (opd f Γ) Γ fn args kws pos) := by
  have hu1 : X.A.units + 1 < cLine := by have := ok.hu; omega
  have hroom : Room n X.A := ok.room.mono (Nat.le_succ n)
  have vals : ∀ F (es : List Expr), noStar es = true → PA X es (tV X F E O (es.map f)) := fun F es hs => pa_vals (fun e _ => (hf e).v F) hs
  have ops : ∀ F (es : List Expr), noStar es = true → PA X es (tL X F E O (es.map (opd f Γ))) := fun F es hs => pa_ops (fun e _ => hfo e F) hs
  unfold compCall
  split
  · exact .bad
  · rename_i hc0
    have hc : noStar args = true ∧ kwsOk kws = true ∧ args.length < 20 := by
      have : (noStar args && kwsOk kws && decide (args.length < 20)) = true := by simpa using hc0
      simp only [Bool.and_eq_true, decide_eq_true_eq] at this
      exact ⟨this.1.1, this.1.2, this.2⟩
    obtain ⟨hs, hk, h20⟩ := hc
    split
    · rename_i x np
      split
      · exact .bad
      · rename_i hn0
        have hn : okName x = true := by simpa using hn0
        obtain ⟨d1, d2, d3⟩ := okName_d hn
        split
        · rename_i i hi
          split
          · rename_i hke
            have hk0 : kws = [] := by simpa using hke
            subst hk0
            obtain ⟨h1, h2⟩ := slot_ok ok hi
            refine .plain (fun F => ?_) (fun _ => rfl) rfl
            refine pe_callV (m := args.length) (fun y hy => ?_) hroom ok.pass h1 h2 d1 d2 (vals F args hs) (by rw [List.length_map]) (by rw [List.length_map]) (fun e r er => (star_ok (by rw [← er]; exact hs)).1) (back_ok hs)
            obtain ⟨p, hp, rfl⟩ := List.mem_map.mp hy
            obtain ⟨hp1, hp2⟩ := List.mem_filter.mp hp
            simp only [Bool.and_eq_true, decide_eq_true_eq, List.isEmpty_iff] at hp2
            have := ok.pats p hp1
            obtain ⟨pf, pm, pk, pd⟩ := p
            obtain ⟨⟨e1, e2⟩, e3⟩ := hp2
            simp only at e1 e2 e3
            subst e1 e2 e3
            exact this
          · exact .bad
        · split
          · rename_i hg
            split
            · rename_i hb
              rw [Bool.and_eq_true] at hb
              have hk0 : kws = [] := by simpa using hb.2
              subst hk0
              have hm := ok.nog x hb.1
              have hgl := ok.gl x hg
              cases args with
              | nil => exact .bad
              | cons a as =>
                show S4 X E O _ (match bltP x with
                  | some p => CE.prim p ((a :: as).map (opd f Γ))
                  | none => match bltT x with
                    | some p => .prim p ((a :: as).map (opd f Γ))
                    | none => .bad)
                split
                · rename_i p hp
                  obtain ⟨id, b1, b2⟩ := bltP_ok ok.calm hp
                  have hfr : freshC (.prim p ((a :: as).map (opd f Γ))) = false := by
                    unfold bltP at hp
                    repeat' split at hp
                    all_goals first | (cases hp; rfl) | cases hp
                  exact .plain (fun F => pe_imp (pe_callB b2 hgl hm b1 (ops F _ hs) d3 d1 (star_ok hs).1 (back_ok (noStar_tail hs))) t_cb) (fun _ => rfl) hfr
                · split
                  · rename_i p hp
                    obtain ⟨T, b1, b2, b3⟩ := bltT_ok ok.calm ok.hu hp
                    by_cases hl : p = .list
                    · subst hl
                      cases b3 rfl
                      exact .new (fun F => pe_imp (pe_callTy (call_listN ok.calm) hgl hm b1 (ops F _ hs) d3 d1 (star_ok hs).1 (back_ok (noStar_tail hs))) t_listN) (fun _ => rfl) ev_list
                    · have hfr : freshC (.prim p ((a :: as).map (opd f Γ))) = false := by
                        unfold bltT at hp
                        repeat' split at hp
                        all_goals first | (cases hp; first | rfl | exact absurd rfl hl) | cases hp
                      exact .plain (fun F => pe_imp (pe_callTy b2 hgl hm b1 (ops F _ hs) d3 d1 (star_ok hs).1 (back_ok (noStar_tail hs))) t_cb) (fun _ => rfl) hfr
                  · exact .bad
            · split
              · rename_i p hp
                obtain ⟨p1, p2, p3, p4⟩ := find_pat hp
                obtain ⟨k1, k2, k3⟩ := kw_all (pos := pos) (env := X.env) hk
                refine .plain (fun F => ?_) (fun _ => rfl) rfl
                refine pe_callP (ok.pats p p1) hroom ok.pass p2.symm (ok.gl x hg) d1 (vals F args hs) (pk_vals fun e _ => (hf e).v F) (by rw [List.length_map]) (by rw [List.length_map, p3]) (by rw [List.length_map, p4, kwNames_len hk]) (fun e r er => (star_ok (by rw [← er]; exact hs)).1) (back_ok hs) k1 (by rw [k2, p4]) k3
              · split
                · rename_i hke
                  have hk0 : kws = [] := by simpa using hke
                  subst hk0
                  split
                  · rename_i p hp
                    obtain ⟨p1, p2, p3, p4⟩ := find_pat hp
                    obtain ⟨C, fa, fd, ps, dvs, ds, m1, m2, m3, m4, m5, m6, m7, m8, m9⟩ := (ok.cpats p p1).ex
                    have hdl : p.dfl.length = ds.length := by rw [(m8 [] (fun _ => False) (fun _ => none)).length, m7.length]
                    refine .plain (fun F => ?_) (fun _ => rfl) rfl
                    subst p2
                    cases args with
                    | nil => exact pe_imp (pe_make0 m4 m5 ok.room (ok.gl _ hg) m1 m6 m7 ok.pass d1) (fun σ H Q h => by
                        have := t_new m2 m3 m8 (np := ps.length) (by rw [m9, hdl, List.length_map, p3]) σ H Q h
                        obtain ⟨M, ι, ρ, S, R, k⟩ := this
                        exact Kx.ok R k [] rfl)
                    | cons a as => exact pe_imp (pe_make m4 m5 ok.room (ok.gl _ hg) m1 m6 m7 ok.pass (vals F _ hs) d1 (star_ok hs).1 (back_ok (noStar_tail hs))) (t_new m2 m3 m8 (by rw [m9, hdl, List.length_map, p3]))
                  · exact .bad
                · exact .bad
          · exact .bad
    · rename_i o name apos
      split
      · rename_i hc
        simp only [Bool.and_eq_true] at hc
        obtain ⟨⟨hke, hb⟩, hline⟩ := hc
        have hk0 : kws = [] := by simpa using hke
        subst hk0
        have meth : ∀ {T id : String} {r : V → List V → Hp → VK → Prop} {t : Entry → TA} {to : Entry → TE} {F : Entry} {a : Expr} {as : List Expr}, args = a :: as → PlainAttrs T → Slot T name id → typeOf (.builtin id) = pure (.type "method_descriptor") → MtR X id r → PE X o (to F) → PA X (a :: as) (t F) →
            PE X (.Call (.Attribute o name apos) args [] pos) (tBX X.K X.w T r (to F) (t F)) := by
          intro T id r t to F a as ea pa slot hty hm ho ha
          subst ea
          exact pe_bx pa slot hty hm ho ha (base_ok hb) (few_ok hs h20) hline (star_ok hs).1 (back_ok (noStar_tail hs))
        cases args with
        | nil =>
          split
          · exact .bad
          · split
            · exact .bad
            · split
              · rename_i en
                subst en
                refine .plain (fun F => ?_) (fun _ => rfl) rfl
                exact pe_imp (pe_bx0 PySem.F.plainAttrs_list PySem.F.slot_list_pop PySem.F.type_list_pop (mt_popX True.intro) (hfo o F) (base_ok hb) hline rfl) (fun σ H Q h => by
                  have := t_mprim σ H Q h
                  obtain ⟨M, ι, ρ, S, R, k⟩ := this
                  exact ⟨M, ι, ρ, S, R, k.imp fun a ρ' S' M' ι' H' R' g hp q v hv => by
                    obtain ⟨q1, M2, ι2, ρ2, S2, R2, k2⟩ := q v hv
                    exact ⟨q1, Kx.ok R2 k2 [] rfl⟩⟩)
              · split
                · exact .bad
                · split
                  · exact .bad
                  · exact .bad
        | cons a as =>
          split
          · rename_i en
            subst en
            exact .plain (fun F => pe_imp (meth (t := fun F => tV X F E O ((a :: as).map f)) (to := fun F => tO X F E O (opd f Γ o)) rfl PySem.F.plainAttrs_list PySem.F.slot_list_append PySem.F.type_list_append mt_appendX (hfo o F) (vals F _ hs)) t_mprim) (fun _ => rfl) rfl
          · split
            · rename_i en
              subst en
              exact .plain (fun F => pe_imp (meth (t := fun F => tV X F E O ((a :: as).map f)) (to := fun F => tO X F E O (opd f Γ o)) rfl PySem.F.plainAttrs_list PySem.F.slot_list_insert PySem.F.type_list_insert mt_insertX (hfo o F) (vals F _ hs)) t_mprim) (fun _ => rfl) rfl
            · split
              · rename_i en
                subst en
                exact .plain (fun F => pe_imp (meth (t := fun F => tV X F E O ((a :: as).map f)) (to := fun F => tO X F E O (opd f Γ o)) rfl PySem.F.plainAttrs_list PySem.F.slot_list_pop PySem.F.type_list_pop (mt_popX True.intro) (hfo o F) (vals F _ hs)) t_mprim) (fun _ => rfl) rfl
              · split
                · rename_i en
                  subst en
                  exact .plain (fun F => pe_imp (meth (t := fun F => tL X F E O ((a :: as).map (opd f Γ))) (to := fun F => tO X F E O (opd f Γ o)) rfl PySem.F.plainAttrs_dict PySem.F.slot_dict_get PySem.F.type_dict_get (mt_getX hu1) (hfo o F) (ops F _ hs)) t_meth) (fun _ => rfl) rfl
                · split
                  · rename_i en
                    subst en
                    exact .plain (fun F => pe_imp (meth (t := fun F => tL X F E O ((a :: as).map (opd f Γ))) (to := fun F => tO X F E O (opd f Γ o)) rfl PySem.F.plainAttrs_str PySem.F.slot_str_join PySem.F.type_str_join mt_joinX (hfo o F) (ops F _ hs)) t_meth) (fun _ => rfl) rfl
                  · exact .bad
      · exact .bad
    · exact .bad
end
end R
end
section
set_option Elab.async false
set_option linter.all false
set_option maxRecDepth 100000
set_option maxHeartbeats 4000000
namespace R
open PySem PySem.Spec PyProof.Rows L2
section
variable {X : Cx} {E : XK} {O : Orc} {n : Nat} {CX : CXT} {Γ : Gm} {F : Entry}
theorem pw_imp {X : Cx} {e : Expr} {t t' : TT} (h : PW X e t) (i : ∀ σ H Q, t' σ H Q → t σ H Q) : PW X e t' := ⟨fun wh pins s σ H Q I q => h.run wh pins s σ H Q I (i σ H Q q)⟩
theorem pw_ands (f : Expr → CE) (hf : ∀ e, S4 X E O e (f e)) (pos : Pos) : ∀ (a : Expr) (es : List Expr) (F : Entry), PW X (.BoolOp .And (a :: es) pos) (tT X F E O (boolE f .and_ (a :: es)))
  | a, [], F => pw_and1 ((hf a).t F)
  | a, b :: r, F => pw_imp (pw_and ((hf a).t F) (pw_ands f hf pos b r F)) t_and
theorem pw_ors (f : Expr → CE) (hf : ∀ e, S4 X E O e (f e)) (pos : Pos) : ∀ (a : Expr) (es : List Expr) (F : Entry), PW X (.BoolOp .Or (a :: es) pos) (tT X F E O (boolE f .or_ (a :: es)))
  | a, [], F => pw_or1 ((hf a).t F)
  | a, b :: r, F => pw_imp (pw_or ((hf a).t F) (pw_ors f hf pos b r F)) t_or
theorem bool_and (f : Expr → CE) (hf : ∀ e, S4 X E O e (f e)) (pos : Pos) : ∀ (es : List Expr), S4 X E O (.BoolOp .And es pos) (boolE f .and_ es)
  | [] => .bad
  | [a] => ⟨fun F => pe_one ((hf a).v F), fun F => (pw_and1 ((hf a).t F)).pt, fun h F => ⟨fun pins s σ H Q I q => BoolOp_one (((hf a).p h F).run pins s σ H Q I q)⟩⟩
  | a :: b :: r => ⟨fun F => pe_and' ((hf a).v F) ((bool_and f hf pos (b :: r)).v F), fun F => (pw_ands f hf pos a (b :: r) F).pt, fun h => by cases h⟩
theorem bool_or (f : Expr → CE) (hf : ∀ e, S4 X E O e (f e)) (pos : Pos) : ∀ (es : List Expr), S4 X E O (.BoolOp .Or es pos) (boolE f .or_ es)
  | [] => .bad
  | [a] => ⟨fun F => pe_one ((hf a).v F), fun F => (pw_or1 ((hf a).t F)).pt, fun h F => ⟨fun pins s σ H Q I q => BoolOp_one (((hf a).p h F).run pins s σ H Q I q)⟩⟩
  | a :: b :: r => ⟨fun F => pe_or' ((hf a).v F) ((bool_or f hf pos (b :: r)).v F), fun F => (pw_ors f hf pos a (b :: r) F).pt, fun h => by cases h⟩
theorem pt_if {c a b : Expr} {cc ca cb : CE} {pos : Pos} (hc : PT X c (tT X F E O cc)) (ha : PT X a (tT X F E O ca)) (hb : PT X b (tT X F E O cb)) : PT X (.IfExp c a b pos) (tT X F E O (.ifE cc ca cb)) := by
  refine ⟨fun pins s σ H Q I ⟨M, ι, ρ, S, R, k⟩ => ?_⟩
  show wpAny (model X.prog X.w) X.A (do if ← isTrue c X.env (eval c X.env) then isTrue a X.env (eval a X.env) else isTrue b X.env (eval b X.env)) _ _ _
  refine wpAny_bind (thn (hc.run pins s σ H (fun t H1 => if t then tT X F E O ca σ H1 Q else tT X F E O cb σ H1 Q) I ⟨M, ι, ρ, S, R, (Kx.bind k).imp fun d ρ1 S1 M1 ι1 H1 R1 g1 p1 k1 => ?_⟩) fun t s1 ⟨H1, I1, q⟩ => ?_)
  · obtain ⟨t, et, k2⟩ := tru_inv k1
    refine ⟨t, et, ?_⟩
    cases t with
    | true => exact ⟨M1, ι1, ρ1, S1, R1, k2⟩
    | false => exact ⟨M1, ι1, ρ1, S1, R1, k2⟩
  · cases t with
    | true => exact ha.run pins s1 σ H1 Q I1 q
    | false => exact hb.run pins s1 σ H1 Q I1 q
theorem const_rep_non {v : V} (h : v = .non) : ∀ ι M H, Rep X.K X.w ι M H .non v := fun _ _ _ => h
theorem pairedMap {α β : Type} {P : α → β → Prop} {f : α → β} (h : ∀ a, P a (f a)) : ∀ (as : List α), Paired P as (as.map f)
  | [] => .nil
  | a :: r => .cons (h a) (pairedMap h r)
theorem last_one {op : CmpOp} {b : Expr} (h : lastMarks [op] [b] = false) : behindInMarks op b = false := h
theorem pts_D {f : Expr → CE} (hf : ∀ e, S4 X E O e (f e)) : ∀ (ifs : List Expr), ifs.length ≤ 1 → PTs X ifs (tIfsX X E O (ifs.map f))
  | [], _ => ⟨fun pins s σ H Q I ⟨F, M, ι, ρ, S, R, k⟩ => pts_nil.run pins s σ H Q I (Kx.ok R k)⟩
  | [c], _ => ⟨fun pins s σ H Q I ⟨F, M, ι, ρ, S, R, k⟩ => (pts_one ((hf c).t F)).run pins s σ H Q I (by
      refine ⟨M, ι, ρ, S, R, (Kx.bind (show Kx X.K X.w F E σ M ι H ((evE O (f c) ρ S).bind fun x ρ S => match tru x with
        | some true => evIfs O [] ρ S
        | some false => .ok false ρ S
        | none => .no) _ from k)).imp fun d ρ1 S1 M1 ι1 H1 R1 g1 p1 k1 => ?_⟩
      cases e : tru d with
      | none => rw [e] at k1; exact k1.elim
      | some t =>
        rw [e] at k1
        cases t with
        | true => exact ⟨true, rfl, Kx.ok R1 k1⟩
        | false => exact ⟨false, rfl, Kx.ok R1 k1⟩)⟩
  | _ :: _ :: _, h => by simp at h
theorem plain_ix {i : Expr} (h : ∀ a b c p, i ≠ .Slice a b c p) : PlainIx i := by
  intro o v
  cases i <;> first | rfl | exact absurd rfl (h _ _ _ _)
theorem keysS_ok : ∀ {keys : List (Option Expr)} {ks : List Str}, keysS keys = some ks → Paired (fun k s => ∃ p q, k = some (.Constant (.str s) p q)) keys ks
  | [], ks, h => by
    have h' : some ([] : List Str) = some ks := h
    cases h'
    exact .nil
  | k :: r, ks, h => by
    unfold keysS at h
    split at h
    · rename_i e; cases e
    · rename_i s p q r' e
      cases e
      split at h
      · rename_i ss hs
        cases h
        exact .cons ⟨p, q, rfl⟩ (keysS_ok hs)
      · cases h
    · cases h
theorem paired_some : ∀ {keys : List (Option Expr)} {ks : List Str}, Paired (fun k s => ∃ p q, k = some (.Constant (.str s) p q)) keys ks → keys.all (·.isSome) = true
  | _, _, .nil => rfl
  | _, _, .cons ⟨p, q, e⟩ h => by
    subst e
    rw [List.all_cons, paired_some h]; rfl
theorem paired_take {α β : Type} {P : α → β → Prop} : ∀ {as : List α} {bs : List β} (n : Nat), Paired P as bs → Paired P (as.take n) (bs.take n) ∧ Paired P (as.drop n) (bs.drop n)
  | _, _, 0, h => ⟨.nil, h⟩
  | _, _, n + 1, .nil => ⟨.nil, .nil⟩
  | _, _, n + 1, .cons h t => let ⟨x, y⟩ := paired_take n t; ⟨.cons h x, y⟩
theorem dict_ok {f : Expr → CE} (hf : ∀ e, S4 X E O e (f e)) {keys : List (Option Expr)} {values : List Expr} {ks : List Str} {pos : Pos} (hk : Paired (fun k s => ∃ p q, k = some (.Constant (.str s) p q)) keys ks) (hl : keys.length = values.length) (hz : sizeOk keys.length = true) (F : Entry) :
    PE X (.Dict keys values pos) (tE X F E O (.dic (ks.map .str) (values.map f))) := by
  have hlk : keys.length = ks.length := Paired.length hk
  unfold sizeOk at hz
  simp only [Bool.or_eq_true, Bool.and_eq_true, decide_eq_true_eq] at hz
  by_cases h15 : keys.length ≤ 15
  · by_cases h0 : keys = []
    · subst h0
      cases hk
      have : values = [] := List.length_eq_zero_iff.mp (by rw [← hl]; rfl)
      subst this
      exact pe_imp pe_dnewK t_dnew
    · exact pe_imp (pe_disp (pps_of (Γ := ()) (fun e F => (hf e).v F) hk hl) (paired_some hk) hl h0 h15) (t_disp (by rw [List.length_map]; omega) (by omega))
  · obtain ⟨k1, k2⟩ := paired_take 17 hk
    have ek : keys.take 17 ++ keys.drop 17 = keys := List.take_append_drop 17 keys
    have ev : values.take 17 ++ values.drop 17 = values := List.take_append_drop 17 values
    have es : ks.take 17 ++ ks.drop 17 = ks := List.take_append_drop 17 ks
    have g : PE X (.Dict (keys.take 17 ++ keys.drop 17) (values.take 17 ++ values.drop 17) pos) (tE X F E O (.dic ((ks.take 17 ++ ks.drop 17).map .str) ((values.take 17).map f ++ (values.drop 17).map f))) := by
      refine pe_imp (pe_dispL (pls_of (Γ := ()) (fun e F => (hf e).v F) k1 (by rw [List.length_take, List.length_take, hl])) (pps_of (Γ := ()) (fun e F => (hf e).v F) k2 (by rw [List.length_drop, List.length_drop, hl])) (paired_some k1) (paired_some k2) (by rw [List.length_take, List.length_take, hl]) (by rw [List.length_drop, List.length_drop, hl]) (by rw [List.length_take]; omega) (by rw [List.length_drop]; omega) (fun z => ?_)) (t_dispL (by rw [List.length_map, List.length_take, List.length_take]; omega) (by rw [List.length_map, List.length_drop, List.length_drop]; omega) (fun z => ?_))
      · have := congrArg List.length z
        rw [List.length_drop, List.length_nil] at this
        omega
      · have := congrArg List.length z
        rw [List.length_take, List.length_nil] at this
        omega
    rw [ek, ev, es, ← List.map_append, ev] at g
    exact g
theorem compE_ok : ∀ (k : Nat) {X : Cx} {E : XK} {Γ : Gm}, Ok X E O n CX Γ → ∀ e, S4 X E O e (compE k Γ e)
  | 0, _, _, _, _, _ => .bad
  | k + 1, X, E, Γ, ok, e => by
    have hf : ∀ e, S4 X E O e (compE k Γ e) := fun e => compE_ok k ok e
    have hfo : ∀ e F, PE X e (tO X F E O (opd (compE k Γ) Γ e)) := fun e F => pe_opd ok ((hf e).v F)
    have hu : X.A.units + 9 < cLine := by have := ok.hu; omega
    have hu1 : X.A.units + 1 < cLine := by omega
    unfold compE
    cases e with
    | Constant c kk pos =>
      cases c with
      | none => exact .plain (fun F => pe_imp pe_non (t_const fun _ _ _ => rfl)) (fun _ => rfl) rfl
      | bool b => exact .plain (fun F => pe_imp pe_bl (t_const fun _ _ _ => rfl)) (fun _ => rfl) rfl
      | int i => exact .plain (fun F => pe_imp pe_int (t_const fun _ _ _ => rfl)) (fun _ => rfl) rfl
      | str s =>
        show S4 X E O _ (if s.length ≤ 1000 then .const (.str s) else .bad)
        split
        · rename_i hl
          exact .plain (fun F => pe_imp pe_str (t_const fun _ _ _ => ⟨rfl, by unfold strMax; omega⟩)) (fun _ => rfl) rfl
        · exact .bad
      | _ => exact .bad
    | Name x pos =>
      show S4 X E O _ (if okName x then (match slot Γ x with
        | some i => .var i
        | none => if glB Γ x then (match Γ.gl.lookup x with
          | some d => .const d
          | none => if Γ.nog.contains x then (match tyOf x with
            | some T => .const (.ty T)
            | none => .bad) else .bad) else .bad) else .bad)
      split
      · rename_i hn
        obtain ⟨d1, d2, d3⟩ := okName_d hn
        split
        · rename_i i hi
          obtain ⟨h1, h2⟩ := slot_ok ok hi
          exact .plain (fun F => pe_imp (pe_var h1 h2 d1 d2) t_var) (fun _ => rfl) rfl
        · split
          · rename_i hg
            split
            · rename_i d hd
              obtain ⟨v, u, m1, m2, m3⟩ := ok.glob x d hd
              exact .plain (fun F => pe_imp (pe_glob (ok.gl x hg) m1 m2 d1) (t_const m3)) (fun _ => rfl) rfl
            · split
              · rename_i hb
                split
                · rename_i T hT
                  exact .plain (fun F => pe_imp (pe_bltn (v := .ty T) (ok.gl x hg) (ok.nog x hb) (tyOf_ok hT) rfl d3 d1) (t_const fun _ _ _ => rfl)) (fun _ => rfl) rfl
                · exact .bad
              · exact .bad
          · exact .bad
      · exact .bad
    | BinOp a op b pos =>
      show S4 X E O _ (match opP op with
        | some p => .prim p [opd (compE k Γ) Γ a, opd (compE k Γ) Γ b]
        | none => .bad)
      split
      · rename_i p hp
        have hfr : freshC (.prim p [opd (compE k Γ) Γ a, opd (compE k Γ) Γ b]) = false := by
          cases op <;> first | (cases hp; rfl) | cases hp
        exact .plain (fun F => pe_imp (pe_op (opP_ok hp) (hfo a F) (hfo b F)) t_bin) (fun _ => rfl) hfr
      · exact .bad
    | UnaryOp op a pos =>
      cases op with
      | Not => exact ⟨fun F => pe_not' ((hf a).v F), fun F => pt_imp (pt_not ((hf a).t F)) t_not, fun h => by cases h⟩
      | USub => exact .plain (fun F => pe_imp (pe_un un_negD (hfo a F)) t_un) (fun _ => rfl) rfl
      | _ => exact .bad
    | BoolOp op es pos =>
      cases op with
      | And => exact bool_and _ hf pos es
      | Or => exact bool_or _ hf pos es
    | IfExp c a b pos => exact ⟨fun F => pe_imp (pe_ifExp ((hf c).t F) ((hf a).v F) ((hf b).v F)) t_if, fun F => pt_if ((hf c).t F) ((hf a).t F) ((hf b).t F), fun h => by cases h⟩
    | Compare a ops es pos =>
      show S4 X E O _ (if lastMarks ops es then .bad else (match ops, es with
        | [op], [b] => .prim (cmpP op) [opd (compE k Γ) Γ a, opd (compE k Γ) Γ b]
        | o1 :: o2 :: ops, e1 :: e2 :: es => if ops.length = es.length then .chain (compE k Γ a) (cmpPs (o1 :: o2 :: ops)) (compE k Γ e1 :: compE k Γ e2 :: es.map (compE k Γ)) else .bad
        | _, _ => .bad))
      split
      · exact .bad
      · rename_i hm
        have hm' : lastMarks ops es = false := by simpa using hm
        split
        · rename_i op b
          refine ⟨fun F => pe_cmpD hu (hfo a F) (hfo b F) (last_one hm'), fun F => pt_cmpD hu (hfo a F) (hfo b F) (last_one hm'), fun h => ?_⟩
          cases op <;> cases h
        · rename_i o1 o2 ops e1 e2 es
          split
          · rename_i hl
            exact ⟨fun F => pe_chainD hu ((hf a).v F) ((hf e1).v F) ((hf e2).v F) (pairedMap (P := fun e c => PE X e (tE X F E O c)) (fun e => (hf e).v F) es) hl hm', fun F => pt_chainD hu ((hf a).v F) ((hf e1).v F) ((hf e2).v F) (pairedMap (P := fun e c => PE X e (tE X F E O c)) (fun e => (hf e).v F) es) hl hm', fun h => by cases h⟩
          · exact .bad
        · exact .bad
    | Tuple es kk pos =>
      show S4 X E O _ (if noStar es then .tup (es.map (compE k Γ)) else .bad)
      split
      · rename_i hs
        exact .plain (fun F => pe_imp (pe_tup (pa_vals (fun e _ => (hf e).v F) hs)) t_tup) (fun _ => rfl) rfl
      · exact .bad
    | List es pos =>
      show S4 X E O _ (if noStar es then (if Γ.cells.contains (pos.line, pos.col) then .cell (es.map (compE k Γ)) else .lst (es.map (compE k Γ))) else .bad)
      split
      · rename_i hs
        split
        · exact .plain (fun F => pe_imp (pe_lst (pa_vals (fun e _ => (hf e).v F) hs)) t_cell) (fun _ => rfl) rfl
        · exact .new (fun F => pe_imp (pe_lst (pa_vals (fun e _ => (hf e).v F) hs)) t_lst) (fun _ => rfl) ev_lst
      · exact .bad
    | Attribute o f pos =>
      show S4 X E O _ (if baseOk o then .prim (.attr f) [opd (compE k Γ) Γ o] else .bad)
      split
      · rename_i hb
        exact .plain (fun F => pe_imp (pe_fld (hfo o F) (base_ok hb)) t_attr) (fun _ => rfl) rfl
      · exact .bad
    | Subscript o i pos =>
      cases i with
      | Slice lo hi st p2 =>
        cases lo with
        | none =>
          cases hi with
          | none => cases st with
            | none => exact .plain (fun F => pe_imp (pe_slice sl_D (hfo o F) po_none po_none) t_sl00) (fun _ => rfl) rfl
            | some _ => exact .bad
          | some b => cases st with
            | none => exact .plain (fun F => pe_imp (pe_slice sl_D (hfo o F) po_none (po_some ((hf b).v F))) t_sl01) (fun _ => rfl) rfl
            | some _ => exact .bad
        | some a =>
          cases hi with
          | none => cases st with
            | none => exact .plain (fun F => pe_imp (pe_slice sl_D (hfo o F) (po_some ((hf a).v F)) po_none) t_sl10) (fun _ => rfl) rfl
            | some _ => exact .bad
          | some b => cases st with
            | none => exact .plain (fun F => pe_imp (pe_slice sl_D (hfo o F) (po_some ((hf a).v F)) (po_some ((hf b).v F))) t_sl11) (fun _ => rfl) rfl
            | some _ => exact .bad
      | _ => exact .plain (fun F => pe_imp (pe_ix (ix_D hu1) (hfo o F) (hfo _ F) (plain_ix fun _ _ _ _ z => by cases z)) t_bin) (fun _ => rfl) rfl
    | Call fn args kws pos => exact call_ok ok hf hfo (fun e => np k Γ e) fn args kws pos
    | ListComp elt gens scope pos =>
      show S4 X E O _ (match gens with
        | [⟨tg, it, ifs, 0⟩] => if blkC Γ.N Γ.sc scope (ownOf Γ.N scope) && decide (ifs.length ≤ 1) then
            (match compTg { Γ with sc := scope } 5 tg with
            | some t => if (slotsT t).all fun j => ((ownOf Γ.N scope).map (·.2)).contains j then
                .comp ((ownOf Γ.N scope).map (·.2)) t (compI (compE k Γ) (opd (compE k Γ) Γ) Γ (isTup tg) it) (ifs.map (compE k { Γ with sc := scope })) (compE k { Γ with sc := scope } elt)
              else .bad
            | none => .bad)
          else .bad
        | _ => .bad)
      split
      · rename_i tg it ifs
        split
        · rename_i hc
          rw [Bool.and_eq_true, decide_eq_true_eq] at hc
          split
          · rename_i t ht
            split
            · rename_i hall
              have bo0 := blkOk_by hc.1
              have bo : BlkOk X.N X.env.scope scope (ownOf Γ.N scope) := ⟨bo0.kind, bo0.uniq, by rw [ok.N]; exact bo0.ix, fun y hy e => ok.frees _ (bo0.free y hy e), by rw [ok.N]; exact bo0.own⟩
              refine .new (fun F => ?_) (fun _ => rfl) ev_comp
              have hts : ∀ j ∈ slotsT t, j ∈ (ownOf Γ.N scope).map (·.2) := fun j hj => by
                have := List.all_eq_true.mp hall j hj
                simpa using this
              have hnf : ∀ x, foldedSetIterable it X.env x = pure x ∨ (∃ a b c, it = .Set a b c) := fun x => by
                cases it <;> first | exact .inl rfl | exact .inr ⟨_, _, _, rfl⟩
              by_cases hset : ∃ a b c, it = .Set a b c
              · obtain ⟨a, b, c, rfl⟩ := hset
                exact ⟨fun pins s σ H Q I ⟨M, ι, ρ, S, R, kk⟩ => kk.elim⟩
              · refine pe_imp (pe_lc ok.calm ok.nd (pi_ok ok (fun e => (hf e).v F)) bo (fun s H C cl fp => pg_ex fun F' => tg_ok (ok.blk scope s H C cl fp) 5 tg t ht) (fun s H C cl fp => ?_) (fun s H C cl fp => ?_) (fun x => (hnf x).resolve_right hset)) (t_comp (E2 := E0) hts)
                · exact pts_D (X := X.blk s H scope (compEnvC scope cl C X.env) fp) (E := E0) (fun e => compE_ok k (ok.blk scope s H C cl fp) e) ifs hc.2
                · exact pe_ex fun F' => (compE_ok k (ok.blk scope s H C cl fp) elt).v F'
            · exact .bad
          · exact .bad
        · exact .bad
      · exact .bad
    | Dict keys values pos =>
      show S4 X E O _ (match keysS keys with
        | some ks => if decide (keys.length = values.length) && sizeOk keys.length then .dic (ks.map .str) (values.map (compE k Γ)) else .bad
        | none => .bad)
      split
      · rename_i ks hks
        split
        · rename_i hc
          rw [Bool.and_eq_true, decide_eq_true_eq] at hc
          exact .plain (fun F => dict_ok hf (keysS_ok hks) hc.1 hc.2 F) (fun _ => rfl) rfl
        · exact .bad
      · exact .bad
    | SetComp elt gens scope pos =>
      show S4 X E O _ (match gens with
        | [⟨tg, it, ifs, 0⟩] => if blkC Γ.N Γ.sc scope (ownOf Γ.N scope) && decide (ifs.length ≤ 1) then
            (match compTg { Γ with sc := scope } 5 tg with
            | some t => if (slotsT t).all fun j => ((ownOf Γ.N scope).map (·.2)).contains j then
                .scomp ((ownOf Γ.N scope).map (·.2)) t (compI (compE k Γ) (opd (compE k Γ) Γ) Γ (isTup tg) it) (ifs.map (compE k { Γ with sc := scope })) (compE k { Γ with sc := scope } elt)
              else .bad
            | none => .bad)
          else .bad
        | _ => .bad)
      split
      · rename_i tg it ifs
        split
        · rename_i hc
          rw [Bool.and_eq_true, decide_eq_true_eq] at hc
          split
          · rename_i t ht
            split
            · rename_i hall
              have bo0 := blkOk_by hc.1
              have bo : BlkOk X.N X.env.scope scope (ownOf Γ.N scope) := ⟨bo0.kind, bo0.uniq, by rw [ok.N]; exact bo0.ix, fun y hy e => ok.frees _ (bo0.free y hy e), by rw [ok.N]; exact bo0.own⟩
              refine .plain (fun F => ?_) (fun _ => rfl) rfl
              have hts : ∀ j ∈ slotsT t, j ∈ (ownOf Γ.N scope).map (·.2) := fun j hj => by
                have := List.all_eq_true.mp hall j hj
                simpa using this
              have hnf : ∀ x, foldedSetIterable it X.env x = pure x ∨ (∃ a b c, it = .Set a b c) := fun x => by
                cases it <;> first | exact .inl rfl | exact .inr ⟨_, _, _, rfl⟩
              by_cases hset : ∃ a b c, it = .Set a b c
              · obtain ⟨a, b, c, rfl⟩ := hset
                exact ⟨fun pins s σ H Q I ⟨M, ι, ρ, S, R, kk⟩ => kk.elim⟩
              · refine pe_imp (pe_setc ok.calm ok.nd (pi_ok ok (fun e => (hf e).v F)) bo (fun s H C cl fp => pg_ex fun F' => tg_ok (ok.blk scope s H C cl fp) 5 tg t ht) (fun s H C cl fp => ?_) (fun s H C cl fp => ?_) (fun x => (hnf x).resolve_right hset)) (t_scomp (E2 := E0) hts)
                · exact pts_D (X := X.blk s H scope (compEnvC scope cl C X.env) fp) (E := E0) (fun e => compE_ok k (ok.blk scope s H C cl fp) e) ifs hc.2
                · exact pe_ex fun F' => (compE_ok k (ok.blk scope s H C cl fp) elt).v F'
            · exact .bad
          · exact .bad
        · exact .bad
      · exact .bad
    | _ => exact .bad
end
end R
end
section
set_option Elab.async false
set_option linter.all false
set_option maxRecDepth 100000
set_option maxHeartbeats 4000000
namespace R
open PySem PySem.Spec PyProof.Rows L2
section
variable {K : PySem.W.Frag} {w : World} {F : Entry} {E : XK} {M M' : Addr → Prop} {ι ι' : List Addr} {ρ : Env} {S : Sto} {σ : L2.St} {H H' : Hp}
/-- a pending list is stored, and is its slot's own -/
theorem Rel.setO {i : Nat} {ds : List D} {xs : List V} {a : Addr} (R : Rel K w F M ι ρ S σ H) (hi : i < ρ.length) (no : noOwn ρ [i] = true) (ow : Own F ι M a) (ns : ∀ (i : Nat) sv, ρ[i]? = some (some sv) → sv.isOwn = true → σ[i]? ≠ some (some (.ref a)))
    (ha : H a = some (.lst xs)) (r : Reps K w ι M H ds xs) : Rel K w F M ι (ρ.set i (some (.ol ds))) S (σ.set i (some (.ref a))) H := by
  have il : i < σ.length := by rw [← R.len]; exact hi
  refine ⟨R.toRelG, by rw [List.length_set, List.length_set]; exact R.len, fun j sv e => ?_, fun j k sv sv' e o e' o' q => ?_⟩
  · by_cases c : i = j
    · subst c
      rw [List.getElem?_set_self hi] at e
      cases e
      exact ⟨.ref a, List.getElem?_set_self il, a, xs, rfl, ow, ha, r⟩
    · rw [List.getElem?_set_ne c] at e
      obtain ⟨v', q1, q2⟩ := R.slot j sv e
      exact ⟨v', by rw [List.getElem?_set_ne c]; exact q1, q2⟩
  · by_cases c : i = j
    · by_cases c2 : i = k
      · exact c.symm.trans c2
      · subst c
        rw [List.getElem?_set_self il, List.getElem?_set_ne c2] at q
        rw [List.getElem?_set_ne c2] at e'
        exact absurd q.symm (ns k sv' e' o')
    · rw [List.getElem?_set_ne c] at e
      by_cases c2 : i = k
      · subst c2
        rw [List.getElem?_set_self il, List.getElem?_set_ne c] at q
        exact absurd q (ns j sv e o)
      · rw [List.getElem?_set_ne c2] at e'
        rw [List.getElem?_set_ne c, List.getElem?_set_ne c2] at q
        exact R.own j k sv sv' e o e' o' q
theorem ns_setV {i : Nat} {sv0 : SV} {v : V} {a : Addr} (hi : i < ρ.length) (hl : ρ.length = σ.length) (ns : ∀ (i : Nat) sv, ρ[i]? = some (some sv) → sv.isOwn = true → σ[i]? ≠ some (some (.ref a))) (hv : sv0.isOwn = true → v ≠ .ref a) :
    ∀ (j : Nat) sv, (ρ.set i (some sv0))[j]? = some (some sv) → sv.isOwn = true → (σ.set i (some v))[j]? ≠ some (some (.ref a)) := fun j sv e o z => by
  by_cases c : i = j
  · subst c
    rw [List.getElem?_set_self hi] at e
    cases e
    rw [List.getElem?_set_self (by rw [← hl]; exact hi)] at z
    injection z with z
    injection z with z
    exact hv o z
  · rw [List.getElem?_set_ne c] at e z
    exact ns j sv e o z
/-- an instance of one's own is changed -/
theorem putD_put : ∀ {fs : List Str} {vs : List D} {fv : List (Str × V)} {f : Str} {d : D} {v : V}, fv.map (·.1) = fs → Reps K w ι M H vs (fv.map (·.2)) → Rep K w ι M H d v → (putF f v fv).map (·.1) = (putD f d fs vs).1 ∧ Reps K w ι M H (putD f d fs vs).2 ((putF f v fv).map (·.2)) ∧ ∀ g ∈ (putD f d fs vs).1, g = f ∨ g ∈ fs
  | [], vs, fv, f, d, v, e, r, h => by
    cases fv with
    | nil =>
      have ev : vs = [] := by cases vs with
        | nil => rfl
        | cons _ _ => obtain ⟨x, q, e, _⟩ := r.cons_inv; cases e
      subst ev
      exact ⟨rfl, .cons h .nil, fun g hg => .inl (by simpa [putD] using hg)⟩
    | cons _ _ => cases e
  | g :: fs, vs, fv, f, d, v, e, r, h => by
    cases fv with
    | nil => cases e
    | cons p fv =>
      obtain ⟨p1, p2⟩ := p
      rw [List.map_cons] at e
      injection e with e1 e2
      simp only at e1
      subst e1
      cases vs with
      | nil => exact absurd (Reps.nil_inv r) (fun z => by cases z)
      | cons y vs =>
        obtain ⟨x, q, ex, r1, r2⟩ := r.cons_inv
        cases ex
        by_cases c : p1 = f
        · subst c
          have e1 : putD p1 d (p1 :: fs) (y :: vs) = (p1 :: fs, d :: vs) := by simp [putD]
          have e2' : putF p1 v ((p1, p2) :: fv) = (p1, v) :: fv := by simp [putF]
          rw [e1, e2']
          exact ⟨by simp [e2], .cons h r2, fun g hg => .inr hg⟩
        · obtain ⟨i1, i2, i3⟩ := putD_put (f := f) e2 r2 h
          have e1 : putD f d (p1 :: fs) (y :: vs) = (p1 :: (putD f d fs vs).1, y :: (putD f d fs vs).2) := by simp [putD, c]
          have e2' : putF f v ((p1, p2) :: fv) = (p1, p2) :: putF f v fv := by simp [putF, c]
          rw [e1, e2']
          refine ⟨by simp [i1], .cons r1 i2, fun g hg => ?_⟩
          rcases List.mem_cons.mp hg with rfl | hg
          · exact .inr List.mem_cons_self
          · exact (i3 g hg).imp id (List.mem_cons_of_mem _)
theorem putD_len (f : Str) (d : D) : ∀ (fs : List Str) (vs : List D), (putD f d fs vs).1.length ≤ fs.length + 1
  | [], _ => by simp [putD]
  | g :: fs, [] => by simp [putD]
  | g :: fs, y :: vs => by
    by_cases c : g = f
    · simp [putD, c]
    · have := putD_len f d fs vs
      simp [putD, c]; exact this
theorem Rel.setObj {i : Nat} {c : Str} {fs gs : List Str} {vs ws : List D} {a C dx : Addr} {fv fw : List (Str × V)} (R : Rel K w F M ι ρ S σ H) (hi : ρ[i]? = some (some (.oo c fs vs))) (hs : σ[i]? = some (some (.ref a))) (ha : H a = some (.ins C dx fv)) (hg : IsGl K c C) (hc : (ClsOk K C ∧ ∀ f ∈ gs, NoAttr K C f) ∧ F.sf a)
    (e1 : fw.map (·.1) = gs) (r : Reps K w ι M H ws (fw.map (·.2))) : Rel K w F M ι (ρ.set i (some (.oo c gs ws))) S σ (upd H a (.ins C dx fw)) := by
  obtain ⟨v, q1, q2⟩ := R.slot i _ hi
  rw [hs] at q1; cases q1
  obtain ⟨b, eb, ow, hb⟩ := q2.own_at rfl
  cases eb
  have g : Grow M H M (upd H a (.ins C dx fw)) := grow_upd ow.1
  have hil : i < ρ.length := (List.getElem?_eq_some_iff.mp hi).1
  refine ⟨⟨fun b h => ?_, R.sub, R.nd, R.pre, R.newι, fun b u e x => ?_, fun b x => ?_, R.lenS, fun l c b h1 h2 => ?_⟩, by rw [List.length_set]; exact R.len, fun j sv e => ?_, fun j k sv sv' e o e' o' q => ?_⟩
  · by_cases c : b = a
    · rw [c, upd_same]; exact fun z => by cases z
    · rw [upd_ne c]; exact R.hot b h
  · obtain ⟨h1, h2⟩ := R.frame b u e x
    have ne : b ≠ a := fun z => by
      subst z
      rcases ow.2.2 with q | q
      · rw [e] at q; cases q
      · exact x q
    exact ⟨by rw [upd_ne ne]; exact h1, h2⟩
  · by_cases c : b = a
    · rw [c, upd_same]; exact fun z => by cases z
    · rw [upd_ne c]; exact R.exH b x
  · have ne : b ≠ a := fun z => ow.2.1 (z ▸ List.mem_of_getElem? h2)
    exact (R.cell l c b h1 h2).grow g (List.prefix_refl _) fun o e => by rw [upd_ne ne]; exact e
  · by_cases cc : i = j
    · subst cc
      rw [List.getElem?_set_self hil] at e
      cases e
      exact ⟨_, hs, a, C, dx, fw, rfl, ow, upd_same, hg, hc, e1, Reps.grow g (List.prefix_refl _) _ _ r⟩
    · rw [List.getElem?_set_ne cc] at e
      obtain ⟨v, q1, q2⟩ := R.slot j sv e
      refine ⟨v, q1, q2.grow g (List.prefix_refl _) fun b eb ob => ?_⟩
      subst eb
      obtain ⟨d, ed, od, _⟩ := q2.own_at ob
      cases ed
      have ne : b ≠ a := fun z => cc (R.own i j _ _ hi rfl e ob (by rw [hs, q1, z]))
      exact ⟨fun o e => by rw [upd_ne ne]; exact e, od.1, od.2.1⟩
  · have key : ∀ (j : Nat) (sv : SV), (ρ.set i (some (SV.oo c gs ws)))[j]? = some (some sv) → sv.isOwn = true → ∃ sv0, ρ[j]? = some (some sv0) ∧ sv0.isOwn = true := fun j sv e o => by
      by_cases cc : i = j
      · subst cc; exact ⟨_, hi, rfl⟩
      · rw [List.getElem?_set_ne cc] at e; exact ⟨sv, e, o⟩
    obtain ⟨s1, e1, o1⟩ := key j sv e o
    obtain ⟨s2, e2, o2⟩ := key k sv' e' o'
    exact R.own j k s1 s2 e1 o1 e2 o2 q
end
section
variable (K : PySem.W.Frag) (w : World) (F : Entry) (E : XK) (Dn : Ends)
def Flw.at (M : Addr → Prop) (ι : List Addr) (σ : L2.St) (H : Hp) (f : Flw) : Prop := match f with
    | .nx => Dn.nx σ H
    | .brk => Dn.bk σ H
    | .ct => Dn.ct σ H
    | .ret d => ∀ v, Rep K w ι M H d v → Dn.rt v H
/-- what is asked behind a statement -/
def Ks (M : Addr → Prop) (ι : List Addr) (H : Hp) (r : Res Flw) : Prop := match r with
  | .ok f ρ' S' => ∀ M' ι' σ' H', Rel K w F M' ι' ρ' S' σ' H' → Grow M H M' H' → ι <+: ι' → Flw.at K w Dn M' ι' σ' H' f
  | .exc x ρ' S' => ∀ M' ι' σ' H' cls d, Rel K w F M' ι' ρ' S' σ' H' → Grow M H M' H' → ι <+: ι' → ExRep K w ι' M' H' x cls d → E cls d H'
  | .no => False
end
section
variable {K : PySem.W.Frag} {w : World} {F : Entry} {E : XK} {Dn : Ends} {σ : L2.St} {M M' : Addr → Prop} {ι ι' : List Addr} {ρ : Env} {S : Sto} {H H' : Hp}
theorem Ks.later {r : Res Flw} (g : Grow M H M' H') (hp : ι <+: ι') (h : Ks K w F E Dn M ι H r) : Ks K w F E Dn M' ι' H' r := by
  cases r with
  | ok a ρ S => exact fun M2 ι2 σ2 H2 R g2 hp2 => h M2 ι2 σ2 H2 R (g.trans g2) (hp.trans hp2)
  | exc x ρ S => exact fun M2 ι2 σ2 H2 cls d R g2 hp2 => h M2 ι2 σ2 H2 cls d R (g.trans g2) (hp.trans hp2)
  | no => exact h
/-- an expression, then a statement's end -/
theorem Ks.bindE {α : Type} {r : Res α} {f : α → Env → Sto → Res Flw} (h : Ks K w F E Dn M ι H (r.bind f)) : Kx K w F E σ M ι H r fun a ρ' S' M' ι' H' => Ks K w F E Dn M' ι' H' (f a ρ' S') := by
  cases r with
  | ok a ρ S => exact fun M2 ι2 H2 R g2 hp2 => Ks.later g2 hp2 h
  | exc x ρ S => exact fun M2 ι2 H2 cls d R g2 hp2 => h M2 ι2 σ H2 cls d R g2 hp2
  | no => exact h
theorem Ks.ok {f : Flw} (R : Rel K w F M ι ρ S σ H) (h : Ks K w F E Dn M ι H (.ok f ρ S)) : Flw.at K w Dn M ι σ H f := h M ι σ H R Grow.refl (List.prefix_refl _)
end
section
variable (X : Cx) (F : Entry) (E : XK) (O : Orc) (L : Nat) (Fl : Str → Str → Bool)
def tS (c : CS) : TS := fun D σ H => ∃ M ι ρ S, Rel X.K X.w F M ι ρ S σ H ∧ Ks X.K X.w F E D M ι H (evS O L Fl c ρ S)
def tB' (c : List CS) : TS := fun D σ H => ∃ M ι ρ S, Rel X.K X.w F M ι ρ S σ H ∧ Ks X.K X.w F E D M ι H (evB O L Fl c ρ S)
end
theorem ps_imp {X : Cx} {s : Stmt} {t t' : TS} (h : PS X s t) (i : ∀ D σ H, t' D σ H → t D σ H) : PS X s t' := ⟨fun pins s σ H D I q => h.run pins s σ H D I (i D σ H q)⟩
theorem pss_imp {X : Cx} {s : List Stmt} {t t' : TS} (h : PSs X s t) (i : ∀ D σ H, t' D σ H → t D σ H) : PSs X s t' := ⟨fun pins s σ H D I q => h.run pins s σ H D I (i D σ H q)⟩
section
variable {X : Cx} {F : Entry} {E : XK} {O : Orc} {L : Nat} {Fl : Str → Str → Bool} {c : CE}
theorem s_next {k : CS} (hk : ∀ ρ S, evS O L Fl k ρ S = .ok .nx ρ S) : ∀ D σ H, tS X F E O L Fl k D σ H → tNext D σ H := by
  intro D σ H ⟨M, ι, ρ, S, R, q⟩
  rw [hk] at q
  exact Ks.ok R q
theorem s_brk : ∀ D σ H, tS X F E O L Fl .brk D σ H → tBreak D σ H := by
  intro D σ H ⟨M, ι, ρ, S, R, q⟩
  exact Ks.ok R q
theorem s_cont : ∀ D σ H, tS X F E O L Fl .cont D σ H → tCont D σ H := by
  intro D σ H ⟨M, ι, ρ, S, R, q⟩
  exact Ks.ok R q
theorem s_retN : ∀ D σ H, tS X F E O L Fl .retN D σ H → tRetN D σ H := by
  intro D σ H ⟨M, ι, ρ, S, R, q⟩
  exact Ks.ok R q .non rfl
theorem s_ret : ∀ D σ H, tS X F E O L Fl (.ret c) D σ H → tRet (tE X F E O c) D σ H := by
  intro D σ H ⟨M, ι, ρ, S, R, q⟩
  exact ⟨M, ι, ρ, S, R, (Ks.bindE q).imp fun d ρ1 S1 M1 ι1 H1 R1 g1 p1 q1 v hv => Ks.ok R1 q1 v hv⟩
theorem s_expr : ∀ D σ H, tS X F E O L Fl (.expr c) D σ H → tDrop (tE X F E O c) D σ H := by
  intro D σ H ⟨M, ι, ρ, S, R, q⟩
  exact ⟨M, ι, ρ, S, R, (Ks.bindE q).imp fun d ρ1 S1 M1 ι1 H1 R1 g1 p1 q1 v hv => Ks.ok R1 q1⟩
theorem s_if {a b : List CS} : ∀ D σ H, tS X F E O L Fl (.ite c a b) D σ H → tIfS (tT X F E O c) (tB' X F E O L Fl a) (tB' X F E O L Fl b) D σ H := by
  intro D σ H ⟨M, ι, ρ, S, R, q⟩
  refine ⟨M, ι, ρ, S, R, (Ks.bindE q).imp fun d ρ1 S1 M1 ι1 H1 R1 g1 p1 q1 => ?_⟩
  cases e : tru d with
  | none => rw [e] at q1; exact q1.elim
  | some t =>
    rw [e] at q1
    refine ⟨t, rfl, ?_⟩
    cases t with
    | true => exact ⟨M1, ι1, ρ1, S1, R1, q1⟩
    | false => exact ⟨M1, ι1, ρ1, S1, R1, q1⟩
theorem s_asg {t : Tg} : ∀ D σ H, tS X F E O L Fl (.asg t c) D σ H → tAsg (tE X F E O c) (gT X F t) D σ H := by
  intro D σ H ⟨M, ι, ρ, S, R, q⟩
  refine ⟨M, ι, ρ, S, R, (Ks.bindE q).imp fun d ρ1 S1 M1 ι1 H1 R1 g1 p1 q1 v hv => ?_⟩
  cases e : bindT t d ρ1 with
  | none => rw [e] at q1; exact q1.elim
  | some ρ2 =>
    rw [e] at q1
    exact ⟨M1, ι1, ρ1, S1, d, ρ2, R1, hv, e, fun σ' R2 _ _ => Ks.ok R2 q1⟩
theorem s_asgO {i : Nat} : ∀ D σ H, tS X F E O L Fl (.asgO i c) D σ H → (∀ ρ S d ρ' S', evE O c ρ S = .ok d ρ' S' → ∃ ds, d = .lst ds) → tAsg (tP X F E O c) (gName i) D σ H := by
  intro D σ H ⟨M, ι, ρ, S, R, q⟩ hl
  refine ⟨M, ι, ρ, S, R, (Ks.bindE q).imp' fun d ρ1 S1 M1 ι1 H1 er R1 g1 p1 q1 => ?_⟩
  obtain ⟨ds, rfl⟩ := hl _ _ _ _ _ er
  refine ⟨ds, rfl, fun p xs hp r ow ns nf => ?_⟩
  replace q1 : Ks X.K X.w F E D M1 ι1 H1 (if freeAt ρ1 i then .ok .nx (ρ1.set i (some (.ol ds))) S1 else .no) := q1
  split at q1
  · rename_i hf
    unfold freeAt at hf
    rw [Bool.and_eq_true, decide_eq_true_eq] at hf
    exact Ks.ok (R1.setO hf.1 hf.2 ow ns hp r) q1
  · exact q1.elim
theorem s_fld {i : Nat} {f : Str} (hF : ∀ c f C, Fl c f = true → IsGl X.K c C → NoAttr X.K C f) : ∀ D σ H, tS X F E O L Fl (.fld (.peek i) f c) D σ H → sFld X.K (tVar i) (tE X F E O c) f D σ H := by
  intro D σ H ⟨M, ι, ρ, S, R, q⟩
  replace q : Ks X.K X.w F E D M ι H ((evE O c ρ S).bind fun d ρ S => match ρ[i]? with
      | some (some (.oo c fs vs)) => if fs.length < 900 && Fl c f then .ok .nx (ρ.set i (some (.oo c (putD f d fs vs).1 (putD f d fs vs).2))) S else .no
      | _ => .no) := q
  refine ⟨M, ι, ρ, S, R, (Ks.bindE q).imp fun d ρ1 S1 M1 ι1 H1 R1 g1 p1 q1 v hv => ?_⟩
  split at q1
  · rename_i cn fs vs hs
    split at q1
    · rename_i hc
      rw [Bool.and_eq_true, decide_eq_true_eq] at hc
      obtain ⟨x, s1, a, C, dx, fv, rfl, ow, ha, h1, h2, h3, h4⟩ := R1.slot i _ hs
      have na := hF cn f C hc.2 h1
      obtain ⟨e1, e2, e3⟩ := putD_put (f := f) h3 h4 hv
      refine ⟨.ref a, s1, a, C, dx, fv, rfl, ha, h2.1.1.cl, na, ?_, ?_⟩
      · have : fv.length = fs.length := by rw [← h3, List.length_map]
        omega
      · have R2 := R1.setObj (gs := (putD f d fs vs).1) (ws := (putD f d fs vs).2) (fw := putF f v fv) hs s1 ha h1 ⟨⟨h2.1.1, fun g hg => by
          rcases e3 g hg with rfl | hg
          · exact na
          · exact h2.1.2 g hg⟩, h2.2⟩ e1 e2
        exact q1 _ _ _ _ R2 (grow_upd ow.1) (List.prefix_refl _)
    · exact q1.elim
  · exact q1.elim
theorem s_put {o i : CE} : ∀ D σ H, tS X F E O L Fl (.put o i c) D σ H → tAsg (tE X F E O c) (gSub (tO X F E O o) (tE X F E O i) (setD X.K X.w)) D σ H := by
  intro D σ H ⟨M, ι, ρ, S, R, q⟩
  refine ⟨M, ι, ρ, S, R, (Ks.bindE q).imp fun d ρ1 S1 M1 ι1 H1 R1 g1 p1 q1 v hv => ?_⟩
  refine ⟨M1, ι1, ρ1, S1, R1, (Ks.bindE q1).imp fun av ρ2 S2 M2 ι2 H2 R2 g2 p2 q2 x hx => ?_⟩
  refine ⟨M2, ι2, ρ2, S2, R2, (Ks.bindE q2).imp fun k ρ3 S3 M3 ι3 H3 R3 g3 p3 q3 y hy => ?_⟩
  have k3 := Ks.bindE (σ := σ) q3
  obtain ⟨ι4, M4, a, xs, ds, es, d', ys, rfl, ha, rx, re, em, qq⟩ := change_run (Q := fun v H' => D.nx σ H') R3 (hx.grow g3 p3) (.cons hy (.cons (Rep.grow (g2.trans g3) (p2.trans p3) _ _ hv) .nil)) (k3.imp fun dd ρ5 S5 M5 ι5 H5 R5 g5 p5 q5 vv hvv => Ks.ok R5 q5)
  have hd' : d' = .non := by
    replace em : putM ds es = some (d', ys) := em
    unfold putM at em
    split at em
    · split at em
      · cases em; rfl
      · cases em
    · cases em
  subst hd'
  exact ⟨ι4, M4, a, xs, ds, es, .non, ys, rfl, ha, rx, re, em, fun ws rw => qq .non ws rfl rw⟩
theorem b_nil : ∀ D σ H, tB' X F E O L Fl [] D σ H → tNext D σ H := by
  intro D σ H ⟨M, ι, ρ, S, R, q⟩
  exact Ks.ok R q
theorem b_cons {s : CS} {r : List CS} : ∀ D σ H, tB' X F E O L Fl (s :: r) D σ H → tSeq (tS X F E O L Fl s) (tB' X F E O L Fl r) D σ H := by
  intro D σ H ⟨M, ι, ρ, S, R, q⟩
  replace q : Ks X.K X.w F E D M ι H ((evS O L Fl s ρ S).bind fun f ρ S => match f with
    | .nx => evB O L Fl r ρ S
    | f => .ok f ρ S) := q
  refine ⟨M, ι, ρ, S, R, ?_⟩
  cases e : evS O L Fl s ρ S with
  | no => rw [e] at q; exact q
  | exc x r s => rw [e] at q; exact q
  | ok f ρ1 S1 =>
    rw [e] at q
    intro M1 ι1 σ1 H1 R1 g1 p1
    cases f with
    | nx => exact ⟨M1, ι1, ρ1, S1, R1, Ks.later g1 p1 q⟩
    | brk => exact q M1 ι1 σ1 H1 R1 g1 p1
    | ct => exact q M1 ι1 σ1 H1 R1 g1 p1
    | ret d => exact q M1 ι1 σ1 H1 R1 g1 p1
end
end R
end
section
set_option Elab.async false
set_option linter.all false
set_option maxRecDepth 100000
set_option maxHeartbeats 4000000
namespace R
open PySem PySem.Spec PyProof.Rows L2
section
variable {X : Cx} {F : Entry} {E : XK} {O : Orc} {L : Nat} {Fl : Str → Str → Bool} {c : CE}
theorem s_for {t : Tg} {ci : CI} {body : List CS} : ∀ D σ H, tS X F E O L Fl (.for_ t ci body) D σ H → tFor (tI X F E O ci) (gT X F t) (tB' X F E O L Fl body) D σ H := by
  intro Dn σ H ⟨M, ι, ρ, S, R, q⟩
  replace q : Ks X.K X.w F E Dn M ι H ((evI O ci ρ S).bind fun ds ρ S => loopS (fun d ρ S => match bindT t d ρ with
      | some ρ => evB O L Fl body ρ S
      | none => .no) ds ρ S) := q
  refine ⟨M, ι, ρ, S, R, (Ks.bindE q).imp fun ds ρ1 S1 M1 ι1 H1 R1 g1 p1 q1 J hJ => ?_⟩
  refine ⟨fun i m σ' H' => ∃ M2 ι2 ρ2 S2, m = ds.length - i ∧ i ≤ ds.length ∧ Rel X.K X.w F M2 ι2 ρ2 S2 σ' H' ∧ Grow M1 H1 M2 H' ∧ ι1 <+: ι2 ∧ Ks X.K X.w F E Dn M2 ι2 H' (loopS (fun d ρ S => match bindT t d ρ with
      | some ρ => evB O L Fl body ρ S
      | none => .no) (ds.drop i) ρ2 S2), ⟨_, M1, ι1, ρ1, S1, rfl, Nat.zero_le _, R1, Grow.refl, List.prefix_refl _, q1⟩, ?_⟩
  rintro i m σ' H' ⟨M2, ι2, ρ2, S2, rfl, hi, R2, g2, p2, q2⟩
  obtain ⟨hstop, hitem⟩ := hJ M2 ι2 H' R2.isHot g2 p2 i
  by_cases cc : i < ds.length
  · refine .inr ?_
    obtain ⟨go, yl⟩ := hitem ds[i] (List.getElem?_eq_getElem cc)
    refine ⟨go, fun σ' H' => ∃ M2 ι2 ρ2 S2, Rel X.K X.w F M2 ι2 ρ2 S2 σ' H' ∧ Grow M1 H1 M2 H' ∧ ι1 <+: ι2 ∧ Ks X.K X.w F E Dn M2 ι2 H' (loopS (fun d ρ S => match bindT t d ρ with
      | some ρ => evB O L Fl body ρ S
      | none => .no) (ds.drop (i + 1)) ρ2 S2), fun σ' H' ⟨M3, ι3, ρ3, S3, a1, a2, a3, a4⟩ => ⟨ds.length - (i + 1), by omega, M3, ι3, ρ3, S3, rfl, cc, a1, a2, a3, a4⟩, fun x H3 hy => ?_⟩
    obtain ⟨sm, rx⟩ := yl x H3 hy
    have R3 := R2.same sm
    have gs : Grow M2 H' M2 H3 := Grow.same sm
    rw [List.drop_eq_getElem_cons cc] at q2
    have q3 := Ks.later gs (List.prefix_refl ι2) q2
    replace q3 : Ks X.K X.w F E Dn M2 ι2 H3 ((match bindT t ds[i] ρ2 with
      | some ρ => evB O L Fl body ρ S2
      | none => .no).bind fun f ρ S => match f with
        | .nx => loopS (fun d ρ S => match bindT t d ρ with
      | some ρ => evB O L Fl body ρ S
      | none => .no) (ds.drop (i + 1)) ρ S
        | .ct => loopS (fun d ρ S => match bindT t d ρ with
      | some ρ => evB O L Fl body ρ S
      | none => .no) (ds.drop (i + 1)) ρ S
        | .brk => .ok .nx ρ S
        | .ret d => .ok (.ret d) ρ S) := q3
    cases eb : bindT t ds[i] ρ2 with
    | none => rw [eb] at q3; exact q3.elim
    | some ρ3 =>
      rw [eb] at q3
      refine ⟨M2, ι2, ρ2, S2, ds[i], ρ3, R3, rx, eb, fun σ4 R4 _ _ => ⟨M2, ι2, ρ3, S2, R4, ?_⟩⟩
      replace q3 : Ks X.K X.w F E Dn M2 ι2 H3 ((evB O L Fl body ρ3 S2).bind _) := q3
      cases ev : evB O L Fl body ρ3 S2 with
      | no => rw [ev] at q3; exact q3
      | exc x r s => rw [ev] at q3; exact q3
      | ok f ρ5 S5 =>
        rw [ev] at q3
        intro M5 ι5 σ5 H5 R5 g5 p5
        cases f with
        | nx => exact ⟨M5, ι5, ρ5, S5, R5, (g2.trans gs).trans g5, p2.trans p5, Ks.later g5 p5 q3⟩
        | ct => exact ⟨M5, ι5, ρ5, S5, R5, (g2.trans gs).trans g5, p2.trans p5, Ks.later g5 p5 q3⟩
        | brk => exact q3 M5 ι5 σ5 H5 R5 g5 p5
        | ret d => exact q3 M5 ι5 σ5 H5 R5 g5 p5
  · refine .inl ⟨hstop (by omega), ?_⟩
    rw [List.drop_eq_nil_of_le (by omega)] at q2
    exact Ks.ok R2 q2
theorem s_while {body : List CS} : ∀ D σ H, tS X F E O L Fl (.while_ c body) D σ H → tWhile (tT X F E O c) (tB' X F E O L Fl body) D σ H := by
  intro Dn σ H ⟨M, ι, ρ, S, R, q⟩
  replace q : Ks X.K X.w F E Dn M ι H (loopW (evE O c) (evB O L Fl body) L ρ S) := q
  refine ⟨fun m σ' H' => ∃ M2 ι2 ρ2 S2, Rel X.K X.w F M2 ι2 ρ2 S2 σ' H' ∧ Ks X.K X.w F E Dn M2 ι2 H' (loopW (evE O c) (evB O L Fl body) m ρ2 S2), ⟨L, M, ι, ρ, S, R, q⟩, ?_⟩
  rintro m σ' H' ⟨M2, ι2, ρ2, S2, R2, q2⟩
  cases m with
  | zero => exact q2.elim
  | succ m =>
    refine ⟨M2, ι2, ρ2, S2, R2, (Ks.bindE q2).imp fun d ρ3 S3 M3 ι3 H3 R3 g3 p3 q3 => ?_⟩
    cases et : tru d with
    | none => rw [et] at q3; exact q3.elim
    | some t =>
      rw [et] at q3
      refine ⟨t, rfl, ?_⟩
      cases t with
      | false => exact Ks.ok R3 q3
      | true =>
        refine ⟨fun σ' H' => ∃ M2 ι2 ρ2 S2, Rel X.K X.w F M2 ι2 ρ2 S2 σ' H' ∧ Ks X.K X.w F E Dn M2 ι2 H' (loopW (evE O c) (evB O L Fl body) m ρ2 S2), fun σ' H' z => ⟨m, Nat.lt_succ_self m, z⟩, M3, ι3, ρ3, S3, R3, ?_⟩
        replace q3 : Ks X.K X.w F E Dn M3 ι3 H3 ((evB O L Fl body ρ3 S3).bind fun f ρ S => match f with
          | .nx => loopW (evE O c) (evB O L Fl body) m ρ S
          | .ct => loopW (evE O c) (evB O L Fl body) m ρ S
          | .brk => .ok .nx ρ S
          | .ret d => .ok (.ret d) ρ S) := q3
        cases ev : evB O L Fl body ρ3 S3 with
        | no => rw [ev] at q3; exact q3
        | exc x r s => rw [ev] at q3; exact q3
        | ok f ρ5 S5 =>
          rw [ev] at q3
          intro M5 ι5 σ5 H5 R5 g5 p5
          cases f with
          | nx => exact ⟨M5, ι5, ρ5, S5, R5, Ks.later g5 p5 q3⟩
          | ct => exact ⟨M5, ι5, ρ5, S5, R5, Ks.later g5 p5 q3⟩
          | brk => exact q3 M5 ι5 σ5 H5 R5 g5 p5
          | ret d => exact q3 M5 ι5 σ5 H5 R5 g5 p5
def tXo (X : Cx) (E : XK) (O : Orc) (o : Bool) (c : CE) : TE := fun σ H Q => ∃ F, if o = true then tP X F E O c σ H Q else tE X F E O c σ H Q
theorem pe_xo {e : Expr} {o : Bool} (h1 : ∀ F, PE X e (tE X F E O c)) (h2 : o = true → ∀ F, PE X e (tP X F E O c)) : PE X e (tXo X E O o c) := ⟨fun pins s σ H Q I ⟨F, q⟩ => by
  cases o with
  | true => exact (h2 rfl F).run pins s σ H Q I q
  | false => exact (h1 F).run pins s σ H Q I q⟩
theorem freeAt_ok {ρ : Env} {i : Nat} (h : freeAt ρ i = true) : i < ρ.length ∧ noOwn ρ [i] = true := by
  unfold freeAt at h
  rw [Bool.and_eq_true, decide_eq_true_eq] at h
  exact h
/-- the store of two -/
theorem par_fin {Dn : Ends} {i j : Nat} {o1 o2 : Bool} {d1 d2 : D} {x y : V} {σ : L2.St} {M : Addr → Prop} {ι : List Addr} {ρ : Env} {S : Sto} {H : Hp} (R : Rel X.K X.w F M ι ρ S σ H)
    (h1 : if o1 = true then ∃ ds p xs, d1 = .lst ds ∧ x = .ref p ∧ H p = some (.lst xs) ∧ Reps X.K X.w ι M H ds xs ∧ Own F ι M p ∧ (∀ (i : Nat) sv, ρ[i]? = some (some sv) → sv.isOwn = true → σ[i]? ≠ some (some (.ref p))) else Rep X.K X.w ι M H d1 x)
    (h2 : if o2 = true then ∃ ds p xs, d2 = .lst ds ∧ y = .ref p ∧ H p = some (.lst xs) ∧ Reps X.K X.w ι M H ds xs ∧ Own F ι M p ∧ (∀ (i : Nat) sv, ρ[i]? = some (some sv) → sv.isOwn = true → σ[i]? ≠ some (some (.ref p))) else Rep X.K X.w ι M H d2 y)
    (hne : o1 = true → o2 = true → x ≠ y)
    (q : Ks X.K X.w F E Dn M ι H (match setPar [(i, o1), (j, o2)] [d1, d2] ρ with
      | some ρ => .ok .nx ρ S
      | none => .no)) : Dn.nx ((σ.set i (some x)).set j (some y)) H := by
  cases o1 with
  | false =>
    replace q : Ks X.K X.w F E Dn M ι H (match (if freeAt ρ i then setPar [(j, o2)] [d2] (ρ.set i (some (.v d1))) else none) with
      | some ρ => .ok .nx ρ S
      | none => .no) := q
    split at q
    · rename_i ρ3 e3
      split at e3
      · rename_i hf
        obtain ⟨f1, f2⟩ := freeAt_ok hf
        have R2 := R.setV f1 f2 (show Rep X.K X.w ι M H d1 x from h1)
        cases o2 with
        | false =>
          replace e3 : (if freeAt (ρ.set i (some (.v d1))) j then some ((ρ.set i (some (.v d1))).set j (some (.v d2))) else none) = some ρ3 := e3
          split at e3
          · rename_i hf2
            cases e3
            obtain ⟨f3, f4⟩ := freeAt_ok hf2
            exact Ks.ok (R2.setV f3 f4 (show Rep X.K X.w ι M H d2 y from h2)) q
          · cases e3
        | true =>
          obtain ⟨ds, p, xs, rfl, rfl, a1, a2, a3, a4⟩ := h2
          replace e3 : (if freeAt (ρ.set i (some (.v d1))) j then some ((ρ.set i (some (.v d1))).set j (some (.ol ds))) else none) = some ρ3 := e3
          split at e3
          · rename_i hf2
            cases e3
            obtain ⟨f3, f4⟩ := freeAt_ok hf2
            exact Ks.ok (R2.setO f3 f4 a3 (ns_setV f1 R.len a4 (fun z => by cases z)) a1 a2) q
          · cases e3
      · cases e3
    · exact q.elim
  | true =>
    obtain ⟨ds, p, xs, rfl, rfl, a1, a2, a3, a4⟩ := h1
    replace q : Ks X.K X.w F E Dn M ι H (match (if freeAt ρ i then setPar [(j, o2)] [d2] (ρ.set i (some (.ol ds))) else none) with
      | some ρ => .ok .nx ρ S
      | none => .no) := q
    split at q
    · rename_i ρ3 e3
      split at e3
      · rename_i hf
        obtain ⟨f1, f2⟩ := freeAt_ok hf
        have R2 := R.setO f1 f2 a3 a4 a1 a2
        cases o2 with
        | false =>
          replace e3 : (if freeAt (ρ.set i (some (.ol ds))) j then some ((ρ.set i (some (.ol ds))).set j (some (.v d2))) else none) = some ρ3 := e3
          split at e3
          · rename_i hf2
            cases e3
            obtain ⟨f3, f4⟩ := freeAt_ok hf2
            exact Ks.ok (R2.setV f3 f4 (show Rep X.K X.w ι M H d2 y from h2)) q
          · cases e3
        | true =>
          obtain ⟨ds2, p2, xs2, rfl, rfl, b1, b2, b3, b4⟩ := h2
          replace e3 : (if freeAt (ρ.set i (some (.ol ds))) j then some ((ρ.set i (some (.ol ds))).set j (some (.ol ds2))) else none) = some ρ3 := e3
          split at e3
          · rename_i hf2
            cases e3
            obtain ⟨f3, f4⟩ := freeAt_ok hf2
            exact Ks.ok (R2.setO f3 f4 b3 (ns_setV f1 R.len b4 (fun _ => hne rfl rfl)) b1 b2) q
          · cases e3
      · cases e3
    · exact q.elim
theorem s_par {i j : Nat} {o1 o2 : Bool} {a b : CE} (hl1 : o1 = true → ∀ ρ S d ρ' S', evE O a ρ S = .ok d ρ' S' → ∃ ds, d = .lst ds) (hl2 : o2 = true → ∀ ρ S d ρ' S', evE O b ρ S = .ok d ρ' S' → ∃ ds, d = .lst ds) :
    ∀ D σ H, tS X F E O L Fl (.par [(i, o1), (j, o2)] [a, b]) D σ H → tPar i j (tCons (tXo X E O o1 a) (tCons (tXo X E O o2 b) tNil)) D σ H := by
  intro Dn σ H ⟨M, ι, ρ, S, R, q⟩
  replace q : Ks X.K X.w F E Dn M ι H ((evE O a ρ S).bind fun d ρ S => ((evE O b ρ S).bind fun d2 ρ S => (Res.ok [d, d2] ρ S)).bind fun ds ρ S => match setPar [(i, o1), (j, o2)] ds ρ with
    | some ρ => .ok .nx ρ S
    | none => .no) := by
    have e : evS O L Fl (.par [(i, o1), (j, o2)] [a, b]) ρ S = ((evE O a ρ S).bind fun d ρ S => ((evE O b ρ S).bind fun d2 ρ S => (Res.ok [d, d2] ρ S)).bind fun ds ρ S => match setPar [(i, o1), (j, o2)] ds ρ with
      | some ρ => .ok .nx ρ S
      | none => .no) := by
      show ((evE O a ρ S).bind fun d ρ S => ((evE O b ρ S).bind fun d2 ρ S => (Res.ok [] ρ S).bind fun ds ρ S => .ok (d2 :: ds) ρ S).bind fun ds ρ S => .ok (d :: ds) ρ S).bind _ = _
      cases evE O a ρ S with
      | no => rfl
      | exc x r s => rfl
      | ok d r s =>
        show (((evE O b r s).bind fun d2 ρ S => (Res.ok [] ρ S).bind fun ds ρ S => .ok (d2 :: ds) ρ S).bind fun ds ρ S => .ok (d :: ds) ρ S).bind _ = ((evE O b r s).bind fun d2 ρ S => (Res.ok [d, d2] ρ S)).bind _
        cases evE O b r s <;> rfl
    rw [← e]
    exact q
  -- the second, where the first is given
  have second : ∀ (d1 : D) (x : V) (M1 : Addr → Prop) (ι1 : List Addr) (ρ1 : Env) (S1 : Sto) (H1 : Hp), Rel X.K X.w F M1 ι1 ρ1 S1 σ H1 →
      (if o1 = true then ∃ ds p xs, d1 = .lst ds ∧ x = .ref p ∧ H1 p = some (.lst xs) ∧ Reps X.K X.w ι1 M1 H1 ds xs ∧ Own F ι1 M1 p ∧ (∀ (i : Nat) sv, ρ1[i]? = some (some sv) → sv.isOwn = true → σ[i]? ≠ some (some (.ref p))) else Rep X.K X.w ι1 M1 H1 d1 x) →
      Ks X.K X.w F E Dn M1 ι1 H1 (((evE O b ρ1 S1).bind fun d2 ρ S => (Res.ok [d1, d2] ρ S)).bind fun ds ρ S => match setPar [(i, o1), (j, o2)] ds ρ with
        | some ρ => .ok .nx ρ S
        | none => .no) → tXo X E O o2 b σ H1 fun y H2 => ∃ v w, [x, y] = [v, w] ∧ Dn.nx ((σ.set i (some v)).set j (some w)) H2 := by
    intro d1 x M1 ι1 ρ1 S1 H1 R1 h1 q1
    rw [Res.bind_assoc] at q1
    have k1 := Ks.bindE (σ := σ) q1
    refine ⟨entr F M1 ι1 ρ1 σ H1, ?_⟩
    -- what is left of the first
    have left : ∀ (M2 : Addr → Prop) (ι2 : List Addr) (ρ2 : Env) (S2 : Sto) (H2 : Hp), Rel X.K X.w (entr F M1 ι1 ρ1 σ H1) M2 ι2 ρ2 S2 σ H2 → Grow M1 H1 M2 H2 → ι1 <+: ι2 →
        (if o1 = true then ∃ ds p xs, d1 = .lst ds ∧ x = .ref p ∧ H2 p = some (.lst xs) ∧ Reps X.K X.w ι2 M2 H2 ds xs ∧ Own F ι2 M2 p ∧ (∀ (i : Nat) sv, ρ2[i]? = some (some sv) → sv.isOwn = true → σ[i]? ≠ some (some (.ref p))) else Rep X.K X.w ι2 M2 H2 d1 x) := by
      intro M2 ι2 ρ2 S2 H2 R2 g2 p2
      cases o1 with
      | false => exact Rep.grow g2 p2 _ _ (show Rep X.K X.w ι1 M1 H1 d1 x from h1)
      | true =>
        obtain ⟨ds, p, xs, e1, e2, a1, a2, a3, a4⟩ := h1
        obtain ⟨b1, b2, b3⟩ := pend_turn R1 a3 a1 a4 R2
        exact ⟨ds, p, xs, e1, e2, b1, Reps.grow g2 p2 _ _ a2, b2, b3⟩
    have nex : ∀ p2, o1 = true → H1 p2 = none → x ≠ .ref p2 := fun p2 ho hn z => by
      subst ho
      obtain ⟨ds, p, xs, e1, e2, a1, a2, a3, a4⟩ := h1
      rw [e2] at z
      injection z with z
      rw [z, hn] at a1
      cases a1
    cases o2 with
    | false =>
      show tE X (entr F M1 ι1 ρ1 σ H1) E O b σ H1 _
      refine ⟨M1, ι1, ρ1, S1, R1.enter, ?_⟩
      cases er : evE O b ρ1 S1 with
      | no => rw [er] at k1; exact k1
      | exc y r s => rw [er] at k1; exact fun M2 ι2 H2 cls d R2 g2 p2 => k1 M2 ι2 H2 cls d (Rel.back R1 R2) g2 p2
      | ok d2 r s =>
        rw [er] at k1
        intro M2 ι2 H2 R2 g2 p2 v hv
        exact ⟨x, v, rfl, par_fin (Rel.back R1 R2) (left M2 ι2 r s H2 R2 g2 p2) (show (if false = true then _ else Rep X.K X.w ι2 M2 H2 d2 v) from hv) (fun _ z => by cases z) (k1 M2 ι2 H2 (Rel.back R1 R2) g2 p2)⟩
    | true =>
      rw [if_pos rfl]
      refine ⟨M1, ι1, ρ1, S1, R1.enter, ?_⟩
      cases er : evE O b ρ1 S1 with
      | no => rw [er] at k1; exact k1
      | exc y r s => rw [er] at k1; exact fun M2 ι2 H2 cls d R2 g2 p2 => k1 M2 ι2 H2 cls d (Rel.back R1 R2) g2 p2
      | ok d2 r s =>
        rw [er] at k1
        obtain ⟨ds2, rfl⟩ := hl2 rfl _ _ _ _ _ er
        intro M2 ι2 H2 R2 g2 p2
        refine ⟨ds2, rfl, fun p xs hp rr ow ns nf => ?_⟩
        have nf1 : H1 p = none := nf
        have owF : Own F ι2 M2 p := ⟨ow.1, ow.2.1, .inl (Rel.fresh R1.toRelG nf1).1⟩
        exact ⟨x, .ref p, rfl, par_fin (Rel.back R1 R2) (left M2 ι2 r s H2 R2 g2 p2) (show (if true = true then ∃ ds p_1 xs, D.lst ds2 = .lst ds ∧ V.ref p = .ref p_1 ∧ _ else _) from ⟨ds2, p, xs, rfl, rfl, hp, rr, owF, ns⟩) (fun ho _ => nex p ho nf1) (k1 M2 ι2 H2 (Rel.back R1 R2) g2 p2)⟩
  have k := Ks.bindE (σ := σ) q
  refine ⟨F, ?_⟩
  cases o1 with
  | false =>
    show tE X F E O a σ H _
    exact ⟨M, ι, ρ, S, R, k.imp fun d1 ρ1 S1 M1 ι1 H1 R1 g1 p1 k1 v hv => second d1 v M1 ι1 ρ1 S1 H1 R1 hv k1⟩
  | true =>
    rw [if_pos rfl]
    refine ⟨M, ι, ρ, S, R, k.imp' fun d1 ρ1 S1 M1 ι1 H1 er R1 g1 p1 k1 => ?_⟩
    obtain ⟨ds, rfl⟩ := hl1 rfl _ _ _ _ _ er
    exact ⟨ds, rfl, fun p xs hp r ow ns nf => second (.lst ds) (.ref p) M1 ι1 ρ1 S1 H1 R1 ⟨ds, p, xs, rfl, rfl, hp, r, ow, ns⟩ k1⟩
end
end R
end
section
set_option Elab.async false
set_option linter.all false
set_option maxRecDepth 100000
set_option maxHeartbeats 4000000
namespace R
open PySem PySem.Spec PyProof.Rows L2
def isCompE : Expr → Bool
  | .ListComp _ _ _ _ => true
  | .SetComp _ _ _ _ => true
  | .DictComp _ _ _ _ _ => true
  | _ => false
def isSetE : Expr → Bool
  | .Set _ _ _ => true
  | _ => false
def isSetC : Expr → Bool
  | .SetComp _ _ _ _ => true
  | _ => false
def kE : Nat := 40
def compPar (Γ : Gm) (ts es : List Expr) (k2 : Nat) (pt2 : Pos) (tgE : Expr) : CS := match ts, es with
  | [.Name x px, .Name y py], [a, b] =>
    if locB Γ x && locB Γ y && decide (x ≠ y) && decide (py.line = px.line) && noStar [a, b] then
      (match findIx x Γ.N 0, findIx y Γ.N 0 with
      | some i, some j =>
        if decide (i = j) then .bad else
        if [a, b].all (foldedForSure 8) then .asg (.tup [.nm i, .nm j]) (compE kE Γ (.Tuple [a, b] k2 pt2))
        else if [a, b].all (constantsAlone 8) then .bad
        else if (!Γ.owns.contains (px.line, px.col) || freshC (compE kE Γ a)) && (!Γ.owns.contains (py.line, py.col) || freshC (compE kE Γ b)) then
          .par [(i, Γ.owns.contains (px.line, px.col)), (j, Γ.owns.contains (py.line, py.col))] [compE kE Γ a, compE kE Γ b]
        else .bad
      | _, _ => .bad)
    else .bad
  | _, _ => .bad
def compS : Nat → Gm → Stmt → CS
  | 0, _, _ => .bad
  | n + 1, Γ, st => match st with
    | .Pass _ => .pass
    | .Break _ => .brk
    | .Continue _ => .cont
    | .Return none _ => .retN
    | .Return (some e) _ => .ret (compE kE Γ e)
    | .Expr e _ => (match e with
      | .Constant (.str _) _ _ => .pass
      | e => if isCompE e then .bad else .expr (compE kE Γ e))
    | .If c a b _ => .ite (compE kE Γ c) (a.map (compS n Γ)) (b.map (compS n Γ))
    | .While c b [] _ => .while_ (compE kE Γ c) (b.map (compS n Γ))
    | .For tg it b [] _ => (match compTg Γ 5 tg with
      | some t => if isSetE it then .bad else .for_ t (compI (compE kE Γ) (opd (compE kE Γ) Γ) Γ (isTup tg) it) (b.map (compS n Γ))
      | none => .bad)
    | .Assign [tg] e _ => (match tg with
      | .Name x p => if locB Γ x && !isSetC e then (match findIx x Γ.N 0 with
        | some i => if Γ.owns.contains (p.line, p.col) then (if freshC (compE kE Γ e) then .asgO i (compE kE Γ e) else .bad) else .asg (.nm i) (compE kE Γ e)
        | none => .bad) else .bad
      | .Tuple ts _ _ => (match e with
        | .Tuple es k2 pt2 => compPar Γ ts es k2 pt2 tg
        | e => (match compTg Γ 5 tg with
          | some t => .asg t (compE kE Γ e)
          | none => .bad))
      | .Subscript o i _ => (match i with
        | .Slice _ _ _ _ => .bad
        | i => .put (opd (compE kE Γ) Γ o) (compE kE Γ i) (compE kE Γ e))
      | .Attribute o f _ => (match opd (compE kE Γ) Γ o with
        | .peek i => if isCompE e then .bad else .fld (.peek i) f (compE kE Γ e)
        | _ => .bad)
      | _ => .bad)
    | _ => .bad
section
variable {X : Cx} {E : XK} {O : Orc} {n : Nat} {CX : CXT} {Γ : Gm} {F : Entry} {L : Nat} {Fl : Str → Str → Bool}
/-- the pieces of a list comprehension -/
structure LcP (X : Cx) (E : XK) (O : Orc) (elt : Expr) (gens : List Comprehension) (scope : Scope) (c : CE) : Prop where
  ex : ∃ (tg it : Expr) (ifs : List Expr) (own : List (Str × Nat)) (t : Tg) (ci : CI) (cifs : List CE) (celt : CE), gens = [⟨tg, it, ifs, 0⟩] ∧ c = .comp (own.map (·.2)) t ci cifs celt ∧ (∀ j ∈ slotsT t, j ∈ own.map (·.2)) ∧ BlkOk X.N X.env.scope scope own ∧
    (∀ x, foldedSetIterable it X.env x = pure x) ∧ (∀ F, PI X tg it (tI X F E O ci)) ∧ (∀ (s : Shared) (H : Hp) (C : Addr) (cl : List (Str × Addr)) (fp : List Addr), PG (X.blk s H scope (compEnvC scope cl C X.env) fp) tg (gTX X t)) ∧
    (∀ (s : Shared) (H : Hp) (C : Addr) (cl : List (Str × Addr)) (fp : List Addr), PTs (X.blk s H scope (compEnvC scope cl C X.env) fp) ifs (tIfsX X E0 O cifs)) ∧
    (∀ (s : Shared) (H : Hp) (C : Addr) (cl : List (Str × Addr)) (fp : List Addr), PE (X.blk s H scope (compEnvC scope cl C X.env) fp) elt (tEX X E0 O celt))
theorem lc_pieces (ok : Ok X E O n CX Γ) (k : Nat) (elt : Expr) (gens : List Comprehension) (scope : Scope) (pos : Pos) : (∀ ρ S, evE O (compE (k + 1) Γ (.ListComp elt gens scope pos)) ρ S = .no) ∨ LcP X E O elt gens scope (compE (k + 1) Γ (.ListComp elt gens scope pos)) := by
  have hf : ∀ e, S4 X E O e (compE k Γ e) := fun e => compE_ok k ok e
  have e0 : compE (k + 1) Γ (.ListComp elt gens scope pos) = (match gens with
        | [⟨tg, it, ifs, 0⟩] => if blkC Γ.N Γ.sc scope (ownOf Γ.N scope) && decide (ifs.length ≤ 1) then
            (match compTg { Γ with sc := scope } 5 tg with
            | some t => if (slotsT t).all fun j => ((ownOf Γ.N scope).map (·.2)).contains j then
                .comp ((ownOf Γ.N scope).map (·.2)) t (compI (compE k Γ) (opd (compE k Γ) Γ) Γ (isTup tg) it) (ifs.map (compE k { Γ with sc := scope })) (compE k { Γ with sc := scope } elt)
              else .bad
            | none => .bad)
          else .bad
        | _ => .bad) := rfl
  rw [e0]
  split
  · rename_i tg it ifs
    split
    · rename_i hc
      rw [Bool.and_eq_true, decide_eq_true_eq] at hc
      split
      · rename_i t ht
        split
        · rename_i hall
          have bo0 := blkOk_by hc.1
          have bo : BlkOk X.N X.env.scope scope (ownOf Γ.N scope) := ⟨bo0.kind, bo0.uniq, by rw [ok.N]; exact bo0.ix, fun y hy e => ok.frees _ (bo0.free y hy e), by rw [ok.N]; exact bo0.own⟩
          have hts : ∀ j ∈ slotsT t, j ∈ (ownOf Γ.N scope).map (·.2) := fun j hj => by
            have := List.all_eq_true.mp hall j hj
            simpa using this
          by_cases hset : ∃ a b c, it = .Set a b c
          · obtain ⟨a, b, c, rfl⟩ := hset
            exact .inl fun ρ S => rfl
          · refine .inr ⟨tg, it, ifs, ownOf Γ.N scope, t, _, _, _, rfl, rfl, hts, bo, fun x => ?_, fun F => pi_ok ok (fun e => (hf e).v F), fun s H C cl fp => pg_ex fun F' => tg_ok (ok.blk scope s H C cl fp) 5 tg t ht, fun s H C cl fp => ?_, fun s H C cl fp => ?_⟩
            · cases it <;> first | rfl | exact absurd ⟨_, _, _, rfl⟩ hset
            · exact pts_D (X := X.blk s H scope (compEnvC scope cl C X.env) fp) (E := E0) (fun e => compE_ok k (ok.blk scope s H C cl fp) e) ifs hc.2
            · exact pe_ex fun F' => (compE_ok k (ok.blk scope s H C cl fp) elt).v F'
        · exact .inl fun ρ S => rfl
      · exact .inl fun ρ S => rfl
    · exact .inl fun ρ S => rfl
  · exact .inl fun ρ S => rfl
/-- from a value's reading to a new list's -/
theorem cool_t {c : CE} (hl : ∀ ρ S d ρ' S', evE O c ρ S = .ok d ρ' S' → ∃ ds, d = .lst ds) : ∀ σ H Q, tE X F E O c σ H Q → tP X F E O c σ H Q := fun σ H Q ⟨M, ι, ρ, S, R, k⟩ => by
  refine ⟨M, ι, ρ, S, R, ?_⟩
  cases hr : evE O c ρ S with
  | no => rw [hr] at k; exact k
  | exc x ρ' S' => rw [hr] at k; exact k
  | ok d ρ' S' =>
    rw [hr] at k
    obtain ⟨ds, rfl⟩ := hl _ _ _ _ _ hr
    intro M' ι' H' R' g hp
    refine ⟨ds, rfl, fun p xs hpl r ow ns nf => ?_⟩
    have R2 : Rel X.K X.w F (rm M' p) ι' ρ' S' σ H' := R'.cool ow ρ' rfl fun i sv e => .inl ⟨e, fun o => ns i sv e o⟩
    exact k (rm M' p) ι' H' R2 (g.trans grow_rm) hp _ ⟨p, xs, rfl, .inl ⟨.inl hpl, fun z => z.2 rfl⟩, Reps.grow grow_rm (List.prefix_refl _) _ _ r⟩
theorem fresh_lst {c : CE} (h : freshC c = true) : ∀ ρ S d ρ' S', evE O c ρ S = .ok d ρ' S' → ∃ ds, d = .lst ds := by
  unfold freshC at h
  split at h
  · exact ev_lst
  · exact ev_comp
  · exact ev_list
  · cases h
/-- name = value -/
theorem asg_name (ok : Ok X E O n CX Γ) (hk : X.env.scope.kind = .function) {x : Str} {i : Nat} {p pos : Pos} (hx : locB Γ x = true) (hi : findIx x Γ.N 0 = some i) (e : Expr) (hse : isSetC e = false) (F : Entry) :
    PS X (.Assign [.Name x p] e pos) (tAsg (tE X F E O (compE kE Γ e)) (gName i)) ∧ (freshC (compE kE Γ e) = true → PS X (.Assign [.Name x p] e pos) (tAsg (tP X F E O (compE kE Γ e)) (gName i))) := by
  have hl := ok.loc x hx
  have hN : X.N[i]? = some x := by rw [ok.N]; exact (findIx_at hi).2
  have s4 := compE_ok kE ok e
  by_cases hc : isCompE e = true
  · cases e with
    | ListComp elt gens scope pos2 =>
      rcases lc_pieces ok 39 elt gens scope pos2 with hno | hp
      · refine ⟨⟨fun pins s σ H D I ⟨M, ι, ρ, S, R, k⟩ => ?_⟩, fun h => ⟨fun pins s σ H D I ⟨M, ι, ρ, S, R, k⟩ => ?_⟩⟩
        · have := hno ρ S
          rw [show compE kE Γ (.ListComp elt gens scope pos2) = compE (39 + 1) Γ (.ListComp elt gens scope pos2) from rfl, this] at k
          exact k.elim
        · have := hno ρ S
          rw [show compE kE Γ (.ListComp elt gens scope pos2) = compE (39 + 1) Γ (.ListComp elt gens scope pos2) from rfl, this] at k
          exact k.elim
      · have hsw : swapsWith (.ListComp elt gens scope pos2) (some (.Name x p)) pos.line X.env = pure true ∨ swapsWith (.ListComp elt gens scope pos2) (some (.Name x p)) pos.line X.env = pure false := by
          have e1 : swapsWith (.ListComp elt gens scope pos2) (some (.Name x p)) pos.line X.env = pure (X.env.blockKind == .function && X.env.kindOf x == some .local && p.line == pos2.line
            && !(scope.names.any fun (n, k) => n == x && (k == .local || k == .cell))) := rfl
          rw [e1]
          cases (X.env.blockKind == .function && X.env.kindOf x == some .local && p.line == pos2.line && !(scope.names.any fun (n, k) => n == x && (k == .local || k == .cell)))
          · exact .inr rfl
          · exact .inl rfl
        obtain ⟨tg, it, ifs, own, t, ci, cifs, celt, rfl, ec, hts, bo, hfold, hpi, hg, ht, he⟩ := hp.ex
        have ec' : compE kE Γ (.ListComp elt [⟨tg, it, ifs, 0⟩] scope pos2) = .comp (own.map (·.2)) t ci cifs celt := ec
        have hP : PS X (.Assign [.Name x p] (.ListComp elt [⟨tg, it, ifs, 0⟩] scope pos2) pos) (tAsg (tP X F E O (compE kE Γ (.ListComp elt [⟨tg, it, ifs, 0⟩] scope pos2))) (gName i)) := by
          rcases hsw with hsw | hsw
          · refine ps_imp (ps_setLc ok.calm ok.nd hN hl hsw (hpi F) bo hg ht he hfold) fun D σ H q => ?_
            refine t_comp (E2 := E0) hts σ H _ ?_
            rw [ec'] at q
            exact q
          · exact ps_set ok.nd hN (.inl hl) (s4.p (by rw [ec']; rfl) F) hsw (.inr hl)
        refine ⟨ps_imp hP fun D σ H q => cool_t (by rw [ec']; exact ev_comp) σ H _ q, fun _ => hP⟩
    | SetComp elt gens scope pos2 => cases hse
    | DictComp kk elt gens scope pos2 => exact ⟨⟨fun pins s σ H D I ⟨M, ι, ρ, S, R, k⟩ => k.elim⟩, fun h => by cases h⟩
    | _ => cases hc
  · have hs : swapsWith e (some (.Name x p)) pos.line X.env = pure false := by
      cases e <;> first | rfl | exact absurd rfl hc
    exact ⟨ps_set ok.nd hN (.inl hl) (s4.v F) hs (.inr hl), fun h => ps_set ok.nd hN (.inl hl) (s4.p h F) hs (.inr hl)⟩
end
end R
end
section
set_option Elab.async false
set_option linter.all false
set_option maxRecDepth 100000
set_option maxHeartbeats 4000000
namespace R
open PySem PySem.Spec PyProof.Rows L2
section
variable {X : Cx} {E : XK} {O : Orc} {n : Nat} {CX : CXT} {Γ : Gm} {F : Entry} {L : Nat} {Fl : Str → Str → Bool}
theorem blockKind_fn {env : PySem.Env} (h : env.scope.kind = .function) : env.blockKind = .function := by
  unfold Env.blockKind
  rw [h]; rfl
theorem nostar_any : ∀ {es : List Expr}, noStar es = true → (es.any fun | .Starred .. => true | _ => false) = false
  | [], _ => rfl
  | e :: r, h => by
    have ih := nostar_any (noStar_tail h)
    cases e <;> first | exact ih | cases h
theorem swapped_two {env : PySem.Env} (hk : env.scope.kind = .function) {x y : Str} {px py pt pt2 : Pos} {kt k2 : Nat} {a b : Expr} (hx : env.scope.names.lookup x = some .local) (hy : env.scope.names.lookup y = some .local) (hne : x ≠ y) (hl : py.line = px.line) (hs : noStar [a, b] = true)
    (hf : [a, b].all (foldedForSure 8) = false) (hc : [a, b].all (constantsAlone 8) = false) : swappedStores [.Tuple [.Name x px, .Name y py] kt pt] (.Tuple [a, b] k2 pt2) env = pure (some [x, y]) := by
  have kx : env.kindOf x = some .local := hx
  have ky : env.kindOf y = some .local := hy
  have hb := blockKind_fn hk
  have ns := nostar_any hs
  have hed : ([x, y].eraseDups).length = 2 := by
    have : (y == x) = false := by simpa using fun z => hne z.symm
    simp [List.eraseDups, List.eraseDupsBy, List.eraseDupsBy.loop, this]
  unfold swappedStores
  simp only [hb]
  simp [kx, ky, hl, hf, hc, hed, Expr.pos]
  intro h
  have hs2 := noStar_tail hs
  rcases h with h | h
  · cases a <;> first | exact absurd hs Bool.false_ne_true | cases h
  · cases b <;> first | exact absurd hs2 Bool.false_ne_true | cases h
theorem swapped_const {env : PySem.Env} (hk : env.scope.kind = .function) {x y : Str} {px py pt pt2 : Pos} {kt k2 : Nat} {a b : Expr} (hx : env.scope.names.lookup x = some .local) (hy : env.scope.names.lookup y = some .local) (hne : x ≠ y) (hl : py.line = px.line) (hs : noStar [a, b] = true)
    (hf : [a, b].all (foldedForSure 8) = true) : swappedStores [.Tuple [.Name x px, .Name y py] kt pt] (.Tuple [a, b] k2 pt2) env = pure none := by
  have kx : env.kindOf x = some .local := hx
  have ky : env.kindOf y = some .local := hy
  have hb := blockKind_fn hk
  have hed : ([x, y].eraseDups).length = 2 := by
    have : (y == x) = false := by simpa using fun z => hne z.symm
    simp [List.eraseDups, List.eraseDupsBy, List.eraseDupsBy.loop, this]
  unfold swappedStores
  simp only [hb]
  simp [kx, ky, hl, hf, hed, Expr.pos]
theorem ps_bad {st : Stmt} : PS X st (tS X F E O L Fl .bad) := ⟨fun pins s σ H D I ⟨M, ι, ρ, S, R, k⟩ => k.elim⟩
theorem par_ok (ok : Ok X E O n CX Γ) (hk : X.env.scope.kind = .function) (ts es : List Expr) (kt k2 : Nat) (pt pt2 pos : Pos) (F : Entry) : PS X (.Assign [.Tuple ts kt pt] (.Tuple es k2 pt2) pos) (tS X F E O L Fl (compPar Γ ts es k2 pt2 (.Tuple ts kt pt))) := by
  unfold compPar
  split
  · rename_i x px y py a b
    split
    · rename_i hc
      simp only [Bool.and_eq_true, decide_eq_true_eq] at hc
      obtain ⟨⟨⟨⟨h1, h2⟩, h3⟩, h4⟩, h5⟩ := hc
      have hx := ok.loc x h1
      have hy := ok.loc y h2
      split
      · rename_i i j hi hj
        have ni : X.N[i]? = some x := by rw [ok.N]; exact (findIx_at hi).2
        have nj : X.N[j]? = some y := by rw [ok.N]; exact (findIx_at hj).2
        split
        · exact ps_bad
        · rename_i hij
          have hij' : i ≠ j := by simpa using hij
          split
          · rename_i hf
            have htg : compTg Γ 5 (.Tuple [.Name x px, .Name y py] kt pt) = some (.tup [.nm i, .nm j]) := by
              show ([Expr.Name x px, Expr.Name y py].mapM (compTg Γ 4)).map Tg.tup = _
              have e1 : compTg Γ 4 (.Name x px) = some (.nm i) := by
                show (if locB Γ x then (findIx x Γ.N 0).map Tg.nm else none) = _
                rw [if_pos h1, hi]; rfl
              have e2 : compTg Γ 4 (.Name y py) = some (.nm j) := by
                show (if locB Γ y then (findIx y Γ.N 0).map Tg.nm else none) = _
                rw [if_pos h2, hj]; rfl
              simp [e1, e2]
            exact ps_imp (ps_asg ((compE_ok kE ok _).v F) (tg_ok ok 5 _ _ htg) rfl (swapped_const hk hx hy h3 h4 h5 hf) rfl) s_asg
          · rename_i hf
            split
            · exact ps_bad
            · rename_i hcn
              split
              · rename_i hfr
                simp only [Bool.and_eq_true, Bool.or_eq_true, Bool.not_eq_true'] at hfr
                have fr1 : Γ.owns.contains (px.line, px.col) = true → freshC (compE kE Γ a) = true := fun z => hfr.1.resolve_left (by rw [z]; simp)
                have fr2 : Γ.owns.contains (py.line, py.col) = true → freshC (compE kE Γ b) = true := fun z => hfr.2.resolve_left (by rw [z]; simp)
                refine ps_imp (ps_par ok.calm ok.nd ni nj hij' hx hy (pa_cons (pe_xo (fun F => (compE_ok kE ok a).v F) fun z F => (compE_ok kE ok a).p (fr1 z) F) (pa_cons (pe_xo (fun F => (compE_ok kE ok b).v F) fun z F => (compE_ok kE ok b).p (fr2 z) F) pa_nil (star_ok (noStar_tail h5)).1) (star_ok h5).1)
                  (swapped_two hk hx hy h3 h4 h5 (by simpa using hf) (by simpa using hcn)) rfl) (s_par (fun z => fresh_lst (fr1 z)) fun z => fresh_lst (fr2 z))
              · exact ps_bad
      · exact ps_bad
    · exact ps_bad
  · exact ps_bad
theorem compS_ok (ok : Ok X E O n CX Γ) (hk : X.env.scope.kind = .function) (po : PassesOwn (model X.prog X.w) X.A X.env X.xe) (hF : ∀ c f C, Fl c f = true → IsGl X.K c C → NoAttr X.K C f) (F : Entry) : ∀ (k : Nat) (st : Stmt), PS X st (tS X F E O L Fl (compS k Γ st))
  | 0, _ => ps_bad
  | k + 1, st => by
    have hE : ∀ e, S4 X E O e (compE kE Γ e) := fun e => compE_ok kE ok e
    have hO : ∀ e, PE X e (tO X F E O (opd (compE kE Γ) Γ e)) := fun e => pe_opd ok ((hE e).v F)
    have hB : ∀ (sts : List Stmt), PSs X sts (tB' X F E O L Fl (sts.map (compS k Γ))) := by
      intro sts
      induction sts with
      | nil => exact pss_imp pss_nil b_nil
      | cons s r ih => exact pss_imp (pss_cons (compS_ok ok hk po hF F k s) ih) b_cons
    unfold compS
    split
    · exact ps_imp ps_pass (s_next fun _ _ => rfl)
    · exact ps_imp ps_break s_brk
    · exact ps_imp ps_continue s_cont
    · exact ps_imp ps_retN s_retN
    · rename_i e pos
      exact ps_imp (ps_ret ((hE e).v F)) s_ret
    · rename_i e pos
      split
      · exact ps_imp ps_doc (s_next fun _ _ => rfl)
      · split
        · exact ps_bad
        · rename_i hc
          have hs : swapsWith e none pos.line X.env = pure false := by
            cases e <;> first | rfl | exact absurd rfl hc
          exact ps_imp (ps_expr ((hE e).v F) hs) s_expr
    · rename_i c a b pos
      exact ps_imp (ps_if ((hE c).t F) (hB a) (hB b)) s_if
    · rename_i c b pos
      exact ps_imp (ps_while po ((hE c).t F) (hB b)) s_while
    · rename_i tg it b pos
      split
      · rename_i t ht
        split
        · exact ps_bad
        · rename_i hset
          refine ps_imp (ps_for po ok.calm (pi_ok ok fun e => (hE e).v F) (tg_ok ok 5 tg t ht) (hB b) fun x => ?_) s_for
          cases it <;> first | rfl | exact absurd rfl hset
      · exact ps_bad
    · rename_i tg e pos
      split
      · rename_i x p
        split
        · rename_i hl0
          rw [Bool.and_eq_true, Bool.not_eq_true'] at hl0
          obtain ⟨hl, hse⟩ := hl0
          split
          · rename_i i hi
            obtain ⟨a1, a2⟩ := asg_name (pos := pos) (p := p) ok hk hl hi e hse F
            split
            · split
              · rename_i hfr
                exact ps_imp (a2 hfr) fun D σ H q => s_asgO D σ H q (fresh_lst hfr)
              · exact ps_bad
            · refine ps_imp a1 fun D σ H q => ?_
              obtain ⟨M, ι, ρ, S, R, kk⟩ := s_asg D σ H q
              exact ⟨M, ι, ρ, S, R, kk.imp fun d ρ1 S1 M1 ι1 H1 R1 g1 p1 k1 v hv => g_name v σ H1 D.nx (k1 v hv)⟩
          · exact ps_bad
        · exact ps_bad
      · rename_i ts kt pt
        split
        · exact par_ok ok hk _ _ _ _ _ _ _ F
        · rename_i hne
          split
          · rename_i t ht
            have hs : swapsWithSole [Expr.Tuple ts kt pt] e pos.line X.env = pure false := by
              cases e <;> rfl
            have hw : swappedStores [Expr.Tuple ts kt pt] e X.env = pure none := by
              cases e <;> first | rfl | exact absurd rfl (hne _ _ _)
            exact ps_imp (ps_asg ((hE e).v F) (tg_ok ok 5 _ t ht) hs hw rfl) s_asg
          · exact ps_bad
      · rename_i o i pos2
        split
        · exact ps_bad
        · rename_i hne
          have hs : swapsWithSole [Expr.Subscript o i pos2] e pos.line X.env = pure false := by
            cases e <;> rfl
          have ha : ∀ v, assign (.Subscript o i pos2) X.env v = (do
              let ov ← holding [v] (eval o X.env)
              let iv ← holding [v, ov] (eval i X.env)
              standAt pos2
              holding [v, ov, iv] (setItem ov iv v)
              release [v, ov, iv] []) := by
            intro v
            cases i <;> first | rfl | exact absurd rfl (hne _ _ _ _)
          exact ps_imp (ps_asg ((hE e).v F) (pg_sub (hO o) ((hE i).v F) set_D ha) hs rfl rfl) s_put
      · rename_i o f pos2
        split
        · rename_i i hi
          split
          · exact ps_bad
          · rename_i hc
            have hs : swapsWith e (some (.Attribute o f pos2)) pos.line X.env = pure false := by
              cases e <;> first | rfl | exact absurd rfl hc
            have ho : PE X o (tVar i) := by
              have hi' : opd (compE kE Γ) Γ o = .peek i := hi
              unfold opd at hi'
              split at hi'
              · split at hi'
                · rename_i x p hn
                  split at hi'
                  · rename_i j hj
                    injection hi' with hi'
                    subst hi'
                    obtain ⟨h1, h2⟩ := slot_ok ok hj
                    obtain ⟨d1, d2, _⟩ := okName_d hn
                    exact pe_var h1 h2 d1 d2
                  · have := np kE Γ (.Name x p)
                    rw [hi'] at this
                    cases this
                · rename_i x p hn
                  have := np kE Γ (.Name x p)
                  rw [hi'] at this
                  cases this
              · have := np kE Γ o
                rw [hi'] at this
                cases this
            exact ps_imp (ps_fld ho ((hE e).v F) hs) (s_fld hF)
        · exact ps_bad
      · exact ps_bad
    · exact ps_bad
theorem compB_ok (ok : Ok X E O n CX Γ) (hk : X.env.scope.kind = .function) (po : PassesOwn (model X.prog X.w) X.A X.env X.xe) (hF : ∀ c f C, Fl c f = true → IsGl X.K c C → NoAttr X.K C f) (F : Entry) (k : Nat) : ∀ (sts : List Stmt), PSs X sts (tB' X F E O L Fl (sts.map (compS k Γ)))
  | [] => pss_imp pss_nil b_nil
  | s :: r => pss_imp (pss_cons (compS_ok ok hk po hF F k s) (compB_ok ok hk po hF F k r)) b_cons
end
end R
end
section
set_option Elab.async false
set_option linter.all false
set_option maxRecDepth 100000
set_option maxHeartbeats 4000000
namespace R
open PySem PySem.Spec PyProof.Rows L2
def kS : Nat := 30
section
variable {K : PySem.W.Frag} {w : World} {F : Entry} {E : XK} {M M' : Addr → Prop} {ι ι' : List Addr} {S : Sto} {H H' : Hp}
/-- the slots at the entry -/
theorem Rel.start {N : List Str} {ds : List D} {vs : List V} (R : RelG K w F M ι S H) (hr : Reps K w ι M H ds vs) (hl : ds.length ≤ N.length) : Rel K w F M ι (env0 N.length ds) S (L2.start N vs) H := by
  have hlen := hr.length
  refine ⟨R, ?_, fun i sv e => ?_, fun i j sv sv' e o => ?_⟩
  · unfold env0 L2.start
    simp only [List.length_append, List.length_map, List.length_replicate, hlen]
  · unfold env0 at e
    by_cases c : i < ds.length
    · rw [List.getElem?_append_left (by rw [List.length_map]; exact c), List.getElem?_map] at e
      rw [List.getElem?_eq_getElem c] at e
      cases e
      obtain ⟨x, hx, rx⟩ := hr.get (List.getElem?_eq_getElem c)
      refine ⟨x, ?_, rx⟩
      unfold L2.start
      rw [List.getElem?_append_left (by rw [List.length_map, ← hlen]; exact c), List.getElem?_map, hx]
      rfl
    · rw [List.getElem?_append_right (by rw [List.length_map]; omega), List.getElem?_replicate] at e
      split at e <;> cases e
  · exfalso
    unfold env0 at e
    by_cases c : i < ds.length
    · rw [List.getElem?_append_left (by rw [List.length_map]; exact c), List.getElem?_map] at e
      rw [List.getElem?_eq_getElem c] at e
      cases e
      cases o
    · rw [List.getElem?_append_right (by rw [List.length_map]; omega), List.getElem?_replicate] at e
      split at e <;> cases e
end
/-- what the written part says of a def -/
structure FnS (K : PySem.W.Frag) (Γ0 : Gm) (fa : Addr) (fd : FuncData) (ps : List Str) (init : Option Str) (cf : CF) : Prop where
  ex : ∃ (name qual : Str) (params : Arguments) (body : List Stmt) (scope : Scope) (dV kV doc pm cdv ct oc : Value) (an od : Option Addr) (osl : Array (Option Value)) (N : List Str),
    fd = PySem.W.fnOf name qual params body scope dV kV doc pm an cdv ct ∧ K.lookup fa = some ⟨oc, od, .func fd, osl⟩ ∧ PySem.W.codeIn K cdv qual = true ∧ FnScope N ps scope ∧ ps.length ≤ N.length ∧
    cf = ⟨ps.length, N.length, init, body.map (compS kS { Γ0 with N := N, sc := scope })⟩
/-- what the globals hold -/
structure GlF (K : PySem.W.Frag) (w : World) (mg : Str → Option Value) (Γ0 : Gm) : Prop where
  glob : ∀ x d, Γ0.gl.lookup x = some d → ∃ v u, mg x = some u ∧ RelV v u ∧ ∀ ι M H, Rep K w ι M H d v
  nog : ∀ x, Γ0.nog.contains x = true → mg x = none
section
variable {P : Program} {w : World} {K : PySem.W.Frag} {mg : Str → Option Value} {base : Heap} {Γ0 : Gm} {O : Orc} {n L : Nat} {Fl : Str → Str → Bool}
theorem cx0_ok {P : Program} {w : World} : ∀ outer H s u s', L2.CX P w outer H s E0 u s' → False := fun outer H s u s' ⟨a, B, H', cls, d, _, _, _, _, _, _, _, h⟩ => h
/-- the body's context -/
theorem ok_body (G : GlF K w mg Γ0) (hp : ∀ p ∈ Γ0.pats, FnP P w K mg base (L2.CX P w) n O p) (hm : ∀ p ∈ Γ0.cpats, MkP P w K mg base (L2.CX P w) n O p) {N ps : List Str} {qual : Str} {scope : Scope} {fa : Addr} {cdv : Value} {A : Around} {outer : List PySem.Env} {s : Shared} {H : Hp} {E : XK}
    (S : FnScope N ps scope) (hr : Room (n + 1) (A.deeper (envOfC qual scope s.heap.objs.size fa cdv))) : Ok (cxOf (L2.CX P w) P w K mg base N qual scope fa cdv A outer s H E) E O n (L2.CX P w) { Γ0 with N := N, sc := scope } where
  hu := by have := hr.un; show (A.deeper (envOfC qual scope s.heap.objs.size fa cdv)).units + 70 < cLine; omega
  calm := rfl
  nd := S.nd
  N := rfl
  vis := fun x h => by
    unfold visB at h
    split at h
    · rename_i e; exact .inl e
    · rename_i e; exact .inr (.inl e)
    · rename_i e; exact .inr (.inr e)
    · cases h
  loc := fun x h => by
    unfold locB at h
    split at h
    · rename_i e; exact e
    · cases h
  gl := fun x h => by
    unfold glB at h
    split at h
    · rename_i e; exact e
    · cases h
  frees := fun x h => h
  glob := G.glob
  nog := G.nog
  pats := hp
  cpats := hm
  room := hr
  pass := passes_call (takes_of rfl rfl rfl rfl) fun _ _ _ _ h => h
  cx0 := cx0_ok
/-- a def keeps its promise -/
theorem fnD (G : GlF K w mg Γ0) (hF : ∀ c f C, Fl c f = true → IsGl K c C → NoAttr K C f) (hp : ∀ p ∈ Γ0.pats, FnP P w K mg base (L2.CX P w) n O p) (hm : ∀ p ∈ Γ0.cpats, MkP P w K mg base (L2.CX P w) n O p)
    {fa : Addr} {fd : FuncData} {ps : List Str} {cf : CF} (h : FnS K Γ0 fa fd ps none cf) : FnOk P w K mg base (L2.CX P w) (n + 2) fa fd ps (spD K w ps.length (evF L Fl O cf)) := by
  obtain ⟨name, qual, params, body, scope, dV, kV, doc, pm, cdv, ct, oc, an, od, osl, N, rfl, lk, hcd, SC, hlN, rfl⟩ := h.ex
  refine fn_of lk hcd SC (fun vs H Q E h => h.1) fun A outer s H vs Q E hr hsp => ?_
  obtain ⟨hl, M, ι, S, ex, sf, ds, R, hhot, hrep, fx⟩ := hsp
  have ok := ok_body (P := P) (base := base) (O := O) (n := n) (E := E) (outer := outer) (A := A) (s := s) (H := H) (fa := fa) (cdv := cdv) (qual := qual) G hp hm SC hr
  refine ⟨_, compB_ok (L := L) (Fl := Fl) ok SC.kind PassesOwn.leaving hF ⟨H, M, ex, ι, sf⟩ kS body, M, ι, env0 N.length ds, S, Rel.start R hrep (by rw [hrep.length, hl]; exact hlN), ?_⟩
  have hdl : ds.length = ps.length := by rw [hrep.length, hl]
  have e : evF L Fl O ⟨ps.length, N.length, none, body.map (compS kS { Γ0 with N := N, sc := scope })⟩ ds S = finF (evB O L Fl (body.map (compS kS { Γ0 with N := N, sc := scope })) (env0 N.length ds) S) := if_pos ⟨hdl, hlN⟩
  rw [e] at fx
  cases er : evB O L Fl (body.map (compS kS { Γ0 with N := N, sc := scope })) (env0 N.length ds) S with
  | no => rw [er] at fx; exact fx
  | exc x r s => rw [er] at fx; exact fun M' ι' σ' H' cls d R' g hp => fx M' ι' H' cls d R'.toRelG g hp
  | ok f r s =>
    rw [er] at fx
    cases f with
    | nx => exact fun M' ι' σ' H' R' g hp => fx M' ι' H' .non R'.toRelG g hp rfl
    | ret d => exact fun M' ι' σ' H' R' g hp v hv => fx M' ι' H' v R'.toRelG g hp hv
    | brk => exact fx.elim
    | ct => exact fx.elim
/-- the slots at the entry of an __init__ -/
theorem Rel.startI {F : Entry} {M : Addr → Prop} {ι : List Addr} {S : Sto} {H : Hp} {N : List Str} {c : Str} {ds : List D} {us : List V} {a C dx : Addr} (R : RelG K w F M ι S H) (hr : Reps K w ι M H ds us) (hl : ds.length + 1 ≤ N.length) (ow : Own F ι M a) (ha : H a = some (.ins C dx [])) (hg : IsGl K c C) (hc : ClsOk K C) (hs : F.sf a) :
    Rel K w F M ι (envI N.length c ds) S (L2.start N (.ref a :: us)) H := by
  have hlen := hr.length
  have key : ∀ (i : Nat) (sv : SV), (envI N.length c ds)[i]? = some (some sv) → (i = 0 ∧ sv = .oo c [] []) ∨ ∃ j d, i = j + 1 ∧ j < ds.length ∧ ds[j]? = some d ∧ sv = .v d := by
    intro i sv e
    unfold envI at e
    cases i with
    | zero => cases e; exact .inl ⟨rfl, rfl⟩
    | succ j =>
      rw [List.getElem?_cons_succ] at e
      by_cases cc : j < ds.length
      · rw [List.getElem?_append_left (by rw [List.length_map]; exact cc), List.getElem?_map, List.getElem?_eq_getElem cc] at e
        cases e
        exact .inr ⟨j, ds[j], rfl, cc, List.getElem?_eq_getElem cc, rfl⟩
      · rw [List.getElem?_append_right (by rw [List.length_map]; omega), List.getElem?_replicate] at e
        split at e <;> cases e
  refine ⟨R, ?_, fun i sv e => ?_, fun i j sv sv' e o e' o' q => ?_⟩
  · unfold envI L2.start
    simp only [List.length_cons, List.length_append, List.length_map, List.length_replicate, hlen]
    omega
  · rcases key i sv e with ⟨rfl, rfl⟩ | ⟨j, d, rfl, hj, hd, rfl⟩
    · exact ⟨.ref a, rfl, a, C, dx, [], rfl, ow, ha, hg, ⟨⟨hc, fun f hf => by cases hf⟩, hs⟩, rfl, rfl⟩
    · obtain ⟨x, hx, rx⟩ := hr.get hd
      refine ⟨x, ?_, rx⟩
      unfold L2.start
      rw [List.map_cons, List.cons_append, List.getElem?_cons_succ, List.getElem?_append_left (by rw [List.length_map, ← hlen]; exact hj), List.getElem?_map, hx]
      rfl
  · rcases key i sv e with ⟨rfl, rfl⟩ | ⟨j', d, rfl, hj, hd, rfl⟩
    · rcases key j sv' e' with ⟨rfl, rfl⟩ | ⟨j', d, rfl, hj, hd, rfl⟩
      · rfl
      · cases o'
    · cases o
theorem fnI (G : GlF K w mg Γ0) (hF : ∀ c f C, Fl c f = true → IsGl K c C → NoAttr K C f) (hp : ∀ p ∈ Γ0.pats, FnP P w K mg base (L2.CX P w) n O p) (hm : ∀ p ∈ Γ0.cpats, MkP P w K mg base (L2.CX P w) n O p)
    {fa : Addr} {fd : FuncData} {ps : List Str} {cf : CF} {c : Str} (h : FnS K Γ0 fa fd ps (some c) cf) : FnOk P w K mg base (L2.CX P w) (n + 2) fa fd ps (spI K w ps.length c (evF L Fl O cf)) := by
  obtain ⟨name, qual, params, body, scope, dV, kV, doc, pm, cdv, ct, oc, an, od, osl, N, rfl, lk, hcd, SC, hlN, rfl⟩ := h.ex
  refine fn_of lk hcd SC (fun vs H Q E h => h.1) fun A outer s H vs Q E hr hsp => ?_
  obtain ⟨hl, M, ι, S, a, C, dx, us, ds, rfl, R, ⟨hMa, hai⟩, ha, hg, hc, hrep, fx⟩ := hsp
  have ok := ok_body (P := P) (base := base) (O := O) (n := n) (E := E) (outer := outer) (A := A) (s := s) (H := H) (fa := fa) (cdv := cdv) (qual := qual) G hp hm SC hr
  have hdl : ds.length + 1 = ps.length := by rw [hrep.length, ← hl]; rfl
  have ow : Own (enti M ι H a) ι M a := ⟨hMa, hai, .inr (.inr rfl)⟩
  refine ⟨_, compB_ok (L := L) (Fl := Fl) ok SC.kind PassesOwn.leaving hF (enti M ι H a) kS body, M, ι, envI N.length c ds, S, Rel.startI R hrep (by rw [hdl]; exact hlN) ow ha hg hc rfl, ?_⟩
  have e : evF L Fl O ⟨ps.length, N.length, some c, body.map (compS kS { Γ0 with N := N, sc := scope })⟩ ds S = finI (evB O L Fl (body.map (compS kS { Γ0 with N := N, sc := scope })) (envI N.length c ds) S) := if_pos ⟨hdl, hlN⟩
  rw [e] at fx
  cases er : evB O L Fl (body.map (compS kS { Γ0 with N := N, sc := scope })) (envI N.length c ds) S with
  | no => rw [er] at fx; exact fx
  | exc x r s => rw [er] at fx; exact fun M' ι' σ' H' cls d R' g hp => fx M' ι' H' cls d R'.toRelG g hp
  | ok f r s =>
    rw [er] at fx
    cases f with
    | nx =>
      replace fx : FxI K w E M ι H a (match objAt r with
        | some d => .ret d s
        | none => .no) Q := fx
      cases eo : objAt r with
      | none => rw [eo] at fx; exact fx.elim
      | some d =>
        rw [eo] at fx
        unfold objAt at eo
        split at eo
        · rename_i c' fs vs hs
          cases eo
          intro M' ι' σ' H' R' g hp
          obtain ⟨v, q1, a', C', dx', fv, rfl, ow', ha', h1, h2, h3, h4⟩ := R'.slot 0 _ hs
          have ea : a' = a := h2.2
          subst ea
          have R2 : Rel K w (enti M ι H a') (rm M' a') ι' (r.set 0 none) s σ' H' := R'.cool ow' _ (List.length_set ..) fun i sv e => by
            by_cases ci : 0 = i
            · subst ci
              have : 0 < r.length := (List.getElem?_eq_some_iff.mp hs).1
              rw [List.getElem?_set_self this] at e
              cases e
            · rw [List.getElem?_set_ne ci] at e
              exact .inl ⟨e, fun o z => ci (R'.own 0 i _ _ hs rfl e o (by rw [q1, z]))⟩
          exact fx (rm M' a') ι' H' R2.toRelG (g.trans grow_rm) hp ⟨a', C', dx', fv, rfl, ⟨ha', fun z => z.2 rfl⟩, h1, h2.1, h3, Reps.grow grow_rm (List.prefix_refl _) _ _ h4⟩
        · cases eo
    | ret d => exact fx.elim
    | brk => exact fx.elim
    | ct => exact fx.elim
structure PatF (K : PySem.W.Frag) (w : World) (mg : Str → Option Value) (Γ0 : Gm) (tab : Fid → Option CF) (p : Pat) : Prop where
  ex : ∃ (fa : Addr) (fd : FuncData) (ps : List Str) (dvs : List V) (ds : List Value) (cf : CF), mg p.f = some (.ref fa) ∧ IsGl K p.f fa ∧ PySem.W.keepIn K (.ref fa) = true ∧ FnS K Γ0 fa fd ps none cf ∧ tab (.fn p.f) = some cf ∧
    (∀ (s : Shared) (us ws : List Value), K.In s.heap → us.length = p.m → ws.length = p.ks.length → BindsTo s fd ⟨us, p.ks.zip ws⟩ (ps.zip (us ++ (ws ++ ds)))) ∧ Vals dvs ds ∧ (∀ ι M H, Reps K w ι M H p.dfl dvs) ∧ ps.length = p.m + (p.ks.length + ds.length)
structure MkF (K : PySem.W.Frag) (w : World) (mg : Str → Option Value) (Γ0 : Gm) (tab : Fid → Option CF) (p : Pat) : Prop where
  ex : ∃ (C fa : Addr) (fd : FuncData) (ps : List Str) (dvs : List V) (ds : List Value) (cf : CF), mg p.f = some (.ref C) ∧ IsGl K p.f C ∧ ClsOk K C ∧ Mk K C fa ∧ FnS K Γ0 fa fd ps (some p.f) cf ∧ tab (.new p.f) = some cf ∧ L2.Binds K fd ps ds ∧
    Vals dvs ds ∧ (∀ ι M H, Reps K w ι M H p.dfl dvs) ∧ ps.length = 1 + p.m + ds.length
theorem all_ok (G : GlF K w mg Γ0) (hF : ∀ c f C, Fl c f = true → IsGl K c C → NoAttr K C f) {tab : Fid → Option CF} (hp : ∀ p ∈ Γ0.pats, PatF K w mg Γ0 tab p) (hm : ∀ p ∈ Γ0.cpats, MkF K w mg Γ0 tab p) :
    ∀ d : Nat, (∀ p ∈ Γ0.pats, FnP P w K mg base (L2.CX P w) (2 * d) (evG L Fl tab d) p) ∧ (∀ p ∈ Γ0.cpats, MkP P w K mg base (L2.CX P w) (2 * d) (evG L Fl tab d) p)
  | 0 => by
    refine ⟨fun p h => ?_, fun p h => ?_⟩
    · obtain ⟨fa, fd, ps, dvs, ds, cf, h1, h2, h3, h4, h5, h6, h7, h8, h9⟩ := (hp p h).ex
      exact ⟨fa, fd, ps, dvs, ds, h1, h2, h3, ⟨fun vs H Q E q => q.1, fun A outer s H args us vs Q E _ _ _ _ q => by
        obtain ⟨_, M, ι, S, ex, sf, ds, _, _, _, fx⟩ := q
        exact fx.elim⟩, h6, h7, h8, h9⟩
    · obtain ⟨C, fa, fd, ps, dvs, ds, cf, h1, h2, h3, h4, h5, h6, h7, h8, h9, h10⟩ := (hm p h).ex
      exact ⟨C, fa, fd, ps, dvs, ds, h1, h2, h3, h4, ⟨fun vs H Q E q => q.1, fun A outer s H args us vs Q E _ _ _ _ q => by
        obtain ⟨_, M, ι, S, a, C, dx, us, ds, _, _, _, _, _, _, _, fx⟩ := q
        exact fx.elim⟩, h7, h8, h9, h10⟩
  | d + 1 => by
    obtain ⟨ih1, ih2⟩ := all_ok G hF hp hm d
    refine ⟨fun p h => ?_, fun p h => ?_⟩
    · obtain ⟨fa, fd, ps, dvs, ds, cf, h1, h2, h3, h4, h5, h6, h7, h8, h9⟩ := (hp p h).ex
      have := fnD (L := L) (Fl := Fl) G hF ih1 ih2 h4
      refine ⟨fa, fd, ps, dvs, ds, h1, h2, h3, ?_, h6, h7, h8, h9⟩
      have e : (evG L Fl tab (d + 1)) (.fn p.f) = evF L Fl (evG L Fl tab d) cf := by
        funext ds S
        show (match tab (.fn p.f) with
          | some c => evF L Fl (evG L Fl tab d) c ds S
          | none => .no) = _
        rw [h5]
      rw [e]
      exact this
    · obtain ⟨C, fa, fd, ps, dvs, ds, cf, h1, h2, h3, h4, h5, h6, h7, h8, h9, h10⟩ := (hm p h).ex
      have := fnI (L := L) (Fl := Fl) G hF ih1 ih2 h5
      refine ⟨C, fa, fd, ps, dvs, ds, h1, h2, h3, h4, ?_, h7, h8, h9, h10⟩
      have e : (evG L Fl tab (d + 1)) (.new p.f) = evF L Fl (evG L Fl tab d) cf := by
        funext ds S
        show (match tab (.new p.f) with
          | some c => evF L Fl (evG L Fl tab d) c ds S
          | none => .no) = _
        rw [h6]
      rw [e]
      exact this
end
end R
end
section
set_option Elab.async false
set_option linter.all false
set_option maxRecDepth 100000
set_option maxHeartbeats 4000000
namespace R
open PySem PySem.Spec PyProof.Rows L2
/-- the def under a name -/
def adAt (K : PySem.W.Frag) (x : Str) : Addr := match PySem.W.nsIn K mainGlobals x with
  | some (some (.ref a)) => a
  | _ => 0
def fdL (K : PySem.W.Frag) (a : Addr) : FuncData := match K.lookup a with
  | some ⟨_, _, .func fd, _⟩ => fd
  | _ => default
def fdD (K : PySem.W.Frag) (x : Str) : FuncData := fdL K (adAt K x)
def isGlB (K : PySem.W.Frag) (x : Str) : Bool := match PySem.W.nsIn K mainGlobals x with
  | some (some (.ref _)) => true
  | _ => false
def chkFd (K : PySem.W.Frag) (ps N : List Str) : FuncData → Bool
  | ⟨_, qual, _, .stmts _, scope, g, [], _, _, _, _, _, cdv, _, bl⟩ => decide (g = mainGlobals) && decide (bl = builtinsNs) && PySem.W.codeIn K cdv qual && C8.scC N ps scope && decide (ps.length ≤ N.length)
  | _ => false
def bdyOf : FuncBody → List Stmt
  | .stmts b => b
  | _ => []
def cfFd (Γ0 : Gm) (ps N : List Str) (init : Option Str) (fd : FuncData) : CF := ⟨ps.length, N.length, init, (bdyOf fd.body).map (compS kS { Γ0 with N := N, sc := fd.scope })⟩
theorem isGl_of {K : PySem.W.Frag} {x : Str} (h : isGlB K x = true) : IsGl K x (adAt K x) := by
  unfold isGlB at h
  unfold IsGl adAt
  split at h
  · rename_i a e
    rw [e]
  · cases h
theorem fnS_at {K : PySem.W.Frag} {Γ0 : Gm} {a : Addr} {ps N : List Str} {init : Option Str} {cf : CF} (hf : PySem.W.fnIn K a = true) (hc : chkFd K ps N (fdL K a) = true) (he : cfFd Γ0 ps N init (fdL K a) = cf) : FnS K Γ0 a (fdL K a) ps init cf := by
  unfold PySem.W.fnIn at hf
  split at hf
  · rename_i oc od fd osl e
    have e2 : fdL K a = fd := by unfold fdL; rw [e]
    rw [e2] at hc he ⊢
    obtain ⟨name, qual, params, body, scope, g, cl, dV, kV, doc, pm, an, cdv, ct, bl⟩ := fd
    unfold chkFd at hc
    split at hc
    · rename_i h
      cases h
      simp only [Bool.and_eq_true, decide_eq_true_eq] at hc
      obtain ⟨⟨⟨⟨h1, h2⟩, h3⟩, h4⟩, h5⟩ := hc
      subst h1 h2
      exact ⟨_, _, _, _, _, _, _, _, _, _, _, _, _, _, _, N, rfl, e, h3, C8.fnScope_by h4, h5, he.symm⟩
    · cases hc
  · cases hf
def isNonV : Value → Bool
  | .none => true
  | _ => false
def isBlV (b : Bool) : Value → Bool
  | .bool c => b == c
  | _ => false
def isIntV (i : Int) : Value → Bool
  | .int j _ => decide (i = j)
  | _ => false
def isStrV (s : Str) : Value → Bool
  | .str t _ => decide (s = t) && decide (s.length ≤ 1000)
  | _ => false
def isFnV (K : PySem.W.Frag) (x : Str) : Value → Bool
  | .ref a => isGlB K x && decide (adAt K x = a) && PySem.W.fnIn K a
  | _ => false
def tupK (K : PySem.W.Frag) : Value → Option (List Value)
  | .ref a => (match K.lookup a with
    | some ⟨.type c, _, .seq its _, _⟩ => if c = "tuple" ∧ its.size ≤ 1000 then some its.toList else none
    | _ => none)
  | _ => none
mutual
/-- a constant of the written part -/
def repK (K : PySem.W.Frag) : D → Value → Bool
  | .non, u => isNonV u
  | .bl b, u => isBlV b u
  | .int i, u => isIntV i u
  | .str s, u => isStrV s u
  | .fn x, u => isFnV K x u
  | .tup ds, u => (match tupK K u with
    | some us => repsK K ds us
    | none => false)
  | _, _ => false
def repsK (K : PySem.W.Frag) : List D → List Value → Bool
  | [], us => us.isEmpty
  | d :: ds, us => (match us with
    | [] => false
    | u :: r => repK K d u && repsK K ds r)
end
theorem tupK_ok {K : PySem.W.Frag} {u : Value} {us : List Value} (h : tupK K u = some us) : ∃ a o its n, u = .ref a ∧ K.lookup a = some o ∧ o.cls = .type "tuple" ∧ o.data = .seq its n ∧ its.size ≤ sizeLine ∧ its.toList = us := by
  unfold tupK at h
  split at h
  · rename_i a
    split at h
    · rename_i c od its n osl e
      split at h
      · rename_i hc
        cases h
        obtain ⟨rfl, hz⟩ := hc
        exact ⟨a, _, its, n, rfl, e, rfl, rfl, by rw [sizeLine_eq]; omega, rfl⟩
      · cases h
    · cases h
  · cases h
mutual
theorem repK_ok {K : PySem.W.Frag} : ∀ (d : D) (u : Value), repK K d u = true → ∃ v, RelV v u ∧ ∀ w ι M H, Rep K w ι M H d v
  | .non, u, h => by
    replace h : isNonV u = true := h
    unfold isNonV at h
    split at h
    · exact ⟨.non, rfl, fun _ _ _ _ => rfl⟩
    · cases h
  | .bl b, u, h => by
    replace h : isBlV b u = true := h
    unfold isBlV at h
    split at h
    · exact ⟨.bl b, by rw [beq_iff_eq.mp h]; rfl, fun _ _ _ _ => rfl⟩
    · cases h
  | .int i, u, h => by
    replace h : isIntV i u = true := h
    unfold isIntV at h
    split at h
    · rename_i t
      exact ⟨.int i, ⟨t, by rw [of_decide_eq_true h]⟩, fun _ _ _ _ => rfl⟩
    · cases h
  | .str s, u, h => by
    replace h : isStrV s u = true := h
    unfold isStrV at h
    split at h
    · rename_i x t
      rw [Bool.and_eq_true, decide_eq_true_eq, decide_eq_true_eq] at h
      exact ⟨.str s, ⟨t, by rw [h.1]⟩, fun _ _ _ _ => ⟨rfl, by unfold strMax; omega⟩⟩
    · cases h
  | .fn x, u, h => by
    replace h : isFnV K x u = true := h
    unfold isFnV at h
    split at h
    · rename_i a
      rw [Bool.and_eq_true, Bool.and_eq_true, decide_eq_true_eq] at h
      have g := isGl_of h.1.1
      rw [h.1.2] at g
      exact ⟨.ref a, rfl, fun _ _ _ _ => ⟨a, rfl, g, h.2⟩⟩
    · cases h
  | .tup ds, u, h => by
    replace h : (match tupK K u with
      | some us => repsK K ds us
      | none => false) = true := h
    split at h
    · rename_i us e
      obtain ⟨a, o, its, n, rfl, h1, h2, h3, h4, rfl⟩ := tupK_ok e
      obtain ⟨vs, r, q⟩ := repsK_ok ds its.toList h
      exact ⟨.ref a, rfl, fun w ι M H => ⟨a, vs, rfl, .inr ⟨o, its, n, h1, h2, h3, h4, r⟩, q w ι M H⟩⟩
    · cases h
  | .ty _, _, h => by cases h
  | .cls _, _, h => by cases h
  | .lst _, _, h => by cases h
  | .dic _ _, _, h => by cases h
  | .set _, _, h => by cases h
  | .obj _ _ _, _, h => by cases h
  | .mut _, _, h => by cases h
theorem repsK_ok {K : PySem.W.Frag} : ∀ (ds : List D) (us : List Value), repsK K ds us = true → ∃ vs, Vals vs us ∧ ∀ w ι M H, Reps K w ι M H ds vs
  | [], us, h => by
    cases us with
    | nil => exact ⟨[], .nil, fun _ _ _ _ => rfl⟩
    | cons => cases h
  | d :: ds, us, h => by
    cases us with
    | nil => cases h
    | cons u us =>
      replace h : (repK K d u && repsK K ds us) = true := h
      rw [Bool.and_eq_true] at h
      obtain ⟨v, r, q⟩ := repK_ok d u h.1
      obtain ⟨vs, r2, q2⟩ := repsK_ok ds us h.2
      exact ⟨v :: vs, .cons r r2, fun w ι M H => .cons (q w ι M H) (q2 w ι M H)⟩
end
/-- a dict of the written part -/
def dicK (K : PySem.W.Frag) (a : Addr) : Option (Array DictEntry) := match K.lookup a with
  | some ⟨.type c, none, .dict es _, sl⟩ => if c = "dict" ∧ sl = #[] ∧ (a == sysModules) = false ∧ es.size ≤ 1000 then some es else none
  | _ => none
theorem keys_paired {P : Params} : ∀ {ss : List Str} {l : List DictEntry}, l.map He.keyOf = He.keysIn P ss → Paired (fun (s : Str) (e : DictEntry) => ∃ t, e.key = .str s t) ss l
  | [], [], _ => .nil
  | [], _ :: _, h => by cases h
  | _ :: _, [], h => by cases h
  | s :: ss, e :: l, h => by
    have h1 : He.keyOf e :: l.map He.keyOf = some (s, PyData.keyHash P s) :: He.keysIn P ss := h
    injection h1 with h2 h3
    refine .cons ?_ (keys_paired h3)
    unfold He.keyOf at h2
    split at h2
    · rename_i x t q
      obtain ⟨h5, _⟩ := Prod.mk.inj (Option.some.inj h2)
      exact ⟨t, by rw [← h5]; exact q⟩
    · cases h2
theorem dic_ok {K : PySem.W.Frag} {w : World} {a : Addr} {ss : List Str} {ds : List D} (ne : ss ≠ []) (nd : ss.Nodup) (hl : ∀ s ∈ ss, s.length ≤ strMax) (h1 : (dicK K a).map (fun es => es.toList.map He.keyOf) = some (He.keysIn w.params ss)) (h2 : (dicK K a).any (fun es => repsK K ds (es.toList.map (·.val))) = true) :
    ∀ ι M H, Rep K w ι M H (.dic (ss.map .str) ds) (.ref a) := by
  cases e : dicK K a with
  | none => rw [e] at h1; cases h1
  | some es =>
    rw [e] at h1 h2
    have h1' : es.toList.map He.keyOf = He.keysIn w.params ss := Option.some.inj h1
    have h2' : repsK K ds (es.toList.map (·.val)) = true := h2
    obtain ⟨vs, r, q⟩ := repsK_ok ds _ h2'
    unfold dicK at e
    split at e
    · rename_i c es' n sl lk
      split at e
      · rename_i hc
        cases e
        obtain ⟨rfl, rfl, hm, hz⟩ := hc
        intro ι M H
        exact ⟨a, rfl, .inr (.inr ⟨ss, vs, ⟨es, n, ⟨lk, He.keysLit_of h1', hm⟩, keys_paired h1', r, by rw [sizeLine_eq]; omega, nd⟩, ne, rfl, hl, q w ι M H⟩)⟩
      · cases e
    · cases e
end R
end
section
set_option Elab.async false
set_option linter.all false
set_option maxRecDepth 100000
set_option maxHeartbeats 4000000
namespace R
open PySem PySem.Spec PyProof.Rows L2
def chkAll (K : PySem.W.Frag) (x : Str) (ps N : List Str) : Bool := isGlB K x && PySem.W.fnIn K (adAt K x) && PySem.W.keepIn K (.ref (adAt K x)) && chkFd K ps N (fdD K x)
theorem chkAll_ok {K : PySem.W.Frag} {Γ0 : Gm} {x : Str} {ps N : List Str} {cf : CF} (h : chkAll K x ps N = true) (e : cfFd Γ0 ps N none (fdD K x) = cf) : IsGl K x (adAt K x) ∧ PySem.W.keepIn K (.ref (adAt K x)) = true ∧ FnS K Γ0 (adAt K x) (fdD K x) ps none cf := by
  unfold chkAll at h
  simp only [Bool.and_eq_true] at h
  exact ⟨isGl_of h.1.1.1, h.1.2, fnS_at h.1.1.2 h.2 e⟩
theorem patF_of {K : PySem.W.Frag} {w : World} {mg : Str → Option Value} {Γ0 : Gm} {tab : Fid → Option CF} (hmg : ∀ x v, PySem.W.nsIn K mainGlobals x = some (some v) → mg x = some v) {x : Str} {ps N ks : List Str} {m : Nat} {cf : CF} (h : chkAll K x ps N = true) (e : cfFd Γ0 ps N none (fdD K x) = cf) (t : tab (.fn x) = some cf)
    (hl : ps.length = m + ks.length) (b : ∀ us ws : List Value, us.length = m → ws.length = ks.length → bindArgs (fdD K x) ⟨us, ks.zip ws⟩ = pure (ps.zip (us ++ ws))) : PatF K w mg Γ0 tab ⟨x, m, ks, []⟩ := by
  obtain ⟨h1, h2, h3⟩ := chkAll_ok h e
  exact ⟨adAt K x, fdD K x, ps, [], [], cf, hmg _ _ h1, h1, h2, h3, t, fun s us ws _ l1 l2 => by rw [List.append_nil]; exact BindsTo.of_eq (b us ws l1 l2), .nil, fun _ _ _ => rfl, hl⟩
/-- the class under a name -/
def initAt (K : PySem.W.Frag) (x : Str) : Addr := match PySem.W.findIn K (.ref (adAt K x)) "__init__" with
  | some (some (.ref f)) => f
  | _ => 0
def optEq (o : Option (Option Value)) (v : Option Value) : Bool := match o with
  | some r => r == v
  | none => false
def chkCls (K : PySem.W.Frag) (x : Str) (fs : List Str) : Bool := isGlB K x && PySem.W.plainGet K (adAt K x) Str.empty && PySem.W.hasDictIn K (adAt K x) && PySem.W.plainOver K (adAt K x) && optEq (PySem.W.findIn K (.ref (adAt K x)) "__setattr__") (some (.builtin "object.__setattr__")) &&
  optEq (PySem.W.findIn K (.ref (adAt K x)) "__class__") (some (.builtin "object.__class__")) && optEq (PySem.W.specialIn K (.builtin "object.__class__") "__get__") (some (.builtin "getset_descriptor.__get__")) && (PySem.W.takesIn K (.builtin "object.__class__") == some true) &&
  (PySem.W.mroIn K (adAt K x) (.type "object") == some true) && kinds.all (fun T => PySem.W.kitOne K (.type T) (.ref (adAt K x)) == some false) && kinds.all (fun T => PySem.W.kitOne K (.ref (adAt K x)) (.type T) == some false) && fs.all (fun f => optEq (PySem.W.findIn K (.ref (adAt K x)) f) none)
theorem optEq_ok {o : Option (Option Value)} {v : Option Value} (h : optEq o v = true) : o = some v := by
  unfold optEq at h
  split at h
  · rw [beq_iff_eq.mp h]
  · cases h
theorem chkCls_ok {K : PySem.W.Frag} {x : Str} {fs : List Str} (h : chkCls K x fs = true) : IsGl K x (adAt K x) ∧ ClsOk K (adAt K x) ∧ ∀ f ∈ fs, NoAttr K (adAt K x) f := by
  unfold chkCls at h
  simp only [Bool.and_eq_true, List.all_eq_true, beq_iff_eq] at h
  obtain ⟨⟨⟨⟨⟨⟨⟨⟨⟨⟨⟨h1, h2⟩, h3⟩, h4⟩, h5⟩, h6⟩, h7⟩, h8⟩, h9⟩, h10⟩, h11⟩, h12⟩ := h
  exact ⟨isGl_of h1, ⟨⟨h2, h3, h4, optEq_ok h5⟩, optEq_ok h6, optEq_ok h7, h8, h9, h10, h11⟩, fun f hf => optEq_ok (h12 f hf)⟩
def chkMk (K : PySem.W.Frag) (x : Str) (ps N : List Str) : Bool := PySem.W.makesIn K (adAt K x) && optEq (PySem.W.findIn K (.ref (adAt K x)) "__init__") (some (.ref (initAt K x))) && PySem.W.isFn K (.ref (initAt K x)) && PySem.W.keepIn K (.ref (adAt K x)) && PySem.W.fnIn K (initAt K x) && chkFd K ps N (fdL K (initAt K x))
theorem chkMk_ok {K : PySem.W.Frag} {Γ0 : Gm} {x : Str} {ps N : List Str} {cf : CF} (h : chkMk K x ps N = true) (e : cfFd Γ0 ps N (some x) (fdL K (initAt K x)) = cf) : Mk K (adAt K x) (initAt K x) ∧ FnS K Γ0 (initAt K x) (fdL K (initAt K x)) ps (some x) cf := by
  unfold chkMk at h
  simp only [Bool.and_eq_true] at h
  obtain ⟨⟨⟨⟨⟨h1, h2⟩, h3⟩, h4⟩, h5⟩, h6⟩ := h
  exact ⟨⟨h1, optEq_ok h2, h3, h4⟩, fnS_at h5 h6 e⟩
theorem mkF_of {K : PySem.W.Frag} {w : World} {mg : Str → Option Value} {Γ0 : Gm} {tab : Fid → Option CF} (hmg : ∀ x v, PySem.W.nsIn K mainGlobals x = some (some v) → mg x = some v) {x : Str} {ps N fs : List Str} {m : Nat} {cf : CF} {dfl : List D} {ds : List Value} (hc : chkCls K x fs = true) (h : chkMk K x ps N = true)
    (e : cfFd Γ0 ps N (some x) (fdL K (initAt K x)) = cf) (t : tab (.new x) = some cf) (hl : ps.length = 1 + m + ds.length) (b : L2.Binds K (fdL K (initAt K x)) ps ds) (hr : repsK K dfl ds = true) : MkF K w mg Γ0 tab ⟨x, m, [], dfl⟩ := by
  obtain ⟨g, c, _⟩ := chkCls_ok hc
  obtain ⟨k1, k2⟩ := chkMk_ok h e
  obtain ⟨vs, r, q⟩ := repsK_ok dfl ds hr
  exact ⟨adAt K x, initAt K x, _, ps, vs, ds, cf, hmg _ _ g, g, c, k1, k2, t, b, r, q w, hl⟩
/-- a constant of the module -/
theorem const_of {K : PySem.W.Frag} {w : World} {mg : Str → Option Value} (hmg : ∀ x v, PySem.W.nsIn K mainGlobals x = some (some v) → mg x = some v) {x : Str} {d : D} (h : (match PySem.W.nsIn K mainGlobals x with
    | some (some u) => repK K d u
    | _ => false) = true) : ∃ v u, mg x = some u ∧ RelV v u ∧ ∀ ι M H, Rep K w ι M H d v := by
  split at h
  · rename_i u e
    obtain ⟨v, r, q⟩ := repK_ok d u h
    exact ⟨v, u, hmg _ _ e, r, q w⟩
  · cases h
theorem constD_of {K : PySem.W.Frag} {w : World} {mg : Str → Option Value} (hmg : ∀ x v, PySem.W.nsIn K mainGlobals x = some (some v) → mg x = some v) {x : Str} {ss : List Str} {ds : List D} (g : isGlB K x = true) (ne : ss ≠ []) (nd : ss.Nodup) (hl : ∀ s ∈ ss, s.length ≤ strMax)
    (h1 : (dicK K (adAt K x)).map (fun es => es.toList.map He.keyOf) = some (He.keysIn w.params ss)) (h2 : (dicK K (adAt K x)).any (fun es => repsK K ds (es.toList.map (·.val))) = true) : ∃ v u, mg x = some u ∧ RelV v u ∧ ∀ ι M H, Rep K w ι M H (.dic (ss.map .str) ds) v :=
  ⟨.ref (adAt K x), .ref (adAt K x), hmg _ _ (isGl_of g), rfl, dic_ok ne nd hl h1 h2⟩
theorem constC_of {K : PySem.W.Frag} {w : World} {mg : Str → Option Value} (hmg : ∀ x v, PySem.W.nsIn K mainGlobals x = some (some v) → mg x = some v) {x : Str} {fs : List Str} (hc : chkCls K x fs = true) : ∃ v u, mg x = some u ∧ RelV v u ∧ ∀ ι M H, Rep K w ι M H (.cls x) v :=
  let ⟨g, c, _⟩ := chkCls_ok hc
  ⟨.ref (adAt K x), .ref (adAt K x), hmg _ _ g, rfl, fun _ _ _ => ⟨adAt K x, rfl, g, c⟩⟩
end R
end
section
set_option Elab.async false
set_option linter.all false
set_option maxRecDepth 100000
set_option maxHeartbeats 4000000
namespace R
open PySem PySem.Spec PyProof.Rows L2
/-- the names of each def -/
def kN : List (Str × List Str) := ("is_whole", ["value"]) :: ("is_number", ["value", "least", "most"]) :: ("is_name", ["value", "letter"]) :: ("is_lot", ["value", "at", "name"]) :: ("is_amount", ["value"]) :: ("is_day", ["value"]) :: ("is_cell", ["value"]) :: ("common_divisor", ["first", "second"]) :: ("is_parcels", ["value"]) :: ("is_called", ["value"]) :: ("is_entry_number", ["value"]) :: ("is_sum", ["value"]) :: ("is_until", ["value"]) :: ("is_knowing", ["value"]) :: ("is_part_share", ["value"]) :: ("is_cells", ["value", "cell"]) :: ("is_heir", ["value"]) :: ("is_heirs", ["value", "pair"]) :: ("fits", ["check", "item"]) :: ("is_plain", ["value", "checks", "word", "items", "first", "second", "pair", "check", "item"]) :: ("is_correction", ["value"]) :: ("is_deed", ["value"]) :: ("_law_open", ["_law_script", "_law_mixed_here", "_law_cell"]) :: ("_law_draw", ["_law_bag", "_law_sides", "_law_seed", "_law_step", "_law_cell", "_law_digit", "_law_small"]) :: ("_law_of", ["_law_bag", "_law_things"]) :: ("_law_mixed", ["_law_bag", "_law_things", "_law_found", "_law_thing"]) :: ("_law_same", ["_law_found", "_law_due", "_law_key", "_law_one", "_law_other"]) :: ("_law_names", ["_law_bag", "_law_many", "_law_k", "_law_spare", "_law_found", "_law_head", "_law_tail", "_law_j"]) :: ("_law_shapes", []) :: ("_law_unlike_items", []) :: ("_law_is_name", ["_law_value_z", "_law_sign"]) :: ("_law_is_int", ["_law_value_z", "_law_low", "_law_high"]) :: ("_law_is_row", ["_law_value_z", "_law_low", "_law_high"]) :: ("_law_is_kind", ["_law_value_z", "_law_kind", "_law_firsts", "_law_good_z", "_law_low", "_law_high", "_law_one", "_law_k"]) :: ("_law_is_deed", ["_law_value_z", "_law_kinds", "_law_spots", "_law_one", "_law_kind"]) :: ("_law_some_of", ["_law_bag", "_law_kind", "_law_cells_z", "_law_low", "_law_high", "_law_c", "_law_key"]) :: ("_law_some_deed", ["_law_bag", "_law_wide", "_law_words", "_law_word", "_law_found", "_law_kind", "_law_one"]) :: ("_law_odd", ["_law_bag", "_law_some"]) :: ("_law_bent", ["_law_bag", "_law_act", "_law_way", "_law_at", "_law_other"]) :: ("law", ["_law_script", "_law_bag", "_law_turn", "_law_five", "_law_found", "_law_act", "_law_k", "_law_odd_here", "_law_other", "_law_due", "_law_fixed", "_law_sign"]) :: ("Share", ["self", "top", "bottom", "common"]) :: []
def k80pats : List Pat := ⟨"is_whole", 1, [], []⟩ :: ⟨"is_name", 1, [], []⟩ :: ⟨"is_number", 3, [], []⟩ :: ⟨"is_lot", 1, [], []⟩ :: ⟨"is_amount", 1, [], []⟩ :: ⟨"is_day", 1, [], []⟩ :: ⟨"is_cell", 1, [], []⟩ :: ⟨"is_heir", 1, [], []⟩ :: ⟨"fits", 2, [], []⟩ :: ⟨"is_entry_number", 1, [], []⟩ :: ⟨"is_plain", 1, [], []⟩ :: ⟨"is_correction", 1, [], []⟩ :: ⟨"_law_draw", 2, [], []⟩ :: ⟨"_law_same", 2, [], []⟩ :: ⟨"_law_of", 2, [], []⟩ :: ⟨"_law_is_name", 1, [], []⟩ :: ⟨"_law_is_int", 3, [], []⟩ :: ⟨"_law_is_row", 3, [], []⟩ :: ⟨"_law_is_deed", 1, [], []⟩ :: ⟨"_law_shapes", 0, [], []⟩ :: ⟨"_law_unlike_items", 0, [], []⟩ :: ⟨"_law_is_kind", 2, [], []⟩ :: ⟨"_law_mixed", 2, [], []⟩ :: ⟨"_law_some_deed", 2, [], []⟩ :: ⟨"_law_names", 2, [], []⟩ :: ⟨"_law_some_of", 2, [], []⟩ :: ⟨"_law_odd", 1, [], []⟩ :: ⟨"_law_bent", 2, [], []⟩ :: ⟨"_law_open", 1, [], []⟩ :: ⟨"is_deed", 1, [], []⟩ :: ⟨"is_correction", 0, ["value"], []⟩ :: ⟨"is_deed", 0, ["value"], []⟩ :: ⟨"common_divisor", 2, [], []⟩ :: ⟨"is_parcels", 1, [], []⟩ :: ⟨"is_called", 1, [], []⟩ :: ⟨"is_part_share", 1, [], []⟩ :: ⟨"is_knowing", 1, [], []⟩ :: ⟨"is_heirs", 1, [], []⟩ :: ⟨"is_cells", 1, [], []⟩ :: ⟨"is_sum", 1, [], []⟩ :: ⟨"is_until", 1, [], []⟩ :: []
def k80cpats : List Pat := [⟨"Share", 2, [], []⟩, ⟨"Share", 1, [], [.int 1]⟩]
def k80gl : List (Str × D) := ("LETTERS", .str "abcdefghijklmnopqrstuvwxyz") :: ("MOST_LETTERS", .int 6) :: ("MOST_PARCELS", .int 12) :: ("LAST_DAY", .int 9999) :: ("LAST", .int 11) :: ("LAST_ENTRY", .int 999) :: ("GREATEST_AMOUNT", .int 999999999999) :: ("MOST_CELLS", .int 144) :: ("MOST_HEIRS", .int 4) :: ("MOST_WEIGHT", .int 9) :: ("MOST_BOTTOM", .int 60) :: ("DIFFERENT", .dic [.str "sale", .str "gift", .str "divide", .str "unite", .str "grant", .str "waive", .str "part", .str "yield", .str "trade"] [.tup [.int 2, .int 3], .tup [.int 2, .int 3], .tup [.int 1, .int 3], .tup [.int 1, .int 2], .tup [.int 1, .int 2], .tup [.int 1, .int 2], .tup [.int 1, .int 3], .tup [.int 1, .int 2], .tup [.int 1, .int 2]]) :: ("FORMS", .dic [.str "sale", .str "gift", .str "heirs", .str "void", .str "uphold", .str "divide", .str "unite", .str "grant", .str "waive", .str "charge", .str "reserve", .str "fill", .str "repay", .str "assign", .str "part", .str "merge", .str "release", .str "extend", .str "yield", .str "trade"] [.tup [.fn "is_parcels", .fn "is_called", .fn "is_called", .fn "is_part_share", .fn "is_knowing"], .tup [.fn "is_parcels", .fn "is_called", .fn "is_called", .fn "is_part_share"], .tup [.fn "is_called", .fn "is_heirs"], .tup [.fn "is_entry_number"], .tup [.fn "is_entry_number"], .tup [.fn "is_called", .fn "is_cells", .fn "is_called"], .tup [.fn "is_called", .fn "is_called"], .tup [.fn "is_called", .fn "is_called", .fn "is_parcels", .fn "is_knowing"], .tup [.fn "is_called", .fn "is_called"], .tup [.fn "is_called", .fn "is_called", .fn "is_sum", .fn "is_parcels", .fn "is_parcels", .fn "is_knowing"], .tup [.fn "is_called", .fn "is_sum", .fn "is_parcels", .fn "is_until", .fn "is_parcels", .fn "is_knowing"], .tup [.fn "is_called", .fn "is_called"], .tup [.fn "is_called", .fn "is_sum"], .tup [.fn "is_called", .fn "is_called"], .tup [.fn "is_called", .fn "is_sum", .fn "is_called"], .tup [.fn "is_called"], .tup [.fn "is_called", .fn "is_called"], .tup [.fn "is_called", .fn "is_called", .fn "is_parcels", .fn "is_knowing"], .tup [.fn "is_called", .fn "is_called"], .tup [.fn "is_called", .fn "is_called"]]) :: ("Share", .cls "Share") :: []
def k80nog : List Str := ["abs", "all", "bool", "dict", "int", "isinstance", "len", "list", "range", "set", "sorted", "str", "tuple", "zip"]
def k80G : Gm := ⟨[], default, k80gl, k80pats, k80cpats, k80nog, [(167, 11)], [(189, 4), (208, 4), (208, 16)]⟩
end R
end
section
set_option Elab.async false
set_option linter.all false
set_option maxRecDepth 100000
set_option maxHeartbeats 4000000
namespace R
open PySem L2
def k_FORMS : D := (.dic [(.str "sale"), (.str "gift"), (.str "heirs"), (.str "void"), (.str "uphold"), (.str "divide"), (.str "unite"), (.str "grant"), (.str "waive"), (.str "charge"), (.str "reserve"), (.str "fill"), (.str "repay"), (.str "assign"), (.str "part"), (.str "merge"), (.str "release"), (.str "extend"), (.str "yield"), (.str "trade")] [(.tup [(.fn "is_parcels"), (.fn "is_called"), (.fn "is_called"), (.fn "is_part_share"), (.fn "is_knowing")]), (.tup [(.fn "is_parcels"), (.fn "is_called"), (.fn "is_called"), (.fn "is_part_share")]), (.tup [(.fn "is_called"), (.fn "is_heirs")]), (.tup [(.fn "is_entry_number")]), (.tup [(.fn "is_entry_number")]), (.tup [(.fn "is_called"), (.fn "is_cells"), (.fn "is_called")]), (.tup [(.fn "is_called"), (.fn "is_called")]), (.tup [(.fn "is_called"), (.fn "is_called"), (.fn "is_parcels"), (.fn "is_knowing")]), (.tup [(.fn "is_called"), (.fn "is_called")]), (.tup [(.fn "is_called"), (.fn "is_called"), (.fn "is_sum"), (.fn "is_parcels"), (.fn "is_parcels"), (.fn "is_knowing")]), (.tup [(.fn "is_called"), (.fn "is_sum"), (.fn "is_parcels"), (.fn "is_until"), (.fn "is_parcels"), (.fn "is_knowing")]), (.tup [(.fn "is_called"), (.fn "is_called")]), (.tup [(.fn "is_called"), (.fn "is_sum")]), (.tup [(.fn "is_called"), (.fn "is_called")]), (.tup [(.fn "is_called"), (.fn "is_sum"), (.fn "is_called")]), (.tup [(.fn "is_called")]), (.tup [(.fn "is_called"), (.fn "is_called")]), (.tup [(.fn "is_called"), (.fn "is_called"), (.fn "is_parcels"), (.fn "is_knowing")]), (.tup [(.fn "is_called"), (.fn "is_called")]), (.tup [(.fn "is_called"), (.fn "is_called")])])
def k_DIFF : D := (.dic [(.str "sale"), (.str "gift"), (.str "divide"), (.str "unite"), (.str "grant"), (.str "waive"), (.str "part"), (.str "yield"), (.str "trade")] [(.tup [(.int (2)), (.int (3))]), (.tup [(.int (2)), (.int (3))]), (.tup [(.int (1)), (.int (3))]), (.tup [(.int (1)), (.int (2))]), (.tup [(.int (1)), (.int (2))]), (.tup [(.int (1)), (.int (2))]), (.tup [(.int (1)), (.int (3))]), (.tup [(.int (1)), (.int (2))]), (.tup [(.int (1)), (.int (2))])])
def c_is_whole : CF := ⟨1, 1, none, [
    (.ret (.and_ (.prim .isi [(.peek 0), (.const (.ty "int"))]) (.not_ (.prim .isi [(.peek 0), (.const (.ty "bool"))]))))]⟩
def c_is_number : CF := ⟨3, 3, none, [
    (.ret (.and_ (.call "is_whole" [(.var 0)] []) (.chain (.var 1) [.le, .le] [(.var 0), (.var 2)])))]⟩
def c_is_name : CF := ⟨1, 2, none, [
    (.ite (.or_ (.not_ (.prim .isi [(.peek 0), (.const (.ty "str"))])) (.not_ (.chain (.const (.int (1))) [.le, .le] [(.prim .len [(.peek 0)]), (.const (.int (6)))]))) [(.ret (.const (.bl false)))] []),
    (.ret (.prim .all [(.comp [1] (.nm 1) (.seq (.var 0)) [] (.prim .in_ [(.peek 1), (.const (.str "abcdefghijklmnopqrstuvwxyz"))]))]))]⟩
def c_is_lot : CF := ⟨1, 3, none, [
    (.ite (.or_ (.not_ (.prim .isi [(.peek 0), (.const (.ty "tuple"))])) (.not_ (.chain (.const (.int (1))) [.le, .le] [(.prim .len [(.peek 0)]), (.const (.int (12)))]))) [(.ret (.const (.bl false)))] []),
    (.ite (.not_ (.prim .all [(.comp [2] (.nm 2) (.seq (.var 0)) [] (.call "is_name" [(.var 2)] []))])) [(.ret (.const (.bl false)))] []),
    (.ret (.prim .all [(.comp [1] (.nm 1) (.range [(.const (.int (1))), (.prim .len [(.peek 0)])]) [] (.prim .lt [(.prim .item [(.peek 0), (.prim .sub [(.peek 1), (.const (.int (1)))])]), (.prim .item [(.peek 0), (.peek 1)])]))]))]⟩
def c_is_amount : CF := ⟨1, 1, none, [
    (.ret (.and_ (.call "is_whole" [(.var 0)] []) (.prim .ge [(.peek 0), (.const (.int (1)))])))]⟩
def c_is_day : CF := ⟨1, 1, none, [
    (.ret (.call "is_number" [(.var 0), (.const (.int (0))), (.const (.int (9999)))] []))]⟩
def c_is_cell : CF := ⟨1, 1, none, [
    (.ite (.or_ (.not_ (.prim .isi [(.peek 0), (.const (.ty "tuple"))])) (.prim .ne [(.prim .len [(.peek 0)]), (.const (.int (2)))])) [(.ret (.const (.bl false)))] []),
    (.ret (.and_ (.call "is_number" [(.prim .item [(.peek 0), (.const (.int (0)))]), (.const (.int (0))), (.const (.int (11)))] []) (.call "is_number" [(.prim .item [(.peek 0), (.const (.int (1)))]), (.const (.int (0))), (.const (.int (11)))] [])))]⟩
def c_common_divisor : CF := ⟨2, 2, none, [
    (.while_ (.prim .ne [(.peek 1), (.const (.int (0)))]) [(.par [(0, false), (1, false)] [(.var 1), (.prim .mod [(.peek 0), (.peek 1)])])]),
    (.ret (.prim .abs [(.peek 0)]))]⟩
def c_Share : CF := ⟨3, 4, some "Share", [
    (.ite (.not_ (.call "is_whole" [(.var 1)] [])) [.bad] []),
    (.ite (.or_ (.not_ (.call "is_whole" [(.var 2)] [])) (.prim .lt [(.peek 2), (.const (.int (1)))])) [.bad] []),
    (.asg (.nm 3) (.call "common_divisor" [(.var 1), (.var 2)] [])),
    (.fld (.peek 0) "top" (.prim .fdiv [(.peek 1), (.peek 3)])),
    (.fld (.peek 0) "bottom" (.prim .fdiv [(.peek 2), (.peek 3)]))]⟩
def c_is_parcels : CF := ⟨1, 1, none, [
    (.ret (.call "is_lot" [(.var 0)] []))]⟩
def c_is_called : CF := ⟨1, 1, none, [
    (.ret (.call "is_name" [(.var 0)] []))]⟩
def c_is_entry_number : CF := ⟨1, 1, none, [
    (.ret (.call "is_number" [(.var 0), (.const (.int (1))), (.const (.int (999)))] []))]⟩
def c_is_sum : CF := ⟨1, 1, none, [
    (.ret (.and_ (.call "is_amount" [(.var 0)] []) (.prim .le [(.peek 0), (.const (.int (999999999999)))])))]⟩
def c_is_until : CF := ⟨1, 1, none, [
    (.ret (.call "is_day" [(.var 0)] []))]⟩
def c_is_knowing : CF := ⟨1, 1, none, [
    (.ret (.prim .isi [(.peek 0), (.const (.ty "bool"))]))]⟩
def c_is_part_share : CF := ⟨1, 1, none, [
    (.ret (.and_ (.prim .isi [(.peek 0), (.const (.cls "Share"))]) (.chain (.const (.int (0))) [.lt, .le, .le] [(.prim (.attr "top") [(.peek 0)]), (.prim (.attr "bottom") [(.peek 0)]), (.const (.int (60)))])))]⟩
def c_is_cells : CF := ⟨1, 2, none, [
    (.ite (.or_ (.not_ (.prim .isi [(.peek 0), (.const (.ty "tuple"))])) (.not_ (.chain (.const (.int (1))) [.le, .le] [(.prim .len [(.peek 0)]), (.const (.int (144)))]))) [(.ret (.const (.bl false)))] []),
    (.ret (.and_ (.prim .all [(.comp [1] (.nm 1) (.seq (.var 0)) [] (.call "is_cell" [(.var 1)] []))]) (.prim .eq [(.prim .len [(.prim .set [(.peek 0)])]), (.prim .len [(.peek 0)])])))]⟩
def c_is_heir : CF := ⟨1, 1, none, [
    (.ret (.and_ (.prim .isi [(.peek 0), (.const (.ty "tuple"))]) (.and_ (.prim .eq [(.prim .len [(.peek 0)]), (.const (.int (2)))]) (.and_ (.call "is_name" [(.prim .item [(.peek 0), (.const (.int (0)))])] []) (.call "is_number" [(.prim .item [(.peek 0), (.const (.int (1)))]), (.const (.int (1))), (.const (.int (9)))] [])))))]⟩
def c_is_heirs : CF := ⟨1, 2, none, [
    (.ite (.or_ (.not_ (.prim .isi [(.peek 0), (.const (.ty "tuple"))])) (.not_ (.chain (.const (.int (1))) [.le, .le] [(.prim .len [(.peek 0)]), (.const (.int (4)))]))) [(.ret (.const (.bl false)))] []),
    (.ret (.and_ (.prim .all [(.comp [1] (.nm 1) (.seq (.var 0)) [] (.call "is_heir" [(.var 1)] []))]) (.prim .eq [(.prim .len [(.scomp [1] (.nm 1) (.seq (.var 0)) [] (.prim .item [(.peek 1), (.const (.int (0)))]))]), (.prim .len [(.peek 0)])])))]⟩
def c_fits : CF := ⟨2, 2, none, [
    (.ret (.callv ["is_whole", "is_name", "is_lot", "is_amount", "is_day", "is_cell", "is_heir", "is_entry_number", "is_plain", "is_correction", "_law_is_name", "_law_is_deed", "_law_odd", "_law_open", "is_deed", "is_parcels", "is_called", "is_part_share", "is_knowing", "is_heirs", "is_cells", "is_sum", "is_until"] (.var 0) [(.var 1)]))]⟩
def c_is_plain : CF := ⟨1, 9, none, [
    (.ite (.or_ (.not_ (.prim .isi [(.peek 0), (.const (.ty "tuple"))])) (.or_ (.prim .eq [(.peek 0), (.tup [])]) (.or_ (.not_ (.prim .isi [(.prim .item [(.peek 0), (.const (.int (0)))]), (.const (.ty "str"))])) (.prim .notin [(.prim .item [(.peek 0), (.const (.int (0)))]), (.const k_FORMS)])))) [(.ret (.const (.bl false)))] []),
    (.par [(2, false), (3, false)] [(.prim .item [(.peek 0), (.const (.int (0)))]), (.slice true false (.peek 0) [(.const (.int (1)))])]),
    (.asg (.nm 1) (.prim .item [(.const k_FORMS), (.peek 2)])),
    (.ite (.or_ (.prim .ne [(.prim .len [(.peek 3)]), (.prim .len [(.peek 1)])]) (.not_ (.prim .all [(.comp [7, 8] (.tup [(.nm 7), (.nm 8)]) (.zip [(.var 1), (.var 3)]) [] (.call "fits" [(.var 7), (.var 8)] []))]))) [(.ret (.const (.bl false)))] []),
    (.ite (.prim .eq [(.peek 2), (.const (.str "heirs"))]) [(.ret (.prim .notin [(.prim .item [(.peek 0), (.const (.int (1)))]), (.comp [6] (.nm 6) (.seq (.prim .item [(.peek 0), (.const (.int (2)))])) [] (.prim .item [(.peek 6), (.const (.int (0)))]))]))] []),
    (.ite (.prim .in_ [(.peek 2), (.const k_DIFF)]) [(.asg (.tup [(.nm 4), (.nm 5)]) (.prim .item [(.const k_DIFF), (.peek 2)])), (.ret (.prim .ne [(.prim .item [(.peek 0), (.peek 4)]), (.prim .item [(.peek 0), (.peek 5)])]))] []),
    (.ret (.const (.bl true)))]⟩
def c_is_correction : CF := ⟨1, 1, none, [
    (.ite (.or_ (.not_ (.prim .isi [(.peek 0), (.const (.ty "tuple"))])) (.or_ (.prim .eq [(.peek 0), (.tup [])]) (.not_ (.prim .isi [(.prim .item [(.peek 0), (.const (.int (0)))]), (.const (.ty "str"))])))) [(.ret (.const (.bl false)))] []),
    (.ite (.prim .eq [(.prim .item [(.peek 0), (.const (.int (0)))]), (.const (.str "strike"))]) [(.ret (.and_ (.prim .eq [(.prim .len [(.peek 0)]), (.const (.int (2)))]) (.call "is_entry_number" [(.prim .item [(.peek 0), (.const (.int (1)))])] [])))] []),
    (.ret (.and_ (.prim .eq [(.prim .item [(.peek 0), (.const (.int (0)))]), (.const (.str "instead"))]) (.and_ (.prim .eq [(.prim .len [(.peek 0)]), (.const (.int (3)))]) (.and_ (.call "is_entry_number" [(.prim .item [(.peek 0), (.const (.int (1)))])] []) (.call "is_plain" [(.prim .item [(.peek 0), (.const (.int (2)))])] [])))))]⟩
def c_is_deed : CF := ⟨1, 1, none, [
    (.ret (.or_ (.call "is_plain" [(.var 0)] []) (.call "is_correction" [(.var 0)] [])))]⟩
def c__law_open : CF := ⟨1, 3, none, [
    (.asg (.nm 1) (.const (.int (12030)))),
    (.for_ (.nm 2) (.seq (.slice false true (.peek 0) [(.const (.int (63)))])) [(.asg (.nm 1) (.prim .mod [(.prim .int [(.prim .add [(.prim .add [(.prim .mul [(.peek 1), (.const (.int (52391)))]), (.prim .mul [(.prim .mod [(.prim .int [(.peek 2)]), (.const (.int (1000313)))]), (.const (.int (881)))])]), (.const (.int (41)))])]), (.const (.int (2147483587)))]))]),
    (.ret (.cell [(.prim .list [(.slice false true (.peek 0) [(.const (.int (63)))])]), (.const (.int (0))), (.const (.int (0))), (.var 1), (.const (.int (0)))]))]⟩
def c__law_draw : CF := ⟨2, 7, none, [
    (.put (.peek 0) (.const (.int (4))) (.prim .add [(.prim .item [(.peek 0), (.const (.int (4)))]), (.const (.int (1)))])),
    (.ite (.and_ (.prim .eq [(.prim .item [(.peek 0), (.const (.int (2)))]), (.const (.int (0)))]) (.prim .lt [(.prim .item [(.peek 0), (.const (.int (1)))]), (.prim .len [(.prim .item [(.peek 0), (.const (.int (0)))])])])) [(.asg (.nm 4) (.prim .item [(.prim .item [(.peek 0), (.const (.int (0)))]), (.prim .item [(.peek 0), (.const (.int (1)))])])), (.put (.peek 0) (.const (.int (1))) (.prim .add [(.prim .item [(.peek 0), (.const (.int (1)))]), (.const (.int (1)))])), (.ite (.prim .ge [(.prim .abs [(.peek 4)]), (.prim .pow [(.const (.int (10))), (.const (.int (18)))])]) [(.put (.peek 0) (.const (.int (2))) (.prim .abs [(.peek 4)]))] [(.asg (.nm 6) (.prim .add [(.prim .mul [(.prim .mod [(.prim .int [(.peek 4)]), (.const (.int (1000313)))]), (.const (.int (773)))]), (.const (.int (43)))])), (.put (.peek 0) (.const (.int (3))) (.prim .mod [(.prim .int [(.prim .add [(.prim .mul [(.prim .item [(.peek 0), (.const (.int (3)))]), (.const (.int (43801)))]), (.peek 6)])]), (.const (.int (2147483629)))]))])] []),
    (.ite (.prim .gt [(.prim .item [(.peek 0), (.const (.int (2)))]), (.const (.int (0)))]) [(.asg (.nm 5) (.prim .mod [(.prim .int [(.prim .item [(.peek 0), (.const (.int (2)))])]), (.peek 1)])), (.put (.peek 0) (.const (.int (2))) (.prim .fdiv [(.prim .item [(.peek 0), (.const (.int (2)))]), (.peek 1)])), (.ret (.var 5))] []),
    (.asg (.nm 2) (.prim .item [(.peek 0), (.const (.int (3)))])),
    (.asg (.nm 3) (.prim .add [(.prim .add [(.prim .mul [(.peek 2), (.const (.int (49033)))]), (.prim .mul [(.prim .item [(.peek 0), (.const (.int (4)))]), (.const (.int (110039)))])]), (.const (.int (60041)))])),
    (.put (.peek 0) (.const (.int (3))) (.prim .mod [(.prim .int [(.prim .add [(.prim .mul [(.prim .mul [(.peek 2), (.peek 2)]), (.const (.int (17)))]), (.peek 3)])]), (.const (.int (2147483587)))])),
    (.ret (.prim .mod [(.prim .int [(.prim .add [(.prim .fdiv [(.prim .item [(.peek 0), (.const (.int (3)))]), (.const (.int (71)))]), (.prim .mul [(.prim .mod [(.prim .int [(.prim .item [(.peek 0), (.const (.int (3)))])]), (.const (.int (8011)))]), (.const (.int (61)))])])]), (.peek 1)]))]⟩
def c__law_of : CF := ⟨2, 2, none, [
    (.ret (.prim .item [(.peek 1), (.call "_law_draw" [(.var 0), (.prim .len [(.peek 1)])] [])]))]⟩
def c__law_mixed : CF := ⟨2, 4, none, [
    (.asgO 2 (.lst [])),
    (.for_ (.nm 3) (.seq (.var 1)) [(.expr (.mprim .insert (.peek 2) [(.call "_law_draw" [(.var 0), (.prim .add [(.prim .len [(.peek 2)]), (.const (.int (1)))])] []), (.var 3)]))]),
    (.ret (.var 2))]⟩
def c__law_same : CF := ⟨2, 5, none, [
    (.ite (.or_ (.prim .is [(.peek 1), (.const .non)]) (.prim .is [(.peek 0), (.const .non)])) [(.ret (.and_ (.prim .is [(.peek 1), (.const .non)]) (.prim .is [(.peek 0), (.const .non)])))] []),
    (.ite (.prim .isi [(.peek 1), (.const (.ty "dict"))]) [(.ite (.or_ (.not_ (.prim .isi [(.peek 0), (.const (.ty "dict"))])) (.not_ (.call "_law_same" [(.prim .list [(.peek 0)]), (.prim .sorted [(.prim .list [(.peek 1)])])] []))) [(.ret (.const (.bl false)))] []), (.ret (.prim .all [(.comp [2] (.nm 2) (.seq (.var 1)) [] (.call "_law_same" [(.prim .item [(.peek 0), (.peek 2)]), (.prim .item [(.peek 1), (.peek 2)])] []))]))] []),
    (.ite (.prim .isi [(.peek 1), (.tup [(.const (.ty "list")), (.const (.ty "tuple"))])]) [(.ite (.or_ (.prim .ne [(.prim .isi [(.peek 0), (.const (.ty "list"))]), (.prim .isi [(.peek 1), (.const (.ty "list"))])]) (.prim .ne [(.prim .isi [(.peek 0), (.const (.ty "tuple"))]), (.prim .isi [(.peek 1), (.const (.ty "tuple"))])])) [(.ret (.const (.bl false)))] []), (.ret (.and_ (.prim .eq [(.prim .len [(.peek 0)]), (.prim .len [(.peek 1)])]) (.prim .all [(.comp [3, 4] (.tup [(.nm 3), (.nm 4)]) (.zip [(.var 0), (.var 1)]) [] (.call "_law_same" [(.var 3), (.var 4)] []))])))] []),
    (.ite (.or_ (.prim .ne [(.prim .isi [(.peek 1), (.const (.ty "bool"))]), (.prim .isi [(.peek 0), (.const (.ty "bool"))])]) (.prim .ne [(.prim .isi [(.peek 1), (.const (.ty "int"))]), (.prim .isi [(.peek 0), (.const (.ty "int"))])])) [(.ret (.const (.bl false)))] []),
    (.ret (.and_ (.prim .eq [(.prim .isi [(.peek 1), (.const (.ty "str"))]), (.prim .isi [(.peek 0), (.const (.ty "str"))])]) (.prim .eq [(.peek 0), (.peek 1)])))]⟩
def c__law_names : CF := ⟨2, 8, none, [
    (.par [(3, true), (4, true)] [(.prim .list [(.const (.str "abcdefghijklmnopqrstuvwxyz"))]), (.lst [])]),
    (.for_ (.nm 2) (.range [(.var 1)]) [(.asg (.nm 5) (.mprim .pop (.peek 3) [(.call "_law_draw" [(.var 0), (.prim .len [(.peek 3)])] [])])), (.asg (.nm 6) (.comp [7] (.nm 7) (.range [(.call "_law_of" [(.var 0), (.lst [(.const (.int (0))), (.const (.int (0))), (.const (.int (1))), (.const (.int (2))), (.const (.int (3))), (.const (.int (5)))])] [])]) [] (.call "_law_of" [(.var 0), (.const (.str "abcdefghijklmnopqrstuvwxyz"))] []))), (.expr (.mprim .append (.peek 4) [(.prim .add [(.peek 5), (.meth .join "str" (.const (.str "")) [(.peek 6)])])]))]),
    (.ret (.var 4))]⟩
def c__law_shapes : CF := ⟨0, 0, none, [
    (.ret (.dic [(.str "sale"), (.str "gift"), (.str "heirs"), (.str "void"), (.str "uphold"), (.str "divide"), (.str "unite"), (.str "grant"), (.str "waive"), (.str "charge"), (.str "reserve"), (.str "fill"), (.str "repay"), (.str "assign"), (.str "part"), (.str "merge"), (.str "release"), (.str "extend"), (.str "yield"), (.str "trade"), (.str "strike"), (.str "instead")] [(.tup [(.const (.str "lot")), (.const (.str "name")), (.const (.str "name")), (.const (.str "share")), (.const (.str "bool"))]), (.tup [(.const (.str "lot")), (.const (.str "name")), (.const (.str "name")), (.const (.str "share"))]), (.tup [(.const (.str "name")), (.const (.str "heirs"))]), (.tup [(.const (.str "number"))]), (.tup [(.const (.str "number"))]), (.tup [(.const (.str "name")), (.const (.str "cells")), (.const (.str "name"))]), (.tup [(.const (.str "name")), (.const (.str "name"))]), (.tup [(.const (.str "name")), (.const (.str "name")), (.const (.str "lot")), (.const (.str "bool"))]), (.tup [(.const (.str "name")), (.const (.str "name"))]), (.tup [(.const (.str "name")), (.const (.str "name")), (.const (.str "amount")), (.const (.str "lot")), (.const (.str "lot")), (.const (.str "bool"))]), (.tup [(.const (.str "name")), (.const (.str "amount")), (.const (.str "lot")), (.const (.str "day")), (.const (.str "lot")), (.const (.str "bool"))]), (.tup [(.const (.str "name")), (.const (.str "name"))]), (.tup [(.const (.str "name")), (.const (.str "amount"))]), (.tup [(.const (.str "name")), (.const (.str "name"))]), (.tup [(.const (.str "name")), (.const (.str "amount")), (.const (.str "name"))]), (.tup [(.const (.str "name"))]), (.tup [(.const (.str "name")), (.const (.str "name"))]), (.tup [(.const (.str "name")), (.const (.str "name")), (.const (.str "lot")), (.const (.str "bool"))]), (.tup [(.const (.str "name")), (.const (.str "name"))]), (.tup [(.const (.str "name")), (.const (.str "name"))]), (.tup [(.const (.str "number"))]), (.tup [(.const (.str "number")), (.const (.str "deed"))])]))]⟩
def c__law_unlike_items : CF := ⟨0, 0, none, [
    (.ret (.dic [(.str "sale"), (.str "gift"), (.str "divide"), (.str "unite"), (.str "grant"), (.str "waive"), (.str "part"), (.str "yield"), (.str "trade")] [(.tup [(.const (.int (2))), (.const (.int (3)))]), (.tup [(.const (.int (2))), (.const (.int (3)))]), (.tup [(.const (.int (1))), (.const (.int (3)))]), (.tup [(.const (.int (1))), (.const (.int (2)))]), (.tup [(.const (.int (1))), (.const (.int (2)))]), (.tup [(.const (.int (1))), (.const (.int (2)))]), (.tup [(.const (.int (1))), (.const (.int (3)))]), (.tup [(.const (.int (1))), (.const (.int (2)))]), (.tup [(.const (.int (1))), (.const (.int (2)))])]))]⟩
def c__law_is_name : CF := ⟨1, 2, none, [
    (.ite (.or_ (.not_ (.prim .isi [(.peek 0), (.const (.ty "str"))])) (.not_ (.chain (.const (.int (0))) [.lt, .lt] [(.prim .len [(.peek 0)]), (.const (.int (7)))]))) [(.ret (.const (.bl false)))] []),
    (.ret (.prim .all [(.comp [1] (.nm 1) (.seq (.var 0)) [] (.prim .in_ [(.peek 1), (.const (.str "abcdefghijklmnopqrstuvwxyz"))]))]))]⟩
def c__law_is_int : CF := ⟨3, 3, none, [
    (.ret (.and_ (.prim .isi [(.peek 0), (.const (.ty "int"))]) (.and_ (.not_ (.prim .isi [(.peek 0), (.const (.ty "bool"))])) (.chain (.var 1) [.le, .le] [(.var 0), (.var 2)]))))]⟩
def c__law_is_row : CF := ⟨3, 3, none, [
    (.ret (.and_ (.prim .isi [(.peek 0), (.const (.ty "tuple"))]) (.chain (.var 1) [.le, .le] [(.prim .len [(.peek 0)]), (.var 2)])))]⟩
def c__law_is_kind : CF := ⟨2, 8, none, [
    (.ite (.prim .eq [(.peek 1), (.const (.str "name"))]) [(.ret (.call "_law_is_name" [(.var 0)] []))] []),
    (.ite (.prim .eq [(.peek 1), (.const (.str "bool"))]) [(.ret (.prim .isi [(.peek 0), (.const (.ty "bool"))]))] []),
    (.ite (.prim .in_ [(.peek 1), (.tup [(.const (.str "number")), (.const (.str "amount")), (.const (.str "day"))])]) [(.asg (.tup [(.nm 4), (.nm 5)]) (.prim .item [(.dic [(.str "number"), (.str "amount"), (.str "day")] [(.tup [(.const (.int (1))), (.const (.int (999)))]), (.tup [(.const (.int (1))), (.prim .sub [(.prim .pow [(.const (.int (10))), (.const (.int (12)))]), (.const (.int (1)))])]), (.tup [(.const (.int (0))), (.const (.int (9999)))])]), (.peek 1)])), (.ret (.call "_law_is_int" [(.var 0), (.var 4), (.var 5)] []))] []),
    (.ite (.prim .eq [(.peek 1), (.const (.str "share"))]) [(.ret (.and_ (.prim .isi [(.peek 0), (.const (.cls "Share"))]) (.chain (.const (.int (0))) [.lt, .le, .le] [(.prim (.attr "top") [(.peek 0)]), (.prim (.attr "bottom") [(.peek 0)]), (.const (.int (60)))])))] []),
    (.ite (.prim .eq [(.peek 1), (.const (.str "lot"))]) [(.asg (.nm 3) (.and_ (.call "_law_is_row" [(.var 0), (.const (.int (1))), (.const (.int (12)))] []) (.prim .all [(.comp [6] (.nm 6) (.seq (.var 0)) [] (.call "_law_is_name" [(.var 6)] []))]))), (.ret (.and_ (.var 3) (.prim .all [(.comp [7] (.nm 7) (.range [(.prim .sub [(.prim .len [(.peek 0)]), (.const (.int (1)))])]) [] (.prim .lt [(.prim .item [(.peek 0), (.peek 7)]), (.prim .item [(.peek 0), (.prim .add [(.peek 7), (.const (.int (1)))])])]))])))] []),
    (.ite (.prim .eq [(.peek 1), (.const (.str "deed"))]) [(.ret (.and_ (.call "_law_is_deed" [(.var 0)] []) (.prim .notin [(.prim .item [(.peek 0), (.const (.int (0)))]), (.tup [(.const (.str "strike")), (.const (.str "instead"))])])))] []),
    (.ite (.or_ (.not_ (.call "_law_is_row" [(.var 0), (.const (.int (1))), (.ifE (.prim .eq [(.peek 1), (.const (.str "cells"))]) (.const (.int (144))) (.const (.int (4))))] [])) (.not_ (.prim .all [(.comp [6] (.nm 6) (.seq (.var 0)) [] (.call "_law_is_row" [(.var 6), (.const (.int (2))), (.const (.int (2)))] []))]))) [(.ret (.const (.bl false)))] []),
    (.asg (.nm 2) (.comp [6] (.nm 6) (.seq (.var 0)) [] (.prim .item [(.peek 6), (.const (.int (0)))]))),
    (.ite (.prim .eq [(.peek 1), (.const (.str "heirs"))]) [(.asg (.nm 3) (.prim .all [(.comp [6] (.nm 6) (.seq (.var 0)) [] (.and_ (.call "_law_is_name" [(.prim .item [(.peek 6), (.const (.int (0)))])] []) (.call "_law_is_int" [(.prim .item [(.peek 6), (.const (.int (1)))]), (.const (.int (1))), (.const (.int (9)))] [])))])), (.ret (.and_ (.var 3) (.prim .eq [(.prim .len [(.prim .dict [(.comp [6] (.nm 6) (.seq (.var 2)) [] (.tup [(.var 6), (.const (.bl true))]))])]), (.prim .len [(.peek 2)])])))] []),
    (.asg (.nm 3) (.prim .all [(.comp [6] (.nm 6) (.seq (.var 0)) [] (.and_ (.call "_law_is_int" [(.prim .item [(.peek 6), (.const (.int (0)))]), (.const (.int (0))), (.const (.int (11)))] []) (.call "_law_is_int" [(.prim .item [(.peek 6), (.const (.int (1)))]), (.const (.int (0))), (.const (.int (11)))] [])))])),
    (.ret (.and_ (.var 3) (.prim .eq [(.prim .len [(.prim .dict [(.comp [6] (.nm 6) (.seq (.var 0)) [] (.tup [(.var 6), (.const (.bl true))]))])]), (.prim .len [(.peek 0)])])))]⟩
def c__law_is_deed : CF := ⟨1, 5, none, [
    (.ite (.or_ (.not_ (.prim .isi [(.peek 0), (.const (.ty "tuple"))])) (.or_ (.prim .eq [(.peek 0), (.tup [])]) (.not_ (.prim .isi [(.prim .item [(.peek 0), (.const (.int (0)))]), (.const (.ty "str"))])))) [(.ret (.const (.bl false)))] []),
    (.asg (.nm 1) (.meth .get "dict" (.call "_law_shapes" [] []) [(.prim .item [(.peek 0), (.const (.int (0)))]), (.const .non)])),
    (.ite (.or_ (.prim .is [(.peek 1), (.const .non)]) (.prim .ne [(.prim .len [(.peek 1)]), (.prim .sub [(.prim .len [(.peek 0)]), (.const (.int (1)))])])) [(.ret (.const (.bl false)))] []),
    (.ite (.not_ (.prim .all [(.comp [3, 4] (.tup [(.nm 3), (.nm 4)]) (.zip [(.slice true false (.peek 0) [(.const (.int (1)))]), (.var 1)]) [] (.call "_law_is_kind" [(.var 3), (.var 4)] []))])) [(.ret (.const (.bl false)))] []),
    (.ite (.and_ (.prim .eq [(.prim .item [(.peek 0), (.const (.int (0)))]), (.const (.str "heirs"))]) (.prim .in_ [(.prim .item [(.peek 0), (.const (.int (1)))]), (.comp [3] (.nm 3) (.seq (.prim .item [(.peek 0), (.const (.int (2)))])) [] (.prim .item [(.peek 3), (.const (.int (0)))]))])) [(.ret (.const (.bl false)))] []),
    (.asg (.nm 2) (.meth .get "dict" (.call "_law_unlike_items" [] []) [(.prim .item [(.peek 0), (.const (.int (0)))]), (.const .non)])),
    (.ret (.or_ (.prim .is [(.peek 2), (.const .non)]) (.prim .ne [(.prim .item [(.peek 0), (.prim .item [(.peek 2), (.const (.int (0)))])]), (.prim .item [(.peek 0), (.prim .item [(.peek 2), (.const (.int (1)))])])])))]⟩
def c__law_some_of : CF := ⟨2, 7, none, [
    (.ite (.prim .eq [(.peek 1), (.const (.str "name"))]) [(.ret (.prim .item [(.call "_law_names" [(.var 0), (.const (.int (1)))] []), (.const (.int (0)))]))] []),
    (.ite (.prim .eq [(.peek 1), (.const (.str "bool"))]) [(.ret (.prim .eq [(.call "_law_draw" [(.var 0), (.const (.int (2)))] []), (.const (.int (0)))]))] []),
    (.ite (.prim .in_ [(.peek 1), (.tup [(.const (.str "number")), (.const (.str "amount")), (.const (.str "day"))])]) [(.asg (.tup [(.nm 3), (.nm 4)]) (.prim .item [(.dic [(.str "number"), (.str "amount"), (.str "day")] [(.tup [(.const (.int (1))), (.const (.int (999)))]), (.tup [(.const (.int (1))), (.prim .sub [(.prim .pow [(.const (.int (10))), (.const (.int (12)))]), (.const (.int (1)))])]), (.tup [(.const (.int (0))), (.const (.int (9999)))])]), (.peek 1)])), (.ret (.call "_law_of" [(.var 0), (.lst [(.var 3), (.var 4), (.prim .add [(.peek 3), (.call "_law_draw" [(.var 0), (.const (.int (400)))] [])])])] []))] []),
    (.ite (.prim .eq [(.peek 1), (.const (.str "share"))]) [(.asg (.nm 3) (.prim .add [(.const (.int (1))), (.call "_law_draw" [(.var 0), (.const (.int (60)))] [])])), (.ret (.new "Share" [(.prim .add [(.const (.int (1))), (.call "_law_draw" [(.var 0), (.var 3)] [])]), (.var 3)] []))] []),
    (.ite (.prim .eq [(.peek 1), (.const (.str "lot"))]) [(.ret (.prim .tuple [(.prim .sorted [(.call "_law_names" [(.var 0), (.prim .add [(.const (.int (1))), (.call "_law_of" [(.var 0), (.lst [(.const (.int (0))), (.const (.int (0))), (.const (.int (1))), (.const (.int (2))), (.const (.int (11)))])] [])])] [])])]))] []),
    (.ite (.prim .eq [(.peek 1), (.const (.str "deed"))]) [(.ret (.call "_law_some_deed" [(.var 0), (.const (.bl false))] []))] []),
    (.ite (.prim .eq [(.peek 1), (.const (.str "heirs"))]) [(.ret (.prim .tuple [(.comp [6] (.nm 6) (.seq (.call "_law_names" [(.var 0), (.prim .add [(.const (.int (1))), (.call "_law_draw" [(.var 0), (.const (.int (4)))] [])])] [])) [] (.tup [(.var 6), (.prim .add [(.const (.int (1))), (.call "_law_draw" [(.var 0), (.const (.int (9)))] [])])]))]))] []),
    (.asg (.nm 2) (.call "_law_mixed" [(.var 0), (.comp [5] (.nm 5) (.range [(.call "_law_of" [(.var 0), (.lst [(.const (.int (1))), (.const (.int (2))), (.const (.int (5))), (.const (.int (12)))])] [])]) [] (.tup [(.call "_law_draw" [(.var 0), (.const (.int (12)))] []), (.var 5)]))] [])),
    (.ret (.prim .tuple [(.peek 2)]))]⟩
def c__law_some_deed : CF := ⟨2, 7, none, [
    (.asg (.nm 2) (.prim .sorted [(.prim .list [(.call "_law_shapes" [] [])])])),
    (.asg (.nm 3) (.call "_law_of" [(.var 0), (.comp [6] (.nm 6) (.seq (.var 2)) [(.or_ (.var 1) (.prim .notin [(.peek 6), (.tup [(.const (.str "strike")), (.const (.str "instead"))])]))] (.var 6))] [])),
    (.asg (.nm 4) (.tup [(.var 3)])),
    (.for_ (.nm 5) (.seq (.prim .item [(.call "_law_shapes" [] []), (.peek 3)])) [(.asg (.nm 4) (.prim .add [(.peek 4), (.tup [(.call "_law_some_of" [(.var 0), (.var 5)] [])])]))]),
    (.ret (.ifE (.call "_law_is_deed" [(.var 4)] []) (.var 4) (.tup [(.const (.str "merge")), (.call "_law_some_of" [(.var 0), (.const (.str "name"))] [])])))]⟩
def c__law_odd : CF := ⟨1, 2, none, [
    (.asg (.nm 1) (.lst [(.const .non), (.const (.bl true)), (.const (.bl false)), (.const (.int (0))), (.prim .neg [(.const (.int (1)))]), (.const (.int (1000))), (.prim .sub [(.prim .pow [(.const (.int (10))), (.const (.int (12)))]), (.const (.int (1)))]), (.const (.int (10000))), (.const (.str "")), (.const (.str "A")), (.const (.str "abcdefg")), (.const (.str "a b")), (.tup []), (.lst []), (.dic [] []), (.tup [(.const (.str "b")), (.const (.str "a"))]), (.tup [(.const (.str "a")), (.const (.str "a"))]), (.lst [(.const (.str "a"))]), (.tup [(.const (.str "a")), (.const (.int (1)))]), (.tup [(.const (.int (1))), (.const (.str "a"))]), (.tup [(.tup [(.const (.int (0))), (.const (.int (0)))]), (.tup [(.const (.int (0))), (.const (.int (0)))])]), (.tup [(.tup [(.const (.int (0))), (.const (.int (12)))])]), (.tup [(.tup [(.const (.int (0))), (.prim .neg [(.const (.int (1)))])])]), (.tup [(.lst [(.const (.int (0))), (.const (.int (0)))])]), (.tup [(.tup [(.const (.int (0))), (.const (.bl true))])]), (.tup [(.tup [(.const (.str "a")), (.const (.int (0)))])]), (.tup [(.tup [(.const (.str "a")), (.const (.int (10)))])]), (.tup [(.tup [(.const (.str "a")), (.const (.int (1)))]), (.tup [(.const (.str "a")), (.const (.int (2)))])]), (.tup [(.tup [(.const (.str "a")), (.const (.bl true))])]), (.lst [(.tup [(.const (.str "a")), (.const (.int (1)))])]), (.new "Share" [(.const (.int (1))), (.const (.int (61)))] []), (.new "Share" [(.const (.int (3))), (.const (.int (2)))] []), (.new "Share" [(.const (.int (0)))] [(.int (1))]), (.new "Share" [(.prim .neg [(.const (.int (1)))]), (.const (.int (2)))] []), (.const (.str "1/2")), (.tup [(.const (.int (1))), (.const (.int (2)))]), (.tup [(.const (.str "strike")), (.const (.int (1)))]), (.tup [(.const (.str "instead")), (.const (.int (1))), (.tup [(.const (.str "void")), (.const (.int (1)))])]), (.tup [(.const (.str "void"))]), (.const (.str "void")), (.const (.int (1))), (.const (.str "a")), (.tup [(.const (.str "a"))]), (.new "Share" [(.const (.int (1)))] [(.int (1))]), (.new "Share" [(.const (.int (1))), (.const (.int (60)))] []), (.prim .tuple [(.prim .add [(.lst [(.const (.str "a"))]), (.call "_law_names" [(.var 0), (.const (.int (3)))] [])])]), (.tup [(.tup [(.const (.int (11))), (.const (.int (11)))])]), (.tup [(.tup [(.const (.str "a")), (.const (.int (9)))])]), (.tup [(.const (.str "void")), (.const (.int (1)))]), (.const (.int (999))), (.const (.int (9999)))])),
    (.ret (.call "_law_of" [(.var 0), (.var 1)] []))]⟩
def c__law_bent : CF := ⟨2, 5, none, [
    (.par [(2, false), (3, false)] [(.call "_law_draw" [(.var 0), (.const (.int (9)))] []), (.call "_law_draw" [(.var 0), (.prim .len [(.peek 1)])] [])]),
    (.ite (.prim .eq [(.peek 2), (.const (.int (0)))]) [(.ret (.prim .add [(.peek 1), (.tup [(.call "_law_odd" [(.var 0)] [])])]))] []),
    (.ite (.prim .eq [(.peek 2), (.const (.int (1)))]) [(.ret (.prim .add [(.slice false true (.peek 1) [(.var 3)]), (.slice true false (.peek 1) [(.prim .add [(.peek 3), (.const (.int (1)))])])]))] []),
    (.ite (.prim .eq [(.peek 2), (.const (.int (2)))]) [(.ret (.prim .list [(.peek 1)]))] []),
    (.ite (.prim .eq [(.peek 2), (.const (.int (3)))]) [(.asg (.nm 4) (.call "_law_draw" [(.var 0), (.prim .len [(.peek 1)])] [])), (.ret (.prim .add [(.prim .add [(.slice false true (.peek 1) [(.var 3)]), (.tup [(.prim .item [(.peek 1), (.peek 4)])])]), (.slice true false (.peek 1) [(.prim .add [(.peek 3), (.const (.int (1)))])])]))] []),
    (.ite (.prim .eq [(.peek 2), (.const (.int (4)))]) [(.ret (.prim .add [(.tup [(.call "_law_of" [(.var 0), (.prim .add [(.prim .sorted [(.prim .list [(.call "_law_shapes" [] [])])]), (.lst [(.const (.str "")), (.const (.str "Sale")), (.const (.str "do"))])])] [])]), (.slice true false (.peek 1) [(.const (.int (1)))])]))] []),
    (.ite (.and_ (.prim .eq [(.peek 2), (.const (.int (5)))]) (.prim .eq [(.prim .item [(.peek 1), (.const (.int (0)))]), (.const (.str "instead"))])) [(.ret (.prim .add [(.slice false true (.peek 1) [(.const (.int (2)))]), (.tup [(.call "_law_bent" [(.var 0), (.prim .item [(.peek 1), (.const (.int (2)))])] [])])]))] []),
    (.ret (.prim .add [(.prim .add [(.slice false true (.peek 1) [(.var 3)]), (.tup [(.call "_law_odd" [(.var 0)] [])])]), (.slice true false (.peek 1) [(.prim .add [(.peek 3), (.const (.int (1)))])])]))]⟩
def c_law : CF := ⟨1, 12, none, [
    (.asg (.nm 1) (.call "_law_open" [(.var 0)] [])),
    (.for_ (.nm 2) (.range [(.const (.int (10)))]) [(.asg (.nm 5) (.call "_law_some_deed" [(.var 1), (.const (.bl true))] [])), (.ite (.not_ (.call "_law_same" [(.lst [(.call "is_deed" [(.var 5)] []), (.call "is_correction" [(.var 5)] [])]), (.lst [(.const (.bl true)), (.prim .in_ [(.prim .item [(.peek 5), (.const (.int (0)))]), (.tup [(.const (.str "strike")), (.const (.str "instead"))])])])] [])) [(.ret (.const (.bl false)))] []), (.for_ (.nm 6) (.range [(.const (.int (4)))]) [(.asg (.nm 8) (.call "_law_bent" [(.var 1), (.var 5)] [])), (.asg (.nm 9) (.call "_law_is_deed" [(.var 8)] [])), (.asg (.nm 10) (.and_ (.var 9) (.prim .in_ [(.prim .item [(.peek 8), (.const (.int (0)))]), (.tup [(.const (.str "strike")), (.const (.str "instead"))])]))), (.ite (.not_ (.call "_law_same" [(.lst [(.call "is_deed" [(.var 8)] []), (.call "is_correction" [(.var 8)] []), (.call "is_deed" [(.var 8)] [])]), (.lst [(.var 9), (.var 10), (.var 9)])] [])) [(.ret (.const (.bl false)))] [])]), (.asg (.nm 7) (.call "_law_odd" [(.var 1)] [])), (.ite (.not_ (.call "_law_same" [(.lst [(.call "is_deed" [(.var 7)] []), (.call "is_correction" [(.var 7)] [])]), (.lst [(.call "_law_is_deed" [(.var 7)] []), (.and_ (.call "_law_is_deed" [(.var 7)] []) (.prim .ne [(.prim .item [(.peek 7), (.const (.int (0)))]), (.const (.str "void"))]))])] [])) [(.ret (.const (.bl false)))] [])]),
    (.asg (.nm 3) (.prim .tuple [(.comp [11] (.nm 11) (.seq (.const (.str "bcdef"))) [] (.tup [(.var 11), (.const (.int (1)))]))])),
    (.asg (.nm 4) (.lst [(.call "is_deed" [(.tup [(.const (.str "heirs")), (.const (.str "a")), (.var 3)])] []), (.call "is_deed" [(.tup [(.const (.str "heirs")), (.const (.str "a")), (.slice false true (.peek 3) [(.const (.int (4)))])])] []), (.call "is_correction" [(.tup [(.const (.str "instead")), (.const (.int (1))), (.tup [(.const (.str "heirs")), (.const (.str "a")), (.var 3)])])] []), (.call "is_correction" [(.tup [(.const (.str "instead")), (.const (.int (1))), (.tup [(.const (.str "heirs")), (.const (.str "a")), (.slice false true (.peek 3) [(.const (.int (4)))])])])] [])])),
    (.ite (.not_ (.call "_law_same" [(.var 4), (.lst [(.const (.bl false)), (.const (.bl true)), (.const (.bl false)), (.const (.bl true))])] [])) [(.ret (.const (.bl false)))] []),
    (.ret (.and_ (.prim .is [(.call "is_deed" [(.const .non)] []), (.const (.bl false))]) (.prim .is [(.call "is_correction" [(.tup [(.const (.str "instead")), (.const (.int (1))), (.tup [(.const (.str "instead")), (.const (.int (1))), (.tup [(.const (.str "void")), (.const (.int (1)))])])])] []), (.const (.bl false))])))]⟩

def tabL : List (Str × CF) := ("is_whole", c_is_whole) :: ("is_number", c_is_number) :: ("is_name", c_is_name) :: ("is_lot", c_is_lot) :: ("is_amount", c_is_amount) :: ("is_day", c_is_day) :: ("is_cell", c_is_cell) :: ("common_divisor", c_common_divisor) :: ("is_parcels", c_is_parcels) :: ("is_called", c_is_called) :: ("is_entry_number", c_is_entry_number) :: ("is_sum", c_is_sum) :: ("is_until", c_is_until) :: ("is_knowing", c_is_knowing) :: ("is_part_share", c_is_part_share) :: ("is_cells", c_is_cells) :: ("is_heir", c_is_heir) :: ("is_heirs", c_is_heirs) :: ("fits", c_fits) :: ("is_plain", c_is_plain) :: ("is_correction", c_is_correction) :: ("is_deed", c_is_deed) :: ("_law_open", c__law_open) :: ("_law_draw", c__law_draw) :: ("_law_of", c__law_of) :: ("_law_mixed", c__law_mixed) :: ("_law_same", c__law_same) :: ("_law_names", c__law_names) :: ("_law_shapes", c__law_shapes) :: ("_law_unlike_items", c__law_unlike_items) :: ("_law_is_name", c__law_is_name) :: ("_law_is_int", c__law_is_int) :: ("_law_is_row", c__law_is_row) :: ("_law_is_kind", c__law_is_kind) :: ("_law_is_deed", c__law_is_deed) :: ("_law_some_of", c__law_some_of) :: ("_law_some_deed", c__law_some_deed) :: ("_law_odd", c__law_odd) :: ("_law_bent", c__law_bent) :: ("law", c_law) :: []
def tab80 : Fid → Option CF
  | .fn x => tabL.lookup x
  | .new x => if x = "Share" then some c_Share else none
end R
end
section
set_option Elab.async false
set_option linter.all false
set_option maxRecDepth 100000
set_option maxHeartbeats 4000000
namespace R
open PySem PySem.Spec PyProof.Rows L2
noncomputable abbrev KK := k80head.heap_39
theorem k_is_whole (w : Params) : chkAll (KK w) "is_whole" ["value"] ["value"] = true := by kernel_rfl
theorem e_is_whole (w : Params) : cfFd k80G ["value"] ["value"] none (fdD (KK w) "is_whole") = c_is_whole := by kernel_rfl
theorem k_is_number (w : Params) : chkAll (KK w) "is_number" ["value", "least", "most"] ["value", "least", "most"] = true := by kernel_rfl
theorem e_is_number (w : Params) : cfFd k80G ["value", "least", "most"] ["value", "least", "most"] none (fdD (KK w) "is_number") = c_is_number := by kernel_rfl
theorem k_is_name (w : Params) : chkAll (KK w) "is_name" ["value"] ["value", "letter"] = true := by kernel_rfl
theorem e_is_name (w : Params) : cfFd k80G ["value"] ["value", "letter"] none (fdD (KK w) "is_name") = c_is_name := by kernel_rfl
theorem k_is_lot (w : Params) : chkAll (KK w) "is_lot" ["value"] ["value", "at", "name"] = true := by kernel_rfl
theorem e_is_lot (w : Params) : cfFd k80G ["value"] ["value", "at", "name"] none (fdD (KK w) "is_lot") = c_is_lot := by kernel_rfl
theorem k_is_amount (w : Params) : chkAll (KK w) "is_amount" ["value"] ["value"] = true := by kernel_rfl
theorem e_is_amount (w : Params) : cfFd k80G ["value"] ["value"] none (fdD (KK w) "is_amount") = c_is_amount := by kernel_rfl
theorem k_is_day (w : Params) : chkAll (KK w) "is_day" ["value"] ["value"] = true := by kernel_rfl
theorem e_is_day (w : Params) : cfFd k80G ["value"] ["value"] none (fdD (KK w) "is_day") = c_is_day := by kernel_rfl
theorem k_is_cell (w : Params) : chkAll (KK w) "is_cell" ["value"] ["value"] = true := by kernel_rfl
theorem e_is_cell (w : Params) : cfFd k80G ["value"] ["value"] none (fdD (KK w) "is_cell") = c_is_cell := by kernel_rfl
theorem k_common_divisor (w : Params) : chkAll (KK w) "common_divisor" ["first", "second"] ["first", "second"] = true := by kernel_rfl
theorem e_common_divisor (w : Params) : cfFd k80G ["first", "second"] ["first", "second"] none (fdD (KK w) "common_divisor") = c_common_divisor := by kernel_rfl
theorem k_is_parcels (w : Params) : chkAll (KK w) "is_parcels" ["value"] ["value"] = true := by kernel_rfl
theorem e_is_parcels (w : Params) : cfFd k80G ["value"] ["value"] none (fdD (KK w) "is_parcels") = c_is_parcels := by kernel_rfl
theorem k_is_called (w : Params) : chkAll (KK w) "is_called" ["value"] ["value"] = true := by kernel_rfl
theorem e_is_called (w : Params) : cfFd k80G ["value"] ["value"] none (fdD (KK w) "is_called") = c_is_called := by kernel_rfl
theorem k_is_entry_number (w : Params) : chkAll (KK w) "is_entry_number" ["value"] ["value"] = true := by kernel_rfl
theorem e_is_entry_number (w : Params) : cfFd k80G ["value"] ["value"] none (fdD (KK w) "is_entry_number") = c_is_entry_number := by kernel_rfl
theorem k_is_sum (w : Params) : chkAll (KK w) "is_sum" ["value"] ["value"] = true := by kernel_rfl
theorem e_is_sum (w : Params) : cfFd k80G ["value"] ["value"] none (fdD (KK w) "is_sum") = c_is_sum := by kernel_rfl
theorem k_is_until (w : Params) : chkAll (KK w) "is_until" ["value"] ["value"] = true := by kernel_rfl
theorem e_is_until (w : Params) : cfFd k80G ["value"] ["value"] none (fdD (KK w) "is_until") = c_is_until := by kernel_rfl
theorem k_is_knowing (w : Params) : chkAll (KK w) "is_knowing" ["value"] ["value"] = true := by kernel_rfl
theorem e_is_knowing (w : Params) : cfFd k80G ["value"] ["value"] none (fdD (KK w) "is_knowing") = c_is_knowing := by kernel_rfl
theorem k_is_part_share (w : Params) : chkAll (KK w) "is_part_share" ["value"] ["value"] = true := by kernel_rfl
theorem e_is_part_share (w : Params) : cfFd k80G ["value"] ["value"] none (fdD (KK w) "is_part_share") = c_is_part_share := by kernel_rfl
theorem k_is_cells (w : Params) : chkAll (KK w) "is_cells" ["value"] ["value", "cell"] = true := by kernel_rfl
theorem e_is_cells (w : Params) : cfFd k80G ["value"] ["value", "cell"] none (fdD (KK w) "is_cells") = c_is_cells := by kernel_rfl
theorem k_is_heir (w : Params) : chkAll (KK w) "is_heir" ["value"] ["value"] = true := by kernel_rfl
theorem e_is_heir (w : Params) : cfFd k80G ["value"] ["value"] none (fdD (KK w) "is_heir") = c_is_heir := by kernel_rfl
theorem k_is_heirs (w : Params) : chkAll (KK w) "is_heirs" ["value"] ["value", "pair"] = true := by kernel_rfl
theorem e_is_heirs (w : Params) : cfFd k80G ["value"] ["value", "pair"] none (fdD (KK w) "is_heirs") = c_is_heirs := by kernel_rfl
theorem k_fits (w : Params) : chkAll (KK w) "fits" ["check", "item"] ["check", "item"] = true := by kernel_rfl
theorem e_fits (w : Params) : cfFd k80G ["check", "item"] ["check", "item"] none (fdD (KK w) "fits") = c_fits := by kernel_rfl
theorem k_is_plain (w : Params) : chkAll (KK w) "is_plain" ["value"] ["value", "checks", "word", "items", "first", "second", "pair", "check", "item"] = true := by kernel_rfl
theorem e_is_plain (w : Params) : cfFd k80G ["value"] ["value", "checks", "word", "items", "first", "second", "pair", "check", "item"] none (fdD (KK w) "is_plain") = c_is_plain := by kernel_rfl
theorem k_is_correction (w : Params) : chkAll (KK w) "is_correction" ["value"] ["value"] = true := by kernel_rfl
theorem e_is_correction (w : Params) : cfFd k80G ["value"] ["value"] none (fdD (KK w) "is_correction") = c_is_correction := by kernel_rfl
theorem k_is_deed (w : Params) : chkAll (KK w) "is_deed" ["value"] ["value"] = true := by kernel_rfl
theorem e_is_deed (w : Params) : cfFd k80G ["value"] ["value"] none (fdD (KK w) "is_deed") = c_is_deed := by kernel_rfl
theorem k__law_open (w : Params) : chkAll (KK w) "_law_open" ["_law_script"] ["_law_script", "_law_mixed_here", "_law_cell"] = true := by kernel_rfl
theorem e__law_open (w : Params) : cfFd k80G ["_law_script"] ["_law_script", "_law_mixed_here", "_law_cell"] none (fdD (KK w) "_law_open") = c__law_open := by kernel_rfl
theorem k__law_draw (w : Params) : chkAll (KK w) "_law_draw" ["_law_bag", "_law_sides"] ["_law_bag", "_law_sides", "_law_seed", "_law_step", "_law_cell", "_law_digit", "_law_small"] = true := by kernel_rfl
theorem e__law_draw (w : Params) : cfFd k80G ["_law_bag", "_law_sides"] ["_law_bag", "_law_sides", "_law_seed", "_law_step", "_law_cell", "_law_digit", "_law_small"] none (fdD (KK w) "_law_draw") = c__law_draw := by kernel_rfl
theorem k__law_of (w : Params) : chkAll (KK w) "_law_of" ["_law_bag", "_law_things"] ["_law_bag", "_law_things"] = true := by kernel_rfl
theorem e__law_of (w : Params) : cfFd k80G ["_law_bag", "_law_things"] ["_law_bag", "_law_things"] none (fdD (KK w) "_law_of") = c__law_of := by kernel_rfl
theorem k__law_mixed (w : Params) : chkAll (KK w) "_law_mixed" ["_law_bag", "_law_things"] ["_law_bag", "_law_things", "_law_found", "_law_thing"] = true := by kernel_rfl
theorem e__law_mixed (w : Params) : cfFd k80G ["_law_bag", "_law_things"] ["_law_bag", "_law_things", "_law_found", "_law_thing"] none (fdD (KK w) "_law_mixed") = c__law_mixed := by kernel_rfl
theorem k__law_same (w : Params) : chkAll (KK w) "_law_same" ["_law_found", "_law_due"] ["_law_found", "_law_due", "_law_key", "_law_one", "_law_other"] = true := by kernel_rfl
theorem e__law_same (w : Params) : cfFd k80G ["_law_found", "_law_due"] ["_law_found", "_law_due", "_law_key", "_law_one", "_law_other"] none (fdD (KK w) "_law_same") = c__law_same := by kernel_rfl
theorem k__law_names (w : Params) : chkAll (KK w) "_law_names" ["_law_bag", "_law_many"] ["_law_bag", "_law_many", "_law_k", "_law_spare", "_law_found", "_law_head", "_law_tail", "_law_j"] = true := by kernel_rfl
theorem e__law_names (w : Params) : cfFd k80G ["_law_bag", "_law_many"] ["_law_bag", "_law_many", "_law_k", "_law_spare", "_law_found", "_law_head", "_law_tail", "_law_j"] none (fdD (KK w) "_law_names") = c__law_names := by kernel_rfl
theorem k__law_shapes (w : Params) : chkAll (KK w) "_law_shapes" [] [] = true := by kernel_rfl
theorem e__law_shapes (w : Params) : cfFd k80G [] [] none (fdD (KK w) "_law_shapes") = c__law_shapes := by kernel_rfl
theorem k__law_unlike_items (w : Params) : chkAll (KK w) "_law_unlike_items" [] [] = true := by kernel_rfl
theorem e__law_unlike_items (w : Params) : cfFd k80G [] [] none (fdD (KK w) "_law_unlike_items") = c__law_unlike_items := by kernel_rfl
theorem k__law_is_name (w : Params) : chkAll (KK w) "_law_is_name" ["_law_value_z"] ["_law_value_z", "_law_sign"] = true := by kernel_rfl
theorem e__law_is_name (w : Params) : cfFd k80G ["_law_value_z"] ["_law_value_z", "_law_sign"] none (fdD (KK w) "_law_is_name") = c__law_is_name := by kernel_rfl
theorem k__law_is_int (w : Params) : chkAll (KK w) "_law_is_int" ["_law_value_z", "_law_low", "_law_high"] ["_law_value_z", "_law_low", "_law_high"] = true := by kernel_rfl
theorem e__law_is_int (w : Params) : cfFd k80G ["_law_value_z", "_law_low", "_law_high"] ["_law_value_z", "_law_low", "_law_high"] none (fdD (KK w) "_law_is_int") = c__law_is_int := by kernel_rfl
theorem k__law_is_row (w : Params) : chkAll (KK w) "_law_is_row" ["_law_value_z", "_law_low", "_law_high"] ["_law_value_z", "_law_low", "_law_high"] = true := by kernel_rfl
theorem e__law_is_row (w : Params) : cfFd k80G ["_law_value_z", "_law_low", "_law_high"] ["_law_value_z", "_law_low", "_law_high"] none (fdD (KK w) "_law_is_row") = c__law_is_row := by kernel_rfl
theorem k__law_is_kind (w : Params) : chkAll (KK w) "_law_is_kind" ["_law_value_z", "_law_kind"] ["_law_value_z", "_law_kind", "_law_firsts", "_law_good_z", "_law_low", "_law_high", "_law_one", "_law_k"] = true := by kernel_rfl
theorem e__law_is_kind (w : Params) : cfFd k80G ["_law_value_z", "_law_kind"] ["_law_value_z", "_law_kind", "_law_firsts", "_law_good_z", "_law_low", "_law_high", "_law_one", "_law_k"] none (fdD (KK w) "_law_is_kind") = c__law_is_kind := by kernel_rfl
theorem k__law_is_deed (w : Params) : chkAll (KK w) "_law_is_deed" ["_law_value_z"] ["_law_value_z", "_law_kinds", "_law_spots", "_law_one", "_law_kind"] = true := by kernel_rfl
theorem e__law_is_deed (w : Params) : cfFd k80G ["_law_value_z"] ["_law_value_z", "_law_kinds", "_law_spots", "_law_one", "_law_kind"] none (fdD (KK w) "_law_is_deed") = c__law_is_deed := by kernel_rfl
theorem k__law_some_of (w : Params) : chkAll (KK w) "_law_some_of" ["_law_bag", "_law_kind"] ["_law_bag", "_law_kind", "_law_cells_z", "_law_low", "_law_high", "_law_c", "_law_key"] = true := by kernel_rfl
theorem e__law_some_of (w : Params) : cfFd k80G ["_law_bag", "_law_kind"] ["_law_bag", "_law_kind", "_law_cells_z", "_law_low", "_law_high", "_law_c", "_law_key"] none (fdD (KK w) "_law_some_of") = c__law_some_of := by kernel_rfl
theorem k__law_some_deed (w : Params) : chkAll (KK w) "_law_some_deed" ["_law_bag", "_law_wide"] ["_law_bag", "_law_wide", "_law_words", "_law_word", "_law_found", "_law_kind", "_law_one"] = true := by kernel_rfl
theorem e__law_some_deed (w : Params) : cfFd k80G ["_law_bag", "_law_wide"] ["_law_bag", "_law_wide", "_law_words", "_law_word", "_law_found", "_law_kind", "_law_one"] none (fdD (KK w) "_law_some_deed") = c__law_some_deed := by kernel_rfl
theorem k__law_odd (w : Params) : chkAll (KK w) "_law_odd" ["_law_bag"] ["_law_bag", "_law_some"] = true := by kernel_rfl
theorem e__law_odd (w : Params) : cfFd k80G ["_law_bag"] ["_law_bag", "_law_some"] none (fdD (KK w) "_law_odd") = c__law_odd := by kernel_rfl
theorem k__law_bent (w : Params) : chkAll (KK w) "_law_bent" ["_law_bag", "_law_act"] ["_law_bag", "_law_act", "_law_way", "_law_at", "_law_other"] = true := by kernel_rfl
theorem e__law_bent (w : Params) : cfFd k80G ["_law_bag", "_law_act"] ["_law_bag", "_law_act", "_law_way", "_law_at", "_law_other"] none (fdD (KK w) "_law_bent") = c__law_bent := by kernel_rfl
theorem k_law (w : Params) : chkAll (KK w) "law" ["_law_script"] ["_law_script", "_law_bag", "_law_turn", "_law_five", "_law_found", "_law_act", "_law_k", "_law_odd_here", "_law_other", "_law_due", "_law_fixed", "_law_sign"] = true := by kernel_rfl
theorem e_law (w : Params) : cfFd k80G ["_law_script"] ["_law_script", "_law_bag", "_law_turn", "_law_five", "_law_found", "_law_act", "_law_k", "_law_odd_here", "_law_other", "_law_due", "_law_fixed", "_law_sign"] none (fdD (KK w) "law") = c_law := by kernel_rfl
theorem b_is_whole_1 (w : Params) (u0 : Value) : bindArgs (fdD (KK w) "is_whole") ⟨[u0], []⟩ = pure [(("value" : Str), u0)] := by kernel_rfl
theorem b_is_name_1 (w : Params) (u0 : Value) : bindArgs (fdD (KK w) "is_name") ⟨[u0], []⟩ = pure [(("value" : Str), u0)] := by kernel_rfl
theorem b_is_number_3 (w : Params) (u0 u1 u2 : Value) : bindArgs (fdD (KK w) "is_number") ⟨[u0, u1, u2], []⟩ = pure [(("value" : Str), u0), (("least" : Str), u1), (("most" : Str), u2)] := by kernel_rfl
theorem b_is_lot_1 (w : Params) (u0 : Value) : bindArgs (fdD (KK w) "is_lot") ⟨[u0], []⟩ = pure [(("value" : Str), u0)] := by kernel_rfl
theorem b_is_amount_1 (w : Params) (u0 : Value) : bindArgs (fdD (KK w) "is_amount") ⟨[u0], []⟩ = pure [(("value" : Str), u0)] := by kernel_rfl
theorem b_is_day_1 (w : Params) (u0 : Value) : bindArgs (fdD (KK w) "is_day") ⟨[u0], []⟩ = pure [(("value" : Str), u0)] := by kernel_rfl
theorem b_is_cell_1 (w : Params) (u0 : Value) : bindArgs (fdD (KK w) "is_cell") ⟨[u0], []⟩ = pure [(("value" : Str), u0)] := by kernel_rfl
theorem b_is_heir_1 (w : Params) (u0 : Value) : bindArgs (fdD (KK w) "is_heir") ⟨[u0], []⟩ = pure [(("value" : Str), u0)] := by kernel_rfl
theorem b_fits_2 (w : Params) (u0 u1 : Value) : bindArgs (fdD (KK w) "fits") ⟨[u0, u1], []⟩ = pure [(("check" : Str), u0), (("item" : Str), u1)] := by kernel_rfl
theorem b_is_entry_number_1 (w : Params) (u0 : Value) : bindArgs (fdD (KK w) "is_entry_number") ⟨[u0], []⟩ = pure [(("value" : Str), u0)] := by kernel_rfl
theorem b_is_plain_1 (w : Params) (u0 : Value) : bindArgs (fdD (KK w) "is_plain") ⟨[u0], []⟩ = pure [(("value" : Str), u0)] := by kernel_rfl
theorem b_is_correction_1 (w : Params) (u0 : Value) : bindArgs (fdD (KK w) "is_correction") ⟨[u0], []⟩ = pure [(("value" : Str), u0)] := by kernel_rfl
theorem b__law_draw_2 (w : Params) (u0 u1 : Value) : bindArgs (fdD (KK w) "_law_draw") ⟨[u0, u1], []⟩ = pure [(("_law_bag" : Str), u0), (("_law_sides" : Str), u1)] := by kernel_rfl
theorem b__law_same_2 (w : Params) (u0 u1 : Value) : bindArgs (fdD (KK w) "_law_same") ⟨[u0, u1], []⟩ = pure [(("_law_found" : Str), u0), (("_law_due" : Str), u1)] := by kernel_rfl
theorem b__law_of_2 (w : Params) (u0 u1 : Value) : bindArgs (fdD (KK w) "_law_of") ⟨[u0, u1], []⟩ = pure [(("_law_bag" : Str), u0), (("_law_things" : Str), u1)] := by kernel_rfl
theorem b__law_is_name_1 (w : Params) (u0 : Value) : bindArgs (fdD (KK w) "_law_is_name") ⟨[u0], []⟩ = pure [(("_law_value_z" : Str), u0)] := by kernel_rfl
theorem b__law_is_int_3 (w : Params) (u0 u1 u2 : Value) : bindArgs (fdD (KK w) "_law_is_int") ⟨[u0, u1, u2], []⟩ = pure [(("_law_value_z" : Str), u0), (("_law_low" : Str), u1), (("_law_high" : Str), u2)] := by kernel_rfl
theorem b__law_is_row_3 (w : Params) (u0 u1 u2 : Value) : bindArgs (fdD (KK w) "_law_is_row") ⟨[u0, u1, u2], []⟩ = pure [(("_law_value_z" : Str), u0), (("_law_low" : Str), u1), (("_law_high" : Str), u2)] := by kernel_rfl
theorem b__law_is_deed_1 (w : Params) (u0 : Value) : bindArgs (fdD (KK w) "_law_is_deed") ⟨[u0], []⟩ = pure [(("_law_value_z" : Str), u0)] := by kernel_rfl
theorem b__law_shapes_0 (w : Params) : bindArgs (fdD (KK w) "_law_shapes") ⟨[], []⟩ = pure [] := by kernel_rfl
theorem b__law_unlike_items_0 (w : Params) : bindArgs (fdD (KK w) "_law_unlike_items") ⟨[], []⟩ = pure [] := by kernel_rfl
theorem b__law_is_kind_2 (w : Params) (u0 u1 : Value) : bindArgs (fdD (KK w) "_law_is_kind") ⟨[u0, u1], []⟩ = pure [(("_law_value_z" : Str), u0), (("_law_kind" : Str), u1)] := by kernel_rfl
theorem b__law_mixed_2 (w : Params) (u0 u1 : Value) : bindArgs (fdD (KK w) "_law_mixed") ⟨[u0, u1], []⟩ = pure [(("_law_bag" : Str), u0), (("_law_things" : Str), u1)] := by kernel_rfl
theorem b__law_some_deed_2 (w : Params) (u0 u1 : Value) : bindArgs (fdD (KK w) "_law_some_deed") ⟨[u0, u1], []⟩ = pure [(("_law_bag" : Str), u0), (("_law_wide" : Str), u1)] := by kernel_rfl
theorem b__law_names_2 (w : Params) (u0 u1 : Value) : bindArgs (fdD (KK w) "_law_names") ⟨[u0, u1], []⟩ = pure [(("_law_bag" : Str), u0), (("_law_many" : Str), u1)] := by kernel_rfl
theorem b__law_some_of_2 (w : Params) (u0 u1 : Value) : bindArgs (fdD (KK w) "_law_some_of") ⟨[u0, u1], []⟩ = pure [(("_law_bag" : Str), u0), (("_law_kind" : Str), u1)] := by kernel_rfl
theorem b__law_odd_1 (w : Params) (u0 : Value) : bindArgs (fdD (KK w) "_law_odd") ⟨[u0], []⟩ = pure [(("_law_bag" : Str), u0)] := by kernel_rfl
theorem b__law_bent_2 (w : Params) (u0 u1 : Value) : bindArgs (fdD (KK w) "_law_bent") ⟨[u0, u1], []⟩ = pure [(("_law_bag" : Str), u0), (("_law_act" : Str), u1)] := by kernel_rfl
theorem b__law_open_1 (w : Params) (u0 : Value) : bindArgs (fdD (KK w) "_law_open") ⟨[u0], []⟩ = pure [(("_law_script" : Str), u0)] := by kernel_rfl
theorem b_is_deed_1 (w : Params) (u0 : Value) : bindArgs (fdD (KK w) "is_deed") ⟨[u0], []⟩ = pure [(("value" : Str), u0)] := by kernel_rfl
theorem b_is_correction_0_value (w : Params) (v0 : Value) : bindArgs (fdD (KK w) "is_correction") ⟨[], [(("value" : Str), v0)]⟩ = pure [(("value" : Str), v0)] := by kernel_rfl
theorem b_is_deed_0_value (w : Params) (v0 : Value) : bindArgs (fdD (KK w) "is_deed") ⟨[], [(("value" : Str), v0)]⟩ = pure [(("value" : Str), v0)] := by kernel_rfl
theorem b_common_divisor_2 (w : Params) (u0 u1 : Value) : bindArgs (fdD (KK w) "common_divisor") ⟨[u0, u1], []⟩ = pure [(("first" : Str), u0), (("second" : Str), u1)] := by kernel_rfl
theorem b_is_parcels_1 (w : Params) (u0 : Value) : bindArgs (fdD (KK w) "is_parcels") ⟨[u0], []⟩ = pure [(("value" : Str), u0)] := by kernel_rfl
theorem b_is_called_1 (w : Params) (u0 : Value) : bindArgs (fdD (KK w) "is_called") ⟨[u0], []⟩ = pure [(("value" : Str), u0)] := by kernel_rfl
theorem b_is_part_share_1 (w : Params) (u0 : Value) : bindArgs (fdD (KK w) "is_part_share") ⟨[u0], []⟩ = pure [(("value" : Str), u0)] := by kernel_rfl
theorem b_is_knowing_1 (w : Params) (u0 : Value) : bindArgs (fdD (KK w) "is_knowing") ⟨[u0], []⟩ = pure [(("value" : Str), u0)] := by kernel_rfl
theorem b_is_heirs_1 (w : Params) (u0 : Value) : bindArgs (fdD (KK w) "is_heirs") ⟨[u0], []⟩ = pure [(("value" : Str), u0)] := by kernel_rfl
theorem b_is_cells_1 (w : Params) (u0 : Value) : bindArgs (fdD (KK w) "is_cells") ⟨[u0], []⟩ = pure [(("value" : Str), u0)] := by kernel_rfl
theorem b_is_sum_1 (w : Params) (u0 : Value) : bindArgs (fdD (KK w) "is_sum") ⟨[u0], []⟩ = pure [(("value" : Str), u0)] := by kernel_rfl
theorem b_is_until_1 (w : Params) (u0 : Value) : bindArgs (fdD (KK w) "is_until") ⟨[u0], []⟩ = pure [(("value" : Str), u0)] := by kernel_rfl
theorem b_law_1 (w : Params) (u0 : Value) : bindArgs (fdD (KK w) "law") ⟨[u0], []⟩ = pure [(("_law_script" : Str), u0)] := by kernel_rfl
end R
end
section
set_option Elab.async false
set_option linter.all false
set_option maxRecDepth 100000
set_option maxHeartbeats 4000000
namespace R
open PySem PySem.Spec PyProof.Rows L2
def is3 (x y z : Str) : Arguments → Bool
  | ⟨[], [⟨a, _, _⟩, ⟨b, _, _⟩, ⟨c, _, _⟩], none, [], [], none, _⟩ => decide (a = x) && decide (b = y) && decide (c = z)
  | _ => false
/-- the one default of a def -/
def dflK (K : PySem.W.Frag) (fd : FuncData) : Value := match fd.defaults with
  | .ref T => (match K.lookup T with
    | some ⟨_, _, .seq its _, _⟩ => its[0]?.getD .none
    | _ => .none)
  | _ => .none
def dflOk (K : PySem.W.Frag) (fd : FuncData) : Bool := match fd.defaults with
  | .ref T => (match K.lookup T with
    | some ⟨_, _, .seq its _, _⟩ => decide (its.toList.length = 1)
    | _ => false)
  | _ => false
theorem binds3 {K : PySem.W.Frag} {fd : FuncData} (h : is3 "self" "top" "bottom" fd.params = true) (hd : dflOk K fd = true) (hk : fd.kwdefaults = .none) : L2.Binds K fd ["self", "top", "bottom"] [] ∧ L2.Binds K fd ["self", "top", "bottom"] [dflK K fd] := by
  obtain ⟨name, qual, params, body, scope, g, cl, dV, kV, doc, pm, an, cdv, ct, bl⟩ := fd
  simp only at h hk
  subst hk
  unfold is3 at h
  split at h
  · rename_i a0 p0 b0 q0 c0 r0 t0 t1 t2 e
    simp only [Bool.and_eq_true, decide_eq_true_eq] at h
    obtain ⟨⟨rfl, rfl⟩, rfl⟩ := h
    unfold dflOk at hd
    split at hd
    · rename_i T eT
      split at hd
      · rename_i oc od its n osl lk
        simp only at eT
        subst eT
        have e1 : ∃ v, its = #[v] := by
          have h1 := of_decide_eq_true hd
          match hh : its.toList, h1 with
          | [v], _ => exact ⟨v, by apply Array.ext'; rw [hh]⟩
        obtain ⟨v, rfl⟩ := e1
        have ev : ∀ pp : Arguments, dflK K ⟨name, qual, pp, body, scope, g, cl, .ref T, .none, doc, pm, an, cdv, ct, bl⟩ = v := fun pp => by
          unfold dflK
          simp only [lk]
          rfl
        refine ⟨fun s us X hl => ?_, fun s us X hl => ?_⟩
        · match us, hl with
          | [u0, u1, u2], _ => exact PySem.W.binds_K X rfl lk rfl rfl rfl
        · have hl' : us.length = 2 := by
            rw [List.length_append] at hl
            simpa using hl
          match us, hl' with
          | [u0, u1], _ =>
            rw [ev]
            exact PySem.W.binds_K X rfl lk rfl rfl rfl
      · cases hd
    · cases hd
  · cases h
theorem sh_c (w : Params) : chkCls (KK w) "Share" ["top", "bottom"] = true := by kernel_rfl
theorem sh_m (w : Params) : chkMk (KK w) "Share" ["self", "top", "bottom"] ["self", "top", "bottom", "common"] = true := by kernel_rfl
theorem sh_e (w : Params) : cfFd k80G ["self", "top", "bottom"] ["self", "top", "bottom", "common"] (some "Share") (fdL (KK w) (initAt (KK w) "Share")) = c_Share := by kernel_rfl
theorem sh_p (w : Params) : is3 "self" "top" "bottom" (fdL (KK w) (initAt (KK w) "Share")).params = true := by kernel_rfl
theorem sh_d (w : Params) : dflOk (KK w) (fdL (KK w) (initAt (KK w) "Share")) = true := by kernel_rfl
theorem sh_k (w : Params) : (fdL (KK w) (initAt (KK w) "Share")).kwdefaults = .none := by kernel_rfl
theorem sh_v (w : Params) : repsK (KK w) [.int 1] [dflK (KK w) (fdL (KK w) (initAt (KK w) "Share"))] = true := by kernel_rfl
end R
end
section
set_option Elab.async false
set_option linter.all false
set_option maxRecDepth 100000
set_option maxHeartbeats 400000
namespace R
open PySem PySem.Spec PyProof.Rows L2
theorem t_share : tab80 (.new "Share") = some c_Share := by kernel_rfl
theorem sh_b (w : Params) : L2.Binds (KK w) (fdL (KK w) (initAt (KK w) "Share")) ["self", "top", "bottom"] [] ∧ L2.Binds (KK w) (fdL (KK w) (initAt (KK w) "Share")) ["self", "top", "bottom"] [dflK (KK w) (fdL (KK w) (initAt (KK w) "Share"))] :=
  @binds3 (KK w) (fdL (KK w) (initAt (KK w) "Share")) (sh_p w) (sh_d w) (sh_k w)
theorem sh_r0 (w : Params) : repsK (KK w) [] [] = true := rfl
theorem mk_two {K : PySem.W.Frag} {w : World} {mg : Str → Option Value} {Γ0 : Gm} {tab : Fid → Option CF} {x : Str} {ps N fs : List Str} {m1 m2 : Nat} {cf : CF} {dfl : List D} {d : Value} {P : Prop} (hmg : ∀ x v, PySem.W.nsIn K mainGlobals x = some (some v) → mg x = some v) (hc : chkCls K x fs = true) (h : chkMk K x ps N = true)
    (e : cfFd Γ0 ps N (some x) (fdL K (initAt K x)) = cf) (t : tab (.new x) = some cf) (hl2 : ps.length = 1 + m2) (hl1 : ps.length = 1 + m1 + 1) (b : L2.Binds K (fdL K (initAt K x)) ps [] ∧ L2.Binds K (fdL K (initAt K x)) ps [d]) (hr : repsK K dfl [d] = true) : MkF K w mg Γ0 tab ⟨x, m2, [], []⟩ ∧ MkF K w mg Γ0 tab ⟨x, m1, [], dfl⟩ :=
  ⟨mkF_of (dfl := []) (ds := []) hmg hc h e t hl2 b.1 rfl, mkF_of (dfl := dfl) (ds := [d]) hmg hc h e t hl1 b.2 hr⟩
theorem mk12 {w : World} {mg : Str → Option Value} (hmg : ∀ x v, PySem.W.nsIn (KK w.params) mainGlobals x = some (some v) → mg x = some v) : MkF (KK w.params) w mg k80G tab80 ⟨"Share", 2, [], []⟩ ∧ MkF (KK w.params) w mg k80G tab80 ⟨"Share", 1, [], [.int 1]⟩ :=
  @mk_two (KK w.params) w mg k80G tab80 "Share" ["self", "top", "bottom"] ["self", "top", "bottom", "common"] ["top", "bottom"] 1 2 c_Share [.int 1] (dflK (KK w.params) (fdL (KK w.params) (initAt (KK w.params) "Share"))) True hmg (sh_c w.params) (sh_m w.params) (sh_e w.params) t_share rfl rfl (sh_b w.params) (sh_v w.params)
end R
end
section
set_option Elab.async false
set_option linter.all false
set_option maxRecDepth 100000
set_option maxHeartbeats 4000000
namespace R
open PySem PySem.Spec PyProof.Rows L2
theorem fa_nil {α : Type} {p : α → Prop} : ∀ x ∈ ([] : List α), p x := fun _ h => nomatch h
theorem fa_cons {α : Type} {p : α → Prop} {a : α} {l : List α} (h : p a) (t : ∀ x ∈ l, p x) : ∀ x ∈ a :: l, p x := fun x hx => (List.mem_cons.mp hx).elim (fun e => e ▸ h) (t x)
theorem lk_nil {q : Str → D → Prop} : ∀ (x : Str) (d : D), ([] : List (Str × D)).lookup x = some d → q x d := fun _ _ h => nomatch h
theorem lk_cons {q : Str → D → Prop} {a : Str} {d0 : D} {l : List (Str × D)} (h : q a d0) (t : ∀ (x : Str) (d : D), l.lookup x = some d → q x d) : ∀ (x : Str) (d : D), ((a, d0) :: l).lookup x = some d → q x d := fun x d e => by
  rw [List.lookup_cons] at e
  split at e
  · rename_i hx
    cases e
    rw [eq_of_beq hx]
    exact h
  · exact t x d e
def noG (K : PySem.W.Frag) (x : Str) : Bool := match PySem.W.nsIn K mainGlobals x with
  | some none => true
  | _ => false
theorem ng80 (w : Params) : k80nog.all (noG (KK w)) = true := by kernel_rfl
section
variable {w : World} {mg : Str → Option Value} (hmg : ∀ x v, PySem.W.nsIn (KK w.params) mainGlobals x = some (some v) → mg x = some v)
include hmg
theorem pf_is_whole_1 : PatF (KK w.params) w mg k80G tab80 ⟨"is_whole", 1, [], []⟩ := patF_of hmg (k_is_whole _) (e_is_whole _) rfl rfl fun us ws l1 l2 => match us, ws, l1, l2 with | [u0], [], _, _ => b_is_whole_1 _ u0
theorem pf_is_name_1 : PatF (KK w.params) w mg k80G tab80 ⟨"is_name", 1, [], []⟩ := patF_of hmg (k_is_name _) (e_is_name _) rfl rfl fun us ws l1 l2 => match us, ws, l1, l2 with | [u0], [], _, _ => b_is_name_1 _ u0
theorem pf_is_number_3 : PatF (KK w.params) w mg k80G tab80 ⟨"is_number", 3, [], []⟩ := patF_of hmg (k_is_number _) (e_is_number _) rfl rfl fun us ws l1 l2 => match us, ws, l1, l2 with | [u0, u1, u2], [], _, _ => b_is_number_3 _ u0 u1 u2
theorem pf_is_lot_1 : PatF (KK w.params) w mg k80G tab80 ⟨"is_lot", 1, [], []⟩ := patF_of hmg (k_is_lot _) (e_is_lot _) rfl rfl fun us ws l1 l2 => match us, ws, l1, l2 with | [u0], [], _, _ => b_is_lot_1 _ u0
theorem pf_is_amount_1 : PatF (KK w.params) w mg k80G tab80 ⟨"is_amount", 1, [], []⟩ := patF_of hmg (k_is_amount _) (e_is_amount _) rfl rfl fun us ws l1 l2 => match us, ws, l1, l2 with | [u0], [], _, _ => b_is_amount_1 _ u0
theorem pf_is_day_1 : PatF (KK w.params) w mg k80G tab80 ⟨"is_day", 1, [], []⟩ := patF_of hmg (k_is_day _) (e_is_day _) rfl rfl fun us ws l1 l2 => match us, ws, l1, l2 with | [u0], [], _, _ => b_is_day_1 _ u0
theorem pf_is_cell_1 : PatF (KK w.params) w mg k80G tab80 ⟨"is_cell", 1, [], []⟩ := patF_of hmg (k_is_cell _) (e_is_cell _) rfl rfl fun us ws l1 l2 => match us, ws, l1, l2 with | [u0], [], _, _ => b_is_cell_1 _ u0
theorem pf_is_heir_1 : PatF (KK w.params) w mg k80G tab80 ⟨"is_heir", 1, [], []⟩ := patF_of hmg (k_is_heir _) (e_is_heir _) rfl rfl fun us ws l1 l2 => match us, ws, l1, l2 with | [u0], [], _, _ => b_is_heir_1 _ u0
theorem pf_fits_2 : PatF (KK w.params) w mg k80G tab80 ⟨"fits", 2, [], []⟩ := patF_of hmg (k_fits _) (e_fits _) rfl rfl fun us ws l1 l2 => match us, ws, l1, l2 with | [u0, u1], [], _, _ => b_fits_2 _ u0 u1
theorem pf_is_entry_number_1 : PatF (KK w.params) w mg k80G tab80 ⟨"is_entry_number", 1, [], []⟩ := patF_of hmg (k_is_entry_number _) (e_is_entry_number _) rfl rfl fun us ws l1 l2 => match us, ws, l1, l2 with | [u0], [], _, _ => b_is_entry_number_1 _ u0
theorem pf_is_plain_1 : PatF (KK w.params) w mg k80G tab80 ⟨"is_plain", 1, [], []⟩ := patF_of hmg (k_is_plain _) (e_is_plain _) rfl rfl fun us ws l1 l2 => match us, ws, l1, l2 with | [u0], [], _, _ => b_is_plain_1 _ u0
theorem pf_is_correction_1 : PatF (KK w.params) w mg k80G tab80 ⟨"is_correction", 1, [], []⟩ := patF_of hmg (k_is_correction _) (e_is_correction _) rfl rfl fun us ws l1 l2 => match us, ws, l1, l2 with | [u0], [], _, _ => b_is_correction_1 _ u0
theorem pf__law_draw_2 : PatF (KK w.params) w mg k80G tab80 ⟨"_law_draw", 2, [], []⟩ := patF_of hmg (k__law_draw _) (e__law_draw _) rfl rfl fun us ws l1 l2 => match us, ws, l1, l2 with | [u0, u1], [], _, _ => b__law_draw_2 _ u0 u1
theorem pf__law_same_2 : PatF (KK w.params) w mg k80G tab80 ⟨"_law_same", 2, [], []⟩ := patF_of hmg (k__law_same _) (e__law_same _) rfl rfl fun us ws l1 l2 => match us, ws, l1, l2 with | [u0, u1], [], _, _ => b__law_same_2 _ u0 u1
theorem pf__law_of_2 : PatF (KK w.params) w mg k80G tab80 ⟨"_law_of", 2, [], []⟩ := patF_of hmg (k__law_of _) (e__law_of _) rfl rfl fun us ws l1 l2 => match us, ws, l1, l2 with | [u0, u1], [], _, _ => b__law_of_2 _ u0 u1
theorem pf__law_is_name_1 : PatF (KK w.params) w mg k80G tab80 ⟨"_law_is_name", 1, [], []⟩ := patF_of hmg (k__law_is_name _) (e__law_is_name _) rfl rfl fun us ws l1 l2 => match us, ws, l1, l2 with | [u0], [], _, _ => b__law_is_name_1 _ u0
theorem pf__law_is_int_3 : PatF (KK w.params) w mg k80G tab80 ⟨"_law_is_int", 3, [], []⟩ := patF_of hmg (k__law_is_int _) (e__law_is_int _) rfl rfl fun us ws l1 l2 => match us, ws, l1, l2 with | [u0, u1, u2], [], _, _ => b__law_is_int_3 _ u0 u1 u2
theorem pf__law_is_row_3 : PatF (KK w.params) w mg k80G tab80 ⟨"_law_is_row", 3, [], []⟩ := patF_of hmg (k__law_is_row _) (e__law_is_row _) rfl rfl fun us ws l1 l2 => match us, ws, l1, l2 with | [u0, u1, u2], [], _, _ => b__law_is_row_3 _ u0 u1 u2
theorem pf__law_is_deed_1 : PatF (KK w.params) w mg k80G tab80 ⟨"_law_is_deed", 1, [], []⟩ := patF_of hmg (k__law_is_deed _) (e__law_is_deed _) rfl rfl fun us ws l1 l2 => match us, ws, l1, l2 with | [u0], [], _, _ => b__law_is_deed_1 _ u0
theorem pf__law_shapes_0 : PatF (KK w.params) w mg k80G tab80 ⟨"_law_shapes", 0, [], []⟩ := patF_of hmg (k__law_shapes _) (e__law_shapes _) rfl rfl fun us ws l1 l2 => match us, ws, l1, l2 with | [], [], _, _ => b__law_shapes_0 _ 
theorem pf__law_unlike_items_0 : PatF (KK w.params) w mg k80G tab80 ⟨"_law_unlike_items", 0, [], []⟩ := patF_of hmg (k__law_unlike_items _) (e__law_unlike_items _) rfl rfl fun us ws l1 l2 => match us, ws, l1, l2 with | [], [], _, _ => b__law_unlike_items_0 _ 
theorem pf__law_is_kind_2 : PatF (KK w.params) w mg k80G tab80 ⟨"_law_is_kind", 2, [], []⟩ := patF_of hmg (k__law_is_kind _) (e__law_is_kind _) rfl rfl fun us ws l1 l2 => match us, ws, l1, l2 with | [u0, u1], [], _, _ => b__law_is_kind_2 _ u0 u1
theorem pf__law_mixed_2 : PatF (KK w.params) w mg k80G tab80 ⟨"_law_mixed", 2, [], []⟩ := patF_of hmg (k__law_mixed _) (e__law_mixed _) rfl rfl fun us ws l1 l2 => match us, ws, l1, l2 with | [u0, u1], [], _, _ => b__law_mixed_2 _ u0 u1
theorem pf__law_some_deed_2 : PatF (KK w.params) w mg k80G tab80 ⟨"_law_some_deed", 2, [], []⟩ := patF_of hmg (k__law_some_deed _) (e__law_some_deed _) rfl rfl fun us ws l1 l2 => match us, ws, l1, l2 with | [u0, u1], [], _, _ => b__law_some_deed_2 _ u0 u1
theorem pf__law_names_2 : PatF (KK w.params) w mg k80G tab80 ⟨"_law_names", 2, [], []⟩ := patF_of hmg (k__law_names _) (e__law_names _) rfl rfl fun us ws l1 l2 => match us, ws, l1, l2 with | [u0, u1], [], _, _ => b__law_names_2 _ u0 u1
theorem pf__law_some_of_2 : PatF (KK w.params) w mg k80G tab80 ⟨"_law_some_of", 2, [], []⟩ := patF_of hmg (k__law_some_of _) (e__law_some_of _) rfl rfl fun us ws l1 l2 => match us, ws, l1, l2 with | [u0, u1], [], _, _ => b__law_some_of_2 _ u0 u1
theorem pf__law_odd_1 : PatF (KK w.params) w mg k80G tab80 ⟨"_law_odd", 1, [], []⟩ := patF_of hmg (k__law_odd _) (e__law_odd _) rfl rfl fun us ws l1 l2 => match us, ws, l1, l2 with | [u0], [], _, _ => b__law_odd_1 _ u0
theorem pf__law_bent_2 : PatF (KK w.params) w mg k80G tab80 ⟨"_law_bent", 2, [], []⟩ := patF_of hmg (k__law_bent _) (e__law_bent _) rfl rfl fun us ws l1 l2 => match us, ws, l1, l2 with | [u0, u1], [], _, _ => b__law_bent_2 _ u0 u1
theorem pf__law_open_1 : PatF (KK w.params) w mg k80G tab80 ⟨"_law_open", 1, [], []⟩ := patF_of hmg (k__law_open _) (e__law_open _) rfl rfl fun us ws l1 l2 => match us, ws, l1, l2 with | [u0], [], _, _ => b__law_open_1 _ u0
theorem pf_is_deed_1 : PatF (KK w.params) w mg k80G tab80 ⟨"is_deed", 1, [], []⟩ := patF_of hmg (k_is_deed _) (e_is_deed _) rfl rfl fun us ws l1 l2 => match us, ws, l1, l2 with | [u0], [], _, _ => b_is_deed_1 _ u0
theorem pf_is_correction_0_value : PatF (KK w.params) w mg k80G tab80 ⟨"is_correction", 0, ["value"], []⟩ := patF_of hmg (k_is_correction _) (e_is_correction _) rfl rfl fun us ws l1 l2 => match us, ws, l1, l2 with | [], [v0], _, _ => b_is_correction_0_value _ v0
theorem pf_is_deed_0_value : PatF (KK w.params) w mg k80G tab80 ⟨"is_deed", 0, ["value"], []⟩ := patF_of hmg (k_is_deed _) (e_is_deed _) rfl rfl fun us ws l1 l2 => match us, ws, l1, l2 with | [], [v0], _, _ => b_is_deed_0_value _ v0
theorem pf_common_divisor_2 : PatF (KK w.params) w mg k80G tab80 ⟨"common_divisor", 2, [], []⟩ := patF_of hmg (k_common_divisor _) (e_common_divisor _) rfl rfl fun us ws l1 l2 => match us, ws, l1, l2 with | [u0, u1], [], _, _ => b_common_divisor_2 _ u0 u1
theorem pf_is_parcels_1 : PatF (KK w.params) w mg k80G tab80 ⟨"is_parcels", 1, [], []⟩ := patF_of hmg (k_is_parcels _) (e_is_parcels _) rfl rfl fun us ws l1 l2 => match us, ws, l1, l2 with | [u0], [], _, _ => b_is_parcels_1 _ u0
theorem pf_is_called_1 : PatF (KK w.params) w mg k80G tab80 ⟨"is_called", 1, [], []⟩ := patF_of hmg (k_is_called _) (e_is_called _) rfl rfl fun us ws l1 l2 => match us, ws, l1, l2 with | [u0], [], _, _ => b_is_called_1 _ u0
theorem pf_is_part_share_1 : PatF (KK w.params) w mg k80G tab80 ⟨"is_part_share", 1, [], []⟩ := patF_of hmg (k_is_part_share _) (e_is_part_share _) rfl rfl fun us ws l1 l2 => match us, ws, l1, l2 with | [u0], [], _, _ => b_is_part_share_1 _ u0
theorem pf_is_knowing_1 : PatF (KK w.params) w mg k80G tab80 ⟨"is_knowing", 1, [], []⟩ := patF_of hmg (k_is_knowing _) (e_is_knowing _) rfl rfl fun us ws l1 l2 => match us, ws, l1, l2 with | [u0], [], _, _ => b_is_knowing_1 _ u0
theorem pf_is_heirs_1 : PatF (KK w.params) w mg k80G tab80 ⟨"is_heirs", 1, [], []⟩ := patF_of hmg (k_is_heirs _) (e_is_heirs _) rfl rfl fun us ws l1 l2 => match us, ws, l1, l2 with | [u0], [], _, _ => b_is_heirs_1 _ u0
theorem pf_is_cells_1 : PatF (KK w.params) w mg k80G tab80 ⟨"is_cells", 1, [], []⟩ := patF_of hmg (k_is_cells _) (e_is_cells _) rfl rfl fun us ws l1 l2 => match us, ws, l1, l2 with | [u0], [], _, _ => b_is_cells_1 _ u0
theorem pf_is_sum_1 : PatF (KK w.params) w mg k80G tab80 ⟨"is_sum", 1, [], []⟩ := patF_of hmg (k_is_sum _) (e_is_sum _) rfl rfl fun us ws l1 l2 => match us, ws, l1, l2 with | [u0], [], _, _ => b_is_sum_1 _ u0
theorem pf_is_until_1 : PatF (KK w.params) w mg k80G tab80 ⟨"is_until", 1, [], []⟩ := patF_of hmg (k_is_until _) (e_is_until _) rfl rfl fun us ws l1 l2 => match us, ws, l1, l2 with | [u0], [], _, _ => b_is_until_1 _ u0
theorem pats80 : ∀ p ∈ k80G.pats, PatF (KK w.params) w mg k80G tab80 p := fa_cons (pf_is_whole_1 hmg) (fa_cons (pf_is_name_1 hmg) (fa_cons (pf_is_number_3 hmg) (fa_cons (pf_is_lot_1 hmg) (fa_cons (pf_is_amount_1 hmg) (fa_cons (pf_is_day_1 hmg) (fa_cons (pf_is_cell_1 hmg) (fa_cons (pf_is_heir_1 hmg) (fa_cons (pf_fits_2 hmg) (fa_cons (pf_is_entry_number_1 hmg) (fa_cons (pf_is_plain_1 hmg) (fa_cons (pf_is_correction_1 hmg) (fa_cons (pf__law_draw_2 hmg) (fa_cons (pf__law_same_2 hmg) (fa_cons (pf__law_of_2 hmg) (fa_cons (pf__law_is_name_1 hmg) (fa_cons (pf__law_is_int_3 hmg) (fa_cons (pf__law_is_row_3 hmg) (fa_cons (pf__law_is_deed_1 hmg) (fa_cons (pf__law_shapes_0 hmg) (fa_cons (pf__law_unlike_items_0 hmg) (fa_cons (pf__law_is_kind_2 hmg) (fa_cons (pf__law_mixed_2 hmg) (fa_cons (pf__law_some_deed_2 hmg) (fa_cons (pf__law_names_2 hmg) (fa_cons (pf__law_some_of_2 hmg) (fa_cons (pf__law_odd_1 hmg) (fa_cons (pf__law_bent_2 hmg) (fa_cons (pf__law_open_1 hmg) (fa_cons (pf_is_deed_1 hmg) (fa_cons (pf_is_correction_0_value hmg) (fa_cons (pf_is_deed_0_value hmg) (fa_cons (pf_common_divisor_2 hmg) (fa_cons (pf_is_parcels_1 hmg) (fa_cons (pf_is_called_1 hmg) (fa_cons (pf_is_part_share_1 hmg) (fa_cons (pf_is_knowing_1 hmg) (fa_cons (pf_is_heirs_1 hmg) (fa_cons (pf_is_cells_1 hmg) (fa_cons (pf_is_sum_1 hmg) (fa_cons (pf_is_until_1 hmg) fa_nil))))))))))))))))))))))))))))))))))))))))
theorem cpats80 : ∀ p ∈ k80G.cpats, MkF (KK w.params) w mg k80G tab80 p := fa_cons (mk12 hmg).1 (fa_cons (mk12 hmg).2 fa_nil)
theorem gs_LETTERS : ∃ v u, mg "LETTERS" = some u ∧ RelV v u ∧ ∀ ι M H, Rep (KK w.params) w ι M H (.str "abcdefghijklmnopqrstuvwxyz") v := const_of hmg (by kernel_rfl)
theorem gs_MOST_LETTERS : ∃ v u, mg "MOST_LETTERS" = some u ∧ RelV v u ∧ ∀ ι M H, Rep (KK w.params) w ι M H (.int 6) v := const_of hmg (by kernel_rfl)
theorem gs_MOST_PARCELS : ∃ v u, mg "MOST_PARCELS" = some u ∧ RelV v u ∧ ∀ ι M H, Rep (KK w.params) w ι M H (.int 12) v := const_of hmg (by kernel_rfl)
theorem gs_LAST_DAY : ∃ v u, mg "LAST_DAY" = some u ∧ RelV v u ∧ ∀ ι M H, Rep (KK w.params) w ι M H (.int 9999) v := const_of hmg (by kernel_rfl)
theorem gs_LAST : ∃ v u, mg "LAST" = some u ∧ RelV v u ∧ ∀ ι M H, Rep (KK w.params) w ι M H (.int 11) v := const_of hmg (by kernel_rfl)
theorem gs_LAST_ENTRY : ∃ v u, mg "LAST_ENTRY" = some u ∧ RelV v u ∧ ∀ ι M H, Rep (KK w.params) w ι M H (.int 999) v := const_of hmg (by kernel_rfl)
theorem gs_GREATEST_AMOUNT : ∃ v u, mg "GREATEST_AMOUNT" = some u ∧ RelV v u ∧ ∀ ι M H, Rep (KK w.params) w ι M H (.int 999999999999) v := const_of hmg (by kernel_rfl)
theorem gs_MOST_CELLS : ∃ v u, mg "MOST_CELLS" = some u ∧ RelV v u ∧ ∀ ι M H, Rep (KK w.params) w ι M H (.int 144) v := const_of hmg (by kernel_rfl)
theorem gs_MOST_HEIRS : ∃ v u, mg "MOST_HEIRS" = some u ∧ RelV v u ∧ ∀ ι M H, Rep (KK w.params) w ι M H (.int 4) v := const_of hmg (by kernel_rfl)
theorem gs_MOST_WEIGHT : ∃ v u, mg "MOST_WEIGHT" = some u ∧ RelV v u ∧ ∀ ι M H, Rep (KK w.params) w ι M H (.int 9) v := const_of hmg (by kernel_rfl)
theorem gs_MOST_BOTTOM : ∃ v u, mg "MOST_BOTTOM" = some u ∧ RelV v u ∧ ∀ ι M H, Rep (KK w.params) w ι M H (.int 60) v := const_of hmg (by kernel_rfl)
theorem gs_DIFFERENT : ∃ v u, mg "DIFFERENT" = some u ∧ RelV v u ∧ ∀ ι M H, Rep (KK w.params) w ι M H (.dic [.str "sale", .str "gift", .str "divide", .str "unite", .str "grant", .str "waive", .str "part", .str "yield", .str "trade"] [.tup [.int 2, .int 3], .tup [.int 2, .int 3], .tup [.int 1, .int 3], .tup [.int 1, .int 2], .tup [.int 1, .int 2], .tup [.int 1, .int 2], .tup [.int 1, .int 3], .tup [.int 1, .int 2], .tup [.int 1, .int 2]]) v := constD_of (ss := ["sale", "gift", "divide", "unite", "grant", "waive", "part", "yield", "trade"]) hmg (by kernel_rfl) (by decide) (by decide) (fun s hs => Nat.le_of_lt (List.all_eq_true.mp (show (["sale", "gift", "divide", "unite", "grant", "waive", "part", "yield", "trade"] : List Str).all (fun s => decide (s.length < strMax)) = true from by decide +kernel) s hs |> of_decide_eq_true)) (by kernel_rfl) (by kernel_rfl)
theorem gs_FORMS : ∃ v u, mg "FORMS" = some u ∧ RelV v u ∧ ∀ ι M H, Rep (KK w.params) w ι M H (.dic [.str "sale", .str "gift", .str "heirs", .str "void", .str "uphold", .str "divide", .str "unite", .str "grant", .str "waive", .str "charge", .str "reserve", .str "fill", .str "repay", .str "assign", .str "part", .str "merge", .str "release", .str "extend", .str "yield", .str "trade"] [.tup [.fn "is_parcels", .fn "is_called", .fn "is_called", .fn "is_part_share", .fn "is_knowing"], .tup [.fn "is_parcels", .fn "is_called", .fn "is_called", .fn "is_part_share"], .tup [.fn "is_called", .fn "is_heirs"], .tup [.fn "is_entry_number"], .tup [.fn "is_entry_number"], .tup [.fn "is_called", .fn "is_cells", .fn "is_called"], .tup [.fn "is_called", .fn "is_called"], .tup [.fn "is_called", .fn "is_called", .fn "is_parcels", .fn "is_knowing"], .tup [.fn "is_called", .fn "is_called"], .tup [.fn "is_called", .fn "is_called", .fn "is_sum", .fn "is_parcels", .fn "is_parcels", .fn "is_knowing"], .tup [.fn "is_called", .fn "is_sum", .fn "is_parcels", .fn "is_until", .fn "is_parcels", .fn "is_knowing"], .tup [.fn "is_called", .fn "is_called"], .tup [.fn "is_called", .fn "is_sum"], .tup [.fn "is_called", .fn "is_called"], .tup [.fn "is_called", .fn "is_sum", .fn "is_called"], .tup [.fn "is_called"], .tup [.fn "is_called", .fn "is_called"], .tup [.fn "is_called", .fn "is_called", .fn "is_parcels", .fn "is_knowing"], .tup [.fn "is_called", .fn "is_called"], .tup [.fn "is_called", .fn "is_called"]]) v := constD_of (ss := ["sale", "gift", "heirs", "void", "uphold", "divide", "unite", "grant", "waive", "charge", "reserve", "fill", "repay", "assign", "part", "merge", "release", "extend", "yield", "trade"]) hmg (by kernel_rfl) (by decide) (by decide) (fun s hs => Nat.le_of_lt (List.all_eq_true.mp (show (["sale", "gift", "heirs", "void", "uphold", "divide", "unite", "grant", "waive", "charge", "reserve", "fill", "repay", "assign", "part", "merge", "release", "extend", "yield", "trade"] : List Str).all (fun s => decide (s.length < strMax)) = true from by decide +kernel) s hs |> of_decide_eq_true)) (by kernel_rfl) (by kernel_rfl)
theorem gl80 (hno : ∀ x, PySem.W.nsIn (KK w.params) mainGlobals x = some none → mg x = none) : GlF (KK w.params) w mg k80G where
  glob := lk_cons (gs_LETTERS hmg) (lk_cons (gs_MOST_LETTERS hmg) (lk_cons (gs_MOST_PARCELS hmg) (lk_cons (gs_LAST_DAY hmg) (lk_cons (gs_LAST hmg) (lk_cons (gs_LAST_ENTRY hmg) (lk_cons (gs_GREATEST_AMOUNT hmg) (lk_cons (gs_MOST_CELLS hmg) (lk_cons (gs_MOST_HEIRS hmg) (lk_cons (gs_MOST_WEIGHT hmg) (lk_cons (gs_MOST_BOTTOM hmg) (lk_cons (gs_DIFFERENT hmg) (lk_cons (gs_FORMS hmg) (lk_cons (constC_of hmg (sh_c _)) lk_nil)))))))))))))
  nog := fun x hx => by
    have h := List.all_eq_true.mp (ng80 w.params) x (List.contains_iff_mem.mp hx)
    unfold noG at h
    split at h
    · rename_i e; exact hno x e
    · cases h
end
end R
end
section
set_option Elab.async false
set_option linter.all false
set_option maxRecDepth 100000
set_option maxHeartbeats 4000000
namespace R.M
open PySem L2
section
variable {α β : Type}
def wR (r : Res α) (Q : α → Env → Sto → Prop) : Prop := match r with
  | .ok a ρ S => Q a ρ S
  | _ => False
def wF (r : FRes) (Q : D → Sto → Prop) : Prop := match r with
  | .ret d S => Q d S
  | _ => False
def onB (t : Option Bool) (a b : Prop) : Prop := match t with
  | some true => a
  | some false => b
  | none => False
def oP (o : Option α) (P : α → Prop) : Prop := match o with
  | some a => P a
  | none => False
def onS (o : Option (Option SV)) (P : Prop) : Prop := match o with
  | some (some _) => P
  | _ => False
def slV (S : Sto) (o : Option (Option SV)) : Option D := match o with
  | some (some (.v d)) => viewD S d
  | some (some (.ol ds)) => some (.lst ds)
  | some (some (.oo c fs vs)) => some (.obj c fs vs)
  | _ => none
def onNx (f : Flw) (A : Prop) (B : Flw → Prop) : Prop := match f with
  | .nx => A
  | f => B f
def flF (Q : D → Sto → Prop) (S : Sto) : Flw → Prop
  | .nx => Q .non S
  | .ret d => Q d S
  | _ => False
theorem wR_congr {r r' : Res α} {Q : α → Env → Sto → Prop} (h : r = r') : wR r Q = wR r' Q := by rw [h]
theorem wF_congr {r r' : FRes} {Q : D → Sto → Prop} (h : r = r') : wF r Q = wF r' Q := by rw [h]
theorem onB_congr {t t' : Option Bool} {a b : Prop} (h : t = t') : onB t a b = onB t' a b := by rw [h]
theorem oP_congr {o o' : Option α} {P : α → Prop} (h : o = o') : oP o P = oP o' P := by rw [h]
theorem onS_congr {o o' : Option (Option SV)} {P : Prop} (h : o = o') : onS o P = onS o' P := by rw [h]
theorem onNx_congr {f f' : Flw} {A : Prop} {B : Flw → Prop} (h : f = f') : onNx f A B = onNx f' A B := by rw [h]
variable {Q : α → Env → Sto → Prop} {ρ : Env} {S : Sto}
theorem wR_ok {a : α} : wR (.ok a ρ S) Q = Q a ρ S := rfl
theorem wR_no : wR (.no : Res α) Q = False := rfl
theorem wR_bind {r : Res β} {f : β → Env → Sto → Res α} : wR (r.bind f) Q = wR r fun a ρ S => wR (f a ρ S) Q := by cases r <;> rfl
theorem wR_res {r : FRes} {Q : D → Env → Sto → Prop} : wR (r.res ρ) Q = wF r fun d S => Q d ρ S := by cases r <;> rfl
theorem wR_ofO {o : Option α} : wR (ofO o ρ S) Q = oP o fun a => Q a ρ S := by cases o <;> rfl
theorem wR_noExc {r : Res α} : wR (noExc r) Q = wR r Q := by cases r <;> rfl
theorem wR_ite {c : Prop} [Decidable c] {a b : Res α} : wR (if c then a else b) Q = if c then wR a Q else wR b Q := by split <;> rfl
theorem wR_oP {o : Option β} {f : β → Res α} : wR (match o with | some a => f a | none => .no) Q = oP o fun a => wR (f a) Q := by cases o <;> rfl
theorem wR_tru {o : Option Bool} {a b : Res α} : wR (match o with | some true => a | some false => b | none => .no) Q = onB o (wR a Q) (wR b Q) := by
  cases o with
  | none => rfl
  | some x => cases x <;> rfl
theorem onB_some {b : Bool} {A B : Prop} : onB (some b) A B = if b = true then A else B := by cases b <;> rfl
theorem oP_some {a : α} {P : α → Prop} : oP (some a) P = P a := rfl
theorem oP_map {o : Option β} {f : β → α} {P : α → Prop} : oP (o.map f) P = oP o fun b => P (f b) := by cases o <;> rfl
theorem oP_none {P : α → Prop} : oP none P = False := rfl
theorem oP_blO {o : Option Bool} {P : D → Prop} : oP (blO o) P = oP o fun b => P (.bl b) := by cases o <;> rfl
theorem oP_notO {o : Option Bool} {P : D → Prop} : oP (notO o) P = oP o fun b => P (.bl (!b)) := by cases o <;> rfl
theorem oP_lstO {o : Option (List D)} {P : D → Prop} : oP (lstO o) P = oP o fun b => P (.lst b) := by cases o <;> rfl
theorem oP_ite {c : Prop} [Decidable c] {a b : Option α} {P : α → Prop} : oP (if c then a else b) P = if c then oP a P else oP b P := by split <;> rfl
theorem onS_some {v : SV} {P : Prop} : onS (some (some v)) P = P := rfl
theorem onNx_nx {A : Prop} {B : Flw → Prop} : onNx .nx A B = A := rfl
theorem onNx_ret {d : D} {A : Prop} {B : Flw → Prop} : onNx (.ret d) A B = B (.ret d) := rfl
theorem onNx_brk {A : Prop} {B : Flw → Prop} : onNx .brk A B = B .brk := rfl
theorem onNx_ct {A : Prop} {B : Flw → Prop} : onNx .ct A B = B .ct := rfl
theorem wR_mono {r : Res α} {Q Q' : α → Env → Sto → Prop} (h : wR r Q) (m : ∀ a ρ S, Q a ρ S → Q' a ρ S) : wR r Q' := by
  cases r with
  | ok a ρ S => exact m _ _ _ h
  | exc x ρ S => exact h.elim
  | no => exact h.elim
theorem wF_mono {r : FRes} {Q Q' : D → Sto → Prop} (h : wF r Q) (m : ∀ a S, Q a S → Q' a S) : wF r Q' := by
  cases r with
  | ret a S => exact m _ _ h
  | exc x S => exact h.elim
  | no => exact h.elim
theorem wR_eq {r : Res α} {a : α} {ρ : Env} {S : Sto} : r = .ok a ρ S ↔ wR r fun a' ρ' S' => a' = a ∧ ρ' = ρ ∧ S' = S := by
  constructor
  · rintro rfl; exact ⟨rfl, rfl, rfl⟩
  · intro h
    cases r with
    | ok b r s => obtain ⟨rfl, rfl, rfl⟩ := h; rfl
    | exc x r s => exact h.elim
    | no => exact h.elim
theorem wF_eq {r : FRes} {d : D} {S : Sto} : r = .ret d S ↔ wF r fun d' S' => d' = d ∧ S' = S := by
  constructor
  · rintro rfl; exact ⟨rfl, rfl⟩
  · intro h
    cases r with
    | ret b s => obtain ⟨rfl, rfl⟩ := h; rfl
    | exc x s => exact h.elim
    | no => exact h.elim
theorem wF_ret {d : D} {S : Sto} {Q : D → Sto → Prop} : wF (.ret d S) Q = Q d S := rfl
theorem wF_finF {r : Res Flw} {Q : D → Sto → Prop} : wF (finF r) Q = wR r fun f _ S => flF Q S f := by
  cases r with
  | ok f r s => cases f <;> rfl
  | exc x r s => rfl
  | no => rfl
theorem flF_nx {Q : D → Sto → Prop} : flF Q S .nx = Q .non S := rfl
theorem flF_ret {d : D} {Q : D → Sto → Prop} : flF Q S (.ret d) = Q d S := rfl
end
section
variable {O : Orc} {ρ : Env} {S : Sto} {Q : D → Env → Sto → Prop}
theorem wE_var {i : Nat} : wR (evE O (.var i) ρ S) Q = wR (readV i ρ S) Q := rfl
theorem wE_const {d : D} : wR (evE O (.const d) ρ S) Q = Q d ρ S := rfl
theorem wE_prim {p : Prim} {as : List CE} : wR (evE O (.prim p as) ρ S) Q = wR (evL O as ρ S) fun avs ρ S => oP (lookAll ρ S avs) fun ds => oP (primD p ds) fun d => Q d ρ S := by
  show wR (Res.bind _ _) Q = _
  rw [wR_bind]; congr 1; funext avs r s
  cases lookAll r s avs with
  | none => rfl
  | some ds => exact wR_ofO
theorem wE_slice {lo hi : Bool} {o : CE} {ps : List CE} : wR (evE O (.slice lo hi o ps) ρ S) Q = wR (avOf o (evE O o ρ S) ρ S) fun av ρ S => wR (evP O ps ρ S) fun is ρ S => oP (lookAV ρ S av) fun d => oP (slPart lo hi is) fun p => oP (sliceD d p.1 p.2) fun x => Q x ρ S := by
  show wR (Res.bind _ _) Q = _
  rw [wR_bind]; congr 1; funext av r s
  rw [wR_bind]; congr 1; funext is r s
  cases lookAV r s av with
  | none => rfl
  | some d =>
    cases slPart lo hi is with
    | none => rfl
    | some p => exact wR_ofO
theorem wE_meth {p : Prim} {T : String} {o : CE} {as : List CE} : wR (evE O (.meth p T o as) ρ S) Q = wR (avOf o (evE O o ρ S) ρ S) fun av ρ S => tyIs T (lookAV ρ S av) = true ∧ wR (evL O as ρ S) fun avs ρ S => oP (lookAll ρ S (av :: avs)) fun ds => oP (primD p ds) fun d => Q d ρ S := by
  show wR (Res.bind _ _) Q = _
  rw [wR_bind]; congr 1; funext av r s
  rw [wR_ite]
  split
  · rename_i h
    rw [wR_bind]
    simp only [h, true_and]
    congr 1; funext avs r s
    cases lookAll r s (av :: avs) with
    | none => rfl
    | some ds => exact wR_ofO
  · rename_i h
    simp only [h, wR_no, false_and, Bool.false_eq_true]
theorem wE_mprim {p : MPrim} {o : CE} {as : List CE} : wR (evE O (.mprim p o as) ρ S) Q = wR (avOf o (evE O o ρ S) ρ S) fun av ρ S => tyIs "list" (lookAV ρ S av) = true ∧ wR (evV O as ρ S) fun ds ρ S => wR (changeAV p ds ρ S av) Q := by
  show wR (Res.bind _ _) Q = _
  rw [wR_bind]; congr 1; funext av r s
  rw [wR_ite]
  split
  · rename_i h
    rw [wR_bind]
    simp only [h, true_and]
  · rename_i h
    simp only [h, wR_no, false_and, Bool.false_eq_true]
theorem wE_tup {es : List CE} : wR (evE O (.tup es) ρ S) Q = wR (evV O es ρ S) fun ds ρ S => ds.length ≤ 1000 ∧ Q (.tup ds) ρ S := by
  show wR (Res.bind _ _) Q = _
  rw [wR_bind]; congr 1; funext ds r s
  rw [wR_ite]
  split
  · rename_i h; simp only [h, true_and, wR_ok]
  · rename_i h; simp only [h, false_and, wR_no]
theorem wE_lst {es : List CE} : wR (evE O (.lst es) ρ S) Q = wR (evV O es ρ S) fun ds ρ S => ds.length ≤ 1000 ∧ Q (.lst ds) ρ S := by
  show wR (Res.bind _ _) Q = _
  rw [wR_bind]; congr 1; funext ds r s
  rw [wR_ite]
  split
  · rename_i h; simp only [h, true_and, wR_ok]
  · rename_i h; simp only [h, false_and, wR_no]
theorem wE_cell {es : List CE} : wR (evE O (.cell es) ρ S) Q = wR (evV O es ρ S) fun ds ρ S => ds.length ≤ 1000 ∧ Q (.mut S.length) ρ (S ++ [.lst ds]) := by
  show wR (Res.bind _ _) Q = _
  rw [wR_bind]; congr 1; funext ds r s
  rw [wR_ite]
  split
  · rename_i h; simp only [h, true_and, wR_ok]
  · rename_i h; simp only [h, false_and, wR_no]
theorem wE_dic {ks : List D} {vs : List CE} : wR (evE O (.dic ks vs) ρ S) Q = wR (evV O vs ρ S) fun ds ρ S => dicOk ks ds = true ∧ Q (.dic ks ds) ρ S := by
  show wR (Res.bind _ _) Q = _
  rw [wR_bind, wR_noExc]; congr 1; funext ds r s
  rw [wR_ite]
  split
  · rename_i h; simp only [h, true_and, wR_ok]
  · rename_i h; simp only [h, false_and, wR_no, Bool.false_eq_true]
theorem wE_and {a b : CE} : wR (evE O (.and_ a b) ρ S) Q = wR (evE O a ρ S) fun x ρ S => onB (tru x) (wR (evE O b ρ S) Q) (Q x ρ S) := by
  show wR (Res.bind _ _) Q = _
  rw [wR_bind]; congr 1; funext x r s
  exact wR_tru
theorem wE_or {a b : CE} : wR (evE O (.or_ a b) ρ S) Q = wR (evE O a ρ S) fun x ρ S => onB (tru x) (Q x ρ S) (wR (evE O b ρ S) Q) := by
  show wR (Res.bind _ _) Q = _
  rw [wR_bind]; congr 1; funext x r s
  cases tru x with
  | none => rfl
  | some t => cases t <;> rfl
theorem wE_not {a : CE} : wR (evE O (.not_ a) ρ S) Q = wR (evE O a ρ S) fun x ρ S => oP (tru x) fun t => Q (.bl (!t)) ρ S := by
  show wR (Res.bind _ _) Q = _
  rw [wR_bind]; congr 1; funext x r s
  cases tru x <;> rfl
theorem wE_if {c a b : CE} : wR (evE O (.ifE c a b) ρ S) Q = wR (evE O c ρ S) fun x ρ S => onB (tru x) (wR (evE O a ρ S) Q) (wR (evE O b ρ S) Q) := by
  show wR (Res.bind _ _) Q = _
  rw [wR_bind]; congr 1; funext x r s
  exact wR_tru
theorem wE_chain {a : CE} {ps : List Prim} {es : List CE} : wR (evE O (.chain a ps es) ρ S) Q = wR (evE O a ρ S) fun x ρ S => wR (evCh O x ps es ρ S) Q := by
  show wR (Res.bind _ _) Q = _
  rw [wR_bind]
theorem wE_call {f : Str} {as : List CE} {dfl : List D} : wR (evE O (.call f as dfl) ρ S) Q = wR (evV O as ρ S) fun ds ρ S => wF (O (.fn f) (ds ++ dfl) S) fun d S => Q d ρ S := by
  show wR (Res.bind _ _) Q = _
  simp only [wR_bind, wR_res]
theorem wE_new {f : Str} {as : List CE} {dfl : List D} : wR (evE O (.new f as dfl) ρ S) Q = wR (evV O as ρ S) fun ds ρ S => wF (O (.new f) (ds ++ dfl) S) fun d S => Q d ρ S := by
  show wR (Res.bind _ _) Q = _
  simp only [wR_bind, wR_res]
def onFn (d : D) (P : Str → Prop) : Prop := match d with
  | .fn x => P x
  | _ => False
theorem onFn_congr {d d' : D} {P : Str → Prop} (h : d = d') : onFn d P = onFn d' P := by rw [h]
theorem onFn_fn {x : Str} {P : Str → Prop} : onFn (.fn x) P = P x := rfl
theorem wE_callv {ok : List Str} {f : CE} {as : List CE} : wR (evE O (.callv ok f as) ρ S) Q = wR (evE O f ρ S) fun g ρ S => onFn g fun x => ok.contains x = true ∧ wR (evV O as ρ S) fun ds ρ S => wF (O (.fn x) ds S) fun d S => Q d ρ S := by
  show wR (Res.bind _ _) Q = _
  rw [wR_bind]; congr 1; funext g r s
  cases g with
  | fn x =>
    show wR (if ok.contains x then _ else _) Q = (ok.contains x = true ∧ _)
    rw [wR_ite]
    split
    · rename_i h; simp only [h, true_and, wR_bind, wR_res]
    · rename_i h; simp only [h, false_and, wR_no, Bool.false_eq_true]
  | _ => rfl
def turnC (O : Orc) (t : Tg) (ifs : List CE) (elt : CE) : D → Env → Sto → Res (Option D) := fun d ρ S => match bindT t d ρ with
  | some ρ => noExc ((evIfs O ifs ρ S).bind fun b ρ S => if b then (evE O elt ρ S).bind fun y ρ S => .ok (some y) ρ S else .ok none ρ S)
  | none => .no
theorem wE_comp {own : List Nat} {t : Tg} {it : CI} {ifs : List CE} {elt : CE} : wR (evE O (.comp own t it ifs elt) ρ S) Q = wR (evI O it ρ S) fun ds ρ S => noOwn ρ own = true ∧ wR (loopC (turnC O t ifs elt) own ds [] (wipeE ρ own) S) fun ys ρ' S => Q (.lst ys) (backE ρ ρ' own) S := by
  show wR (Res.bind _ _) Q = _
  rw [wR_bind]; congr 1; funext ds r s
  rw [wR_ite]
  split
  · rename_i h
    simp only [h, true_and]
    rw [wR_bind]
    rfl
  · rename_i h; simp only [h, false_and, wR_no, Bool.false_eq_true]
theorem wE_scomp {own : List Nat} {t : Tg} {it : CI} {ifs : List CE} {elt : CE} : wR (evE O (.scomp own t it ifs elt) ρ S) Q = wR (evI O it ρ S) fun ds ρ S => noOwn ρ own = true ∧ wR (loopC (turnC O t ifs elt) own ds [] (wipeE ρ own) S) fun ys ρ' S => oP (mapO keyO ys) fun qs => qs.length ≤ 60 ∧ Q (.set ((dd qs).map keyD)) (backE ρ ρ' own) S := by
  show wR (Res.bind _ _) Q = _
  rw [wR_bind]; congr 1; funext ds r s
  rw [wR_ite]
  split
  · rename_i h
    simp only [h, true_and]
    rw [wR_bind]
    show wR (loopC (turnC O t ifs elt) own ds [] (wipeE r own) s) _ = _
    congr 1; funext ys r' s'
    cases mapO keyO ys with
    | none => rfl
    | some qs =>
      show wR (if qs.length ≤ 60 then _ else _) Q = (qs.length ≤ 60 ∧ _)
      rw [wR_ite]
      split
      · rename_i h; simp only [h, true_and, wR_ok]
      · rename_i h; simp only [h, false_and, wR_no]
  · rename_i h; simp only [h, false_and, wR_no, Bool.false_eq_true]
theorem turnC_w {t : Tg} {ifs : List CE} {elt : CE} {d : D} {Q : Option D → Env → Sto → Prop} : wR (turnC O t ifs elt d ρ S) Q = oP (bindT t d ρ) fun ρ => wR (evIfs O ifs ρ S) fun b ρ S => if b = true then wR (evE O elt ρ S) fun y ρ S => Q (some y) ρ S else Q none ρ S := by
  unfold turnC
  cases bindT t d ρ with
  | none => rfl
  | some ρ =>
    simp only [wR_noExc, wR_bind, wR_ite, wR_ok]
    rfl
end
section
variable {O : Orc} {ρ : Env} {S : Sto}
theorem wL_nil {Q : List AV → Env → Sto → Prop} : wR (evL O [] ρ S) Q = Q [] ρ S := rfl
theorem wL_cons {e : CE} {es : List CE} {Q : List AV → Env → Sto → Prop} : wR (evL O (e :: es) ρ S) Q = wR (avOf e (evE O e ρ S) ρ S) fun a ρ S => wR (evL O es ρ S) fun as ρ S => Q (a :: as) ρ S := by
  show wR (Res.bind _ _) Q = _
  simp only [wR_bind, wR_ok]
theorem wV_nil {Q : List D → Env → Sto → Prop} : wR (evV O [] ρ S) Q = Q [] ρ S := rfl
theorem wV_cons {e : CE} {es : List CE} {Q : List D → Env → Sto → Prop} : wR (evV O (e :: es) ρ S) Q = wR (evE O e ρ S) fun a ρ S => wR (evV O es ρ S) fun as ρ S => Q (a :: as) ρ S := by
  show wR (Res.bind _ _) Q = _
  simp only [wR_bind, wR_ok]
def onI (d : D) (P : Int → Prop) : Prop := match d with
  | .int i => -(2 ^ 62) ≤ i ∧ i ≤ 2 ^ 62 ∧ P i
  | _ => False
theorem onI_int {i : Int} {P : Int → Prop} : onI (.int i) P = (-(2 ^ 62) ≤ i ∧ i ≤ 2 ^ 62 ∧ P i) := rfl
theorem onI_congr {d d' : D} {P : Int → Prop} (h : d = d') : onI d P = onI d' P := by rw [h]
theorem wP_nil {Q : List Int → Env → Sto → Prop} : wR (evP O [] ρ S) Q = Q [] ρ S := rfl
theorem wP_cons {e : CE} {es : List CE} {Q : List Int → Env → Sto → Prop} : wR (evP O (e :: es) ρ S) Q = wR (evE O e ρ S) fun d ρ S => onI d fun i => wR (evP O es ρ S) fun is ρ S => Q (i :: is) ρ S := by
  show wR (Res.bind _ _) Q = _
  rw [wR_bind]; congr 1; funext d r s
  cases d with
  | int i =>
    show wR (if -(2 ^ 62) ≤ i ∧ i ≤ 2 ^ 62 then _ else _) Q = (-(2 ^ 62) ≤ i ∧ i ≤ 2 ^ 62 ∧ _)
    rw [wR_ite]
    split
    · rename_i h; simp only [h, true_and, wR_bind, wR_ok]
    · rename_i h; rw [wR_no]; simp only [← and_assoc, h, false_and]
  | _ => rfl
theorem wCh_one {x : D} {p : Prim} {e : CE} {Q : D → Env → Sto → Prop} : wR (evCh O x [p] [e] ρ S) Q = wR (evE O e ρ S) fun y ρ S => oP (viewD S x) fun x => oP (viewD S y) fun y => oP (primD p [x, y]) fun d => Q d ρ S := by
  show wR (Res.bind _ _) Q = _
  rw [wR_bind]; congr 1; funext y r s
  cases viewD s x with
  | none => rfl
  | some x => cases viewD s y with
    | none => rfl
    | some y => exact wR_ofO
theorem wCh_more {x : D} {p q : Prim} {ps : List Prim} {e f : CE} {es : List CE} {Q : D → Env → Sto → Prop} : wR (evCh O x (p :: q :: ps) (e :: f :: es) ρ S) Q = wR (evE O e ρ S) fun y ρ S => oP (viewD S x) fun x => oP (viewD S y) fun y' => oP (primD p [x, y']) fun r => onB (tru r) (wR (evCh O y (q :: ps) (f :: es) ρ S) Q) (Q r ρ S) := by
  show wR (Res.bind _ _) Q = _
  rw [wR_bind]; congr 1; funext y r s
  cases viewD s x with
  | none => rfl
  | some x => cases viewD s y with
    | none => rfl
    | some y' =>
      show wR (Res.bind _ _) Q = oP (primD p [x, y']) _
      rw [wR_bind, wR_ofO]
      cases primD p [x, y'] with
      | none => rfl
      | some d => exact wR_tru
theorem wIf_nil {Q : Bool → Env → Sto → Prop} : wR (evIfs O [] ρ S) Q = Q true ρ S := rfl
theorem wIf_cons {e : CE} {es : List CE} {Q : Bool → Env → Sto → Prop} : wR (evIfs O (e :: es) ρ S) Q = wR (evE O e ρ S) fun x ρ S => onB (tru x) (wR (evIfs O es ρ S) Q) (Q false ρ S) := by
  show wR (Res.bind _ _) Q = _
  rw [wR_bind]; congr 1; funext x r s
  exact wR_tru
theorem wI_seq {e : CE} {Q : List D → Env → Sto → Prop} : wR (evI O (.seq e) ρ S) Q = wR (evE O e ρ S) fun d ρ S => oP (seqD d) fun ds => Q ds ρ S := by
  show wR (Res.bind _ _) Q = _
  simp only [wR_bind, wR_ofO]
def rngD : List D → Option (List D)
  | [.int j] => if okRange j then some (rangeD 0 j) else none
  | [.int i, .int j] => if okRange i && okRange j then some (rangeD i j) else none
  | _ => none
def zpD : List D → Option (List D)
  | [.lst xs, .lst ys] => some (zipD xs ys)
  | [.tup xs, .tup ys] => some (zipD xs ys)
  | _ => none
theorem wI_range {es : List CE} {Q : List D → Env → Sto → Prop} : wR (evI O (.range es) ρ S) Q = wR (evV O es ρ S) fun ds ρ S => oP (rngD ds) fun xs => Q xs ρ S := by
  show wR (Res.bind _ _) Q = _
  rw [wR_bind]; congr 1; funext ds r s
  rcases ds with _ | ⟨a, _ | ⟨b, _ | ⟨c, t⟩⟩⟩
  · rfl
  · cases a with
    | int j =>
      show wR (if okRange j then _ else _) Q = oP (if okRange j then _ else _) _
      rw [wR_ite, oP_ite]; rfl
    | _ => rfl
  · cases a with
    | int i => cases b with
      | int j =>
        show wR (if okRange i && okRange j then _ else _) Q = oP (if okRange i && okRange j then _ else _) _
        rw [wR_ite, oP_ite]; rfl
      | _ => rfl
    | _ => rfl
  · cases a with
    | int i => cases b <;> rfl
    | _ => rfl
theorem wI_zip {es : List CE} {Q : List D → Env → Sto → Prop} : wR (evI O (.zip es) ρ S) Q = wR (evV O es ρ S) fun ds ρ S => oP (zpD ds) fun xs => Q xs ρ S := by
  show wR (Res.bind _ _) Q = _
  rw [wR_bind]; congr 1; funext ds r s
  rcases ds with _ | ⟨a, _ | ⟨b, _ | ⟨c, t⟩⟩⟩
  · rfl
  · cases a <;> rfl
  · cases a <;> cases b <;> rfl
  · cases a <;> cases b <;> rfl
theorem wA_peek {i : Nat} {r : Res D} {Q : AV → Env → Sto → Prop} : wR (avOf (.peek i) r ρ S) Q = onS (ρ[i]?) (Q (.pk i) ρ S) := by
  show wR (match ρ[i]? with
    | some (some _) => .ok (.pk i) ρ S
    | _ => .no) Q = _
  unfold onS
  split <;> rfl
theorem wA_val {e : CE} {r : Res D} {Q : AV → Env → Sto → Prop} (h : peekOf e = none) : wR (avOf e r ρ S) Q = wR r fun d ρ S => Q (.d d) ρ S := by
  unfold avOf
  rw [h]
  show wR (Res.bind _ _) Q = _
  simp only [wR_bind, wR_ok]
theorem look_nil {P : List D → Prop} : oP (lookAll ρ S []) P = P [] := rfl
theorem look_cons {a : AV} {as : List AV} {P : List D → Prop} : oP (lookAll ρ S (a :: as)) P = oP (lookAV ρ S a) fun d => oP (lookAll ρ S as) fun ds => P (d :: ds) := by
  show oP (match lookAV ρ S a, lookAll ρ S as with
    | some d, some ds => some (d :: ds)
    | _, _ => none) P = _
  cases lookAV ρ S a with
  | none => rfl
  | some d => cases lookAll ρ S as <;> rfl
theorem lookAV_d {x : D} : lookAV ρ S (.d x) = viewD S x := rfl
theorem lookAV_pk {i : Nat} : lookAV ρ S (.pk i) = slV S (ρ[i]?) := by
  show (match ρ[i]? with
    | some (some (.v d)) => viewD S d
    | some (some (.ol ds)) => some (.lst ds)
    | some (some (.oo c fs vs)) => some (.obj c fs vs)
    | _ => none) = _
  unfold slV
  split <;> rfl
theorem slV_v {d : D} : slV S (some (some (.v d))) = viewD S d := rfl
theorem slV_ol {ds : List D} : slV S (some (some (.ol ds))) = some (.lst ds) := rfl
theorem slV_oo {c : Str} {fs : List Str} {vs : List D} : slV S (some (some (.oo c fs vs))) = some (.obj c fs vs) := rfl
end
section
variable {O : Orc} {L : Nat} {Fl : Str → Str → Bool} {ρ : Env} {S : Sto} {Q : Flw → Env → Sto → Prop}
theorem wS_asg {t : Tg} {e : CE} : wR (evS O L Fl (.asg t e) ρ S) Q = wR (evE O e ρ S) fun d ρ S => oP (bindT t d ρ) fun ρ => Q .nx ρ S := by
  show wR (Res.bind _ _) Q = _
  rw [wR_bind]; congr 1; funext d r s
  cases bindT t d r <;> rfl
def onLst (d : D) (P : List D → Prop) : Prop := match d with
  | .lst ds => P ds
  | _ => False
theorem onLst_congr {d d' : D} {P : List D → Prop} (h : d = d') : onLst d P = onLst d' P := by rw [h]
theorem onLst_l {x : List D} {P : List D → Prop} : onLst (.lst x) P = P x := rfl
theorem wS_asgO {i : Nat} {e : CE} : wR (evS O L Fl (.asgO i e) ρ S) Q = wR (evE O e ρ S) fun d ρ S => onLst d fun ds => freeAt ρ i = true ∧ Q .nx (ρ.set i (some (.ol ds))) S := by
  show wR (Res.bind _ _) Q = _
  rw [wR_bind]; congr 1; funext d r s
  cases d with
  | lst ds =>
    show wR (if freeAt r i then _ else _) Q = (freeAt r i = true ∧ _)
    rw [wR_ite]
    split
    · rename_i h; simp only [h, true_and, wR_ok]
    · rename_i h; simp only [h, false_and, wR_no, Bool.false_eq_true]
  | _ => rfl
theorem wS_par {ts : List (Nat × Bool)} {es : List CE} : wR (evS O L Fl (.par ts es) ρ S) Q = wR (evV O es ρ S) fun ds ρ S => oP (setPar ts ds ρ) fun ρ => Q .nx ρ S := by
  show wR (Res.bind _ _) Q = _
  rw [wR_bind]; congr 1; funext d r s
  cases setPar ts d r <;> rfl
theorem wS_put {o i e : CE} : wR (evS O L Fl (.put o i e) ρ S) Q = wR (evE O e ρ S) fun d ρ S => wR (avOf o (evE O o ρ S) ρ S) fun av ρ S => wR (evE O i ρ S) fun k ρ S => wR (changeAV .put [k, d] ρ S av) fun _ ρ S => Q .nx ρ S := by
  show wR (Res.bind _ _) Q = _
  simp only [wR_bind, wR_ok]
theorem wS_expr {e : CE} : wR (evS O L Fl (.expr e) ρ S) Q = wR (evE O e ρ S) fun _ ρ S => Q .nx ρ S := by
  show wR (Res.bind _ _) Q = _
  simp only [wR_bind, wR_ok]
theorem wS_ret {e : CE} : wR (evS O L Fl (.ret e) ρ S) Q = wR (evE O e ρ S) fun d ρ S => Q (.ret d) ρ S := by
  show wR (Res.bind _ _) Q = _
  simp only [wR_bind, wR_ok]
theorem wS_ite {c : CE} {a b : List CS} : wR (evS O L Fl (.ite c a b) ρ S) Q = wR (evE O c ρ S) fun x ρ S => onB (tru x) (wR (evB O L Fl a ρ S) Q) (wR (evB O L Fl b ρ S) Q) := by
  show wR (Res.bind _ _) Q = _
  rw [wR_bind]; congr 1; funext x r s
  exact wR_tru
def bodyS (O : Orc) (L : Nat) (Fl : Str → Str → Bool) (t : Tg) (b : List CS) : D → Env → Sto → Res Flw := fun d ρ S => match bindT t d ρ with
  | some ρ => evB O L Fl b ρ S
  | none => .no
theorem wS_for {t : Tg} {it : CI} {b : List CS} : wR (evS O L Fl (.for_ t it b) ρ S) Q = wR (evI O it ρ S) fun ds ρ S => wR (loopS (bodyS O L Fl t b) ds ρ S) Q := by
  show wR (Res.bind _ _) Q = _
  rw [wR_bind]; rfl
theorem bodyS_w {t : Tg} {b : List CS} {d : D} : wR (bodyS O L Fl t b d ρ S) Q = oP (bindT t d ρ) fun ρ => wR (evB O L Fl b ρ S) Q := by
  unfold bodyS
  cases bindT t d ρ <;> rfl
theorem wS_while {c : CE} {b : List CS} : wR (evS O L Fl (.while_ c b) ρ S) Q = wR (loopW (evE O c) (evB O L Fl b) L ρ S) Q := rfl
theorem wS_pass : wR (evS O L Fl .pass ρ S) Q = Q .nx ρ S := rfl
theorem wS_retN : wR (evS O L Fl .retN ρ S) Q = Q (.ret .non) ρ S := rfl
theorem wS_brk : wR (evS O L Fl .brk ρ S) Q = Q .brk ρ S := rfl
theorem wS_cont : wR (evS O L Fl .cont ρ S) Q = Q .ct ρ S := rfl
theorem wB_nil : wR (evB O L Fl [] ρ S) Q = Q .nx ρ S := rfl
theorem wB_cons {s : CS} {r : List CS} : wR (evB O L Fl (s :: r) ρ S) Q = wR (evS O L Fl s ρ S) fun f ρ S => onNx f (wR (evB O L Fl r ρ S) Q) fun f => Q f ρ S := by
  show wR (Res.bind _ _) Q = _
  rw [wR_bind]; congr 1; funext f r s
  cases f <;> rfl
theorem wFn {f : CF} {as : List D} {Q : D → Sto → Prop} (h : f.init = none) (h1 : as.length = f.np) (h2 : f.np ≤ f.nl) : wF (evF L Fl O f as S) Q = wR (evB O L Fl f.body (env0 f.nl as) S) fun f _ S => flF Q S f := by
  unfold evF
  rw [h]
  simp only [h1, h2, and_self, if_true]
  exact wF_finF
theorem loopS_inv {body : D → Env → Sto → Res Flw} (I : List D → Env → Sto → Prop) (hn : ∀ ρ S, I [] ρ S → Q .nx ρ S)
    (hc : ∀ d r ρ S, I (d :: r) ρ S → wR (body d ρ S) fun f ρ S => match f with
      | .nx => I r ρ S
      | .ct => I r ρ S
      | .brk => Q .nx ρ S
      | .ret v => Q (.ret v) ρ S) : ∀ (ds : List D) (ρ : Env) (S : Sto), I ds ρ S → wR (loopS body ds ρ S) Q
  | [], ρ, S, h => hn _ _ h
  | d :: r, ρ, S, h => by
    show wR (Res.bind _ _) Q
    rw [wR_bind]
    refine wR_mono (hc d r ρ S h) fun f ρ S q => ?_
    cases f with
    | nx => exact loopS_inv I hn hc r ρ S q
    | ct => exact loopS_inv I hn hc r ρ S q
    | brk => exact q
    | ret v => exact q
theorem loopC_inv {turn : D → Env → Sto → Res (Option D)} {own : List Nat} {Q : List D → Env → Sto → Prop} (I : List D → List D → Env → Sto → Prop) (hn : ∀ acc ρ S, I [] acc ρ S → Q acc ρ S)
    (hc : ∀ d r acc ρ S, I (d :: r) acc ρ S → wR (turn d ρ S) fun o ρ S => match o with
      | some y => acc.length < sizeLine ∧ I r (acc ++ [y]) (wipeE ρ own) S
      | none => I r acc (wipeE ρ own) S) : ∀ (ds acc : List D) (ρ : Env) (S : Sto), I ds acc ρ S → wR (loopC turn own ds acc ρ S) Q
  | [], acc, ρ, S, h => hn _ _ _ h
  | d :: r, acc, ρ, S, h => by
    show wR (Res.bind _ _) Q
    rw [wR_bind]
    refine wR_mono (hc d r acc ρ S h) fun f ρ S q => ?_
    cases f with
    | some y =>
      show wR (if acc.length < sizeLine then _ else _) Q
      rw [wR_ite, if_pos q.1]
      exact loopC_inv I hn hc r _ _ S q.2
    | none => exact loopC_inv I hn hc r _ _ S q
end
end R.M
end
section
set_option Elab.async false
set_option linter.all false
set_option maxRecDepth 100000
set_option maxHeartbeats 4000000
namespace R.M
open PySem L2
def isI : D → Bool
  | .int _ => true
  | .bl _ => true
  | _ => false
def isSt : D → Bool
  | .str _ => true
  | _ => false
def isTu : D → Bool
  | .tup _ => true
  | _ => false
def isLs : D → Bool
  | .lst _ => true
  | _ => false
def isDi : D → Bool
  | .dic _ _ => true
  | _ => false
def isOb : D → Bool
  | .obj _ _ _ => true
  | _ => false
def fTB : List Str := ["top", "bottom"]
def twoI : List D → Bool
  | [.int _, .int _] => true
  | _ => false
/-- data of a bounded depth -/
def gd : Nat → D → Bool
  | 0, d => (match d with
    | .non => true
    | .bl _ => true
    | .int _ => true
    | .str _ => true
    | .dic ks vs => ks.isEmpty && vs.isEmpty
    | .obj c fs vs => decide (c = "Share") && decide (fs = fTB) && twoI vs
    | _ => false)
  | k + 1, d => (match d with
    | .tup ds => ds.all (gd k) && decide (ds.length ≤ 60)
    | .lst ds => ds.all (gd k)
    | d => gd k d)
theorem gd_tup {k : Nat} {ds : List D} (h : gd (k + 1) (.tup ds) = true) : (∀ d ∈ ds, gd k d = true) ∧ ds.length ≤ 60 := by
  replace h : (ds.all (gd k) && decide (ds.length ≤ 60)) = true := h
  simpa using h
theorem gd_lst {k : Nat} {ds : List D} (h : gd (k + 1) (.lst ds) = true) : ∀ d ∈ ds, gd k d = true := by
  replace h : ds.all (gd k) = true := h
  simpa using h
theorem gd_tup0 {ds : List D} (h : gd 0 (.tup ds) = true) : False := by cases h
theorem gd_up : ∀ {k : Nat} {x : D}, gd k x = true → gd (k + 1) x = true
  | 0, x, h => by cases x <;> first | exact h | cases h
  | k + 1, x, h => by
    cases x with
    | tup ds =>
      obtain ⟨h1, h2⟩ := gd_tup h
      show (ds.all (gd (k + 1)) && decide (ds.length ≤ 60)) = true
      simp only [Bool.and_eq_true, List.all_eq_true, decide_eq_true_eq]
      exact ⟨fun d m => gd_up (h1 d m), h2⟩
    | lst ds =>
      show ds.all (gd (k + 1)) = true
      rw [List.all_eq_true]
      exact fun d m => gd_up (gd_lst h d m)
    | _ => exact gd_up (k := k) h
theorem gd_le {k : Nat} {x : D} (h : gd k x = true) : ∀ j : Nat, gd (k + j) x = true
  | 0 => h
  | j + 1 => gd_up (gd_le h j)
theorem gd_tup_of {k : Nat} {ds : List D} (h : ∀ d ∈ ds, gd k d = true) (l : ds.length ≤ 60) : gd (k + 1) (.tup ds) = true := by
  show (ds.all (gd k) && decide (ds.length ≤ 60)) = true
  simp only [Bool.and_eq_true, List.all_eq_true, decide_eq_true_eq]
  exact ⟨h, l⟩
theorem gd_lst_of {k : Nat} {ds : List D} (h : ∀ d ∈ ds, gd k d = true) : gd (k + 1) (.lst ds) = true := by
  show ds.all (gd k) = true
  rw [List.all_eq_true]
  exact h
theorem gd_obj : ∀ {k : Nat} {c : Str} {fs : List Str} {vs : List D}, gd k (.obj c fs vs) = true → c = "Share" ∧ fs = fTB ∧ ∃ a b, vs = [.int a, .int b]
  | 0, c, fs, vs, h => by
    replace h : (decide (c = "Share") && decide (fs = fTB) && twoI vs) = true := h
    simp only [Bool.and_eq_true, decide_eq_true_eq] at h
    refine ⟨h.1.1, h.1.2, ?_⟩
    have := h.2
    unfold twoI at this
    split at this
    · exact ⟨_, _, rfl⟩
    · cases this
  | k + 1, c, fs, vs, h => gd_obj (k := k) h
def plK : D → Bool
  | .ty _ => false
  | .fn _ => false
  | .cls _ => false
  | .set _ => false
  | .mut _ => false
  | _ => true
theorem gd_pl : ∀ {k : Nat} {x : D}, gd k x = true → plK x = true
  | 0, x, h => by cases x <;> first | rfl | cases h
  | k + 1, x, h => by
    cases x with
    | tup ds => rfl
    | lst ds => rfl
    | _ => exact gd_pl (k := k) h
section
variable {x y : D} {S : Sto} {k : Nat}
theorem view_good (h : gd k x = true) : viewD S x = some x := by
  have h1 := gd_pl h
  cases x <;> first | rfl | cases h1
theorem isi_int (h : gd k x = true) : isiD x (.ty "int") = some (isI x) := by
  have h1 := gd_pl h
  cases x with
  | obj c fs vs => obtain ⟨rfl, rfl, _⟩ := gd_obj h; rfl
  | _ => first | rfl | cases h1
theorem isi_bool (h : gd k x = true) : isiD x (.ty "bool") = some (isBl x) := by
  have h1 := gd_pl h
  cases x with
  | obj c fs vs => obtain ⟨rfl, rfl, _⟩ := gd_obj h; rfl
  | _ => first | rfl | cases h1
theorem isi_str (h : gd k x = true) : isiD x (.ty "str") = some (isSt x) := by
  have h1 := gd_pl h
  cases x with
  | obj c fs vs => obtain ⟨rfl, rfl, _⟩ := gd_obj h; rfl
  | _ => first | rfl | cases h1
theorem isi_tup (h : gd k x = true) : isiD x (.ty "tuple") = some (isTu x) := by
  have h1 := gd_pl h
  cases x with
  | obj c fs vs => obtain ⟨rfl, rfl, _⟩ := gd_obj h; rfl
  | _ => first | rfl | cases h1
theorem isi_list (h : gd k x = true) : isiD x (.ty "list") = some (isLs x) := by
  have h1 := gd_pl h
  cases x with
  | obj c fs vs => obtain ⟨rfl, rfl, _⟩ := gd_obj h; rfl
  | _ => first | rfl | cases h1
theorem isi_dict (h : gd k x = true) : isiD x (.ty "dict") = some (isDi x) := by
  have h1 := gd_pl h
  cases x with
  | obj c fs vs => obtain ⟨rfl, rfl, _⟩ := gd_obj h; rfl
  | _ => first | rfl | cases h1
theorem isi_share (h : gd k x = true) : isiD x (.cls "Share") = some (isOb x) := by
  have h1 := gd_pl h
  cases x with
  | obj c fs vs => obtain ⟨rfl, rfl, _⟩ := gd_obj h; rfl
  | _ => first | rfl | cases h1
theorem isT_of (h : isTu x = true) : ∃ ds, x = .tup ds := by cases x <;> first | exact ⟨_, rfl⟩ | cases h
theorem isS_of (h : isSt x = true) : ∃ s, x = .str s := by cases x <;> first | exact ⟨_, rfl⟩ | cases h
end
section
variable {a b c : D} {o : D}
theorem p_isi : primD .isi [a, b] = blO (isiD a b) := rfl
theorem p_eq : primD .eq [a, b] = blO (eqD a b) := rfl
theorem p_ne : primD .ne [a, b] = notO (eqD a b) := rfl
theorem p_lt : primD .lt [a, b] = blO (ltD a b) := rfl
theorem p_le : primD .le [a, b] = blO (leD a b) := rfl
theorem p_gt : primD .gt [a, b] = blO (ltD b a) := rfl
theorem p_ge : primD .ge [a, b] = blO (leD b a) := rfl
theorem p_is : primD .is [a, b] = blO (isD a b) := rfl
theorem p_isnot : primD .isnot [a, b] = notO (isD a b) := rfl
theorem p_in : primD .in_ [a, b] = blO (inD a b) := rfl
theorem p_notin : primD .notin [a, b] = notO (inD a b) := rfl
theorem p_item : primD .item [a, b] = itemD a b := rfl
theorem p_len : primD .len [a] = lenD a := rfl
theorem p_all : primD .all [a] = allO a := rfl
theorem p_any : primD .any [a] = anyO a := rfl
theorem p_add : primD .add [a, b] = addD a b := rfl
theorem p_sub : primD .sub [a, b] = subD a b := rfl
theorem p_mul : primD .mul [a, b] = mulD a b := rfl
theorem p_fdiv : primD .fdiv [a, b] = fdivD a b := rfl
theorem p_mod : primD .mod [a, b] = modD a b := rfl
theorem p_pow : primD .pow [a, b] = powD a b := rfl
theorem p_neg : primD .neg [a] = negD a := rfl
theorem p_abs : primD .abs [a] = absD a := rfl
theorem p_int : primD .int [a] = intD a := rfl
theorem p_join : primD .join [a, b] = joinD a b := rfl
theorem p_get2 : primD .get [a, b] = getD2 a b .non := rfl
theorem p_get3 : primD .get [a, b, c] = getD2 a b c := rfl
theorem p_list : primD .list [a] = lstO (listD a) := rfl
theorem p_tuple : primD .tuple [a] = tupleD a := rfl
theorem p_sorted : primD .sorted [a] = sortO a := rfl
theorem p_set : primD .set [a] = setOfD a := rfl
theorem p_dict : primD .dict [a] = dictOfD a := rfl
theorem p_attr {f : Str} : primD (.attr f) [a] = attrD f a := rfl
end
section
variable {S : Sto}
theorem tru_bl {b : Bool} : tru (.bl b) = some b := rfl
theorem tru_non : tru .non = some false := rfl
theorem v_non : viewD S .non = some .non := rfl
theorem v_bl {b : Bool} : viewD S (.bl b) = some (.bl b) := rfl
theorem v_int {i : Int} : viewD S (.int i) = some (.int i) := rfl
theorem v_str {i : Str} : viewD S (.str i) = some (.str i) := rfl
theorem v_ty {i : String} : viewD S (.ty i) = some (.ty i) := rfl
theorem v_fn {i : Str} : viewD S (.fn i) = some (.fn i) := rfl
theorem v_cls {i : Str} : viewD S (.cls i) = some (.cls i) := rfl
theorem v_tup {ds : List D} : viewD S (.tup ds) = some (.tup ds) := rfl
theorem v_lst {ds : List D} : viewD S (.lst ds) = some (.lst ds) := rfl
theorem v_dic {ks vs : List D} : viewD S (.dic ks vs) = some (.dic ks vs) := rfl
theorem v_set {ks : List D} : viewD S (.set ks) = some (.set ks) := rfl
theorem v_obj {c : Str} {fs : List Str} {vs : List D} : viewD S (.obj c fs vs) = some (.obj c fs vs) := rfl
theorem lt_ii {a b : Int} : ltD (.int a) (.int b) = some (decide (a < b)) := rfl
theorem le_ii {a b : Int} : leD (.int a) (.int b) = some (decide (a ≤ b)) := rfl
theorem lt_ss {a b : Str} : ltD (.str a) (.str b) = some (decide (a.cps.toList < b.cps.toList)) := rfl
theorem len_str {s : Str} : lenD (.str s) = some (.int s.length) := rfl
theorem len_tup {ds : List D} : lenD (.tup ds) = some (.int ds.length) := rfl
theorem len_lst {ds : List D} : lenD (.lst ds) = some (.int ds.length) := rfl
theorem len_set {ds : List D} : lenD (.set ds) = some (.int ds.length) := rfl
theorem len_dic {ks vs : List D} : lenD (.dic ks vs) = some (.int ks.length) := rfl
theorem sub_ii {a b : Int} : subD (.int a) (.int b) = some (.int (a - b)) := rfl
theorem add_ii {a b : Int} : addD (.int a) (.int b) = some (.int (a + b)) := rfl
theorem seq_str {s : Str} : seqD (.str s) = some (s.cps.toList.map fun c => .str ⟨#[c]⟩) := rfl
theorem seq_tup {ds : List D} : seqD (.tup ds) = some ds := rfl
theorem seq_lst {ds : List D} : seqD (.lst ds) = some ds := rfl
theorem item_ti {ds : List D} {i : Int} : itemD (.tup ds) (.int i) = atI ds i := rfl
theorem item_li {ds : List D} {i : Int} : itemD (.lst ds) (.int i) = atI ds i := rfl
theorem eq_ii {a b : Int} : eqD (.int a) (.int b) = some (a == b) := rfl
theorem eq_ss {a b : Str} : eqD (.str a) (.str b) = some (a == b) := rfl
theorem eq_bb {a b : Bool} : eqD (.bl a) (.bl b) = some (a == b) := rfl
theorem atI_0 {α : Type} {a : α} {l : List α} : atI (a :: l) 0 = some a := by
  unfold atI ixN
  simp
theorem all_bls {α : Type} {f : α → Bool} : ∀ (l : List α), allO (.lst (l.map fun a => .bl (f a))) = some (.bl (l.all f)) := fun l => by
  show (if (l.map fun a => D.bl (f a)).all isBl then some (D.bl ((l.map fun a => D.bl (f a)).all blOf)) else none) = _
  rw [if_pos]
  · simp only [List.all_map]
    rfl
  · simp [isBl]
end
def rdS (o : Option (Option SV)) (i : Nat) (ρ : Env) (S : Sto) (Q : D → Env → Sto → Prop) : Prop := match o with
  | some (some (.v d)) => Q d ρ S
  | some (some (.ol ds)) => Q (.lst ds) (ρ.set i (some (.v (.lst ds)))) S
  | _ => False
theorem rdS_congr {o o' : Option (Option SV)} {i : Nat} {ρ : Env} {S : Sto} {Q : D → Env → Sto → Prop} (h : o = o') : rdS o i ρ S Q = rdS o' i ρ S Q := by rw [h]
section
variable {ρ : Env} {S : Sto} {i : Nat} {Q : D → Env → Sto → Prop}
theorem rd_w : wR (readV i ρ S) Q = rdS (ρ[i]?) i ρ S Q := by
  unfold readV rdS
  cases ρ[i]? with
  | none => rfl
  | some o => cases o with
    | none => rfl
    | some v => cases v <;> rfl
theorem rdS_v {d : D} : rdS (some (some (.v d))) i ρ S Q = Q d ρ S := rfl
theorem rdS_ol {ds : List D} : rdS (some (some (.ol ds))) i ρ S Q = Q (.lst ds) (ρ.set i (some (.v (.lst ds)))) S := rfl
theorem bindT_nm {d : D} {P : Env → Prop} : oP (bindT (.nm i) d ρ) P = ((decide (i < ρ.length) && noOwn ρ [i]) = true ∧ P (ρ.set i (some (.v d)))) := by
  unfold bindT
  rw [oP_ite]
  by_cases h : (decide (i < ρ.length) && noOwn ρ [i]) = true
  · simp only [h, if_true, true_and]; rfl
  · rw [if_neg h]; simp only [h, false_and, Bool.false_eq_true]; rfl
theorem bindT_tup {ts : List Tg} {ds : List D} {P : Env → Prop} : oP (bindT (.tup ts) (.tup ds) ρ) P = (ts.length = ds.length ∧ oP (bindTs ts ds ρ) P) := by
  unfold bindT
  rw [oP_ite]
  by_cases h : ts.length = ds.length
  · simp only [h, if_true, true_and]
  · simp only [h, if_false, false_and]; rfl
theorem bindTs_nil {P : Env → Prop} : oP (bindTs [] [] ρ) P = P ρ := rfl
theorem bindTs_cons {t : Tg} {ts : List Tg} {d : D} {ds : List D} {P : Env → Prop} : oP (bindTs (t :: ts) (d :: ds) ρ) P = oP (bindT t d ρ) fun ρ => oP (bindTs ts ds ρ) P := by
  show oP (match bindT t d ρ with
    | some ρ' => bindTs ts ds ρ'
    | none => none) P = _
  cases bindT t d ρ <;> rfl
end
theorem wA_const {ρ : Env} {S : Sto} {r : Res D} {Q : AV → Env → Sto → Prop} {d : D} : wR (avOf (.const d) r ρ S) Q = wR r fun d ρ S => Q (.d d) ρ S := wA_val rfl
theorem wA_prim {ρ : Env} {S : Sto} {r : Res D} {Q : AV → Env → Sto → Prop} {p : Prim} {as : List CE} : wR (avOf (.prim p as) r ρ S) Q = wR r fun d ρ S => Q (.d d) ρ S := wA_val rfl
theorem wA_slice {ρ : Env} {S : Sto} {r : Res D} {Q : AV → Env → Sto → Prop} {lo hi : Bool} {o : CE} {ps : List CE} : wR (avOf (.slice lo hi o ps) r ρ S) Q = wR r fun d ρ S => Q (.d d) ρ S := wA_val rfl
theorem wA_meth {ρ : Env} {S : Sto} {r : Res D} {Q : AV → Env → Sto → Prop} {p : Prim} {T : String} {o : CE} {as : List CE} : wR (avOf (.meth p T o as) r ρ S) Q = wR r fun d ρ S => Q (.d d) ρ S := wA_val rfl
theorem wA_mprim {ρ : Env} {S : Sto} {r : Res D} {Q : AV → Env → Sto → Prop} {p : MPrim} {o : CE} {as : List CE} : wR (avOf (.mprim p o as) r ρ S) Q = wR r fun d ρ S => Q (.d d) ρ S := wA_val rfl
theorem wA_tup {ρ : Env} {S : Sto} {r : Res D} {Q : AV → Env → Sto → Prop} {as : List CE} : wR (avOf (.tup as) r ρ S) Q = wR r fun d ρ S => Q (.d d) ρ S := wA_val rfl
theorem wA_lst {ρ : Env} {S : Sto} {r : Res D} {Q : AV → Env → Sto → Prop} {as : List CE} : wR (avOf (.lst as) r ρ S) Q = wR r fun d ρ S => Q (.d d) ρ S := wA_val rfl
theorem wA_cell {ρ : Env} {S : Sto} {r : Res D} {Q : AV → Env → Sto → Prop} {as : List CE} : wR (avOf (.cell as) r ρ S) Q = wR r fun d ρ S => Q (.d d) ρ S := wA_val rfl
theorem wA_dic {ρ : Env} {S : Sto} {r : Res D} {Q : AV → Env → Sto → Prop} {ks : List D} {as : List CE} : wR (avOf (.dic ks as) r ρ S) Q = wR r fun d ρ S => Q (.d d) ρ S := wA_val rfl
theorem wA_and {ρ : Env} {S : Sto} {r : Res D} {Q : AV → Env → Sto → Prop} {a b : CE} : wR (avOf (.and_ a b) r ρ S) Q = wR r fun d ρ S => Q (.d d) ρ S := wA_val rfl
theorem wA_or {ρ : Env} {S : Sto} {r : Res D} {Q : AV → Env → Sto → Prop} {a b : CE} : wR (avOf (.or_ a b) r ρ S) Q = wR r fun d ρ S => Q (.d d) ρ S := wA_val rfl
theorem wA_not {ρ : Env} {S : Sto} {r : Res D} {Q : AV → Env → Sto → Prop} {a : CE} : wR (avOf (.not_ a) r ρ S) Q = wR r fun d ρ S => Q (.d d) ρ S := wA_val rfl
theorem wA_ifE {ρ : Env} {S : Sto} {r : Res D} {Q : AV → Env → Sto → Prop} {c a b : CE} : wR (avOf (.ifE c a b) r ρ S) Q = wR r fun d ρ S => Q (.d d) ρ S := wA_val rfl
theorem wA_chain {ρ : Env} {S : Sto} {r : Res D} {Q : AV → Env → Sto → Prop} {a : CE} {ps : List Prim} {es : List CE} : wR (avOf (.chain a ps es) r ρ S) Q = wR r fun d ρ S => Q (.d d) ρ S := wA_val rfl
theorem wA_call {ρ : Env} {S : Sto} {r : Res D} {Q : AV → Env → Sto → Prop} {f : Str} {as : List CE} {dfl : List D} : wR (avOf (.call f as dfl) r ρ S) Q = wR r fun d ρ S => Q (.d d) ρ S := wA_val rfl
theorem wA_callv {ρ : Env} {S : Sto} {r : Res D} {Q : AV → Env → Sto → Prop} {ok : List Str} {f : CE} {as : List CE} : wR (avOf (.callv ok f as) r ρ S) Q = wR r fun d ρ S => Q (.d d) ρ S := wA_val rfl
theorem wA_new {ρ : Env} {S : Sto} {r : Res D} {Q : AV → Env → Sto → Prop} {f : Str} {as : List CE} {dfl : List D} : wR (avOf (.new f as dfl) r ρ S) Q = wR r fun d ρ S => Q (.d d) ρ S := wA_val rfl
theorem wA_comp {ρ : Env} {S : Sto} {r : Res D} {Q : AV → Env → Sto → Prop} {own : List Nat} {t : Tg} {it : CI} {ifs : List CE} {elt : CE} : wR (avOf (.comp own t it ifs elt) r ρ S) Q = wR r fun d ρ S => Q (.d d) ρ S := wA_val rfl
theorem wA_scomp {ρ : Env} {S : Sto} {r : Res D} {Q : AV → Env → Sto → Prop} {own : List Nat} {t : Tg} {it : CI} {ifs : List CE} {elt : CE} : wR (avOf (.scomp own t it ifs elt) r ρ S) Q = wR r fun d ρ S => Q (.d d) ρ S := wA_val rfl
theorem wA_var {ρ : Env} {S : Sto} {r : Res D} {Q : AV → Env → Sto → Prop} {i : Nat} : wR (avOf (.var i) r ρ S) Q = wR r fun d ρ S => Q (.d d) ρ S := wA_val rfl
section
variable {P : List D → Prop} {P' : D → Prop}
theorem rng_w1 {j : Int} : oP (rngD [.int j]) P = (okRange j = true ∧ P (rangeD 0 j)) := by
  show oP (if okRange j then some (rangeD 0 j) else none) P = _
  rw [oP_ite]
  cases okRange j <;> simp [oP]
theorem rng_w2 {i j : Int} : oP (rngD [.int i, .int j]) P = ((okRange i && okRange j) = true ∧ P (rangeD i j)) := by
  show oP (if okRange i && okRange j then some (rangeD i j) else none) P = _
  rw [oP_ite]
  cases okRange i && okRange j <;> simp [oP]
theorem mul_w {a b : Int} : oP (mulD (.int a) (.int b)) P' = ((small64 a ∨ small64 b) ∧ P' (.int (a * b))) := by
  show oP (if small64 a ∨ small64 b then some (.int (a * b)) else none) P' = _
  rw [oP_ite]
  by_cases h : small64 a ∨ small64 b <;> simp [h, oP]
theorem fdiv_w {a b : Int} : oP (fdivD (.int a) (.int b)) P' = ((0 < b ∧ b < 1073741824) ∧ P' (.int (a / b))) := by
  show oP (if 0 < b ∧ b < 1073741824 then some (.int (a / b)) else none) P' = _
  rw [oP_ite]
  by_cases h : 0 < b ∧ b < 1073741824 <;> simp [h, oP]
theorem mod_w {a b : Int} : oP (modD (.int a) (.int b)) P' = (0 < b ∧ P' (.int (a % b))) := by
  show oP (if 0 < b then some (.int (a % b)) else none) P' = _
  rw [oP_ite]
  by_cases h : 0 < b <;> simp [h, oP]
theorem pow_w {a b : Int} : oP (powD (.int a) (.int b)) P' = ((0 ≤ b ∧ b ≤ 1000000 ∧ a.natAbs < 2 ^ 64) ∧ P' (.int (a ^ b.toNat))) := by
  show oP (if 0 ≤ b ∧ b ≤ 1000000 ∧ a.natAbs < 2 ^ 64 then some (.int (a ^ b.toNat)) else none) P' = _
  rw [oP_ite]
  by_cases h : 0 ≤ b ∧ b ≤ 1000000 ∧ a.natAbs < 2 ^ 64
  · rw [if_pos h]; simp only [h, and_self, true_and]; rfl
  · rw [if_neg h]; simp only [h, false_and]; rfl
theorem adds_w {a b : Str} : oP (addD (.str a) (.str b)) P' = (a.length + b.length ≤ strMax ∧ P' (.str (a ++ b))) := by
  show oP (if a.length + b.length ≤ strMax then some (.str (a ++ b)) else none) P' = _
  rw [oP_ite]
  by_cases h : a.length + b.length ≤ strMax
  · rw [if_pos h]; simp only [h, true_and]; rfl
  · rw [if_neg h]; simp only [h, false_and]; rfl
theorem addt_w {a b : List D} : oP (addD (.tup a) (.tup b)) P' = (a.length + b.length ≤ sizeLine ∧ P' (.tup (a ++ b))) := by
  show oP (if a.length + b.length ≤ sizeLine then some (.tup (a ++ b)) else none) P' = _
  rw [oP_ite]
  by_cases h : a.length + b.length ≤ sizeLine
  · rw [if_pos h]; simp only [h, true_and]; rfl
  · rw [if_neg h]; simp only [h, false_and]; rfl
theorem addl_w {a b : List D} : oP (addD (.lst a) (.lst b)) P' = (a.length + b.length ≤ sizeLine ∧ P' (.lst (a ++ b))) := by
  show oP (if a.length + b.length ≤ sizeLine then some (.lst (a ++ b)) else none) P' = _
  rw [oP_ite]
  by_cases h : a.length + b.length ≤ sizeLine
  · rw [if_pos h]; simp only [h, true_and]; rfl
  · rw [if_neg h]; simp only [h, false_and]; rfl
end
theorem atI_nn {α : Type} {xs : List α} {j : Nat} : atI xs (j : Int) = xs[j]? := by
  unfold atI ixN
  by_cases h : j < xs.length
  · simp [h]
  · have h2 : ¬ (j : Int) < xs.length := by omega
    rw [if_pos (by omega), if_neg h2]
    rw [List.getElem?_eq_none (by omega)]
    rfl
theorem atI_l0 {α : Type} {xs : List α} : atI xs 0 = xs[0]? := atI_nn (j := 0)
theorem atI_l1 {α : Type} {xs : List α} : atI xs 1 = xs[1]? := atI_nn (j := 1)
theorem atI_l2 {α : Type} {xs : List α} : atI xs 2 = xs[2]? := atI_nn (j := 2)
theorem atI_l3 {α : Type} {xs : List α} : atI xs 3 = xs[3]? := atI_nn (j := 3)
theorem atI_l4 {α : Type} {xs : List α} : atI xs 4 = xs[4]? := atI_nn (j := 4)
theorem nc0 : ((0 : Nat) : Int) = 0 := rfl
theorem nc1 : ((1 : Nat) : Int) = 1 := rfl
theorem nc2 : ((2 : Nat) : Int) = 2 := rfl
theorem nc3 : ((3 : Nat) : Int) = 3 := rfl
theorem nc4 : ((4 : Nat) : Int) = 4 := rfl
theorem nc5 : ((5 : Nat) : Int) = 5 := rfl
theorem nc6 : ((6 : Nat) : Int) = 6 := rfl
theorem nc7 : ((7 : Nat) : Int) = 7 := rfl
def ownF (o : Option (Option SV)) : Bool := match o with
  | some (some sv) => !sv.isOwn
  | _ => true
def vs : Option D → Option SV
  | none => none
  | some d => some (.v d)
theorem noOwn_nil {ρ : Env} : noOwn ρ [] = true := rfl
theorem noOwn_cons {ρ : Env} {i : Nat} {l : List Nat} : noOwn ρ (i :: l) = (ownF (ρ[i]?) && noOwn ρ l) := by
  show ((match ρ[i]? with
    | some (some sv) => !sv.isOwn
    | _ => true) && noOwn ρ l) = _
  unfold ownF
  rcases ρ[i]? with _ | (_ | _) <;> rfl
theorem ownF_v {d : D} : ownF (some (some (.v d))) = true := rfl
theorem ownF_n : ownF (some none) = true := rfl
theorem ownF_vs {o : Option D} : ownF (some (vs o)) = true := by cases o <;> rfl
def Fl80 : Str → Str → Bool := fun c f => decide (c = "Share") && (decide (f = "top") || decide (f = "bottom"))
@[irreducible] def G (n : Nat) : Orc := evG 70 Fl80 tab80 n
theorem G_s {n : Nat} {f : Fid} {c : CF} {as : List D} {S : Sto} (h : tab80 f = some c) : G (n + 1) f as S = evF 70 Fl80 (G n) c as S := by
  unfold G
  show (match tab80 f with
    | some c => evF 70 Fl80 (evG 70 Fl80 tab80 n) c as S
    | none => .no) = _
  rw [h]
theorem G_fn {n : Nat} {f : Str} {c : CF} {as : List D} {S : Sto} {Q : D → Sto → Prop} (h : tab80 (.fn f) = some c) (h0 : c.init = none) (h1 : as.length = c.np) (h2 : c.np ≤ c.nl) : wF (G (n + 1) (.fn f) as S) Q = wR (evB (G n) 70 Fl80 c.body (env0 c.nl as) S) fun f _ S => flF Q S f := by
  rw [G_s h, wFn h0 h1 h2]
end R.M
end
section
set_option Elab.async false
set_option linter.all false
set_option maxRecDepth 100000
set_option maxHeartbeats 4000000
namespace R.M
open PySem L2
local macro_rules | `(tactic| walk_at "w") => `(tactic| simp (config := {failIfUnchanged := false, implicitDefEqProofs := false}) only [↓oP_some, ↓onB_some, ↓onS_some, ↓onNx_nx, ↓onNx_ret, ↓onNx_brk, ↓onNx_ct, ↓rdS_v, ↓rdS_ol, ↓onI_int, ↓onFn_fn, ↓onLst_l, ↓wF_ret, ↓wR_ok, ↓wR_ofO, ↓if_true, ↓if_false, ↓flF_ret, ↓flF_nx, oP_some, onB_some, onS_some, onNx_nx, onNx_ret, onNx_brk, onNx_ct, rdS_v, rdS_ol, onI_int, onFn_fn, onLst_l, wF_ret, wR_ok, wR_ofO, if_true, if_false, flF_ret, flF_nx, wR_ok, wR_no, wR_ofO, ↓wE_var, ↓wE_const, ↓wE_prim, ↓wE_slice, ↓wE_meth, ↓wE_mprim, ↓wE_tup, ↓wE_lst, ↓wE_cell, ↓wE_dic, ↓wE_and, ↓wE_or, ↓wE_not, ↓wE_if, ↓wE_chain, ↓wE_call, ↓wE_new, ↓wE_callv, onFn_fn, ↓wE_comp, ↓wE_scomp, ↓turnC_w, ↓wL_nil, ↓wL_cons, ↓wV_nil, ↓wV_cons, onI_int, ↓wP_nil, ↓wP_cons, ↓wCh_one, ↓wCh_more, ↓wIf_nil, ↓wIf_cons, ↓wI_seq, ↓wI_range, ↓wI_zip, ↓wA_peek, ↓wA_const, ↓wA_prim, ↓wA_slice, ↓wA_meth, ↓wA_mprim, ↓wA_tup, ↓wA_lst, ↓wA_cell, ↓wA_dic, ↓wA_and, ↓wA_or, ↓wA_not, ↓wA_ifE, ↓wA_chain, ↓wA_call, ↓wA_callv, ↓wA_new, ↓wA_comp, ↓wA_scomp, ↓wA_var, ↓look_nil, ↓look_cons, lookAV_d, lookAV_pk, slV_v, slV_ol, slV_oo, ↓rd_w, rdS_v, rdS_ol, ↓wS_asg, ↓wS_asgO, onLst_l, ↓wS_par, ↓wS_put, ↓wS_expr, ↓wS_ret, ↓wS_ite, ↓wS_for, ↓bodyS_w, ↓wS_while, ↓wS_pass, ↓wS_retN, ↓wS_brk, ↓wS_cont, ↓wB_nil, ↓wB_cons, flF_nx, flF_ret, onNx_nx, onNx_ret, onNx_brk, onNx_ct, onB_some, oP_some, oP_none, oP_blO, oP_notO, oP_lstO, onS_some, wF_ret, p_isi, p_eq, p_ne, p_lt, p_le, p_gt, p_ge, p_is, p_isnot, p_in, p_notin, p_item, p_len, p_all, p_any, p_add, p_sub, p_mul, p_fdiv, p_mod, p_pow, p_neg, p_abs, p_int, p_join, p_get2, p_get3, p_list, p_tuple, p_sorted, p_set, p_dict, p_attr, tru_bl, tru_non, v_non, v_bl, v_int, v_str, v_ty, v_fn, v_cls, v_tup, v_lst, v_dic, v_set, v_obj, lt_ii, le_ii, lt_ss, len_str, len_tup, len_lst, len_set, len_dic, sub_ii, add_ii, seq_str, seq_tup, seq_lst, item_ti, item_li, eq_ii, eq_ss, eq_bb, all_bls, ↓bindT_nm, ↓bindT_tup, ↓bindTs_nil, ↓bindTs_cons, List.all_cons, List.all_nil, List.set_cons_zero, List.set_cons_succ, List.getElem?_cons_zero, List.getElem?_cons_succ, List.getElem?_nil, wipeE, backE, List.foldl_cons, List.foldl_nil, Option.getD_some, List.length_cons, List.length_nil, List.length_set, Nat.reduceSub, Nat.reduceAdd, Nat.reduceLT, Nat.reduceLeDiff, List.replicate_succ, List.replicate_zero, List.map_cons, List.map_nil, List.nil_append, List.cons_append, List.append_nil, env0, decide_true, decide_false, Bool.and_true, Bool.true_and, Bool.not_true, Bool.not_false, Bool.false_eq_true, if_true, if_false, true_and, and_true, decide_eq_true_eq, Nat.zero_lt_succ, Nat.succ_lt_succ_iff, rng_w1, rng_w2, mul_w, fdiv_w, mod_w, pow_w, adds_w, addt_w, addl_w, atI_l0, atI_l1, atI_l2, atI_l3, atI_l4, nc0, nc1, nc2, nc3, nc4, nc5, nc6, nc7, Int.reduceBEq, noOwn_nil, noOwn_cons, ownF_v, ownF_n, ownF_vs])
local macro_rules | `(tactic| k_search $a) => `(tactic| simp (config := {failIfUnchanged := false, implicitDefEqProofs := false}) only [$a:term, ↓oP_some, ↓onB_some, ↓onS_some, ↓onNx_nx, ↓onNx_ret, ↓onNx_brk, ↓onNx_ct, ↓rdS_v, ↓rdS_ol, ↓onI_int, ↓onFn_fn, ↓onLst_l, ↓wF_ret, ↓wR_ok, ↓wR_ofO, ↓if_true, ↓if_false, ↓flF_ret, ↓flF_nx, oP_some, onB_some, onS_some, onNx_nx, onNx_ret, onNx_brk, onNx_ct, rdS_v, rdS_ol, onI_int, onFn_fn, onLst_l, wF_ret, wR_ok, wR_ofO, if_true, if_false, flF_ret, flF_nx, wR_ok, wR_no, wR_ofO, ↓wE_var, ↓wE_const, ↓wE_prim, ↓wE_slice, ↓wE_meth, ↓wE_mprim, ↓wE_tup, ↓wE_lst, ↓wE_cell, ↓wE_dic, ↓wE_and, ↓wE_or, ↓wE_not, ↓wE_if, ↓wE_chain, ↓wE_call, ↓wE_new, ↓wE_callv, onFn_fn, ↓wE_comp, ↓wE_scomp, ↓turnC_w, ↓wL_nil, ↓wL_cons, ↓wV_nil, ↓wV_cons, onI_int, ↓wP_nil, ↓wP_cons, ↓wCh_one, ↓wCh_more, ↓wIf_nil, ↓wIf_cons, ↓wI_seq, ↓wI_range, ↓wI_zip, ↓wA_peek, ↓wA_const, ↓wA_prim, ↓wA_slice, ↓wA_meth, ↓wA_mprim, ↓wA_tup, ↓wA_lst, ↓wA_cell, ↓wA_dic, ↓wA_and, ↓wA_or, ↓wA_not, ↓wA_ifE, ↓wA_chain, ↓wA_call, ↓wA_callv, ↓wA_new, ↓wA_comp, ↓wA_scomp, ↓wA_var, ↓look_nil, ↓look_cons, lookAV_d, lookAV_pk, slV_v, slV_ol, slV_oo, ↓rd_w, rdS_v, rdS_ol, ↓wS_asg, ↓wS_asgO, onLst_l, ↓wS_par, ↓wS_put, ↓wS_expr, ↓wS_ret, ↓wS_ite, ↓wS_for, ↓bodyS_w, ↓wS_while, ↓wS_pass, ↓wS_retN, ↓wS_brk, ↓wS_cont, ↓wB_nil, ↓wB_cons, flF_nx, flF_ret, onNx_nx, onNx_ret, onNx_brk, onNx_ct, onB_some, oP_some, oP_none, oP_blO, oP_notO, oP_lstO, onS_some, wF_ret, p_isi, p_eq, p_ne, p_lt, p_le, p_gt, p_ge, p_is, p_isnot, p_in, p_notin, p_item, p_len, p_all, p_any, p_add, p_sub, p_mul, p_fdiv, p_mod, p_pow, p_neg, p_abs, p_int, p_join, p_get2, p_get3, p_list, p_tuple, p_sorted, p_set, p_dict, p_attr, tru_bl, tru_non, v_non, v_bl, v_int, v_str, v_ty, v_fn, v_cls, v_tup, v_lst, v_dic, v_set, v_obj, lt_ii, le_ii, lt_ss, len_str, len_tup, len_lst, len_set, len_dic, sub_ii, add_ii, seq_str, seq_tup, seq_lst, item_ti, item_li, eq_ii, eq_ss, eq_bb, all_bls, ↓bindT_nm, ↓bindT_tup, ↓bindTs_nil, ↓bindTs_cons, List.all_cons, List.all_nil, List.set_cons_zero, List.set_cons_succ, List.getElem?_cons_zero, List.getElem?_cons_succ, List.getElem?_nil, wipeE, backE, List.foldl_cons, List.foldl_nil, Option.getD_some, List.length_cons, List.length_nil, List.length_set, Nat.reduceSub, Nat.reduceAdd, Nat.reduceLT, Nat.reduceLeDiff, List.replicate_succ, List.replicate_zero, List.map_cons, List.map_nil, List.nil_append, List.cons_append, List.append_nil, env0, decide_true, decide_false, Bool.and_true, Bool.true_and, Bool.not_true, Bool.not_false, Bool.false_eq_true, if_true, if_false, true_and, and_true, decide_eq_true_eq, Nat.zero_lt_succ, Nat.succ_lt_succ_iff, rng_w1, rng_w2, mul_w, fdiv_w, mod_w, pow_w, adds_w, addt_w, addl_w, atI_l0, atI_l1, atI_l2, atI_l3, atI_l4, nc0, nc1, nc2, nc3, nc4, nc5, nc6, nc7, Int.reduceBEq, noOwn_nil, noOwn_cons, ownF_v, ownF_n, ownF_vs])
local macro_rules | `(tactic| ktr_call $a $b) => `(tactic| simp (config := {failIfUnchanged := false, implicitDefEqProofs := false}) only [$a:term, $b:term, ↓oP_some, ↓onB_some, ↓onS_some, ↓onNx_nx, ↓onNx_ret, ↓onNx_brk, ↓onNx_ct, ↓rdS_v, ↓rdS_ol, ↓onI_int, ↓onFn_fn, ↓onLst_l, ↓wF_ret, ↓wR_ok, ↓wR_ofO, ↓if_true, ↓if_false, ↓flF_ret, ↓flF_nx, oP_some, onB_some, onS_some, onNx_nx, onNx_ret, onNx_brk, onNx_ct, rdS_v, rdS_ol, onI_int, onFn_fn, onLst_l, wF_ret, wR_ok, wR_ofO, if_true, if_false, flF_ret, flF_nx, wR_ok, wR_no, wR_ofO, ↓wE_var, ↓wE_const, ↓wE_prim, ↓wE_slice, ↓wE_meth, ↓wE_mprim, ↓wE_tup, ↓wE_lst, ↓wE_cell, ↓wE_dic, ↓wE_and, ↓wE_or, ↓wE_not, ↓wE_if, ↓wE_chain, ↓wE_call, ↓wE_new, ↓wE_callv, onFn_fn, ↓wE_comp, ↓wE_scomp, ↓turnC_w, ↓wL_nil, ↓wL_cons, ↓wV_nil, ↓wV_cons, onI_int, ↓wP_nil, ↓wP_cons, ↓wCh_one, ↓wCh_more, ↓wIf_nil, ↓wIf_cons, ↓wI_seq, ↓wI_range, ↓wI_zip, ↓wA_peek, ↓wA_const, ↓wA_prim, ↓wA_slice, ↓wA_meth, ↓wA_mprim, ↓wA_tup, ↓wA_lst, ↓wA_cell, ↓wA_dic, ↓wA_and, ↓wA_or, ↓wA_not, ↓wA_ifE, ↓wA_chain, ↓wA_call, ↓wA_callv, ↓wA_new, ↓wA_comp, ↓wA_scomp, ↓wA_var, ↓look_nil, ↓look_cons, lookAV_d, lookAV_pk, slV_v, slV_ol, slV_oo, ↓rd_w, rdS_v, rdS_ol, ↓wS_asg, ↓wS_asgO, onLst_l, ↓wS_par, ↓wS_put, ↓wS_expr, ↓wS_ret, ↓wS_ite, ↓wS_for, ↓bodyS_w, ↓wS_while, ↓wS_pass, ↓wS_retN, ↓wS_brk, ↓wS_cont, ↓wB_nil, ↓wB_cons, flF_nx, flF_ret, onNx_nx, onNx_ret, onNx_brk, onNx_ct, onB_some, oP_some, oP_none, oP_blO, oP_notO, oP_lstO, onS_some, wF_ret, p_isi, p_eq, p_ne, p_lt, p_le, p_gt, p_ge, p_is, p_isnot, p_in, p_notin, p_item, p_len, p_all, p_any, p_add, p_sub, p_mul, p_fdiv, p_mod, p_pow, p_neg, p_abs, p_int, p_join, p_get2, p_get3, p_list, p_tuple, p_sorted, p_set, p_dict, p_attr, tru_bl, tru_non, v_non, v_bl, v_int, v_str, v_ty, v_fn, v_cls, v_tup, v_lst, v_dic, v_set, v_obj, lt_ii, le_ii, lt_ss, len_str, len_tup, len_lst, len_set, len_dic, sub_ii, add_ii, seq_str, seq_tup, seq_lst, item_ti, item_li, eq_ii, eq_ss, eq_bb, all_bls, ↓bindT_nm, ↓bindT_tup, ↓bindTs_nil, ↓bindTs_cons, List.all_cons, List.all_nil, List.set_cons_zero, List.set_cons_succ, List.getElem?_cons_zero, List.getElem?_cons_succ, List.getElem?_nil, wipeE, backE, List.foldl_cons, List.foldl_nil, Option.getD_some, List.length_cons, List.length_nil, List.length_set, Nat.reduceSub, Nat.reduceAdd, Nat.reduceLT, Nat.reduceLeDiff, List.replicate_succ, List.replicate_zero, List.map_cons, List.map_nil, List.nil_append, List.cons_append, List.append_nil, env0, decide_true, decide_false, Bool.and_true, Bool.true_and, Bool.not_true, Bool.not_false, Bool.false_eq_true, if_true, if_false, true_and, and_true, decide_eq_true_eq, Nat.zero_lt_succ, Nat.succ_lt_succ_iff, rng_w1, rng_w2, mul_w, fdiv_w, mod_w, pow_w, adds_w, addt_w, addl_w, atI_l0, atI_l1, atI_l2, atI_l3, atI_l4, nc0, nc1, nc2, nc3, nc4, nc5, nc6, nc7, Int.reduceBEq, noOwn_nil, noOwn_cons, ownF_v, ownF_n, ownF_vs])
local macro_rules | `(tactic| k_whileD $a $b $c "w") => `(tactic| simp (config := {failIfUnchanged := false, implicitDefEqProofs := false}) only [$a:term, $b:term, $c:term, ↓oP_some, ↓onB_some, ↓onS_some, ↓onNx_nx, ↓onNx_ret, ↓onNx_brk, ↓onNx_ct, ↓rdS_v, ↓rdS_ol, ↓onI_int, ↓onFn_fn, ↓onLst_l, ↓wF_ret, ↓wR_ok, ↓wR_ofO, ↓if_true, ↓if_false, ↓flF_ret, ↓flF_nx, oP_some, onB_some, onS_some, onNx_nx, onNx_ret, onNx_brk, onNx_ct, rdS_v, rdS_ol, onI_int, onFn_fn, onLst_l, wF_ret, wR_ok, wR_ofO, if_true, if_false, flF_ret, flF_nx, wR_ok, wR_no, wR_ofO, ↓wE_var, ↓wE_const, ↓wE_prim, ↓wE_slice, ↓wE_meth, ↓wE_mprim, ↓wE_tup, ↓wE_lst, ↓wE_cell, ↓wE_dic, ↓wE_and, ↓wE_or, ↓wE_not, ↓wE_if, ↓wE_chain, ↓wE_call, ↓wE_new, ↓wE_callv, onFn_fn, ↓wE_comp, ↓wE_scomp, ↓turnC_w, ↓wL_nil, ↓wL_cons, ↓wV_nil, ↓wV_cons, onI_int, ↓wP_nil, ↓wP_cons, ↓wCh_one, ↓wCh_more, ↓wIf_nil, ↓wIf_cons, ↓wI_seq, ↓wI_range, ↓wI_zip, ↓wA_peek, ↓wA_const, ↓wA_prim, ↓wA_slice, ↓wA_meth, ↓wA_mprim, ↓wA_tup, ↓wA_lst, ↓wA_cell, ↓wA_dic, ↓wA_and, ↓wA_or, ↓wA_not, ↓wA_ifE, ↓wA_chain, ↓wA_call, ↓wA_callv, ↓wA_new, ↓wA_comp, ↓wA_scomp, ↓wA_var, ↓look_nil, ↓look_cons, lookAV_d, lookAV_pk, slV_v, slV_ol, slV_oo, ↓rd_w, rdS_v, rdS_ol, ↓wS_asg, ↓wS_asgO, onLst_l, ↓wS_par, ↓wS_put, ↓wS_expr, ↓wS_ret, ↓wS_ite, ↓wS_for, ↓bodyS_w, ↓wS_while, ↓wS_pass, ↓wS_retN, ↓wS_brk, ↓wS_cont, ↓wB_nil, ↓wB_cons, flF_nx, flF_ret, onNx_nx, onNx_ret, onNx_brk, onNx_ct, onB_some, oP_some, oP_none, oP_blO, oP_notO, oP_lstO, onS_some, wF_ret, p_isi, p_eq, p_ne, p_lt, p_le, p_gt, p_ge, p_is, p_isnot, p_in, p_notin, p_item, p_len, p_all, p_any, p_add, p_sub, p_mul, p_fdiv, p_mod, p_pow, p_neg, p_abs, p_int, p_join, p_get2, p_get3, p_list, p_tuple, p_sorted, p_set, p_dict, p_attr, tru_bl, tru_non, v_non, v_bl, v_int, v_str, v_ty, v_fn, v_cls, v_tup, v_lst, v_dic, v_set, v_obj, lt_ii, le_ii, lt_ss, len_str, len_tup, len_lst, len_set, len_dic, sub_ii, add_ii, seq_str, seq_tup, seq_lst, item_ti, item_li, eq_ii, eq_ss, eq_bb, all_bls, ↓bindT_nm, ↓bindT_tup, ↓bindTs_nil, ↓bindTs_cons, List.all_cons, List.all_nil, List.set_cons_zero, List.set_cons_succ, List.getElem?_cons_zero, List.getElem?_cons_succ, List.getElem?_nil, wipeE, backE, List.foldl_cons, List.foldl_nil, Option.getD_some, List.length_cons, List.length_nil, List.length_set, Nat.reduceSub, Nat.reduceAdd, Nat.reduceLT, Nat.reduceLeDiff, List.replicate_succ, List.replicate_zero, List.map_cons, List.map_nil, List.nil_append, List.cons_append, List.append_nil, env0, decide_true, decide_false, Bool.and_true, Bool.true_and, Bool.not_true, Bool.not_false, Bool.false_eq_true, if_true, if_false, true_and, and_true, decide_eq_true_eq, Nat.zero_lt_succ, Nat.succ_lt_succ_iff, rng_w1, rng_w2, mul_w, fdiv_w, mod_w, pow_w, adds_w, addt_w, addl_w, atI_l0, atI_l1, atI_l2, atI_l3, atI_l4, nc0, nc1, nc2, nc3, nc4, nc5, nc6, nc7, Int.reduceBEq, noOwn_nil, noOwn_cons, ownF_v, ownF_n, ownF_vs])
theorem comp_map {α : Type} {turn : D → Env → Sto → Res (Option D)} {own : List Nat} {Q : List D → Env → Sto → Prop} {ρ : Env} {S : Sto} (g f : α → D) (l : List α) (hl : l.length ≤ sizeLine)
    (h : ∀ a ∈ l, wR (turn (g a) ρ S) fun o ρ' S' => o = some (f a) ∧ wipeE ρ' own = ρ ∧ S' = S) (q : Q (l.map f) ρ S) : wR (loopC turn own (l.map g) [] ρ S) Q := by
  refine loopC_inv (fun ds acc ρ' S' => ∃ pre post, l = pre ++ post ∧ ds = post.map g ∧ acc = pre.map f ∧ ρ' = ρ ∧ S' = S) ?_ ?_ _ _ _ _ ⟨[], l, rfl, rfl, rfl, rfl, rfl⟩
  · rintro acc ρ' S' ⟨pre, post, e, e2, rfl, rfl, rfl⟩
    have : post = [] := by cases post <;> first | rfl | cases e2
    subst this
    rw [List.append_nil] at e
    subst e
    exact q
  · rintro d r acc ρ' S' ⟨pre, post, e, e2, rfl, rfl, rfl⟩
    cases post with
    | nil => cases e2
    | cons a post =>
      rw [List.map_cons] at e2
      injection e2 with e3 e4
      subst e3 e4
      refine wR_mono (h a (by rw [e]; simp)) ?_
      rintro o ρ2 S2 ⟨rfl, e5, rfl⟩
      refine ⟨?_, pre ++ [a], post, by rw [e]; simp, rfl, by simp, e5, rfl⟩
      rw [List.length_map]
      have : l.length = pre.length + (post.length + 1) := by rw [e]; simp
      omega
theorem comp_list {turn : D → Env → Sto → Res (Option D)} {own : List Nat} {Q : List D → Env → Sto → Prop} {ρ : Env} {S : Sto} (f : D → D) (l : List D) (hl : l.length ≤ sizeLine)
    (h : ∀ a ∈ l, wR (turn a ρ S) fun o ρ' S' => o = some (f a) ∧ wipeE ρ' own = ρ ∧ S' = S) (q : Q (l.map f) ρ S) : wR (loopC turn own l [] ρ S) Q := by
  have e := comp_map (turn := turn) (own := own) (Q := Q) (fun a => a) f l hl h q
  rwa [List.map_id'] at e
theorem ne_len {α : Type} {l : List α} {a : Nat} (h : l.length ≤ a) (k : a ≤ 1000000) : l.length ≤ sizeLine := by rw [sizeLine_eq]; omega
theorem atI_n {α : Type} {l : List α} {j : Nat} (h : j < l.length) : atI l ((j : Nat) : Int) = some l[j] := atI_nat (List.getElem?_eq_getElem h)
def isNum (lo hi : Int) : D → Bool
  | .int i => decide (lo ≤ i) && decide (i ≤ hi)
  | _ => false
def abc : Str := "abcdefghijklmnopqrstuvwxyz"
def letter (c : Nat) : Bool := !(Builtin.Str.occurrences abc ⟨#[c]⟩ 0 abc.length 1).isEmpty
def isName : D → Bool
  | .str s => decide (1 ≤ s.length) && decide (s.length ≤ 6) && s.cps.toList.all letter
  | _ => false
def isAmt : D → Bool
  | .int i => decide (1 ≤ i)
  | _ => false
section
variable {n k : Nat} {x : D} {S : Sto}
theorem g_whole (h : gd k x = true) : G (n + 1) (.fn "is_whole") [x] S = .ret (.bl (isI x && !isBl x)) S := by
  rw [wF_eq, G_fn (c := c_is_whole) rfl rfl rfl (by decide)]
  simp only [c_is_whole]
  k_whileD (view_good h) (isi_int h) (isi_bool h) "w"
  cases isI x <;> simp
theorem g_number (h : gd k x = true) {lo hi : Int} : G (n + 2) (.fn "is_number") [x, .int lo, .int hi] S = .ret (.bl (isNum lo hi x)) S := by
  rw [wF_eq, G_fn (c := c_is_number) rfl rfl rfl (by decide)]
  simp only [c_is_number]
  k_search (g_whole h)
  have h1 := gd_pl h
  cases x with
  | int i =>
    simp only [isI, isBl]
    walk_at "w"
    simp only [isNum]
    by_cases c : lo ≤ i <;> simp [c]
  | _ => first | (simp only [isI, isBl]; walk_at "w"; simp [isNum]) | cases h1
theorem g_amount (h : gd k x = true) : G (n + 2) (.fn "is_amount") [x] S = .ret (.bl (isAmt x)) S := by
  rw [wF_eq, G_fn (c := c_is_amount) rfl rfl rfl (by decide)]
  simp only [c_is_amount]
  k_search (g_whole h)
  have h1 := gd_pl h
  cases x with
  | int i =>
    simp only [isI, isBl]
    walk_at "w"
    rfl
  | _ => first | (simp only [isI, isBl]; walk_at "w"; rfl) | cases h1
theorem g_day (h : gd k x = true) : G (n + 3) (.fn "is_day") [x] S = .ret (.bl (isNum 0 9999 x)) S := by
  rw [wF_eq, G_fn (c := c_is_day) rfl rfl rfl (by decide)]
  simp only [c_is_day]
  k_search (g_number h)
theorem g_until (h : gd k x = true) : G (n + 4) (.fn "is_until") [x] S = .ret (.bl (isNum 0 9999 x)) S := by
  rw [wF_eq, G_fn (c := c_is_until) rfl rfl rfl (by decide)]
  simp only [c_is_until]
  k_search (g_day h)
theorem g_entry (h : gd k x = true) : G (n + 3) (.fn "is_entry_number") [x] S = .ret (.bl (isNum 1 999 x)) S := by
  rw [wF_eq, G_fn (c := c_is_entry_number) rfl rfl rfl (by decide)]
  simp only [c_is_entry_number]
  k_search (g_number h)
theorem g_sum (h : gd k x = true) : G (n + 3) (.fn "is_sum") [x] S = .ret (.bl (isNum 1 999999999999 x)) S := by
  rw [wF_eq, G_fn (c := c_is_sum) rfl rfl rfl (by decide)]
  simp only [c_is_sum]
  k_search (g_amount h)
  have h1 := gd_pl h
  cases x with
  | int i =>
    simp only [isAmt]
    walk_at "w"
    simp only [isNum]
    by_cases c : 1 ≤ i <;> simp [c]
  | _ => first | (simp only [isAmt]; walk_at "w"; rfl) | cases h1
theorem g_knowing (h : gd k x = true) : G (n + 1) (.fn "is_knowing") [x] S = .ret (.bl (isBl x)) S := by
  rw [wF_eq, G_fn (c := c_is_knowing) rfl rfl rfl (by decide)]
  simp only [c_is_knowing]
  ktr_call (view_good h) (isi_bool h)
theorem in_abc {c : Nat} : inD (.str ⟨#[c]⟩) (.str "abcdefghijklmnopqrstuvwxyz") = some (letter c) := rfl
theorem g_name (h : gd k x = true) : G (n + 1) (.fn "is_name") [x] S = .ret (.bl (isName x)) S := by
  rw [wF_eq, G_fn (c := c_is_name) rfl rfl rfl (by decide)]
  simp only [c_is_name]
  ktr_call (view_good h) (isi_str h)
  have h1 := gd_pl h
  cases x with
  | str s =>
    simp only [isSt]
    walk_at "w"
    by_cases c1 : (1 : Int) ≤ s.length
    · by_cases c2 : (s.length : Int) ≤ 6
      · simp only [c1, c2]
        walk_at "w"
        refine comp_map (fun c => D.str ⟨#[c]⟩) (fun c => .bl (letter c)) s.cps.toList ?_ (fun c _ => ?_) ?_
        · exact ne_len (a := 6) (by have : s.cps.toList.length = s.length := Array.length_toList; omega) (by omega)
        · k_search (in_abc)
        · walk_at "w"
          have e1 : 1 ≤ s.length := by omega
          have e2 : s.length ≤ 6 := by omega
          simp [isName, e1, e2]
      · simp only [c1, c2]
        walk_at "w"
        have e2 : ¬ s.length ≤ 6 := by omega
        simp [isName, e2]
    · simp only [c1]
      walk_at "w"
      have e2 : ¬ 1 ≤ s.length := by omega
      simp only [isName, e2]
      rfl
  | _ => first | (simp only [isSt]; walk_at "w"; simp [isName]) | cases h1
theorem g_called (h : gd k x = true) : G (n + 2) (.fn "is_called") [x] S = .ret (.bl (isName x)) S := by
  rw [wF_eq, G_fn (c := c_is_called) rfl rfl rfl (by decide)]
  simp only [c_is_called]
  k_search (g_name h)
end
/-- a row of values, so many at least and so many at most -/
def isRow (lo hi : Nat) (ds : List D) : Bool := decide (lo ≤ ds.length) && decide (ds.length ≤ hi)
def ltAt (ds : List D) (j : Nat) : Bool := match ds[j]?, ds[j + 1]? with
  | some (.str a), some (.str b) => decide (a.cps.toList < b.cps.toList)
  | _, _ => false
def isLot : D → Bool
  | .tup ds => isRow 1 12 ds && ds.all isName && (List.range (ds.length - 1)).all (ltAt ds)
  | _ => false
def isShare : D → Bool
  | .obj _ _ [.int t, .int b] => decide (0 < t) && decide (t ≤ b) && decide (b ≤ 60)
  | _ => false
def isCell : D → Bool
  | .tup [a, b] => isNum 0 11 a && isNum 0 11 b
  | _ => false
def ci : D → List Int
  | .tup [.int a, .int b] => [a, b]
  | _ => []
def isCells : D → Bool
  | .tup ds => isRow 1 144 ds && ds.all isCell && decide ((dd (ds.map ci)).length = ds.length)
  | _ => false
def isHeir : D → Bool
  | .tup [a, b] => isName a && isNum 1 9 b
  | _ => false
def hk : D → Key
  | .tup (.str s :: _) => .inr s
  | _ => .inl 0
def isHeirs : D → Bool
  | .tup ds => isRow 1 4 ds && ds.all isHeir && decide ((dd (ds.map hk)).length = ds.length)
  | _ => false
theorem all_of {ds : List D} {p : D → Bool} : (ds.map fun d => D.bl (p d)).all isBl = true ∧ (ds.map fun d => D.bl (p d)).all blOf = ds.all p := by
  constructor
  · simp [isBl]
  · rw [List.all_map]; rfl
theorem ok1 {l : Nat} (h : l ≤ 1000) : (okRange 1 && okRange l) = true := by
  unfold okRange
  simp only [Bool.and_eq_true, decide_eq_true_eq]
  omega
theorem ok0 {l : Nat} (h : l ≤ 1000) : okRange l = true := by
  unfold okRange
  simp only [Bool.and_eq_true, decide_eq_true_eq]
  omega
theorem rangeD1 {l : Nat} : rangeD 1 l = (List.range (l - 1)).map fun (i : Nat) => .int (1 + (i : Int)) := by
  unfold rangeD
  rw [show ((l : Int) - 1).toNat = l - 1 by omega]
theorem rangeD0 {l : Nat} : rangeD 0 l = (List.range l).map fun (i : Nat) => .int (i : Int) := by
  unfold rangeD
  rw [show ((l : Int) - 0).toNat = l by omega]
  simp only [Int.zero_add]
theorem name_at {ds : List D} (h : ds.all isName = true) {j : Nat} (hj : j < ds.length) : ∃ a, ds[j]? = some (.str a) := by
  have h1 := List.all_eq_true.mp h _ (List.getElem_mem hj)
  rw [List.getElem?_eq_getElem hj]
  cases e : ds[j] with
  | str a => exact ⟨a, rfl⟩
  | _ => rw [e] at h1; cases h1
section
variable {n k : Nat} {x : D} {S : Sto}
theorem g_lot (h : gd k x = true) : G (n + 2) (.fn "is_lot") [x] S = .ret (.bl (isLot x)) S := by
  rw [wF_eq, G_fn (c := c_is_lot) rfl rfl rfl (by decide)]
  simp only [c_is_lot]
  ktr_call (view_good h) (isi_tup h)
  have h1 := gd_pl h
  cases x with
  | tup ds =>
    cases k with
    | zero => cases h
    | succ k =>
    obtain ⟨hd, hl⟩ := gd_tup h
    simp only [isTu]
    walk_at "w"
    by_cases c1 : (1 : Int) ≤ ds.length
    · by_cases c2 : (ds.length : Int) ≤ 12
      · simp only [c1, c2]
        walk_at "w"
        have e1 : 1 ≤ ds.length := by omega
        have e2 : ds.length ≤ 12 := by omega
        refine comp_list (fun d => .bl (isName d)) ds (ne_len hl (by omega)) (fun d m => ?_) ?_
        · k_search (g_name (hd d m))
        · walk_at "w"
          cases c3 : ds.all isName with
          | true =>
            walk_at "w"
            refine ⟨ok1 (by omega), ?_⟩
            rw [rangeD1]
            refine comp_map (fun i : Nat => D.int (1 + (i : Int))) (fun i => .bl (ltAt ds i)) (List.range (ds.length - 1)) ?_ (fun j m => ?_) ?_
            · rw [List.length_range]; rw [sizeLine_eq]; omega
            · have hj : j < ds.length - 1 := List.mem_range.mp m
              walk_at "w"
              rw [show (1 + (j : Int) - 1) = ((j : Nat) : Int) by omega, show (1 + (j : Int)) = ((j + 1 : Nat) : Int) by omega, atI_nn, atI_nn]
              obtain ⟨a, ha⟩ := name_at c3 (j := j) (by omega)
              obtain ⟨b, hb⟩ := name_at c3 (j := j + 1) (by omega)
              simp only [ltAt, ha, hb]
              walk_at "w"
            · walk_at "w"
              simp only [isLot, isRow, c3, e1, e2, decide_true, Bool.and_true, Bool.true_and]
          | false =>
            walk_at "w"
            simp only [isLot, c3, Bool.and_false, Bool.false_and]
      · simp only [c1, c2]
        walk_at "w"
        have e2 : ¬ ds.length ≤ 12 := by omega
        simp [isLot, isRow, e2]
    · simp only [c1]
      walk_at "w"
      have e2 : ¬ 1 ≤ ds.length := by omega
      simp only [isLot, isRow, e2]
      rfl
  | _ => first | (simp only [isTu]; walk_at "w"; simp [isLot]) | cases h1
theorem g_parcels (h : gd k x = true) : G (n + 3) (.fn "is_parcels") [x] S = .ret (.bl (isLot x)) S := by
  rw [wF_eq, G_fn (c := c_is_parcels) rfl rfl rfl (by decide)]
  simp only [c_is_parcels]
  k_search (g_lot h)
theorem g_part_share (h : gd k x = true) : G (n + 1) (.fn "is_part_share") [x] S = .ret (.bl (isShare x)) S := by
  rw [wF_eq, G_fn (c := c_is_part_share) rfl rfl rfl (by decide)]
  simp only [c_is_part_share]
  ktr_call (view_good h) (isi_share h)
  have h1 := gd_pl h
  cases x with
  | obj c fs vs =>
    obtain ⟨rfl, rfl, a, b, rfl⟩ := gd_obj h
    simp only [isOb]
    walk_at "w"
    simp only [show attrD "top" (.obj "Share" fTB [.int a, .int b]) = some (.int a) from rfl, show attrD "bottom" (.obj "Share" fTB [.int a, .int b]) = some (.int b) from rfl]
    walk_at "w"
    simp only [isShare]
    by_cases c1 : 0 < a <;> by_cases c2 : a ≤ b <;> simp [c1, c2]
  | _ => first | (simp only [isOb]; walk_at "w"; simp [isShare]) | cases h1
theorem no2 {ds : List D} {p : D → Bool} (c : ¬ ds.length = 2) (h : ∀ {z}, p z = true → ∃ a b, z = .tup [a, b]) : p (.tup ds) = false := by
  cases e : p (.tup ds) with
  | false => rfl
  | true =>
    obtain ⟨a, b, e2⟩ := h e
    cases e2
    exact absurd rfl c
theorem cell_is {z : D} (h : isCell z = true) : ∃ a b, z = .tup [a, b] := by
  unfold isCell at h
  split at h
  · exact ⟨_, _, rfl⟩
  · cases h
theorem heir_is {z : D} (h : isHeir z = true) : ∃ a b, z = .tup [a, b] := by
  unfold isHeir at h
  split at h
  · exact ⟨_, _, rfl⟩
  · cases h
theorem name_is {z : D} (h : isName z = true) : ∃ s, z = .str s := by
  unfold isName at h
  split at h
  · exact ⟨_, rfl⟩
  · cases h
theorem num_is {lo hi : Int} {z : D} (h : isNum lo hi z = true) : ∃ i, z = .int i ∧ lo ≤ i ∧ i ≤ hi := by
  unfold isNum at h
  split at h
  · simp only [Bool.and_eq_true, decide_eq_true_eq] at h
    exact ⟨_, rfl, h⟩
  · cases h
theorem mapO_of {α β : Type} {f : α → Option β} {g : α → β} : ∀ {l : List α}, (∀ a ∈ l, f a = some (g a)) → mapO f l = some (l.map g)
  | [], _ => rfl
  | a :: l, h => by
    show (match f a, mapO f l with
      | some b, some s => some (b :: s)
      | _, _ => none) = _
    rw [h a List.mem_cons_self, mapO_of fun b m => h b (List.mem_cons_of_mem _ m)]
    rfl
theorem mapO_map {α β γ : Type} {f : β → Option γ} {g : α → β} : ∀ {l : List α}, mapO f (l.map g) = mapO (fun a => f (g a)) l
  | [] => rfl
  | a :: l => by
    rw [List.map_cons]
    unfold mapO
    rw [mapO_map]
theorem set_cells {ds : List D} (h : ds.all isCell = true) (l : ds.length ≤ 60) : setOfD (.tup ds) = some (D.set ((dd (ds.map ci)).map fun (k : List Int) => D.tup (k.map D.int))) := by
  show (match mapO tupInts ds with
    | some ks => if ks.length < 64 then some (D.set ((dd ks).map fun (k : List Int) => D.tup (k.map D.int))) else none
    | none => none) = _
  rw [mapO_of (g := ci)]
  · exact if_pos (by rw [List.length_map]; omega)
  · intro d m
    have h1 := List.all_eq_true.mp h d m
    obtain ⟨a, b, rfl⟩ := cell_is h1
    have h2 : (isNum 0 11 a && isNum 0 11 b) = true := h1
    rw [Bool.and_eq_true] at h2
    obtain ⟨i, rfl, _⟩ := num_is h2.1
    obtain ⟨j, rfl, _⟩ := num_is h2.2
    rfl
theorem len2 {ds : List D} (c : ¬ ds.length = 2) : ((ds.length : Int) == 2) = false := by
  rw [beq_eq_false_iff_ne]
  omega
theorem g_cell (h : gd k x = true) : G (n + 3) (.fn "is_cell") [x] S = .ret (.bl (isCell x)) S := by
  rw [wF_eq, G_fn (c := c_is_cell) rfl rfl rfl (by decide)]
  simp only [c_is_cell]
  ktr_call (view_good h) (isi_tup h)
  have h1 := gd_pl h
  cases x with
  | tup ds =>
    cases k with
    | zero => cases h
    | succ k =>
    obtain ⟨hd, hl⟩ := gd_tup h
    simp only [isTu]
    walk_at "w"
    by_cases c : ds.length = 2
    · match ds, c, hd with
      | [a, b], _, hd =>
        walk_at "w"
        ktr_call (g_number (hd a (by simp))) (g_number (hd b (by simp)))
        simp only [isCell]
        cases isNum 0 11 a <;> simp
    · rw [len2 c]
      walk_at "w"
      rw [show isCell (.tup ds) = false from no2 c cell_is]
  | _ => first | (simp only [isTu]; walk_at "w"; simp [isCell]) | cases h1
theorem g_cells (h : gd k x = true) : G (n + 4) (.fn "is_cells") [x] S = .ret (.bl (isCells x)) S := by
  rw [wF_eq, G_fn (c := c_is_cells) rfl rfl rfl (by decide)]
  simp only [c_is_cells]
  ktr_call (view_good h) (isi_tup h)
  have h1 := gd_pl h
  cases x with
  | tup ds =>
    cases k with
    | zero => cases h
    | succ k =>
    obtain ⟨hd, hl⟩ := gd_tup h
    simp only [isTu]
    walk_at "w"
    by_cases c1 : (1 : Int) ≤ ds.length
    · by_cases c2 : (ds.length : Int) ≤ 144
      · simp only [c1, c2]
        walk_at "w"
        have e1 : 1 ≤ ds.length := by omega
        have e2 : ds.length ≤ 144 := by omega
        refine comp_list (fun d => .bl (isCell d)) ds (ne_len hl (by omega)) (fun d m => ?_) ?_
        · k_search (g_cell (hd d m))
        · walk_at "w"
          cases c3 : ds.all isCell with
          | true =>
            walk_at "w"
            rw [set_cells c3 hl]
            walk_at "w"
            simp only [isCells, isRow, c3, e1, e2, List.length_map, decide_true, Bool.and_true, Bool.true_and]
            rw [show (((dd (ds.map ci)).length : Int) == (ds.length : Int)) = decide ((dd (ds.map ci)).length = ds.length) from ?_]
            rw [Bool.eq_iff_iff, beq_iff_eq, decide_eq_true_eq]
            omega
          | false =>
            walk_at "w"
            simp only [isCells, c3, Bool.and_false, Bool.false_and]
      · simp only [c1, c2]
        walk_at "w"
        have e2 : ¬ ds.length ≤ 144 := by omega
        simp [isCells, isRow, e2]
    · simp only [c1]
      walk_at "w"
      have e2 : ¬ 1 ≤ ds.length := by omega
      simp only [isCells, isRow, e2]
      rfl
  | _ => first | (simp only [isTu]; walk_at "w"; simp [isCells]) | cases h1
theorem g_heir (h : gd k x = true) : G (n + 3) (.fn "is_heir") [x] S = .ret (.bl (isHeir x)) S := by
  rw [wF_eq, G_fn (c := c_is_heir) rfl rfl rfl (by decide)]
  simp only [c_is_heir]
  ktr_call (view_good h) (isi_tup h)
  have h1 := gd_pl h
  cases x with
  | tup ds =>
    cases k with
    | zero => cases h
    | succ k =>
    obtain ⟨hd, hl⟩ := gd_tup h
    simp only [isTu]
    walk_at "w"
    by_cases c : ds.length = 2
    · match ds, c, hd with
      | [a, b], _, hd =>
        walk_at "w"
        ktr_call (g_name (hd a (by simp))) (g_number (hd b (by simp)))
        simp only [isHeir]
        cases isName a <;> simp
    · rw [len2 c]
      walk_at "w"
      rw [show isHeir (.tup ds) = false from no2 c heir_is]
  | _ => first | (simp only [isTu]; walk_at "w"; simp [isHeir]) | cases h1
def fst0 : D → D
  | .tup (a :: _) => a
  | _ => .non
theorem keys_heirs {ds : List D} (h : ds.all isHeir = true) : mapO keyO (ds.map fst0) = some (ds.map hk) := by
  have : mapO (fun d => keyO (fst0 d)) ds = some (ds.map hk) := mapO_of fun d m => by
    have h1 := List.all_eq_true.mp h d m
    obtain ⟨a, b, rfl⟩ := heir_is h1
    have h2 : (isName a && isNum 1 9 b) = true := h1
    rw [Bool.and_eq_true] at h2
    obtain ⟨i, rfl⟩ := name_is h2.1
    rfl
  rw [← this]
  exact mapO_map
theorem g_heirs (h : gd k x = true) : G (n + 4) (.fn "is_heirs") [x] S = .ret (.bl (isHeirs x)) S := by
  rw [wF_eq, G_fn (c := c_is_heirs) rfl rfl rfl (by decide)]
  simp only [c_is_heirs]
  ktr_call (view_good h) (isi_tup h)
  have h1 := gd_pl h
  cases x with
  | tup ds =>
    cases k with
    | zero => cases h
    | succ k =>
    obtain ⟨hd, hl⟩ := gd_tup h
    simp only [isTu]
    walk_at "w"
    by_cases c1 : (1 : Int) ≤ ds.length
    · by_cases c2 : (ds.length : Int) ≤ 4
      · simp only [c1, c2]
        walk_at "w"
        have e1 : 1 ≤ ds.length := by omega
        have e2 : ds.length ≤ 4 := by omega
        refine comp_list (fun d => .bl (isHeir d)) ds (ne_len hl (by omega)) (fun d m => ?_) ?_
        · k_search (g_heir (hd d m))
        · walk_at "w"
          cases c3 : ds.all isHeir with
          | true =>
            walk_at "w"
            refine comp_list fst0 ds (ne_len hl (by omega)) (fun d m => ?_) ?_
            · obtain ⟨a, b, rfl⟩ := heir_is (List.all_eq_true.mp c3 d m)
              walk_at "w"
              simp only [fst0]
            · rw [keys_heirs c3]
              walk_at "w"
              refine ⟨by rw [List.length_map]; omega, ?_⟩
              simp only [isHeirs, isRow, c3, e1, e2, List.length_map, decide_true, Bool.and_true, Bool.true_and]
              rw [show (((dd (ds.map hk)).length : Int) == (ds.length : Int)) = decide ((dd (ds.map hk)).length = ds.length) from ?_]
              rw [Bool.eq_iff_iff, beq_iff_eq, decide_eq_true_eq]
              omega
          | false =>
            walk_at "w"
            simp only [isHeirs, c3, Bool.and_false, Bool.false_and]
      · simp only [c1, c2]
        walk_at "w"
        have e2 : ¬ ds.length ≤ 4 := by omega
        simp [isHeirs, isRow, e2]
    · simp only [c1]
      walk_at "w"
      have e2 : ¬ 1 ≤ ds.length := by omega
      simp only [isHeirs, isRow, e2]
      rfl
  | _ => first | (simp only [isTu]; walk_at "w"; simp [isHeirs]) | cases h1
end
end R.M
end
section
set_option Elab.async false
set_option linter.all false
set_option maxRecDepth 100000
set_option maxHeartbeats 4000000
namespace R.M
open PySem L2
inductive Kd where
  | name | bool | number | amount | day | share | lot | cells | heirs
  deriving DecidableEq
def isK : Kd → D → Bool
  | .name => isName
  | .bool => isBl
  | .number => isNum 1 999
  | .amount => isNum 1 999999999999
  | .day => isNum 0 9999
  | .share => isShare
  | .lot => isLot
  | .cells => isCells
  | .heirs => isHeirs
def fnK : Kd → Str
  | .name => "is_called"
  | .bool => "is_knowing"
  | .number => "is_entry_number"
  | .amount => "is_sum"
  | .day => "is_until"
  | .share => "is_part_share"
  | .lot => "is_parcels"
  | .cells => "is_cells"
  | .heirs => "is_heirs"
def nmK : Kd → Str
  | .name => "name"
  | .bool => "bool"
  | .number => "number"
  | .amount => "amount"
  | .day => "day"
  | .share => "share"
  | .lot => "lot"
  | .cells => "cells"
  | .heirs => "heirs"
def forms : List (Str × List Kd) := ("sale", [.lot, .name, .name, .share, .bool]) :: ("gift", [.lot, .name, .name, .share]) :: ("heirs", [.name, .heirs]) :: ("void", [.number]) :: ("uphold", [.number]) :: ("divide", [.name, .cells, .name]) :: ("unite", [.name, .name]) ::
  ("grant", [.name, .name, .lot, .bool]) :: ("waive", [.name, .name]) :: ("charge", [.name, .name, .amount, .lot, .lot, .bool]) :: ("reserve", [.name, .amount, .lot, .day, .lot, .bool]) :: ("fill", [.name, .name]) :: ("repay", [.name, .amount]) :: ("assign", [.name, .name]) :: ("part", [.name, .amount, .name]) ::
  ("merge", [.name]) :: ("release", [.name, .name]) :: ("extend", [.name, .name, .lot, .bool]) :: ("yield", [.name, .name]) :: ("trade", [.name, .name]) :: []
def diffs : List (Str × (Nat × Nat)) := ("sale", (2, 3)) :: ("gift", (2, 3)) :: ("divide", (1, 3)) :: ("unite", (1, 2)) :: ("grant", (1, 2)) :: ("waive", (1, 2)) :: ("part", (1, 3)) :: ("yield", (1, 2)) :: ("trade", (1, 2)) :: []
theorem FORMS_eq : k_FORMS = .dic (forms.map fun p => .str p.1) (forms.map fun p => .tup (p.2.map fun κ => .fn (fnK κ))) := rfl
theorem DIFF_eq : k_DIFF = .dic (diffs.map fun p => .str p.1) (diffs.map fun p => .tup [.int (p.2.1 : Nat), .int (p.2.2 : Nat)]) := rfl
theorem kget_tab {α : Type} {g : α → D} {w : Str} : ∀ {l : List (Str × α)}, kget (l.map fun p => .str p.1) (l.map fun p => g p.2) (.str w) = (l.lookup w).map g
  | [] => rfl
  | (a, b) :: l => by
    show (if kEq (.str a) (.str w) then some (g b) else kget (l.map fun p => .str p.1) (l.map fun p => g p.2) (.str w)) = _
    rw [kget_tab, List.lookup_cons]
    have e : kEq (.str a) (.str w) = (w == a) := by
      show decide (a = w) = (w == a)
      rw [Bool.eq_iff_iff, decide_eq_true_eq, beq_iff_eq]
      exact eq_comm
    rw [e]
    cases w == a <;> rfl
theorem keys_tab {α : Type} : ∀ {l : List (Str × α)}, (l.map fun p => D.str p.1).all isKey = true
  | [] => rfl
  | (a, b) :: l => by
    show (true && (l.map fun p => D.str p.1).all isKey) = true
    rw [keys_tab]; rfl
theorem dget_tab {α : Type} {g : α → D} {w : Str} {l : List (Str × α)} : dget (l.map fun p => .str p.1) (l.map fun p => g p.2) (.str w) = some ((l.lookup w).map g) := by
  show (if (l.map fun p => D.str p.1).all isKey then some (kget (l.map fun p => .str p.1) (l.map fun p => g p.2) (.str w)) else none) = _
  rw [keys_tab, if_pos rfl, kget_tab]
theorem in_tab {α : Type} {g : α → D} {w : Str} {l : List (Str × α)} : inD (.str w) (.dic (l.map fun p => .str p.1) (l.map fun p => g p.2)) = some (l.lookup w).isSome := by
  show (dget (l.map fun p => .str p.1) (l.map fun p => g p.2) (.str w)).map (·.isSome) = _
  rw [dget_tab]
  cases l.lookup w <;> rfl
theorem item_tab {α : Type} {g : α → D} {w : Str} {l : List (Str × α)} : itemD (.dic (l.map fun p => .str p.1) (l.map fun p => g p.2)) (.str w) = (l.lookup w).map g := by
  show (match dget (l.map fun p => .str p.1) (l.map fun p => g p.2) (.str w) with
    | some (some v) => some v
    | _ => none) = _
  rw [dget_tab]
  cases l.lookup w <;> rfl
section
variable {S : Sto} {w : Str}
theorem v_FORMS : viewD S k_FORMS = some k_FORMS := rfl
theorem v_DIFF : viewD S k_DIFF = some k_DIFF := rfl
theorem in_FORMS : inD (.str w) k_FORMS = some (forms.lookup w).isSome := by rw [FORMS_eq]; exact in_tab (g := fun (l : List Kd) => .tup (l.map fun κ => .fn (fnK κ)))
theorem item_FORMS : itemD k_FORMS (.str w) = (forms.lookup w).map fun l => .tup (l.map fun κ => .fn (fnK κ)) := by rw [FORMS_eq]; exact item_tab (g := fun (l : List Kd) => .tup (l.map fun κ => .fn (fnK κ)))
theorem in_DIFF : inD (.str w) k_DIFF = some (diffs.lookup w).isSome := by rw [DIFF_eq]; exact in_tab (g := fun (p : Nat × Nat) => .tup [.int (p.1 : Nat), .int (p.2 : Nat)])
theorem item_DIFF : itemD k_DIFF (.str w) = (diffs.lookup w).map fun p => .tup [.int (p.1 : Nat), .int (p.2 : Nat)] := by rw [DIFF_eq]; exact item_tab (g := fun (p : Nat × Nat) => .tup [.int (p.1 : Nat), .int (p.2 : Nat)])
end
theorem eq_nil {ds : List D} : eqD (.tup ds) (.tup []) = some (ds.length == 0) := by
  cases ds <;> rfl
theorem cut1 {ds : List D} : cutL ds (some 1) none = ds.drop 1 := by
  unfold cutL
  rw [HT.sIx_none, show (some 1 : Option Int) = some ((1 : Nat) : Int) from rfl, HT.sIx_nat]
  cases ds with
  | nil => rfl
  | cons d ds => simp
theorem slice1 {ds : List D} : sliceD (.tup ds) (some 1) none = some (.tup (ds.drop 1)) := by
  show some (D.tup (cutL ds (some 1) none)) = _
  rw [cut1]
theorem len_s {ds : List D} : (ds.length + 1 == 0) = false := rfl
theorem setPar_nil {ρ : Env} {P : Env → Prop} : oP (setPar [] [] ρ) P = P ρ := rfl
theorem setPar_v {i : Nat} {ts : List (Nat × Bool)} {d : D} {ds : List D} {ρ : Env} {P : Env → Prop} : oP (setPar ((i, false) :: ts) (d :: ds) ρ) P = (freeAt ρ i = true ∧ oP (setPar ts ds (ρ.set i (some (.v d)))) P) := by
  show oP (if freeAt ρ i then setPar ts ds (ρ.set i (some (.v d))) else none) P = _
  rw [oP_ite]
  by_cases h : freeAt ρ i = true
  · rw [if_pos h]; simp only [h, true_and]
  · rw [if_neg h]; simp only [h, false_and, Bool.false_eq_true]; rfl
theorem setPar_o {i : Nat} {ts : List (Nat × Bool)} {xs ds : List D} {ρ : Env} {P : Env → Prop} : oP (setPar ((i, true) :: ts) (.lst xs :: ds) ρ) P = (freeAt ρ i = true ∧ oP (setPar ts ds (ρ.set i (some (.ol xs)))) P) := by
  show oP (if freeAt ρ i then setPar ts ds (ρ.set i (some (.ol xs))) else none) P = _
  rw [oP_ite]
  by_cases h : freeAt ρ i = true
  · rw [if_pos h]; simp only [h, true_and]
  · rw [if_neg h]; simp only [h, false_and, Bool.false_eq_true]; rfl
theorem sl_10 {i : Int} : slPart true false [i] = some (some i, none) := rfl
theorem sl_01 {i : Int} : slPart false true [i] = some (none, some i) := rfl
theorem zp_tt {xs ys : List D} : zpD [.tup xs, .tup ys] = some (zipD xs ys) := rfl
theorem zp_ll {xs ys : List D} : zpD [.lst xs, .lst ys] = some (zipD xs ys) := rfl
theorem zip_map {α β : Type} {f : α → D} {g : β → D} : ∀ {l : List α} {m : List β}, zipD (l.map f) (m.map g) = (l.zip m).map fun p => .tup [f p.1, g p.2]
  | [], [] => rfl
  | [], _ :: _ => rfl
  | _ :: _, [] => rfl
  | a :: l, b :: m => by
    show D.tup [f a, g b] :: zipD (l.map f) (m.map g) = _
    rw [zip_map]; rfl
theorem zip_map1 {α : Type} {f : α → D} {l : List α} {m : List D} : zipD (l.map f) m = (l.zip m).map fun p => .tup [f p.1, p.2] := by
  have := zip_map (f := f) (g := fun (d : D) => d) (l := l) (m := m)
  rwa [List.map_id'] at this
theorem zip_map2 {α : Type} {f : α → D} {l : List α} {m : List D} : zipD m (l.map f) = (m.zip l).map fun p => .tup [p.1, f p.2] := by
  have := zip_map (f := fun (d : D) => d) (g := f) (l := m) (m := l)
  rwa [List.map_id'] at this
def allK (kds : List Kd) (items : List D) : Bool := (kds.zip items).all fun p => isK p.1 p.2
def heirOk : List D → Bool
  | [a, .tup hs] => !(hs.map fst0).any fun y => feqD y a
  | _ => true
def difOk (i j : Nat) (ds : List D) : Bool := match ds[i]?, ds[j]? with
  | some (.str a), some (.str b) => !(a == b)
  | _, _ => true
def extra (w : Str) (items : List D) : Bool := if w = "heirs" then heirOk items else match diffs.lookup w with
  | some p => difOk p.1 p.2 (.str w :: items)
  | none => true
def plainL : List D → Bool
  | .str w :: items => (match forms.lookup w with
    | some kds => decide (items.length = kds.length) && allK kds items && extra w items
    | none => false)
  | _ => false
def isPlain : D → Bool
  | .tup ds => plainL ds
  | _ => false
def isCorr : D → Bool
  | .tup [.str w, a] => decide (w = "strike") && isNum 1 999 a
  | .tup [.str w, a, b] => decide (w = "instead") && isNum 1 999 a && isPlain b
  | _ => false
local macro_rules | `(tactic| walk_at "w") => `(tactic| simp (config := {failIfUnchanged := false, implicitDefEqProofs := false}) only [eq_nil, v_FORMS, v_DIFF, in_FORMS, item_FORMS, in_DIFF, item_DIFF, slice1, setPar_nil, setPar_v, setPar_o, sl_10, sl_01, zp_tt, zp_ll, freeAt, Option.isSome_some, Option.isSome_none, Option.map_some, Option.map_none, List.drop_succ_cons, List.drop_zero, len_s, ↓oP_some, ↓onB_some, ↓onS_some, ↓onNx_nx, ↓onNx_ret, ↓onNx_brk, ↓onNx_ct, ↓rdS_v, ↓rdS_ol, ↓onI_int, ↓onFn_fn, ↓onLst_l, ↓wF_ret, ↓wR_ok, ↓wR_ofO, ↓if_true, ↓if_false, ↓flF_ret, ↓flF_nx, oP_some, onB_some, onS_some, onNx_nx, onNx_ret, onNx_brk, onNx_ct, rdS_v, rdS_ol, onI_int, onFn_fn, onLst_l, wF_ret, wR_ok, wR_ofO, if_true, if_false, flF_ret, flF_nx, wR_ok, wR_no, wR_ofO, ↓wE_var, ↓wE_const, ↓wE_prim, ↓wE_slice, ↓wE_meth, ↓wE_mprim, ↓wE_tup, ↓wE_lst, ↓wE_cell, ↓wE_dic, ↓wE_and, ↓wE_or, ↓wE_not, ↓wE_if, ↓wE_chain, ↓wE_call, ↓wE_new, ↓wE_callv, onFn_fn, ↓wE_comp, ↓wE_scomp, ↓turnC_w, ↓wL_nil, ↓wL_cons, ↓wV_nil, ↓wV_cons, onI_int, ↓wP_nil, ↓wP_cons, ↓wCh_one, ↓wCh_more, ↓wIf_nil, ↓wIf_cons, ↓wI_seq, ↓wI_range, ↓wI_zip, ↓wA_peek, ↓wA_const, ↓wA_prim, ↓wA_slice, ↓wA_meth, ↓wA_mprim, ↓wA_tup, ↓wA_lst, ↓wA_cell, ↓wA_dic, ↓wA_and, ↓wA_or, ↓wA_not, ↓wA_ifE, ↓wA_chain, ↓wA_call, ↓wA_callv, ↓wA_new, ↓wA_comp, ↓wA_scomp, ↓wA_var, ↓look_nil, ↓look_cons, lookAV_d, lookAV_pk, slV_v, slV_ol, slV_oo, ↓rd_w, rdS_v, rdS_ol, ↓wS_asg, ↓wS_asgO, onLst_l, ↓wS_par, ↓wS_put, ↓wS_expr, ↓wS_ret, ↓wS_ite, ↓wS_for, ↓bodyS_w, ↓wS_while, ↓wS_pass, ↓wS_retN, ↓wS_brk, ↓wS_cont, ↓wB_nil, ↓wB_cons, flF_nx, flF_ret, onNx_nx, onNx_ret, onNx_brk, onNx_ct, onB_some, oP_some, oP_none, oP_blO, oP_notO, oP_lstO, onS_some, wF_ret, p_isi, p_eq, p_ne, p_lt, p_le, p_gt, p_ge, p_is, p_isnot, p_in, p_notin, p_item, p_len, p_all, p_any, p_add, p_sub, p_mul, p_fdiv, p_mod, p_pow, p_neg, p_abs, p_int, p_join, p_get2, p_get3, p_list, p_tuple, p_sorted, p_set, p_dict, p_attr, tru_bl, tru_non, v_non, v_bl, v_int, v_str, v_ty, v_fn, v_cls, v_tup, v_lst, v_dic, v_set, v_obj, lt_ii, le_ii, lt_ss, len_str, len_tup, len_lst, len_set, len_dic, sub_ii, add_ii, seq_str, seq_tup, seq_lst, item_ti, item_li, eq_ii, eq_ss, eq_bb, all_bls, ↓bindT_nm, ↓bindT_tup, ↓bindTs_nil, ↓bindTs_cons, List.all_cons, List.all_nil, List.set_cons_zero, List.set_cons_succ, List.getElem?_cons_zero, List.getElem?_cons_succ, List.getElem?_nil, wipeE, backE, List.foldl_cons, List.foldl_nil, Option.getD_some, List.length_cons, List.length_nil, List.length_set, Nat.reduceSub, Nat.reduceAdd, Nat.reduceLT, Nat.reduceLeDiff, List.replicate_succ, List.replicate_zero, List.map_cons, List.map_nil, List.nil_append, List.cons_append, List.append_nil, env0, decide_true, decide_false, Bool.and_true, Bool.true_and, Bool.not_true, Bool.not_false, Bool.false_eq_true, if_true, if_false, true_and, and_true, decide_eq_true_eq, Nat.zero_lt_succ, Nat.succ_lt_succ_iff, rng_w1, rng_w2, mul_w, fdiv_w, mod_w, pow_w, adds_w, addt_w, addl_w, atI_l0, atI_l1, atI_l2, atI_l3, atI_l4, nc0, nc1, nc2, nc3, nc4, nc5, nc6, nc7, Int.reduceBEq, noOwn_nil, noOwn_cons, ownF_v, ownF_n, ownF_vs])
local macro_rules | `(tactic| k_search $a) => `(tactic| simp (config := {failIfUnchanged := false, implicitDefEqProofs := false}) only [$a:term, eq_nil, v_FORMS, v_DIFF, in_FORMS, item_FORMS, in_DIFF, item_DIFF, slice1, setPar_nil, setPar_v, setPar_o, sl_10, sl_01, zp_tt, zp_ll, freeAt, Option.isSome_some, Option.isSome_none, Option.map_some, Option.map_none, List.drop_succ_cons, List.drop_zero, len_s, ↓oP_some, ↓onB_some, ↓onS_some, ↓onNx_nx, ↓onNx_ret, ↓onNx_brk, ↓onNx_ct, ↓rdS_v, ↓rdS_ol, ↓onI_int, ↓onFn_fn, ↓onLst_l, ↓wF_ret, ↓wR_ok, ↓wR_ofO, ↓if_true, ↓if_false, ↓flF_ret, ↓flF_nx, oP_some, onB_some, onS_some, onNx_nx, onNx_ret, onNx_brk, onNx_ct, rdS_v, rdS_ol, onI_int, onFn_fn, onLst_l, wF_ret, wR_ok, wR_ofO, if_true, if_false, flF_ret, flF_nx, wR_ok, wR_no, wR_ofO, ↓wE_var, ↓wE_const, ↓wE_prim, ↓wE_slice, ↓wE_meth, ↓wE_mprim, ↓wE_tup, ↓wE_lst, ↓wE_cell, ↓wE_dic, ↓wE_and, ↓wE_or, ↓wE_not, ↓wE_if, ↓wE_chain, ↓wE_call, ↓wE_new, ↓wE_callv, onFn_fn, ↓wE_comp, ↓wE_scomp, ↓turnC_w, ↓wL_nil, ↓wL_cons, ↓wV_nil, ↓wV_cons, onI_int, ↓wP_nil, ↓wP_cons, ↓wCh_one, ↓wCh_more, ↓wIf_nil, ↓wIf_cons, ↓wI_seq, ↓wI_range, ↓wI_zip, ↓wA_peek, ↓wA_const, ↓wA_prim, ↓wA_slice, ↓wA_meth, ↓wA_mprim, ↓wA_tup, ↓wA_lst, ↓wA_cell, ↓wA_dic, ↓wA_and, ↓wA_or, ↓wA_not, ↓wA_ifE, ↓wA_chain, ↓wA_call, ↓wA_callv, ↓wA_new, ↓wA_comp, ↓wA_scomp, ↓wA_var, ↓look_nil, ↓look_cons, lookAV_d, lookAV_pk, slV_v, slV_ol, slV_oo, ↓rd_w, rdS_v, rdS_ol, ↓wS_asg, ↓wS_asgO, onLst_l, ↓wS_par, ↓wS_put, ↓wS_expr, ↓wS_ret, ↓wS_ite, ↓wS_for, ↓bodyS_w, ↓wS_while, ↓wS_pass, ↓wS_retN, ↓wS_brk, ↓wS_cont, ↓wB_nil, ↓wB_cons, flF_nx, flF_ret, onNx_nx, onNx_ret, onNx_brk, onNx_ct, onB_some, oP_some, oP_none, oP_blO, oP_notO, oP_lstO, onS_some, wF_ret, p_isi, p_eq, p_ne, p_lt, p_le, p_gt, p_ge, p_is, p_isnot, p_in, p_notin, p_item, p_len, p_all, p_any, p_add, p_sub, p_mul, p_fdiv, p_mod, p_pow, p_neg, p_abs, p_int, p_join, p_get2, p_get3, p_list, p_tuple, p_sorted, p_set, p_dict, p_attr, tru_bl, tru_non, v_non, v_bl, v_int, v_str, v_ty, v_fn, v_cls, v_tup, v_lst, v_dic, v_set, v_obj, lt_ii, le_ii, lt_ss, len_str, len_tup, len_lst, len_set, len_dic, sub_ii, add_ii, seq_str, seq_tup, seq_lst, item_ti, item_li, eq_ii, eq_ss, eq_bb, all_bls, ↓bindT_nm, ↓bindT_tup, ↓bindTs_nil, ↓bindTs_cons, List.all_cons, List.all_nil, List.set_cons_zero, List.set_cons_succ, List.getElem?_cons_zero, List.getElem?_cons_succ, List.getElem?_nil, wipeE, backE, List.foldl_cons, List.foldl_nil, Option.getD_some, List.length_cons, List.length_nil, List.length_set, Nat.reduceSub, Nat.reduceAdd, Nat.reduceLT, Nat.reduceLeDiff, List.replicate_succ, List.replicate_zero, List.map_cons, List.map_nil, List.nil_append, List.cons_append, List.append_nil, env0, decide_true, decide_false, Bool.and_true, Bool.true_and, Bool.not_true, Bool.not_false, Bool.false_eq_true, if_true, if_false, true_and, and_true, decide_eq_true_eq, Nat.zero_lt_succ, Nat.succ_lt_succ_iff, rng_w1, rng_w2, mul_w, fdiv_w, mod_w, pow_w, adds_w, addt_w, addl_w, atI_l0, atI_l1, atI_l2, atI_l3, atI_l4, nc0, nc1, nc2, nc3, nc4, nc5, nc6, nc7, Int.reduceBEq, noOwn_nil, noOwn_cons, ownF_v, ownF_n, ownF_vs])
local macro_rules | `(tactic| ktr_call $a $b) => `(tactic| simp (config := {failIfUnchanged := false, implicitDefEqProofs := false}) only [$a:term, $b:term, eq_nil, v_FORMS, v_DIFF, in_FORMS, item_FORMS, in_DIFF, item_DIFF, slice1, setPar_nil, setPar_v, setPar_o, sl_10, sl_01, zp_tt, zp_ll, freeAt, Option.isSome_some, Option.isSome_none, Option.map_some, Option.map_none, List.drop_succ_cons, List.drop_zero, len_s, ↓oP_some, ↓onB_some, ↓onS_some, ↓onNx_nx, ↓onNx_ret, ↓onNx_brk, ↓onNx_ct, ↓rdS_v, ↓rdS_ol, ↓onI_int, ↓onFn_fn, ↓onLst_l, ↓wF_ret, ↓wR_ok, ↓wR_ofO, ↓if_true, ↓if_false, ↓flF_ret, ↓flF_nx, oP_some, onB_some, onS_some, onNx_nx, onNx_ret, onNx_brk, onNx_ct, rdS_v, rdS_ol, onI_int, onFn_fn, onLst_l, wF_ret, wR_ok, wR_ofO, if_true, if_false, flF_ret, flF_nx, wR_ok, wR_no, wR_ofO, ↓wE_var, ↓wE_const, ↓wE_prim, ↓wE_slice, ↓wE_meth, ↓wE_mprim, ↓wE_tup, ↓wE_lst, ↓wE_cell, ↓wE_dic, ↓wE_and, ↓wE_or, ↓wE_not, ↓wE_if, ↓wE_chain, ↓wE_call, ↓wE_new, ↓wE_callv, onFn_fn, ↓wE_comp, ↓wE_scomp, ↓turnC_w, ↓wL_nil, ↓wL_cons, ↓wV_nil, ↓wV_cons, onI_int, ↓wP_nil, ↓wP_cons, ↓wCh_one, ↓wCh_more, ↓wIf_nil, ↓wIf_cons, ↓wI_seq, ↓wI_range, ↓wI_zip, ↓wA_peek, ↓wA_const, ↓wA_prim, ↓wA_slice, ↓wA_meth, ↓wA_mprim, ↓wA_tup, ↓wA_lst, ↓wA_cell, ↓wA_dic, ↓wA_and, ↓wA_or, ↓wA_not, ↓wA_ifE, ↓wA_chain, ↓wA_call, ↓wA_callv, ↓wA_new, ↓wA_comp, ↓wA_scomp, ↓wA_var, ↓look_nil, ↓look_cons, lookAV_d, lookAV_pk, slV_v, slV_ol, slV_oo, ↓rd_w, rdS_v, rdS_ol, ↓wS_asg, ↓wS_asgO, onLst_l, ↓wS_par, ↓wS_put, ↓wS_expr, ↓wS_ret, ↓wS_ite, ↓wS_for, ↓bodyS_w, ↓wS_while, ↓wS_pass, ↓wS_retN, ↓wS_brk, ↓wS_cont, ↓wB_nil, ↓wB_cons, flF_nx, flF_ret, onNx_nx, onNx_ret, onNx_brk, onNx_ct, onB_some, oP_some, oP_none, oP_blO, oP_notO, oP_lstO, onS_some, wF_ret, p_isi, p_eq, p_ne, p_lt, p_le, p_gt, p_ge, p_is, p_isnot, p_in, p_notin, p_item, p_len, p_all, p_any, p_add, p_sub, p_mul, p_fdiv, p_mod, p_pow, p_neg, p_abs, p_int, p_join, p_get2, p_get3, p_list, p_tuple, p_sorted, p_set, p_dict, p_attr, tru_bl, tru_non, v_non, v_bl, v_int, v_str, v_ty, v_fn, v_cls, v_tup, v_lst, v_dic, v_set, v_obj, lt_ii, le_ii, lt_ss, len_str, len_tup, len_lst, len_set, len_dic, sub_ii, add_ii, seq_str, seq_tup, seq_lst, item_ti, item_li, eq_ii, eq_ss, eq_bb, all_bls, ↓bindT_nm, ↓bindT_tup, ↓bindTs_nil, ↓bindTs_cons, List.all_cons, List.all_nil, List.set_cons_zero, List.set_cons_succ, List.getElem?_cons_zero, List.getElem?_cons_succ, List.getElem?_nil, wipeE, backE, List.foldl_cons, List.foldl_nil, Option.getD_some, List.length_cons, List.length_nil, List.length_set, Nat.reduceSub, Nat.reduceAdd, Nat.reduceLT, Nat.reduceLeDiff, List.replicate_succ, List.replicate_zero, List.map_cons, List.map_nil, List.nil_append, List.cons_append, List.append_nil, env0, decide_true, decide_false, Bool.and_true, Bool.true_and, Bool.not_true, Bool.not_false, Bool.false_eq_true, if_true, if_false, true_and, and_true, decide_eq_true_eq, Nat.zero_lt_succ, Nat.succ_lt_succ_iff, rng_w1, rng_w2, mul_w, fdiv_w, mod_w, pow_w, adds_w, addt_w, addl_w, atI_l0, atI_l1, atI_l2, atI_l3, atI_l4, nc0, nc1, nc2, nc3, nc4, nc5, nc6, nc7, Int.reduceBEq, noOwn_nil, noOwn_cons, ownF_v, ownF_n, ownF_vs])
local macro_rules | `(tactic| k_whileD $a $b $c "w") => `(tactic| simp (config := {failIfUnchanged := false, implicitDefEqProofs := false}) only [$a:term, $b:term, $c:term, eq_nil, v_FORMS, v_DIFF, in_FORMS, item_FORMS, in_DIFF, item_DIFF, slice1, setPar_nil, setPar_v, setPar_o, sl_10, sl_01, zp_tt, zp_ll, freeAt, Option.isSome_some, Option.isSome_none, Option.map_some, Option.map_none, List.drop_succ_cons, List.drop_zero, len_s, ↓oP_some, ↓onB_some, ↓onS_some, ↓onNx_nx, ↓onNx_ret, ↓onNx_brk, ↓onNx_ct, ↓rdS_v, ↓rdS_ol, ↓onI_int, ↓onFn_fn, ↓onLst_l, ↓wF_ret, ↓wR_ok, ↓wR_ofO, ↓if_true, ↓if_false, ↓flF_ret, ↓flF_nx, oP_some, onB_some, onS_some, onNx_nx, onNx_ret, onNx_brk, onNx_ct, rdS_v, rdS_ol, onI_int, onFn_fn, onLst_l, wF_ret, wR_ok, wR_ofO, if_true, if_false, flF_ret, flF_nx, wR_ok, wR_no, wR_ofO, ↓wE_var, ↓wE_const, ↓wE_prim, ↓wE_slice, ↓wE_meth, ↓wE_mprim, ↓wE_tup, ↓wE_lst, ↓wE_cell, ↓wE_dic, ↓wE_and, ↓wE_or, ↓wE_not, ↓wE_if, ↓wE_chain, ↓wE_call, ↓wE_new, ↓wE_callv, onFn_fn, ↓wE_comp, ↓wE_scomp, ↓turnC_w, ↓wL_nil, ↓wL_cons, ↓wV_nil, ↓wV_cons, onI_int, ↓wP_nil, ↓wP_cons, ↓wCh_one, ↓wCh_more, ↓wIf_nil, ↓wIf_cons, ↓wI_seq, ↓wI_range, ↓wI_zip, ↓wA_peek, ↓wA_const, ↓wA_prim, ↓wA_slice, ↓wA_meth, ↓wA_mprim, ↓wA_tup, ↓wA_lst, ↓wA_cell, ↓wA_dic, ↓wA_and, ↓wA_or, ↓wA_not, ↓wA_ifE, ↓wA_chain, ↓wA_call, ↓wA_callv, ↓wA_new, ↓wA_comp, ↓wA_scomp, ↓wA_var, ↓look_nil, ↓look_cons, lookAV_d, lookAV_pk, slV_v, slV_ol, slV_oo, ↓rd_w, rdS_v, rdS_ol, ↓wS_asg, ↓wS_asgO, onLst_l, ↓wS_par, ↓wS_put, ↓wS_expr, ↓wS_ret, ↓wS_ite, ↓wS_for, ↓bodyS_w, ↓wS_while, ↓wS_pass, ↓wS_retN, ↓wS_brk, ↓wS_cont, ↓wB_nil, ↓wB_cons, flF_nx, flF_ret, onNx_nx, onNx_ret, onNx_brk, onNx_ct, onB_some, oP_some, oP_none, oP_blO, oP_notO, oP_lstO, onS_some, wF_ret, p_isi, p_eq, p_ne, p_lt, p_le, p_gt, p_ge, p_is, p_isnot, p_in, p_notin, p_item, p_len, p_all, p_any, p_add, p_sub, p_mul, p_fdiv, p_mod, p_pow, p_neg, p_abs, p_int, p_join, p_get2, p_get3, p_list, p_tuple, p_sorted, p_set, p_dict, p_attr, tru_bl, tru_non, v_non, v_bl, v_int, v_str, v_ty, v_fn, v_cls, v_tup, v_lst, v_dic, v_set, v_obj, lt_ii, le_ii, lt_ss, len_str, len_tup, len_lst, len_set, len_dic, sub_ii, add_ii, seq_str, seq_tup, seq_lst, item_ti, item_li, eq_ii, eq_ss, eq_bb, all_bls, ↓bindT_nm, ↓bindT_tup, ↓bindTs_nil, ↓bindTs_cons, List.all_cons, List.all_nil, List.set_cons_zero, List.set_cons_succ, List.getElem?_cons_zero, List.getElem?_cons_succ, List.getElem?_nil, wipeE, backE, List.foldl_cons, List.foldl_nil, Option.getD_some, List.length_cons, List.length_nil, List.length_set, Nat.reduceSub, Nat.reduceAdd, Nat.reduceLT, Nat.reduceLeDiff, List.replicate_succ, List.replicate_zero, List.map_cons, List.map_nil, List.nil_append, List.cons_append, List.append_nil, env0, decide_true, decide_false, Bool.and_true, Bool.true_and, Bool.not_true, Bool.not_false, Bool.false_eq_true, if_true, if_false, true_and, and_true, decide_eq_true_eq, Nat.zero_lt_succ, Nat.succ_lt_succ_iff, rng_w1, rng_w2, mul_w, fdiv_w, mod_w, pow_w, adds_w, addt_w, addl_w, atI_l0, atI_l1, atI_l2, atI_l3, atI_l4, nc0, nc1, nc2, nc3, nc4, nc5, nc6, nc7, Int.reduceBEq, noOwn_nil, noOwn_cons, ownF_v, ownF_n, ownF_vs])
theorem in_lst {x : D} {ds : List D} (h : flatD x = true) (k : ds.all flatD = true) : inD x (.lst ds) = some (ds.any fun y => feqD y x) := by
  have : inD x (.lst ds) = if flatD x && ds.all flatD then some (ds.any fun y => feqD y x) else none := by
    cases x <;> first | rfl | cases h
  rw [this, h, k]
  rfl
theorem flat_heirs {hs : List D} (h : hs.all isHeir = true) : (hs.map fst0).all flatD = true := by
  rw [List.all_map, List.all_eq_true]
  intro d m
  have h1 := List.all_eq_true.mp h d m
  obtain ⟨a, b, rfl⟩ := heir_is h1
  have h2 : (isName a && isNum 1 9 b) = true := h1
  rw [Bool.and_eq_true] at h2
  obtain ⟨i, rfl⟩ := name_is h2.1
  rfl
theorem lookup_mem {α : Type} {w : Str} {v : α} : ∀ {l : List (Str × α)}, l.lookup w = some v → (w, v) ∈ l
  | [], h => nomatch h
  | (a, b) :: l, h => by
    rw [List.lookup_cons] at h
    cases e : w == a with
    | true =>
      rw [e] at h
      cases h
      rw [eq_of_beq e]
      exact List.mem_cons_self
    | false =>
      rw [e] at h
      exact List.mem_cons_of_mem _ (lookup_mem h)
def nmAt (w : Str) (i : Nat) : Bool := match forms.lookup w with
  | some kds => decide (1 ≤ i) && decide (kds[i - 1]? = some .name)
  | none => false
theorem dif_tab : diffs.all (fun p => nmAt p.1 p.2.1 && nmAt p.1 p.2.2) = true := by decide +kernel
theorem nm_at {w : Str} {items : List D} {kds : List Kd} {i : Nat} (e : forms.lookup w = some kds) (c : items.length = kds.length) (a : ((kds.zip items).all fun p => isK p.1 p.2) = true) (h : nmAt w i = true) : ∃ x, (D.str w :: items)[i]? = some (.str x) := by
  unfold nmAt at h
  rw [e] at h
  simp only [Bool.and_eq_true, decide_eq_true_eq] at h
  obtain ⟨j, rfl⟩ : ∃ j, i = j + 1 := ⟨i - 1, by omega⟩
  simp only [Nat.add_sub_cancel] at h
  obtain ⟨hj, e2⟩ := List.getElem?_eq_some_iff.mp h.2
  have hz : j < (kds.zip items).length := by rw [List.length_zip]; omega
  have h1 := List.all_eq_true.mp a _ (List.getElem_mem hz)
  rw [List.getElem_zip] at h1
  simp only [e2] at h1
  obtain ⟨x, ex⟩ := name_is h1
  refine ⟨x, ?_⟩
  rw [List.getElem?_cons_succ, List.getElem?_eq_getElem (by omega), ex]
theorem dif_at {w : Str} {items : List D} {kds : List Kd} {p1 p2 : Nat} (e : forms.lookup w = some kds) (eD : diffs.lookup w = some (p1, p2)) (c : items.length = kds.length) (a : ((kds.zip items).all fun p => isK p.1 p.2) = true) : (∃ x, (D.str w :: items)[p1]? = some (.str x)) ∧ (∃ x, (D.str w :: items)[p2]? = some (.str x)) := by
  have h := List.all_eq_true.mp dif_tab _ (lookup_mem eD)
  simp only [Bool.and_eq_true] at h
  exact ⟨nm_at e c a h.1, nm_at e c a h.2⟩
section
variable {n k : Nat} {x : D} {S : Sto}
theorem g_fits {κ : Kd} (h : gd k x = true) : G (n + 5) (.fn "fits") [.fn (fnK κ), x] S = .ret (.bl (isK κ x)) S := by
  rw [wF_eq, G_fn (c := c_fits) rfl rfl rfl (by decide)]
  simp only [c_fits]
  walk_at "w"
  refine ⟨by cases κ <;> decide +kernel, ?_⟩
  cases κ
  · simp only [fnK, isK]; k_search (g_called h)
  · simp only [fnK, isK]; k_search (g_knowing h)
  · simp only [fnK, isK]; k_search (g_entry h)
  · simp only [fnK, isK]; k_search (g_sum h)
  · simp only [fnK, isK]; k_search (g_until h)
  · simp only [fnK, isK]; k_search (g_part_share h)
  · simp only [fnK, isK]; k_search (g_parcels h)
  · simp only [fnK, isK]; k_search (g_cells h)
  · simp only [fnK, isK]; k_search (g_heirs h)
theorem g_plain_str {w : Str} {items : List D} (h : gd (k + 1) (.tup (.str w :: items)) = true) : G (n + 6) (.fn "is_plain") [.tup (.str w :: items)] S = .ret (.bl (plainL (.str w :: items))) S := by
  rw [wF_eq, G_fn (c := c_is_plain) rfl rfl rfl (by decide)]
  simp only [c_is_plain]
  have h0 : viewD S (.tup (.str w :: items)) = some (.tup (.str w :: items)) := rfl
  have h1 : isiD (.tup (.str w :: items)) (.ty "tuple") = some true := rfl
  have h2 : isiD (.str w) (.ty "str") = some true := rfl
  obtain ⟨hd, hl⟩ := gd_tup h
  cases e : forms.lookup w with
  | none =>
    k_whileD h1 h2 e "w"
    simp only [plainL, e]
  | some kds =>
    k_whileD h1 h2 e "w"
    refine ⟨by decide, by decide, ?_⟩
    by_cases c : items.length = kds.length
    · rw [if_neg (by rw [List.length_map, c]; simp), zip_map1]
      refine comp_map (fun p : Kd × D => .tup [.fn (fnK p.1), p.2]) (fun p => .bl (isK p.1 p.2)) (kds.zip items) ?_ (fun p m => ?_) ?_
      · have : (kds.zip items).length ≤ 60 := by
          rw [List.length_zip]
          have : items.length ≤ 60 := by
            have : (D.str w :: items).length = items.length + 1 := rfl
            omega
          omega
        exact ne_len this (by omega)
      · k_search (g_fits (hd p.2 (List.mem_cons_of_mem _ (List.of_mem_zip m).2)))
      · walk_at "w"
        cases a : (kds.zip items).all fun p => isK p.1 p.2 with
        | false =>
          walk_at "w"
          simp only [plainL, e, allK, a, Bool.and_false, Bool.false_and]
        | true =>
          walk_at "w"
          by_cases hw : w = "heirs"
          · subst hw
            have e2 : forms.lookup ("heirs" : Str) = some [.name, .heirs] := by decide +kernel
            rw [e2] at e
            cases e
            obtain ⟨x, y, rfl⟩ : ∃ x y, items = [x, y] := by
              match items, c with
              | [x, y], _ => exact ⟨x, y, rfl⟩
            have a2 : (isName x && (isHeirs y && true)) = true := a
            simp only [Bool.and_eq_true, and_true] at a2
            obtain ⟨s, rfl⟩ := name_is a2.1
            obtain ⟨hs, rfl⟩ : ∃ hs, y = .tup hs := by
              have := a2.2
              unfold isHeirs at this
              split at this
              · exact ⟨_, rfl⟩
              · cases this
            have a3 : (isRow 1 4 hs && hs.all isHeir && decide ((dd (hs.map hk)).length = hs.length)) = true := a2.2
            simp only [Bool.and_eq_true] at a3
            have a4 : isRow 1 4 hs = true := a3.1.1
            unfold isRow at a4
            simp only [Bool.and_eq_true, decide_eq_true_eq] at a4
            simp only [beq_self_eq_true]
            walk_at "w"
            refine comp_list fst0 hs (ne_len a4.2 (by omega)) (fun d m => ?_) ?_
            · obtain ⟨p, q, rfl⟩ := heir_is (List.all_eq_true.mp a3.1.2 d m)
              walk_at "w"
              simp only [fst0]
            · rw [in_lst rfl (flat_heirs a3.1.2)]
              walk_at "w"
              simp only [plainL, e2, allK, a, extra, heirOk, if_true, decide_true, Bool.true_and, List.length_cons, List.length_nil]
          · rw [show (w == ("heirs" : Str)) = false from by rw [beq_eq_false_iff_ne]; exact hw]
            walk_at "w"
            cases eD : diffs.lookup w with
            | none =>
              walk_at "w"
              simp only [plainL, e, allK, a, extra, if_neg hw, eD, c, decide_true, Bool.true_and]
            | some p =>
              obtain ⟨p1, p2⟩ := p
              obtain ⟨⟨x1, y1⟩, ⟨x2, y2⟩⟩ := dif_at e eD c a
              walk_at "w"
              k_whileD y1 y2 (atI_nn) "w"
              simp only [plainL, e, allK, a, extra, if_neg hw, eD, c, decide_true, Bool.true_and, difOk, y1, y2]
    · rw [if_pos (by rw [List.length_map]; simp; omega), if_pos (by rw [List.length_map]; simp; omega)]
      simp only [plainL, e, c]
      rfl
theorem g_plain_no (h : gd k x = true) (ht : isTu x = false) : G (n + 6) (.fn "is_plain") [x] S = .ret (.bl false) S := by
  rw [wF_eq, G_fn (c := c_is_plain) rfl rfl rfl (by decide)]
  simp only [c_is_plain, wB_cons, wB_nil]
  ktr_call (view_good h) ((isi_tup h).trans (by rw [ht]))
theorem g_plain_ns {d : D} {items : List D} (h : gd k d = true) (ht : isSt d = false) : G (n + 6) (.fn "is_plain") [.tup (d :: items)] S = .ret (.bl false) S := by
  rw [wF_eq, G_fn (c := c_is_plain) rfl rfl rfl (by decide)]
  simp only [c_is_plain]
  k_whileD (show isiD (.tup (d :: items)) (.ty "tuple") = some true from rfl) (view_good (S := S) h) ((isi_str h).trans (by rw [ht])) "w"
theorem g_plain_nil : G (n + 6) (.fn "is_plain") [.tup []] S = .ret (.bl false) S := by kernel_rfl
theorem g_plain (h : gd k x = true) : G (n + 6) (.fn "is_plain") [x] S = .ret (.bl (isPlain x)) S := by
  cases ht : isTu x with
  | false =>
    rw [g_plain_no h ht]
    cases x <;> first | rfl | cases ht
  | true =>
    obtain ⟨ds, rfl⟩ := isT_of ht
    cases k with
    | zero => cases h
    | succ k =>
    cases ds with
    | nil => exact g_plain_nil
    | cons d items =>
      have gi := (gd_tup h).1 d List.mem_cons_self
      cases hs : isSt d with
      | true =>
        obtain ⟨w, rfl⟩ := isS_of hs
        exact g_plain_str h
      | false =>
        rw [g_plain_ns gi hs]
        cases d <;> first | rfl | cases hs
theorem g_corr_no (h : gd k x = true) (ht : isTu x = false) : G (n + 7) (.fn "is_correction") [x] S = .ret (.bl false) S := by
  rw [wF_eq, G_fn (c := c_is_correction) rfl rfl rfl (by decide)]
  simp only [c_is_correction]
  ktr_call (view_good h) ((isi_tup h).trans (by rw [ht]))
theorem g_corr_ns {d : D} {items : List D} (h : gd k d = true) (ht : isSt d = false) : G (n + 7) (.fn "is_correction") [.tup (d :: items)] S = .ret (.bl false) S := by
  rw [wF_eq, G_fn (c := c_is_correction) rfl rfl rfl (by decide)]
  simp only [c_is_correction]
  k_whileD (show isiD (.tup (d :: items)) (.ty "tuple") = some true from rfl) (view_good (S := S) h) ((isi_str h).trans (by rw [ht])) "w"
theorem g_corr_nil : G (n + 7) (.fn "is_correction") [.tup []] S = .ret (.bl false) S := by kernel_rfl
theorem g_corr_str {w : Str} {items : List D} (h : gd (k + 1) (.tup (.str w :: items)) = true) : G (n + 7) (.fn "is_correction") [.tup (.str w :: items)] S = .ret (.bl (isCorr (.tup (.str w :: items)))) S := by
  rw [wF_eq, G_fn (c := c_is_correction) rfl rfl rfl (by decide)]
  simp only [c_is_correction]
  have q : ∀ d ∈ items, gd k d = true := fun d m => (gd_tup h).1 d (List.mem_cons_of_mem _ m)
  ktr_call (show isiD (.tup (.str w :: items)) (.ty "tuple") = some true from rfl) (show isiD (.str w) (.ty "str") = some true from rfl)
  rcases items with _ | ⟨a, _ | ⟨b, _ | ⟨c, t⟩⟩⟩
  · walk_at "w"
    simp only [isCorr]
    cases w == ("strike" : Str) <;> cases w == ("instead" : Str) <;> simp
  · ktr_call (g_entry (q a (by simp))) (show (2 : Int) = 3 ↔ False from by decide)
    simp only [isCorr]
    rw [show decide (w = ("strike" : Str)) = (w == ("strike" : Str)) from rfl]
    cases w == ("strike" : Str) <;> cases w == ("instead" : Str) <;> simp
  · ktr_call (g_entry (q a (by simp))) (g_plain (q b (by simp)))
    simp only [isCorr]
    rw [show decide (w = ("instead" : Str)) = (w == ("instead" : Str)) from rfl]
    by_cases e1 : w = "strike"
    · subst e1
      simp only [show (("strike" : Str) == ("instead" : Str)) = false from by decide +kernel]
      simp
    · rw [show (w == ("strike" : Str)) = false from by rw [beq_eq_false_iff_ne]; exact e1]
      cases w == ("instead" : Str) <;> cases isNum 1 999 a <;> simp
  · have z2 : ((((t.length + 1 + 1 + 1 + 1 : Nat) : Int)) == 2) = false := by rw [beq_eq_false_iff_ne]; omega
    have z3 : ((((t.length + 1 + 1 + 1 + 1 : Nat) : Int)) == 3) = false := by rw [beq_eq_false_iff_ne]; omega
    ktr_call z2 z3
    simp only [isCorr]
    cases w == ("strike" : Str) <;> cases w == ("instead" : Str) <;> simp
theorem g_corr (h : gd k x = true) : G (n + 7) (.fn "is_correction") [x] S = .ret (.bl (isCorr x)) S := by
  cases ht : isTu x with
  | false =>
    rw [g_corr_no h ht]
    cases x <;> first | rfl | cases ht
  | true =>
    obtain ⟨ds, rfl⟩ := isT_of ht
    cases k with
    | zero => cases h
    | succ k =>
    cases ds with
    | nil => exact g_corr_nil
    | cons d items =>
      have gi := (gd_tup h).1 d List.mem_cons_self
      cases hs : isSt d with
      | true =>
        obtain ⟨w, rfl⟩ := isS_of hs
        exact g_corr_str h
      | false =>
        rw [g_corr_ns gi hs]
        have : isCorr (.tup (d :: items)) = false := by
          cases e : isCorr (.tup (d :: items)) with
          | false => rfl
          | true =>
            unfold isCorr at e
            split at e
            · rename_i q; cases q; cases hs
            · rename_i q; cases q; cases hs
            · cases e
        rw [this]
def isDeed (x : D) : Bool := isPlain x || isCorr x
theorem g_deed (h : gd k x = true) : G (n + 8) (.fn "is_deed") [x] S = .ret (.bl (isDeed x)) S := by
  rw [wF_eq, G_fn (c := c_is_deed) rfl rfl rfl (by decide)]
  simp only [c_is_deed]
  ktr_call (g_plain h) (g_corr h)
  unfold isDeed
  cases isPlain x <;> simp
end
end R.M
end
section
set_option Elab.async false
set_option linter.all false
set_option maxRecDepth 100000
set_option maxHeartbeats 4000000
namespace R.M
open PySem L2
def isRowD (lo hi : Int) : D → Bool
  | .tup ds => decide (lo ≤ (ds.length : Int)) && decide ((ds.length : Int) ≤ hi)
  | _ => false
def lforms : List (Str × List Str) := (forms.map fun p => (p.1, p.2.map nmK)) ++ (("strike", ["number"]) :: ("instead", ["number", "deed"]) :: [] : List (Str × List Str))
def shapesD : D := .dic (lforms.map fun p => .str p.1) (lforms.map fun p => .tup (p.2.map .str))
def unlikeD : D := .dic (diffs.map fun p => .str p.1) (diffs.map fun p => .tup [.int (p.2.1 : Nat), .int (p.2.2 : Nat)])
theorem ty_dic {ks vs : List D} : tyIs "dict" (some (.dic ks vs)) = true := rfl
theorem ty_sh : tyIs "dict" (some shapesD) = true := rfl
theorem ty_un : tyIs "dict" (some unlikeD) = true := rfl
theorem v_sh {S : Sto} : viewD S shapesD = some shapesD := rfl
theorem v_un {S : Sto} : viewD S unlikeD = some unlikeD := rfl
theorem get_tab {α : Type} {g : α → D} {w : Str} {l : List (Str × α)} : getD2 (.dic (l.map fun p => .str p.1) (l.map fun p => g p.2)) (.str w) .non = some (match l.lookup w with
    | some v => g v
    | none => .non) := by
  show (if stableD .non then (dget (l.map fun p => .str p.1) (l.map fun p => g p.2) (.str w)).map (·.getD .non) else none) = _
  rw [show stableD .non = true from rfl, if_pos rfl, dget_tab]
  cases l.lookup w <;> rfl
def kindsOf (w : Str) : D := match lforms.lookup w with
  | some l => .tup (l.map .str)
  | none => .non
def spotsOf (w : Str) : D := match diffs.lookup w with
  | some p => .tup [.int (p.1 : Nat), .int (p.2 : Nat)]
  | none => .non
theorem get_sh {w : Str} : getD2 shapesD (.str w) .non = some (kindsOf w) := by
  unfold shapesD
  rw [get_tab (g := fun (l : List Str) => .tup (l.map .str))]
  unfold kindsOf
  cases lforms.lookup w <;> rfl
theorem get_un {w : Str} : getD2 unlikeD (.str w) .non = some (spotsOf w) := by
  unfold unlikeD
  rw [get_tab (g := fun (p : Nat × Nat) => .tup [.int (p.1 : Nat), .int (p.2 : Nat)])]
  unfold spotsOf
  cases diffs.lookup w <;> rfl
theorem is_nn : isD .non .non = some true := rfl
theorem is_tn {ds : List D} : isD (.tup ds) .non = some false := rfl
theorem lt_0 {l : Nat} : decide ((0 : Int) < l) = decide ((1 : Int) ≤ l) := rfl
theorem s_name_name : ((("name" : Str) == ("name" : Str)) = true) := by decide +kernel
theorem s_name_bool : ((("name" : Str) == ("bool" : Str)) = false) := by decide +kernel
theorem s_name_share : ((("name" : Str) == ("share" : Str)) = false) := by decide +kernel
theorem s_name_lot : ((("name" : Str) == ("lot" : Str)) = false) := by decide +kernel
theorem s_name_deed : ((("name" : Str) == ("deed" : Str)) = false) := by decide +kernel
theorem s_name_cells : ((("name" : Str) == ("cells" : Str)) = false) := by decide +kernel
theorem s_name_heirs : ((("name" : Str) == ("heirs" : Str)) = false) := by decide +kernel
theorem i_name : inD (.str "name") (.tup [.str "number", .str "amount", .str "day"]) = some false := by kernel_rfl
theorem s_bool_name : ((("bool" : Str) == ("name" : Str)) = false) := by decide +kernel
theorem s_bool_bool : ((("bool" : Str) == ("bool" : Str)) = true) := by decide +kernel
theorem s_bool_share : ((("bool" : Str) == ("share" : Str)) = false) := by decide +kernel
theorem s_bool_lot : ((("bool" : Str) == ("lot" : Str)) = false) := by decide +kernel
theorem s_bool_deed : ((("bool" : Str) == ("deed" : Str)) = false) := by decide +kernel
theorem s_bool_cells : ((("bool" : Str) == ("cells" : Str)) = false) := by decide +kernel
theorem s_bool_heirs : ((("bool" : Str) == ("heirs" : Str)) = false) := by decide +kernel
theorem i_bool : inD (.str "bool") (.tup [.str "number", .str "amount", .str "day"]) = some false := by kernel_rfl
theorem s_number_name : ((("number" : Str) == ("name" : Str)) = false) := by decide +kernel
theorem s_number_bool : ((("number" : Str) == ("bool" : Str)) = false) := by decide +kernel
theorem s_number_share : ((("number" : Str) == ("share" : Str)) = false) := by decide +kernel
theorem s_number_lot : ((("number" : Str) == ("lot" : Str)) = false) := by decide +kernel
theorem s_number_deed : ((("number" : Str) == ("deed" : Str)) = false) := by decide +kernel
theorem s_number_cells : ((("number" : Str) == ("cells" : Str)) = false) := by decide +kernel
theorem s_number_heirs : ((("number" : Str) == ("heirs" : Str)) = false) := by decide +kernel
theorem i_number : inD (.str "number") (.tup [.str "number", .str "amount", .str "day"]) = some true := by kernel_rfl
theorem s_amount_name : ((("amount" : Str) == ("name" : Str)) = false) := by decide +kernel
theorem s_amount_bool : ((("amount" : Str) == ("bool" : Str)) = false) := by decide +kernel
theorem s_amount_share : ((("amount" : Str) == ("share" : Str)) = false) := by decide +kernel
theorem s_amount_lot : ((("amount" : Str) == ("lot" : Str)) = false) := by decide +kernel
theorem s_amount_deed : ((("amount" : Str) == ("deed" : Str)) = false) := by decide +kernel
theorem s_amount_cells : ((("amount" : Str) == ("cells" : Str)) = false) := by decide +kernel
theorem s_amount_heirs : ((("amount" : Str) == ("heirs" : Str)) = false) := by decide +kernel
theorem i_amount : inD (.str "amount") (.tup [.str "number", .str "amount", .str "day"]) = some true := by kernel_rfl
theorem s_day_name : ((("day" : Str) == ("name" : Str)) = false) := by decide +kernel
theorem s_day_bool : ((("day" : Str) == ("bool" : Str)) = false) := by decide +kernel
theorem s_day_share : ((("day" : Str) == ("share" : Str)) = false) := by decide +kernel
theorem s_day_lot : ((("day" : Str) == ("lot" : Str)) = false) := by decide +kernel
theorem s_day_deed : ((("day" : Str) == ("deed" : Str)) = false) := by decide +kernel
theorem s_day_cells : ((("day" : Str) == ("cells" : Str)) = false) := by decide +kernel
theorem s_day_heirs : ((("day" : Str) == ("heirs" : Str)) = false) := by decide +kernel
theorem i_day : inD (.str "day") (.tup [.str "number", .str "amount", .str "day"]) = some true := by kernel_rfl
theorem s_share_name : ((("share" : Str) == ("name" : Str)) = false) := by decide +kernel
theorem s_share_bool : ((("share" : Str) == ("bool" : Str)) = false) := by decide +kernel
theorem s_share_share : ((("share" : Str) == ("share" : Str)) = true) := by decide +kernel
theorem s_share_lot : ((("share" : Str) == ("lot" : Str)) = false) := by decide +kernel
theorem s_share_deed : ((("share" : Str) == ("deed" : Str)) = false) := by decide +kernel
theorem s_share_cells : ((("share" : Str) == ("cells" : Str)) = false) := by decide +kernel
theorem s_share_heirs : ((("share" : Str) == ("heirs" : Str)) = false) := by decide +kernel
theorem i_share : inD (.str "share") (.tup [.str "number", .str "amount", .str "day"]) = some false := by kernel_rfl
theorem s_lot_name : ((("lot" : Str) == ("name" : Str)) = false) := by decide +kernel
theorem s_lot_bool : ((("lot" : Str) == ("bool" : Str)) = false) := by decide +kernel
theorem s_lot_share : ((("lot" : Str) == ("share" : Str)) = false) := by decide +kernel
theorem s_lot_lot : ((("lot" : Str) == ("lot" : Str)) = true) := by decide +kernel
theorem s_lot_deed : ((("lot" : Str) == ("deed" : Str)) = false) := by decide +kernel
theorem s_lot_cells : ((("lot" : Str) == ("cells" : Str)) = false) := by decide +kernel
theorem s_lot_heirs : ((("lot" : Str) == ("heirs" : Str)) = false) := by decide +kernel
theorem i_lot : inD (.str "lot") (.tup [.str "number", .str "amount", .str "day"]) = some false := by kernel_rfl
theorem s_deed_name : ((("deed" : Str) == ("name" : Str)) = false) := by decide +kernel
theorem s_deed_bool : ((("deed" : Str) == ("bool" : Str)) = false) := by decide +kernel
theorem s_deed_share : ((("deed" : Str) == ("share" : Str)) = false) := by decide +kernel
theorem s_deed_lot : ((("deed" : Str) == ("lot" : Str)) = false) := by decide +kernel
theorem s_deed_deed : ((("deed" : Str) == ("deed" : Str)) = true) := by decide +kernel
theorem s_deed_cells : ((("deed" : Str) == ("cells" : Str)) = false) := by decide +kernel
theorem s_deed_heirs : ((("deed" : Str) == ("heirs" : Str)) = false) := by decide +kernel
theorem i_deed : inD (.str "deed") (.tup [.str "number", .str "amount", .str "day"]) = some false := by kernel_rfl
theorem s_heirs_name : ((("heirs" : Str) == ("name" : Str)) = false) := by decide +kernel
theorem s_heirs_bool : ((("heirs" : Str) == ("bool" : Str)) = false) := by decide +kernel
theorem s_heirs_share : ((("heirs" : Str) == ("share" : Str)) = false) := by decide +kernel
theorem s_heirs_lot : ((("heirs" : Str) == ("lot" : Str)) = false) := by decide +kernel
theorem s_heirs_deed : ((("heirs" : Str) == ("deed" : Str)) = false) := by decide +kernel
theorem s_heirs_cells : ((("heirs" : Str) == ("cells" : Str)) = false) := by decide +kernel
theorem s_heirs_heirs : ((("heirs" : Str) == ("heirs" : Str)) = true) := by decide +kernel
theorem i_heirs : inD (.str "heirs") (.tup [.str "number", .str "amount", .str "day"]) = some false := by kernel_rfl
theorem s_cells_name : ((("cells" : Str) == ("name" : Str)) = false) := by decide +kernel
theorem s_cells_bool : ((("cells" : Str) == ("bool" : Str)) = false) := by decide +kernel
theorem s_cells_share : ((("cells" : Str) == ("share" : Str)) = false) := by decide +kernel
theorem s_cells_lot : ((("cells" : Str) == ("lot" : Str)) = false) := by decide +kernel
theorem s_cells_deed : ((("cells" : Str) == ("deed" : Str)) = false) := by decide +kernel
theorem s_cells_cells : ((("cells" : Str) == ("cells" : Str)) = true) := by decide +kernel
theorem s_cells_heirs : ((("cells" : Str) == ("heirs" : Str)) = false) := by decide +kernel
theorem i_cells : inD (.str "cells") (.tup [.str "number", .str "amount", .str "day"]) = some false := by kernel_rfl
theorem in_si {w : Str} : inD (.str w) (.tup [.str "strike", .str "instead"]) = some (("strike" : Str) == w || ("instead" : Str) == w) := by
  show some ((("strike" : Str) == w) || ((("instead" : Str) == w) || false)) = _
  rw [Bool.or_false]
local macro_rules | `(tactic| walk_at "w") => `(tactic| simp (config := {failIfUnchanged := false, implicitDefEqProofs := false}) only [eq_nil, v_FORMS, v_DIFF, in_FORMS, item_FORMS, in_DIFF, item_DIFF, slice1, setPar_nil, setPar_v, setPar_o, sl_10, sl_01, zp_tt, zp_ll, freeAt, Option.isSome_some, Option.isSome_none, Option.map_some, Option.map_none, List.drop_succ_cons, List.drop_zero, len_s, ty_dic, ty_sh, ty_un, v_sh, v_un, get_sh, get_un, is_nn, is_tn, s_name_name, s_name_bool, s_name_share, s_name_lot, s_name_deed, s_name_cells, s_name_heirs, s_bool_name, s_bool_bool, s_bool_share, s_bool_lot, s_bool_deed, s_bool_cells, s_bool_heirs, s_number_name, s_number_bool, s_number_share, s_number_lot, s_number_deed, s_number_cells, s_number_heirs, s_amount_name, s_amount_bool, s_amount_share, s_amount_lot, s_amount_deed, s_amount_cells, s_amount_heirs, s_day_name, s_day_bool, s_day_share, s_day_lot, s_day_deed, s_day_cells, s_day_heirs, s_share_name, s_share_bool, s_share_share, s_share_lot, s_share_deed, s_share_cells, s_share_heirs, s_lot_name, s_lot_bool, s_lot_share, s_lot_lot, s_lot_deed, s_lot_cells, s_lot_heirs, s_deed_name, s_deed_bool, s_deed_share, s_deed_lot, s_deed_deed, s_deed_cells, s_deed_heirs, s_heirs_name, s_heirs_bool, s_heirs_share, s_heirs_lot, s_heirs_deed, s_heirs_cells, s_heirs_heirs, s_cells_name, s_cells_bool, s_cells_share, s_cells_lot, s_cells_deed, s_cells_cells, s_cells_heirs, i_name, i_bool, i_number, i_amount, i_day, i_share, i_lot, i_deed, i_heirs, i_cells, in_si, ↓oP_some, ↓onB_some, ↓onS_some, ↓onNx_nx, ↓onNx_ret, ↓onNx_brk, ↓onNx_ct, ↓rdS_v, ↓rdS_ol, ↓onI_int, ↓onFn_fn, ↓onLst_l, ↓wF_ret, ↓wR_ok, ↓wR_ofO, ↓if_true, ↓if_false, ↓flF_ret, ↓flF_nx, oP_some, onB_some, onS_some, onNx_nx, onNx_ret, onNx_brk, onNx_ct, rdS_v, rdS_ol, onI_int, onFn_fn, onLst_l, wF_ret, wR_ok, wR_ofO, if_true, if_false, flF_ret, flF_nx, wR_ok, wR_no, wR_ofO, ↓wE_var, ↓wE_const, ↓wE_prim, ↓wE_slice, ↓wE_meth, ↓wE_mprim, ↓wE_tup, ↓wE_lst, ↓wE_cell, ↓wE_dic, ↓wE_and, ↓wE_or, ↓wE_not, ↓wE_if, ↓wE_chain, ↓wE_call, ↓wE_new, ↓wE_callv, onFn_fn, ↓wE_comp, ↓wE_scomp, ↓turnC_w, ↓wL_nil, ↓wL_cons, ↓wV_nil, ↓wV_cons, onI_int, ↓wP_nil, ↓wP_cons, ↓wCh_one, ↓wCh_more, ↓wIf_nil, ↓wIf_cons, ↓wI_seq, ↓wI_range, ↓wI_zip, ↓wA_peek, ↓wA_const, ↓wA_prim, ↓wA_slice, ↓wA_meth, ↓wA_mprim, ↓wA_tup, ↓wA_lst, ↓wA_cell, ↓wA_dic, ↓wA_and, ↓wA_or, ↓wA_not, ↓wA_ifE, ↓wA_chain, ↓wA_call, ↓wA_callv, ↓wA_new, ↓wA_comp, ↓wA_scomp, ↓wA_var, ↓look_nil, ↓look_cons, lookAV_d, lookAV_pk, slV_v, slV_ol, slV_oo, ↓rd_w, rdS_v, rdS_ol, ↓wS_asg, ↓wS_asgO, onLst_l, ↓wS_par, ↓wS_put, ↓wS_expr, ↓wS_ret, ↓wS_ite, ↓wS_for, ↓bodyS_w, ↓wS_while, ↓wS_pass, ↓wS_retN, ↓wS_brk, ↓wS_cont, ↓wB_nil, ↓wB_cons, flF_nx, flF_ret, onNx_nx, onNx_ret, onNx_brk, onNx_ct, onB_some, oP_some, oP_none, oP_blO, oP_notO, oP_lstO, onS_some, wF_ret, p_isi, p_eq, p_ne, p_lt, p_le, p_gt, p_ge, p_is, p_isnot, p_in, p_notin, p_item, p_len, p_all, p_any, p_add, p_sub, p_mul, p_fdiv, p_mod, p_pow, p_neg, p_abs, p_int, p_join, p_get2, p_get3, p_list, p_tuple, p_sorted, p_set, p_dict, p_attr, tru_bl, tru_non, v_non, v_bl, v_int, v_str, v_ty, v_fn, v_cls, v_tup, v_lst, v_dic, v_set, v_obj, lt_ii, le_ii, lt_ss, len_str, len_tup, len_lst, len_set, len_dic, sub_ii, add_ii, seq_str, seq_tup, seq_lst, item_ti, item_li, eq_ii, eq_ss, eq_bb, all_bls, ↓bindT_nm, ↓bindT_tup, ↓bindTs_nil, ↓bindTs_cons, List.all_cons, List.all_nil, List.set_cons_zero, List.set_cons_succ, List.getElem?_cons_zero, List.getElem?_cons_succ, List.getElem?_nil, wipeE, backE, List.foldl_cons, List.foldl_nil, Option.getD_some, List.length_cons, List.length_nil, List.length_set, Nat.reduceSub, Nat.reduceAdd, Nat.reduceLT, Nat.reduceLeDiff, List.replicate_succ, List.replicate_zero, List.map_cons, List.map_nil, List.nil_append, List.cons_append, List.append_nil, env0, decide_true, decide_false, Bool.and_true, Bool.true_and, Bool.not_true, Bool.not_false, Bool.false_eq_true, if_true, if_false, true_and, and_true, decide_eq_true_eq, Nat.zero_lt_succ, Nat.succ_lt_succ_iff, rng_w1, rng_w2, mul_w, fdiv_w, mod_w, pow_w, adds_w, addt_w, addl_w, atI_l0, atI_l1, atI_l2, atI_l3, atI_l4, nc0, nc1, nc2, nc3, nc4, nc5, nc6, nc7, Int.reduceBEq, noOwn_nil, noOwn_cons, ownF_v, ownF_n, ownF_vs])
local macro_rules | `(tactic| k_search $a) => `(tactic| simp (config := {failIfUnchanged := false, implicitDefEqProofs := false}) only [$a:term, eq_nil, v_FORMS, v_DIFF, in_FORMS, item_FORMS, in_DIFF, item_DIFF, slice1, setPar_nil, setPar_v, setPar_o, sl_10, sl_01, zp_tt, zp_ll, freeAt, Option.isSome_some, Option.isSome_none, Option.map_some, Option.map_none, List.drop_succ_cons, List.drop_zero, len_s, ty_dic, ty_sh, ty_un, v_sh, v_un, get_sh, get_un, is_nn, is_tn, s_name_name, s_name_bool, s_name_share, s_name_lot, s_name_deed, s_name_cells, s_name_heirs, s_bool_name, s_bool_bool, s_bool_share, s_bool_lot, s_bool_deed, s_bool_cells, s_bool_heirs, s_number_name, s_number_bool, s_number_share, s_number_lot, s_number_deed, s_number_cells, s_number_heirs, s_amount_name, s_amount_bool, s_amount_share, s_amount_lot, s_amount_deed, s_amount_cells, s_amount_heirs, s_day_name, s_day_bool, s_day_share, s_day_lot, s_day_deed, s_day_cells, s_day_heirs, s_share_name, s_share_bool, s_share_share, s_share_lot, s_share_deed, s_share_cells, s_share_heirs, s_lot_name, s_lot_bool, s_lot_share, s_lot_lot, s_lot_deed, s_lot_cells, s_lot_heirs, s_deed_name, s_deed_bool, s_deed_share, s_deed_lot, s_deed_deed, s_deed_cells, s_deed_heirs, s_heirs_name, s_heirs_bool, s_heirs_share, s_heirs_lot, s_heirs_deed, s_heirs_cells, s_heirs_heirs, s_cells_name, s_cells_bool, s_cells_share, s_cells_lot, s_cells_deed, s_cells_cells, s_cells_heirs, i_name, i_bool, i_number, i_amount, i_day, i_share, i_lot, i_deed, i_heirs, i_cells, in_si, ↓oP_some, ↓onB_some, ↓onS_some, ↓onNx_nx, ↓onNx_ret, ↓onNx_brk, ↓onNx_ct, ↓rdS_v, ↓rdS_ol, ↓onI_int, ↓onFn_fn, ↓onLst_l, ↓wF_ret, ↓wR_ok, ↓wR_ofO, ↓if_true, ↓if_false, ↓flF_ret, ↓flF_nx, oP_some, onB_some, onS_some, onNx_nx, onNx_ret, onNx_brk, onNx_ct, rdS_v, rdS_ol, onI_int, onFn_fn, onLst_l, wF_ret, wR_ok, wR_ofO, if_true, if_false, flF_ret, flF_nx, wR_ok, wR_no, wR_ofO, ↓wE_var, ↓wE_const, ↓wE_prim, ↓wE_slice, ↓wE_meth, ↓wE_mprim, ↓wE_tup, ↓wE_lst, ↓wE_cell, ↓wE_dic, ↓wE_and, ↓wE_or, ↓wE_not, ↓wE_if, ↓wE_chain, ↓wE_call, ↓wE_new, ↓wE_callv, onFn_fn, ↓wE_comp, ↓wE_scomp, ↓turnC_w, ↓wL_nil, ↓wL_cons, ↓wV_nil, ↓wV_cons, onI_int, ↓wP_nil, ↓wP_cons, ↓wCh_one, ↓wCh_more, ↓wIf_nil, ↓wIf_cons, ↓wI_seq, ↓wI_range, ↓wI_zip, ↓wA_peek, ↓wA_const, ↓wA_prim, ↓wA_slice, ↓wA_meth, ↓wA_mprim, ↓wA_tup, ↓wA_lst, ↓wA_cell, ↓wA_dic, ↓wA_and, ↓wA_or, ↓wA_not, ↓wA_ifE, ↓wA_chain, ↓wA_call, ↓wA_callv, ↓wA_new, ↓wA_comp, ↓wA_scomp, ↓wA_var, ↓look_nil, ↓look_cons, lookAV_d, lookAV_pk, slV_v, slV_ol, slV_oo, ↓rd_w, rdS_v, rdS_ol, ↓wS_asg, ↓wS_asgO, onLst_l, ↓wS_par, ↓wS_put, ↓wS_expr, ↓wS_ret, ↓wS_ite, ↓wS_for, ↓bodyS_w, ↓wS_while, ↓wS_pass, ↓wS_retN, ↓wS_brk, ↓wS_cont, ↓wB_nil, ↓wB_cons, flF_nx, flF_ret, onNx_nx, onNx_ret, onNx_brk, onNx_ct, onB_some, oP_some, oP_none, oP_blO, oP_notO, oP_lstO, onS_some, wF_ret, p_isi, p_eq, p_ne, p_lt, p_le, p_gt, p_ge, p_is, p_isnot, p_in, p_notin, p_item, p_len, p_all, p_any, p_add, p_sub, p_mul, p_fdiv, p_mod, p_pow, p_neg, p_abs, p_int, p_join, p_get2, p_get3, p_list, p_tuple, p_sorted, p_set, p_dict, p_attr, tru_bl, tru_non, v_non, v_bl, v_int, v_str, v_ty, v_fn, v_cls, v_tup, v_lst, v_dic, v_set, v_obj, lt_ii, le_ii, lt_ss, len_str, len_tup, len_lst, len_set, len_dic, sub_ii, add_ii, seq_str, seq_tup, seq_lst, item_ti, item_li, eq_ii, eq_ss, eq_bb, all_bls, ↓bindT_nm, ↓bindT_tup, ↓bindTs_nil, ↓bindTs_cons, List.all_cons, List.all_nil, List.set_cons_zero, List.set_cons_succ, List.getElem?_cons_zero, List.getElem?_cons_succ, List.getElem?_nil, wipeE, backE, List.foldl_cons, List.foldl_nil, Option.getD_some, List.length_cons, List.length_nil, List.length_set, Nat.reduceSub, Nat.reduceAdd, Nat.reduceLT, Nat.reduceLeDiff, List.replicate_succ, List.replicate_zero, List.map_cons, List.map_nil, List.nil_append, List.cons_append, List.append_nil, env0, decide_true, decide_false, Bool.and_true, Bool.true_and, Bool.not_true, Bool.not_false, Bool.false_eq_true, if_true, if_false, true_and, and_true, decide_eq_true_eq, Nat.zero_lt_succ, Nat.succ_lt_succ_iff, rng_w1, rng_w2, mul_w, fdiv_w, mod_w, pow_w, adds_w, addt_w, addl_w, atI_l0, atI_l1, atI_l2, atI_l3, atI_l4, nc0, nc1, nc2, nc3, nc4, nc5, nc6, nc7, Int.reduceBEq, noOwn_nil, noOwn_cons, ownF_v, ownF_n, ownF_vs])
local macro_rules | `(tactic| ktr_call $a $b) => `(tactic| simp (config := {failIfUnchanged := false, implicitDefEqProofs := false}) only [$a:term, $b:term, eq_nil, v_FORMS, v_DIFF, in_FORMS, item_FORMS, in_DIFF, item_DIFF, slice1, setPar_nil, setPar_v, setPar_o, sl_10, sl_01, zp_tt, zp_ll, freeAt, Option.isSome_some, Option.isSome_none, Option.map_some, Option.map_none, List.drop_succ_cons, List.drop_zero, len_s, ty_dic, ty_sh, ty_un, v_sh, v_un, get_sh, get_un, is_nn, is_tn, s_name_name, s_name_bool, s_name_share, s_name_lot, s_name_deed, s_name_cells, s_name_heirs, s_bool_name, s_bool_bool, s_bool_share, s_bool_lot, s_bool_deed, s_bool_cells, s_bool_heirs, s_number_name, s_number_bool, s_number_share, s_number_lot, s_number_deed, s_number_cells, s_number_heirs, s_amount_name, s_amount_bool, s_amount_share, s_amount_lot, s_amount_deed, s_amount_cells, s_amount_heirs, s_day_name, s_day_bool, s_day_share, s_day_lot, s_day_deed, s_day_cells, s_day_heirs, s_share_name, s_share_bool, s_share_share, s_share_lot, s_share_deed, s_share_cells, s_share_heirs, s_lot_name, s_lot_bool, s_lot_share, s_lot_lot, s_lot_deed, s_lot_cells, s_lot_heirs, s_deed_name, s_deed_bool, s_deed_share, s_deed_lot, s_deed_deed, s_deed_cells, s_deed_heirs, s_heirs_name, s_heirs_bool, s_heirs_share, s_heirs_lot, s_heirs_deed, s_heirs_cells, s_heirs_heirs, s_cells_name, s_cells_bool, s_cells_share, s_cells_lot, s_cells_deed, s_cells_cells, s_cells_heirs, i_name, i_bool, i_number, i_amount, i_day, i_share, i_lot, i_deed, i_heirs, i_cells, in_si, ↓oP_some, ↓onB_some, ↓onS_some, ↓onNx_nx, ↓onNx_ret, ↓onNx_brk, ↓onNx_ct, ↓rdS_v, ↓rdS_ol, ↓onI_int, ↓onFn_fn, ↓onLst_l, ↓wF_ret, ↓wR_ok, ↓wR_ofO, ↓if_true, ↓if_false, ↓flF_ret, ↓flF_nx, oP_some, onB_some, onS_some, onNx_nx, onNx_ret, onNx_brk, onNx_ct, rdS_v, rdS_ol, onI_int, onFn_fn, onLst_l, wF_ret, wR_ok, wR_ofO, if_true, if_false, flF_ret, flF_nx, wR_ok, wR_no, wR_ofO, ↓wE_var, ↓wE_const, ↓wE_prim, ↓wE_slice, ↓wE_meth, ↓wE_mprim, ↓wE_tup, ↓wE_lst, ↓wE_cell, ↓wE_dic, ↓wE_and, ↓wE_or, ↓wE_not, ↓wE_if, ↓wE_chain, ↓wE_call, ↓wE_new, ↓wE_callv, onFn_fn, ↓wE_comp, ↓wE_scomp, ↓turnC_w, ↓wL_nil, ↓wL_cons, ↓wV_nil, ↓wV_cons, onI_int, ↓wP_nil, ↓wP_cons, ↓wCh_one, ↓wCh_more, ↓wIf_nil, ↓wIf_cons, ↓wI_seq, ↓wI_range, ↓wI_zip, ↓wA_peek, ↓wA_const, ↓wA_prim, ↓wA_slice, ↓wA_meth, ↓wA_mprim, ↓wA_tup, ↓wA_lst, ↓wA_cell, ↓wA_dic, ↓wA_and, ↓wA_or, ↓wA_not, ↓wA_ifE, ↓wA_chain, ↓wA_call, ↓wA_callv, ↓wA_new, ↓wA_comp, ↓wA_scomp, ↓wA_var, ↓look_nil, ↓look_cons, lookAV_d, lookAV_pk, slV_v, slV_ol, slV_oo, ↓rd_w, rdS_v, rdS_ol, ↓wS_asg, ↓wS_asgO, onLst_l, ↓wS_par, ↓wS_put, ↓wS_expr, ↓wS_ret, ↓wS_ite, ↓wS_for, ↓bodyS_w, ↓wS_while, ↓wS_pass, ↓wS_retN, ↓wS_brk, ↓wS_cont, ↓wB_nil, ↓wB_cons, flF_nx, flF_ret, onNx_nx, onNx_ret, onNx_brk, onNx_ct, onB_some, oP_some, oP_none, oP_blO, oP_notO, oP_lstO, onS_some, wF_ret, p_isi, p_eq, p_ne, p_lt, p_le, p_gt, p_ge, p_is, p_isnot, p_in, p_notin, p_item, p_len, p_all, p_any, p_add, p_sub, p_mul, p_fdiv, p_mod, p_pow, p_neg, p_abs, p_int, p_join, p_get2, p_get3, p_list, p_tuple, p_sorted, p_set, p_dict, p_attr, tru_bl, tru_non, v_non, v_bl, v_int, v_str, v_ty, v_fn, v_cls, v_tup, v_lst, v_dic, v_set, v_obj, lt_ii, le_ii, lt_ss, len_str, len_tup, len_lst, len_set, len_dic, sub_ii, add_ii, seq_str, seq_tup, seq_lst, item_ti, item_li, eq_ii, eq_ss, eq_bb, all_bls, ↓bindT_nm, ↓bindT_tup, ↓bindTs_nil, ↓bindTs_cons, List.all_cons, List.all_nil, List.set_cons_zero, List.set_cons_succ, List.getElem?_cons_zero, List.getElem?_cons_succ, List.getElem?_nil, wipeE, backE, List.foldl_cons, List.foldl_nil, Option.getD_some, List.length_cons, List.length_nil, List.length_set, Nat.reduceSub, Nat.reduceAdd, Nat.reduceLT, Nat.reduceLeDiff, List.replicate_succ, List.replicate_zero, List.map_cons, List.map_nil, List.nil_append, List.cons_append, List.append_nil, env0, decide_true, decide_false, Bool.and_true, Bool.true_and, Bool.not_true, Bool.not_false, Bool.false_eq_true, if_true, if_false, true_and, and_true, decide_eq_true_eq, Nat.zero_lt_succ, Nat.succ_lt_succ_iff, rng_w1, rng_w2, mul_w, fdiv_w, mod_w, pow_w, adds_w, addt_w, addl_w, atI_l0, atI_l1, atI_l2, atI_l3, atI_l4, nc0, nc1, nc2, nc3, nc4, nc5, nc6, nc7, Int.reduceBEq, noOwn_nil, noOwn_cons, ownF_v, ownF_n, ownF_vs])
local macro_rules | `(tactic| k_whileD $a $b $c "w") => `(tactic| simp (config := {failIfUnchanged := false, implicitDefEqProofs := false}) only [$a:term, $b:term, $c:term, eq_nil, v_FORMS, v_DIFF, in_FORMS, item_FORMS, in_DIFF, item_DIFF, slice1, setPar_nil, setPar_v, setPar_o, sl_10, sl_01, zp_tt, zp_ll, freeAt, Option.isSome_some, Option.isSome_none, Option.map_some, Option.map_none, List.drop_succ_cons, List.drop_zero, len_s, ty_dic, ty_sh, ty_un, v_sh, v_un, get_sh, get_un, is_nn, is_tn, s_name_name, s_name_bool, s_name_share, s_name_lot, s_name_deed, s_name_cells, s_name_heirs, s_bool_name, s_bool_bool, s_bool_share, s_bool_lot, s_bool_deed, s_bool_cells, s_bool_heirs, s_number_name, s_number_bool, s_number_share, s_number_lot, s_number_deed, s_number_cells, s_number_heirs, s_amount_name, s_amount_bool, s_amount_share, s_amount_lot, s_amount_deed, s_amount_cells, s_amount_heirs, s_day_name, s_day_bool, s_day_share, s_day_lot, s_day_deed, s_day_cells, s_day_heirs, s_share_name, s_share_bool, s_share_share, s_share_lot, s_share_deed, s_share_cells, s_share_heirs, s_lot_name, s_lot_bool, s_lot_share, s_lot_lot, s_lot_deed, s_lot_cells, s_lot_heirs, s_deed_name, s_deed_bool, s_deed_share, s_deed_lot, s_deed_deed, s_deed_cells, s_deed_heirs, s_heirs_name, s_heirs_bool, s_heirs_share, s_heirs_lot, s_heirs_deed, s_heirs_cells, s_heirs_heirs, s_cells_name, s_cells_bool, s_cells_share, s_cells_lot, s_cells_deed, s_cells_cells, s_cells_heirs, i_name, i_bool, i_number, i_amount, i_day, i_share, i_lot, i_deed, i_heirs, i_cells, in_si, ↓oP_some, ↓onB_some, ↓onS_some, ↓onNx_nx, ↓onNx_ret, ↓onNx_brk, ↓onNx_ct, ↓rdS_v, ↓rdS_ol, ↓onI_int, ↓onFn_fn, ↓onLst_l, ↓wF_ret, ↓wR_ok, ↓wR_ofO, ↓if_true, ↓if_false, ↓flF_ret, ↓flF_nx, oP_some, onB_some, onS_some, onNx_nx, onNx_ret, onNx_brk, onNx_ct, rdS_v, rdS_ol, onI_int, onFn_fn, onLst_l, wF_ret, wR_ok, wR_ofO, if_true, if_false, flF_ret, flF_nx, wR_ok, wR_no, wR_ofO, ↓wE_var, ↓wE_const, ↓wE_prim, ↓wE_slice, ↓wE_meth, ↓wE_mprim, ↓wE_tup, ↓wE_lst, ↓wE_cell, ↓wE_dic, ↓wE_and, ↓wE_or, ↓wE_not, ↓wE_if, ↓wE_chain, ↓wE_call, ↓wE_new, ↓wE_callv, onFn_fn, ↓wE_comp, ↓wE_scomp, ↓turnC_w, ↓wL_nil, ↓wL_cons, ↓wV_nil, ↓wV_cons, onI_int, ↓wP_nil, ↓wP_cons, ↓wCh_one, ↓wCh_more, ↓wIf_nil, ↓wIf_cons, ↓wI_seq, ↓wI_range, ↓wI_zip, ↓wA_peek, ↓wA_const, ↓wA_prim, ↓wA_slice, ↓wA_meth, ↓wA_mprim, ↓wA_tup, ↓wA_lst, ↓wA_cell, ↓wA_dic, ↓wA_and, ↓wA_or, ↓wA_not, ↓wA_ifE, ↓wA_chain, ↓wA_call, ↓wA_callv, ↓wA_new, ↓wA_comp, ↓wA_scomp, ↓wA_var, ↓look_nil, ↓look_cons, lookAV_d, lookAV_pk, slV_v, slV_ol, slV_oo, ↓rd_w, rdS_v, rdS_ol, ↓wS_asg, ↓wS_asgO, onLst_l, ↓wS_par, ↓wS_put, ↓wS_expr, ↓wS_ret, ↓wS_ite, ↓wS_for, ↓bodyS_w, ↓wS_while, ↓wS_pass, ↓wS_retN, ↓wS_brk, ↓wS_cont, ↓wB_nil, ↓wB_cons, flF_nx, flF_ret, onNx_nx, onNx_ret, onNx_brk, onNx_ct, onB_some, oP_some, oP_none, oP_blO, oP_notO, oP_lstO, onS_some, wF_ret, p_isi, p_eq, p_ne, p_lt, p_le, p_gt, p_ge, p_is, p_isnot, p_in, p_notin, p_item, p_len, p_all, p_any, p_add, p_sub, p_mul, p_fdiv, p_mod, p_pow, p_neg, p_abs, p_int, p_join, p_get2, p_get3, p_list, p_tuple, p_sorted, p_set, p_dict, p_attr, tru_bl, tru_non, v_non, v_bl, v_int, v_str, v_ty, v_fn, v_cls, v_tup, v_lst, v_dic, v_set, v_obj, lt_ii, le_ii, lt_ss, len_str, len_tup, len_lst, len_set, len_dic, sub_ii, add_ii, seq_str, seq_tup, seq_lst, item_ti, item_li, eq_ii, eq_ss, eq_bb, all_bls, ↓bindT_nm, ↓bindT_tup, ↓bindTs_nil, ↓bindTs_cons, List.all_cons, List.all_nil, List.set_cons_zero, List.set_cons_succ, List.getElem?_cons_zero, List.getElem?_cons_succ, List.getElem?_nil, wipeE, backE, List.foldl_cons, List.foldl_nil, Option.getD_some, List.length_cons, List.length_nil, List.length_set, Nat.reduceSub, Nat.reduceAdd, Nat.reduceLT, Nat.reduceLeDiff, List.replicate_succ, List.replicate_zero, List.map_cons, List.map_nil, List.nil_append, List.cons_append, List.append_nil, env0, decide_true, decide_false, Bool.and_true, Bool.true_and, Bool.not_true, Bool.not_false, Bool.false_eq_true, if_true, if_false, true_and, and_true, decide_eq_true_eq, Nat.zero_lt_succ, Nat.succ_lt_succ_iff, rng_w1, rng_w2, mul_w, fdiv_w, mod_w, pow_w, adds_w, addt_w, addl_w, atI_l0, atI_l1, atI_l2, atI_l3, atI_l4, nc0, nc1, nc2, nc3, nc4, nc5, nc6, nc7, Int.reduceBEq, noOwn_nil, noOwn_cons, ownF_v, ownF_n, ownF_vs])
theorem rg_ok {a : Int} : dicOk [.str "number", .str "amount", .str "day"] [.tup [.int 1, .int 999], .tup [.int 1, .int a], .tup [.int 0, .int 9999]] = true := by kernel_rfl
theorem rg_number {a : Int} : itemD (.dic [.str "number", .str "amount", .str "day"] [.tup [.int 1, .int 999], .tup [.int 1, .int a], .tup [.int 0, .int 9999]]) (.str "number") = some (.tup [.int 1, .int 999]) := by kernel_rfl
theorem rg_amount {a : Int} : itemD (.dic [.str "number", .str "amount", .str "day"] [.tup [.int 1, .int 999], .tup [.int 1, .int a], .tup [.int 0, .int 9999]]) (.str "amount") = some (.tup [.int 1, .int a]) := by kernel_rfl
theorem rg_day {a : Int} : itemD (.dic [.str "number", .str "amount", .str "day"] [.tup [.int 1, .int 999], .tup [.int 1, .int a], .tup [.int 0, .int 9999]]) (.str "day") = some (.tup [.int 0, .int 9999]) := by kernel_rfl
theorem rowD_row {lo hi : Nat} {ds : List D} : isRowD lo hi (.tup ds) = isRow lo hi ds := by
  show (decide ((lo : Int) ≤ (ds.length : Int)) && decide ((ds.length : Int) ≤ (hi : Int))) = (decide (lo ≤ ds.length) && decide (ds.length ≤ hi))
  rw [Bool.eq_iff_iff]
  simp only [Bool.and_eq_true, decide_eq_true_eq]
  omega
section
variable {n k : Nat} {x : D} {S : Sto}
theorem l_name (h : gd k x = true) : G (n + 1) (.fn "_law_is_name") [x] S = .ret (.bl (isName x)) S := by
  rw [wF_eq, G_fn (c := c__law_is_name) rfl rfl rfl (by decide)]
  simp only [c__law_is_name]
  ktr_call (view_good h) (isi_str h)
  have h1 := gd_pl h
  cases x with
  | str s =>
    simp only [isSt]
    walk_at "w"
    by_cases c1 : (0 : Int) < s.length
    · by_cases c2 : (s.length : Int) < 7
      · simp only [c1, c2]
        walk_at "w"
        refine comp_map (fun c => D.str ⟨#[c]⟩) (fun c => .bl (letter c)) s.cps.toList ?_ (fun c _ => ?_) ?_
        · exact ne_len (a := 6) (by have : s.cps.toList.length = s.length := Array.length_toList; omega) (by omega)
        · k_search (in_abc)
        · walk_at "w"
          have e1 : 1 ≤ s.length := by omega
          have e2 : s.length ≤ 6 := by omega
          simp [isName, e1, e2]
      · simp only [c1, c2]
        walk_at "w"
        have e2 : ¬ s.length ≤ 6 := by omega
        simp [isName, e2]
    · simp only [c1]
      walk_at "w"
      have e2 : ¬ 1 ≤ s.length := by omega
      simp only [isName, e2]
      rfl
  | _ => first | (simp only [isSt]; walk_at "w"; simp [isName]) | cases h1
theorem l_int (h : gd k x = true) {lo hi : Int} : G (n + 1) (.fn "_law_is_int") [x, .int lo, .int hi] S = .ret (.bl (isNum lo hi x)) S := by
  rw [wF_eq, G_fn (c := c__law_is_int) rfl rfl rfl (by decide)]
  simp only [c__law_is_int]
  k_whileD (view_good h) (isi_int h) (isi_bool h) "w"
  have h1 := gd_pl h
  cases x with
  | int i =>
    simp only [isI, isBl]
    walk_at "w"
    simp only [isNum]
    by_cases c : lo ≤ i <;> simp [c]
  | _ => first | (simp only [isI, isBl]; walk_at "w"; simp [isNum]) | cases h1
theorem l_row (h : gd k x = true) {lo hi : Int} : G (n + 1) (.fn "_law_is_row") [x, .int lo, .int hi] S = .ret (.bl (isRowD lo hi x)) S := by
  rw [wF_eq, G_fn (c := c__law_is_row) rfl rfl rfl (by decide)]
  simp only [c__law_is_row]
  ktr_call (view_good h) (isi_tup h)
  have h1 := gd_pl h
  cases x with
  | tup ds =>
    simp only [isTu]
    walk_at "w"
    simp only [isRowD]
    by_cases c : lo ≤ (ds.length : Int) <;> simp [c]
  | _ => first | (simp only [isTu]; walk_at "w"; simp [isRowD]) | cases h1
theorem l_shapes : G (n + 1) (.fn "_law_shapes") [] S = .ret shapesD S := by kernel_rfl
theorem l_unlike : G (n + 1) (.fn "_law_unlike_items") [] S = .ret unlikeD S := by kernel_rfl
theorem lk_name (h : gd k x = true) : G (n + 2) (.fn "_law_is_kind") [x, .str "name"] S = .ret (.bl (isName x)) S := by
  rw [wF_eq, G_fn (c := c__law_is_kind) rfl rfl rfl (by decide)]
  simp only [c__law_is_kind]
  k_search (l_name h)
theorem lk_bool (h : gd k x = true) : G (n + 2) (.fn "_law_is_kind") [x, .str "bool"] S = .ret (.bl (isBl x)) S := by
  rw [wF_eq, G_fn (c := c__law_is_kind) rfl rfl rfl (by decide)]
  simp only [c__law_is_kind]
  ktr_call (view_good h) (isi_bool h)
theorem lk_number (h : gd k x = true) : G (n + 2) (.fn "_law_is_kind") [x, .str "number"] S = .ret (.bl (isNum 1 999 x)) S := by
  rw [wF_eq, G_fn (c := c__law_is_kind) rfl rfl rfl (by decide)]
  simp only [c__law_is_kind]
  k_whileD (rg_number) (rg_ok) (l_int h) "w"
  decide
theorem lk_day (h : gd k x = true) : G (n + 2) (.fn "_law_is_kind") [x, .str "day"] S = .ret (.bl (isNum 0 9999 x)) S := by
  rw [wF_eq, G_fn (c := c__law_is_kind) rfl rfl rfl (by decide)]
  simp only [c__law_is_kind]
  k_whileD (rg_day) (rg_ok) (l_int h) "w"
  decide
theorem lk_amount (h : gd k x = true) : G (n + 2) (.fn "_law_is_kind") [x, .str "amount"] S = .ret (.bl (isNum 1 999999999999 x)) S := by
  rw [wF_eq, G_fn (c := c__law_is_kind) rfl rfl rfl (by decide)]
  simp only [c__law_is_kind]
  k_whileD (rg_amount) (rg_ok) (l_int h) "w"
  refine ⟨by decide, ?_⟩
  simp only [show (10 : Int) ^ Int.toNat 12 - 1 = 999999999999 from by decide]
theorem lk_share (h : gd k x = true) : G (n + 2) (.fn "_law_is_kind") [x, .str "share"] S = .ret (.bl (isShare x)) S := by
  rw [wF_eq, G_fn (c := c__law_is_kind) rfl rfl rfl (by decide)]
  simp only [c__law_is_kind]
  ktr_call (view_good h) (isi_share h)
  have h1 := gd_pl h
  cases x with
  | obj c fs vs =>
    obtain ⟨rfl, rfl, a, b, rfl⟩ := gd_obj h
    simp only [isOb]
    ktr_call (show attrD "top" (.obj "Share" fTB [.int a, .int b]) = some (.int a) from rfl) (show attrD "bottom" (.obj "Share" fTB [.int a, .int b]) = some (.int b) from rfl)
    simp only [isShare]
    by_cases c1 : 0 < a <;> by_cases c2 : a ≤ b <;> simp [c1, c2]
  | _ => first | (simp only [isOb]; walk_at "w"; simp [isShare]) | cases h1
theorem lk_lot (h : gd k x = true) : G (n + 2) (.fn "_law_is_kind") [x, .str "lot"] S = .ret (.bl (isLot x)) S := by
  rw [wF_eq, G_fn (c := c__law_is_kind) rfl rfl rfl (by decide)]
  simp only [c__law_is_kind]
  cases er : isRowD 1 12 x with
  | false =>
    ktr_call (l_row h) er
    cases x with
    | tup ds =>
      have : isRow 1 12 ds = false := by rw [← er]; exact rowD_row.symm
      simp only [isLot, this, Bool.false_and]
    | _ => rfl
  | true =>
    cases x with
    | tup ds =>
      cases k with
      | zero => cases h
      | succ k =>
      obtain ⟨hd, hl⟩ := gd_tup h
      have er2 : isRow 1 12 ds = true := by rw [← er]; exact rowD_row.symm
      have er3 := er2
      unfold isRow at er3
      simp only [Bool.and_eq_true, decide_eq_true_eq] at er3
      ktr_call (l_row h) er
      refine comp_list (fun d => .bl (isName d)) ds (ne_len hl (by omega)) (fun d m => ?_) ?_
      · k_search (l_name (hd d m))
      · walk_at "w"
        cases c3 : ds.all isName with
        | false =>
          walk_at "w"
          simp only [isLot, c3, Bool.and_false, Bool.false_and]
        | true =>
          walk_at "w"
          rw [show (ds.length : Int) - 1 = ((ds.length - 1 : Nat) : Int) by omega]
          refine ⟨ok0 (by omega), ?_⟩
          rw [rangeD0]
          refine comp_map (fun (i : Nat) => D.int (i : Int)) (fun i => .bl (ltAt ds i)) (List.range (ds.length - 1)) ?_ (fun j m => ?_) ?_
          · rw [List.length_range]; rw [sizeLine_eq]; omega
          · have hj : j < ds.length - 1 := List.mem_range.mp m
            walk_at "w"
            rw [show ((j : Int) + 1) = ((j + 1 : Nat) : Int) by omega, atI_nn, atI_nn]
            obtain ⟨a, ha⟩ := name_at c3 (j := j) (by omega)
            obtain ⟨b, hb⟩ := name_at c3 (j := j + 1) (by omega)
            simp only [ltAt, ha, hb]
            walk_at "w"
          · walk_at "w"
            simp only [isLot, er2, c3, Bool.true_and]
    | _ => cases er
theorem r2_is {z : D} (h : isRowD 2 2 z = true) : ∃ a b, z = .tup [a, b] := by
  cases z with
  | tup ds =>
    have : isRow 2 2 ds = true := by rw [← h]; exact rowD_row.symm
    unfold isRow at this
    simp only [Bool.and_eq_true, decide_eq_true_eq] at this
    match ds, this with
    | [a, b], _ => exact ⟨a, b, rfl⟩
    | [], q => simp at q
    | [a], q => simp at q
    | a :: b :: c :: t, q => simp at q
  | _ => cases h
theorem r2_cell {z : D} (h : isRowD 2 2 z = false) : isCell z = false := by
  cases e : isCell z with
  | false => rfl
  | true =>
    obtain ⟨a, b, rfl⟩ := cell_is e
    exact absurd (show isRowD 2 2 (.tup [a, b]) = true from rfl) (by rw [h]; decide)
theorem r2_heir {z : D} (h : isRowD 2 2 z = false) : isHeir z = false := by
  cases e : isHeir z with
  | false => rfl
  | true =>
    obtain ⟨a, b, rfl⟩ := heir_is e
    exact absurd (show isRowD 2 2 (.tup [a, b]) = true from rfl) (by rw [h]; decide)
theorem all_no {ds : List D} {p q : D → Bool} (h : ds.all p = false) (i : ∀ z, p z = false → q z = false) : ds.all q = false := by
  rw [← Bool.not_eq_true, List.all_eq_true] at h ⊢
  intro z
  refine h fun d m => ?_
  cases e : p d with
  | true => rfl
  | false => exact absurd (z d m) (by rw [i d e]; decide)
def ck (d : D) : List Key := (ci d).map .inl
theorem dict_heirs {ds : List D} (h : ds.all isHeir = true) : dictOfD (.lst ((ds.map fst0).map fun d => .tup [d, .bl true])) = some (D.set ((dd (ds.map hk)).map keyD)) := by
  show (match mapO fstD ((ds.map fst0).map fun d => .tup [d, .bl true]) with
    | some ks => (match mapO keyO ks with
      | some qs => some (D.set ((dd qs).map keyD))
      | none => match mapO keyT ks with
        | some qs => some (D.set ((dd qs).map fun (q : List Key) => D.tup (q.map keyD)))
        | none => none)
    | none => none) = _
  have e1 : mapO fstD ((ds.map fst0).map fun d => .tup [d, .bl true]) = some (ds.map fst0) := by
    rw [mapO_map]
    have := mapO_of (l := ds.map fst0) (f := fun a => fstD (.tup [a, .bl true])) (g := fun a => a) (fun a _ => rfl)
    rwa [List.map_id'] at this
  rw [e1]
  simp only [keys_heirs h]
theorem keyT_cell {d : D} (h : isCell d = true) : keyO d = none ∧ keyT d = some (ck d) := by
  obtain ⟨a, b, rfl⟩ := cell_is h
  have h2 : (isNum 0 11 a && isNum 0 11 b) = true := h
  rw [Bool.and_eq_true] at h2
  obtain ⟨i, rfl, _⟩ := num_is h2.1
  obtain ⟨j, rfl, _⟩ := num_is h2.2
  exact ⟨rfl, rfl⟩
theorem dict_cells {ds : List D} (h : ds.all isCell = true) (ne : 1 ≤ ds.length) : dictOfD (.lst (ds.map fun d => .tup [d, .bl true])) = some (D.set ((dd (ds.map ck)).map fun (q : List Key) => D.tup (q.map keyD))) := by
  show (match mapO fstD (ds.map fun d => .tup [d, .bl true]) with
    | some ks => (match mapO keyO ks with
      | some qs => some (D.set ((dd qs).map keyD))
      | none => match mapO keyT ks with
        | some qs => some (D.set ((dd qs).map fun (q : List Key) => D.tup (q.map keyD)))
        | none => none)
    | none => none) = _
  have e1 : mapO fstD (ds.map fun d => .tup [d, .bl true]) = some ds := by
    rw [mapO_map]
    have := mapO_of (l := ds) (f := fun a => fstD (.tup [a, .bl true])) (g := fun a => a) (fun a _ => rfl)
    rwa [List.map_id'] at this
  have e2 : mapO keyO ds = none := by
    match ds, ne, h with
    | d :: ds, _, h =>
      unfold mapO
      rw [(keyT_cell (List.all_eq_true.mp h d List.mem_cons_self)).1]
  have e3 : mapO keyT ds = some (ds.map ck) := mapO_of fun d m => (keyT_cell (List.all_eq_true.mp h d m)).2
  rw [e1]
  simp only [e2, e3]
theorem dd_inj {α β : Type} [DecidableEq α] [DecidableEq β] {f : α → β} (hf : ∀ a b, f a = f b → a = b) : ∀ (l : List α), dd (l.map f) = (dd l).map f
  | [] => rfl
  | a :: l => by
    show (if f a ∈ l.map f then dd (l.map f) else f a :: dd (l.map f)) = (if a ∈ l then dd l else a :: dd l).map f
    rw [dd_inj hf l]
    have : f a ∈ l.map f ↔ a ∈ l := by
      rw [List.mem_map]
      constructor
      · rintro ⟨b, m, e⟩
        rw [← hf _ _ e]; exact m
      · exact fun m => ⟨a, m, rfl⟩
    by_cases c : a ∈ l
    · rw [if_pos (this.mpr c), if_pos c]
    · rw [if_neg (fun z => c (this.mp z)), if_neg c]; rfl
theorem inl_inj : ∀ {a b : List Int}, a.map (Sum.inl : Int → Key) = b.map Sum.inl → a = b
  | [], [], _ => rfl
  | [], _ :: _, h => by cases h
  | _ :: _, [], h => by cases h
  | x :: a, y :: b, h => by
    rw [List.map_cons, List.map_cons] at h
    injection h with h1 h2
    rw [Sum.inl.inj h1, inl_inj h2]
theorem dd_ck {ds : List D} : (dd (ds.map ck)).length = (dd (ds.map ci)).length := by
  have : ds.map ck = (ds.map ci).map (List.map Sum.inl) := by rw [List.map_map]; rfl
  rw [this, dd_inj, List.length_map]
  intro a b e
  exact inl_inj e
theorem lk_heirs (h : gd k x = true) : G (n + 2) (.fn "_law_is_kind") [x, .str "heirs"] S = .ret (.bl (isHeirs x)) S := by
  rw [wF_eq, G_fn (c := c__law_is_kind) rfl rfl rfl (by decide)]
  simp only [c__law_is_kind]
  cases er : isRowD 1 4 x with
  | false =>
    ktr_call (l_row h) er
    cases x with
    | tup ds =>
      have : isRow 1 4 ds = false := by rw [← er]; exact rowD_row.symm
      simp only [isHeirs, this, Bool.false_and]
    | _ => rfl
  | true =>
    cases x with
    | tup ds =>
      cases k with
      | zero => cases h
      | succ k =>
      obtain ⟨hd, hl⟩ := gd_tup h
      have er2 : isRow 1 4 ds = true := by rw [← er]; exact rowD_row.symm
      have er3 := er2
      unfold isRow at er3
      simp only [Bool.and_eq_true, decide_eq_true_eq] at er3
      ktr_call (l_row h) er
      refine comp_list (fun d => .bl (isRowD 2 2 d)) ds (ne_len hl (by omega)) (fun d m => ?_) ?_
      · k_search (l_row (hd d m))
      · walk_at "w"
        cases c3 : ds.all (isRowD 2 2) with
        | false =>
          walk_at "w"
          simp only [isHeirs, all_no c3 (fun z => r2_heir), Bool.and_false, Bool.false_and]
        | true =>
          walk_at "w"
          refine comp_list fst0 ds (ne_len hl (by omega)) (fun d m => ?_) ?_
          · obtain ⟨a, b, rfl⟩ := r2_is (List.all_eq_true.mp c3 d m)
            walk_at "w"
            simp only [fst0]
          · walk_at "w"
            refine comp_list (fun d => .bl (isHeir d)) ds (ne_len hl (by omega)) (fun d m => ?_) ?_
            · obtain ⟨a, b, rfl⟩ := r2_is (List.all_eq_true.mp c3 d m)
              cases k with
              | zero => exact (gd_tup0 (hd _ m)).elim
              | succ k =>
                have hm := (gd_tup (hd _ m)).1
                ktr_call (l_name (hm a (by simp))) (l_int (hm b (by simp)))
                simp only [isHeir]
                cases isName a <;> simp
            · walk_at "w"
              cases c4 : ds.all isHeir with
              | false =>
                walk_at "w"
                simp only [isHeirs, c4, Bool.and_false, Bool.false_and]
              | true =>
                walk_at "w"
                refine comp_list (fun d => .tup [d, .bl true]) (ds.map fst0) (by rw [List.length_map]; exact ne_len hl (by omega)) (fun d m => ?_) ?_
                · walk_at "w"
                · rw [dict_heirs c4]
                  walk_at "w"
                  simp only [isHeirs, er2, c4, List.length_map, Bool.true_and]
                  rw [show (((dd (ds.map hk)).length : Int) == (ds.length : Int)) = decide ((dd (ds.map hk)).length = ds.length) from ?_]
                  rw [Bool.eq_iff_iff, beq_iff_eq, decide_eq_true_eq]
                  omega
    | _ => cases er
theorem lk_cells (h : gd k x = true) : G (n + 2) (.fn "_law_is_kind") [x, .str "cells"] S = .ret (.bl (isCells x)) S := by
  rw [wF_eq, G_fn (c := c__law_is_kind) rfl rfl rfl (by decide)]
  simp only [c__law_is_kind]
  cases er : isRowD 1 144 x with
  | false =>
    ktr_call (l_row h) er
    cases x with
    | tup ds =>
      have : isRow 1 144 ds = false := by rw [← er]; exact rowD_row.symm
      simp only [isCells, this, Bool.false_and]
    | _ => rfl
  | true =>
    cases x with
    | tup ds =>
      cases k with
      | zero => cases h
      | succ k =>
      obtain ⟨hd, hl⟩ := gd_tup h
      have er2 : isRow 1 144 ds = true := by rw [← er]; exact rowD_row.symm
      have er3 := er2
      unfold isRow at er3
      simp only [Bool.and_eq_true, decide_eq_true_eq] at er3
      ktr_call (l_row h) er
      refine comp_list (fun d => .bl (isRowD 2 2 d)) ds (ne_len hl (by omega)) (fun d m => ?_) ?_
      · k_search (l_row (hd d m))
      · walk_at "w"
        cases c3 : ds.all (isRowD 2 2) with
        | false =>
          walk_at "w"
          simp only [isCells, all_no c3 (fun z => r2_cell), Bool.and_false, Bool.false_and]
        | true =>
          walk_at "w"
          refine comp_list fst0 ds (ne_len hl (by omega)) (fun d m => ?_) ?_
          · obtain ⟨a, b, rfl⟩ := r2_is (List.all_eq_true.mp c3 d m)
            walk_at "w"
            simp only [fst0]
          · walk_at "w"
            refine comp_list (fun d => .bl (isCell d)) ds (ne_len hl (by omega)) (fun d m => ?_) ?_
            · obtain ⟨a, b, rfl⟩ := r2_is (List.all_eq_true.mp c3 d m)
              cases k with
              | zero => exact (gd_tup0 (hd _ m)).elim
              | succ k =>
                have hm := (gd_tup (hd _ m)).1
                ktr_call (l_int (hm a (by simp))) (l_int (hm b (by simp)))
                simp only [isCell]
                cases isNum 0 11 a <;> simp
            · walk_at "w"
              cases c4 : ds.all isCell with
              | false =>
                walk_at "w"
                simp only [isCells, c4, Bool.and_false, Bool.false_and]
              | true =>
                walk_at "w"
                refine comp_list (fun d => .tup [d, .bl true]) ds (ne_len hl (by omega)) (fun d m => ?_) ?_
                · walk_at "w"
                · rw [dict_cells c4 er3.1]
                  walk_at "w"
                  simp only [isCells, er2, c4, List.length_map, Bool.true_and, dd_ck]
                  rw [show (((dd (ds.map ci)).length : Int) == (ds.length : Int)) = decide ((dd (ds.map ci)).length = ds.length) from ?_]
                  rw [Bool.eq_iff_iff, beq_iff_eq, decide_eq_true_eq]
                  omega
    | _ => cases er
theorem lk_kind {κ : Kd} (h : gd k x = true) : G (n + 2) (.fn "_law_is_kind") [x, .str (nmK κ)] S = .ret (.bl (isK κ x)) S := by
  cases κ
  · exact lk_name h
  · exact lk_bool h
  · exact lk_number h
  · exact lk_amount h
  · exact lk_day h
  · exact lk_share h
  · exact lk_lot h
  · exact lk_cells h
  · exact lk_heirs h
end
end R.M
end
section
set_option Elab.async false
set_option linter.all false
set_option maxRecDepth 100000
set_option maxHeartbeats 4000000
namespace R.M
open PySem L2
theorem lf_app {α : Type} {w : Str} {v : α} : ∀ {l m : List (Str × α)}, (l ++ m).lookup w = match l.lookup w with
    | some v => some v
    | none => m.lookup w
  | [], m => rfl
  | (a, b) :: l, m => by
    rw [List.cons_append, List.lookup_cons, List.lookup_cons]
    cases w == a with
    | true => rfl
    | false => exact lf_app (v := v)
theorem lookup_map {α β : Type} {f : α → β} {w : Str} : ∀ {l : List (Str × α)}, (l.map fun p => (p.1, f p.2)).lookup w = (l.lookup w).map f
  | [] => rfl
  | (a, b) :: l => by
    rw [List.map_cons, List.lookup_cons, List.lookup_cons, lookup_map]
    cases w == a <;> rfl
theorem kinds_some {w : Str} {kds : List Kd} (e : forms.lookup w = some kds) : kindsOf w = .tup (kds.map fun κ => .str (nmK κ)) := by
  unfold kindsOf lforms
  rw [lf_app (v := []), lookup_map, e]
  simp only [Option.map_some, List.map_map]
  rfl
theorem kinds_none {w : Str} (e : forms.lookup w = none) (h1 : w ≠ "strike") (h2 : w ≠ "instead") : kindsOf w = .non := by
  unfold kindsOf lforms
  rw [lf_app (v := []), lookup_map, e]
  simp only [Option.map_none, List.lookup_cons, List.lookup_nil]
  rw [show (w == ("strike" : Str)) = false from by rw [beq_eq_false_iff_ne]; exact h1, show (w == ("instead" : Str)) = false from by rw [beq_eq_false_iff_ne]; exact h2]
theorem f_strike : forms.lookup ("strike" : Str) = none := by decide +kernel
theorem f_instead : forms.lookup ("instead" : Str) = none := by decide +kernel
theorem kinds_strike : kindsOf "strike" = .tup [.str "number"] := by kernel_rfl
theorem kinds_instead : kindsOf "instead" = .tup [.str "number", .str "deed"] := by kernel_rfl
theorem spots_strike : spotsOf "strike" = .non := by kernel_rfl
theorem spots_instead : spotsOf "instead" = .non := by kernel_rfl
theorem spots_heirs : spotsOf "heirs" = .non := by kernel_rfl
theorem spots_some {w : Str} {p : Nat × Nat} (e : diffs.lookup w = some p) : spotsOf w = .tup [.int (p.1 : Nat), .int (p.2 : Nat)] := by
  unfold spotsOf; rw [e]
theorem spots_none {w : Str} (e : diffs.lookup w = none) : spotsOf w = .non := by
  unfold spotsOf; rw [e]
theorem zip_swap {kds : List Kd} : ∀ {items : List D}, ((items.zip kds).all fun p => isK p.2 p.1) = (kds.zip items).all fun p => isK p.1 p.2 := by
  induction kds with
  | nil => intro items; cases items <;> rfl
  | cons κ kds ih =>
    intro items
    cases items with
    | nil => rfl
    | cons d items =>
      show (isK κ d && (items.zip kds).all fun p => isK p.2 p.1) = (isK κ d && (kds.zip items).all fun p => isK p.1 p.2)
      rw [ih]
theorem plain_is {x : D} (h : isPlain x = true) : ∃ w items, x = .tup (.str w :: items) ∧ w ≠ "strike" ∧ w ≠ "instead" := by
  unfold isPlain at h
  split at h
  · unfold plainL at h
    split at h
    · refine ⟨_, _, rfl, fun z => ?_, fun z => ?_⟩
      · rw [z, f_strike] at h; cases h
      · rw [z, f_instead] at h; cases h
    · cases h
  · cases h
theorem corr_is {x : D} (h : isCorr x = true) : ∃ w items, x = .tup (.str w :: items) ∧ (w = "strike" ∨ w = "instead") := by
  unfold isCorr at h
  split at h
  · simp only [Bool.and_eq_true, decide_eq_true_eq] at h
    exact ⟨_, _, rfl, .inl h.1⟩
  · simp only [Bool.and_eq_true, decide_eq_true_eq] at h
    exact ⟨_, _, rfl, .inr h.1.1⟩
  · cases h
theorem si_beq {w : Str} : (("strike" : Str) == w || ("instead" : Str) == w) = (decide (w = "strike") || decide (w = "instead")) := by
  rw [Bool.eq_iff_iff]
  simp only [Bool.or_eq_true, beq_iff_eq, decide_eq_true_eq]
  constructor
  · rintro (h | h)
    · exact .inl h.symm
    · exact .inr h.symm
  · rintro (h | h)
    · exact .inl h.symm
    · exact .inr h.symm
theorem s_sh0 : ((("strike" : Str) == ("heirs" : Str)) = false) := by decide +kernel
theorem s_ih0 : ((("instead" : Str) == ("heirs" : Str)) = false) := by decide +kernel
theorem s_si0 : ((("strike" : Str) == ("instead" : Str)) = false) := by decide +kernel
theorem al1 {x : Bool} : allO (.lst [.bl x]) = some (.bl x) := by cases x <;> rfl
theorem al2 {x y : Bool} : allO (.lst [.bl x, .bl y]) = some (.bl (x && y)) := by cases x <;> cases y <;> rfl
local macro_rules | `(tactic| walk_at "w") => `(tactic| simp (config := {failIfUnchanged := false, implicitDefEqProofs := false}) only [eq_nil, v_FORMS, v_DIFF, in_FORMS, item_FORMS, in_DIFF, item_DIFF, slice1, setPar_nil, setPar_v, setPar_o, sl_10, sl_01, zp_tt, zp_ll, freeAt, Option.isSome_some, Option.isSome_none, Option.map_some, Option.map_none, List.drop_succ_cons, List.drop_zero, len_s, ty_dic, ty_sh, ty_un, v_sh, v_un, get_sh, get_un, is_nn, is_tn, s_name_name, s_name_bool, s_name_share, s_name_lot, s_name_deed, s_name_cells, s_name_heirs, s_bool_name, s_bool_bool, s_bool_share, s_bool_lot, s_bool_deed, s_bool_cells, s_bool_heirs, s_number_name, s_number_bool, s_number_share, s_number_lot, s_number_deed, s_number_cells, s_number_heirs, s_amount_name, s_amount_bool, s_amount_share, s_amount_lot, s_amount_deed, s_amount_cells, s_amount_heirs, s_day_name, s_day_bool, s_day_share, s_day_lot, s_day_deed, s_day_cells, s_day_heirs, s_share_name, s_share_bool, s_share_share, s_share_lot, s_share_deed, s_share_cells, s_share_heirs, s_lot_name, s_lot_bool, s_lot_share, s_lot_lot, s_lot_deed, s_lot_cells, s_lot_heirs, s_deed_name, s_deed_bool, s_deed_share, s_deed_lot, s_deed_deed, s_deed_cells, s_deed_heirs, s_heirs_name, s_heirs_bool, s_heirs_share, s_heirs_lot, s_heirs_deed, s_heirs_cells, s_heirs_heirs, s_cells_name, s_cells_bool, s_cells_share, s_cells_lot, s_cells_deed, s_cells_cells, s_cells_heirs, i_name, i_bool, i_number, i_amount, i_day, i_share, i_lot, i_deed, i_heirs, i_cells, in_si, al1, al2, ↓oP_some, ↓onB_some, ↓onS_some, ↓onNx_nx, ↓onNx_ret, ↓onNx_brk, ↓onNx_ct, ↓rdS_v, ↓rdS_ol, ↓onI_int, ↓onFn_fn, ↓onLst_l, ↓wF_ret, ↓wR_ok, ↓wR_ofO, ↓if_true, ↓if_false, ↓flF_ret, ↓flF_nx, oP_some, onB_some, onS_some, onNx_nx, onNx_ret, onNx_brk, onNx_ct, rdS_v, rdS_ol, onI_int, onFn_fn, onLst_l, wF_ret, wR_ok, wR_ofO, if_true, if_false, flF_ret, flF_nx, wR_ok, wR_no, wR_ofO, ↓wE_var, ↓wE_const, ↓wE_prim, ↓wE_slice, ↓wE_meth, ↓wE_mprim, ↓wE_tup, ↓wE_lst, ↓wE_cell, ↓wE_dic, ↓wE_and, ↓wE_or, ↓wE_not, ↓wE_if, ↓wE_chain, ↓wE_call, ↓wE_new, ↓wE_callv, onFn_fn, ↓wE_comp, ↓wE_scomp, ↓turnC_w, ↓wL_nil, ↓wL_cons, ↓wV_nil, ↓wV_cons, onI_int, ↓wP_nil, ↓wP_cons, ↓wCh_one, ↓wCh_more, ↓wIf_nil, ↓wIf_cons, ↓wI_seq, ↓wI_range, ↓wI_zip, ↓wA_peek, ↓wA_const, ↓wA_prim, ↓wA_slice, ↓wA_meth, ↓wA_mprim, ↓wA_tup, ↓wA_lst, ↓wA_cell, ↓wA_dic, ↓wA_and, ↓wA_or, ↓wA_not, ↓wA_ifE, ↓wA_chain, ↓wA_call, ↓wA_callv, ↓wA_new, ↓wA_comp, ↓wA_scomp, ↓wA_var, ↓look_nil, ↓look_cons, lookAV_d, lookAV_pk, slV_v, slV_ol, slV_oo, ↓rd_w, rdS_v, rdS_ol, ↓wS_asg, ↓wS_asgO, onLst_l, ↓wS_par, ↓wS_put, ↓wS_expr, ↓wS_ret, ↓wS_ite, ↓wS_for, ↓bodyS_w, ↓wS_while, ↓wS_pass, ↓wS_retN, ↓wS_brk, ↓wS_cont, ↓wB_nil, ↓wB_cons, flF_nx, flF_ret, onNx_nx, onNx_ret, onNx_brk, onNx_ct, onB_some, oP_some, oP_none, oP_blO, oP_notO, oP_lstO, onS_some, wF_ret, p_isi, p_eq, p_ne, p_lt, p_le, p_gt, p_ge, p_is, p_isnot, p_in, p_notin, p_item, p_len, p_all, p_any, p_add, p_sub, p_mul, p_fdiv, p_mod, p_pow, p_neg, p_abs, p_int, p_join, p_get2, p_get3, p_list, p_tuple, p_sorted, p_set, p_dict, p_attr, tru_bl, tru_non, v_non, v_bl, v_int, v_str, v_ty, v_fn, v_cls, v_tup, v_lst, v_dic, v_set, v_obj, lt_ii, le_ii, lt_ss, len_str, len_tup, len_lst, len_set, len_dic, sub_ii, add_ii, seq_str, seq_tup, seq_lst, item_ti, item_li, eq_ii, eq_ss, eq_bb, all_bls, ↓bindT_nm, ↓bindT_tup, ↓bindTs_nil, ↓bindTs_cons, List.all_cons, List.all_nil, List.set_cons_zero, List.set_cons_succ, List.getElem?_cons_zero, List.getElem?_cons_succ, List.getElem?_nil, wipeE, backE, List.foldl_cons, List.foldl_nil, Option.getD_some, List.length_cons, List.length_nil, List.length_set, Nat.reduceSub, Nat.reduceAdd, Nat.reduceLT, Nat.reduceLeDiff, List.replicate_succ, List.replicate_zero, List.map_cons, List.map_nil, List.nil_append, List.cons_append, List.append_nil, env0, decide_true, decide_false, Bool.and_true, Bool.true_and, Bool.not_true, Bool.not_false, Bool.false_eq_true, if_true, if_false, true_and, and_true, decide_eq_true_eq, Nat.zero_lt_succ, Nat.succ_lt_succ_iff, rng_w1, rng_w2, mul_w, fdiv_w, mod_w, pow_w, adds_w, addt_w, addl_w, atI_l0, atI_l1, atI_l2, atI_l3, atI_l4, nc0, nc1, nc2, nc3, nc4, nc5, nc6, nc7, Int.reduceBEq, noOwn_nil, noOwn_cons, ownF_v, ownF_n, ownF_vs])
local macro_rules | `(tactic| k_search $a) => `(tactic| simp (config := {failIfUnchanged := false, implicitDefEqProofs := false}) only [$a:term, eq_nil, v_FORMS, v_DIFF, in_FORMS, item_FORMS, in_DIFF, item_DIFF, slice1, setPar_nil, setPar_v, setPar_o, sl_10, sl_01, zp_tt, zp_ll, freeAt, Option.isSome_some, Option.isSome_none, Option.map_some, Option.map_none, List.drop_succ_cons, List.drop_zero, len_s, ty_dic, ty_sh, ty_un, v_sh, v_un, get_sh, get_un, is_nn, is_tn, s_name_name, s_name_bool, s_name_share, s_name_lot, s_name_deed, s_name_cells, s_name_heirs, s_bool_name, s_bool_bool, s_bool_share, s_bool_lot, s_bool_deed, s_bool_cells, s_bool_heirs, s_number_name, s_number_bool, s_number_share, s_number_lot, s_number_deed, s_number_cells, s_number_heirs, s_amount_name, s_amount_bool, s_amount_share, s_amount_lot, s_amount_deed, s_amount_cells, s_amount_heirs, s_day_name, s_day_bool, s_day_share, s_day_lot, s_day_deed, s_day_cells, s_day_heirs, s_share_name, s_share_bool, s_share_share, s_share_lot, s_share_deed, s_share_cells, s_share_heirs, s_lot_name, s_lot_bool, s_lot_share, s_lot_lot, s_lot_deed, s_lot_cells, s_lot_heirs, s_deed_name, s_deed_bool, s_deed_share, s_deed_lot, s_deed_deed, s_deed_cells, s_deed_heirs, s_heirs_name, s_heirs_bool, s_heirs_share, s_heirs_lot, s_heirs_deed, s_heirs_cells, s_heirs_heirs, s_cells_name, s_cells_bool, s_cells_share, s_cells_lot, s_cells_deed, s_cells_cells, s_cells_heirs, i_name, i_bool, i_number, i_amount, i_day, i_share, i_lot, i_deed, i_heirs, i_cells, in_si, al1, al2, ↓oP_some, ↓onB_some, ↓onS_some, ↓onNx_nx, ↓onNx_ret, ↓onNx_brk, ↓onNx_ct, ↓rdS_v, ↓rdS_ol, ↓onI_int, ↓onFn_fn, ↓onLst_l, ↓wF_ret, ↓wR_ok, ↓wR_ofO, ↓if_true, ↓if_false, ↓flF_ret, ↓flF_nx, oP_some, onB_some, onS_some, onNx_nx, onNx_ret, onNx_brk, onNx_ct, rdS_v, rdS_ol, onI_int, onFn_fn, onLst_l, wF_ret, wR_ok, wR_ofO, if_true, if_false, flF_ret, flF_nx, wR_ok, wR_no, wR_ofO, ↓wE_var, ↓wE_const, ↓wE_prim, ↓wE_slice, ↓wE_meth, ↓wE_mprim, ↓wE_tup, ↓wE_lst, ↓wE_cell, ↓wE_dic, ↓wE_and, ↓wE_or, ↓wE_not, ↓wE_if, ↓wE_chain, ↓wE_call, ↓wE_new, ↓wE_callv, onFn_fn, ↓wE_comp, ↓wE_scomp, ↓turnC_w, ↓wL_nil, ↓wL_cons, ↓wV_nil, ↓wV_cons, onI_int, ↓wP_nil, ↓wP_cons, ↓wCh_one, ↓wCh_more, ↓wIf_nil, ↓wIf_cons, ↓wI_seq, ↓wI_range, ↓wI_zip, ↓wA_peek, ↓wA_const, ↓wA_prim, ↓wA_slice, ↓wA_meth, ↓wA_mprim, ↓wA_tup, ↓wA_lst, ↓wA_cell, ↓wA_dic, ↓wA_and, ↓wA_or, ↓wA_not, ↓wA_ifE, ↓wA_chain, ↓wA_call, ↓wA_callv, ↓wA_new, ↓wA_comp, ↓wA_scomp, ↓wA_var, ↓look_nil, ↓look_cons, lookAV_d, lookAV_pk, slV_v, slV_ol, slV_oo, ↓rd_w, rdS_v, rdS_ol, ↓wS_asg, ↓wS_asgO, onLst_l, ↓wS_par, ↓wS_put, ↓wS_expr, ↓wS_ret, ↓wS_ite, ↓wS_for, ↓bodyS_w, ↓wS_while, ↓wS_pass, ↓wS_retN, ↓wS_brk, ↓wS_cont, ↓wB_nil, ↓wB_cons, flF_nx, flF_ret, onNx_nx, onNx_ret, onNx_brk, onNx_ct, onB_some, oP_some, oP_none, oP_blO, oP_notO, oP_lstO, onS_some, wF_ret, p_isi, p_eq, p_ne, p_lt, p_le, p_gt, p_ge, p_is, p_isnot, p_in, p_notin, p_item, p_len, p_all, p_any, p_add, p_sub, p_mul, p_fdiv, p_mod, p_pow, p_neg, p_abs, p_int, p_join, p_get2, p_get3, p_list, p_tuple, p_sorted, p_set, p_dict, p_attr, tru_bl, tru_non, v_non, v_bl, v_int, v_str, v_ty, v_fn, v_cls, v_tup, v_lst, v_dic, v_set, v_obj, lt_ii, le_ii, lt_ss, len_str, len_tup, len_lst, len_set, len_dic, sub_ii, add_ii, seq_str, seq_tup, seq_lst, item_ti, item_li, eq_ii, eq_ss, eq_bb, all_bls, ↓bindT_nm, ↓bindT_tup, ↓bindTs_nil, ↓bindTs_cons, List.all_cons, List.all_nil, List.set_cons_zero, List.set_cons_succ, List.getElem?_cons_zero, List.getElem?_cons_succ, List.getElem?_nil, wipeE, backE, List.foldl_cons, List.foldl_nil, Option.getD_some, List.length_cons, List.length_nil, List.length_set, Nat.reduceSub, Nat.reduceAdd, Nat.reduceLT, Nat.reduceLeDiff, List.replicate_succ, List.replicate_zero, List.map_cons, List.map_nil, List.nil_append, List.cons_append, List.append_nil, env0, decide_true, decide_false, Bool.and_true, Bool.true_and, Bool.not_true, Bool.not_false, Bool.false_eq_true, if_true, if_false, true_and, and_true, decide_eq_true_eq, Nat.zero_lt_succ, Nat.succ_lt_succ_iff, rng_w1, rng_w2, mul_w, fdiv_w, mod_w, pow_w, adds_w, addt_w, addl_w, atI_l0, atI_l1, atI_l2, atI_l3, atI_l4, nc0, nc1, nc2, nc3, nc4, nc5, nc6, nc7, Int.reduceBEq, noOwn_nil, noOwn_cons, ownF_v, ownF_n, ownF_vs])
local macro_rules | `(tactic| ktr_call $a $b) => `(tactic| simp (config := {failIfUnchanged := false, implicitDefEqProofs := false}) only [$a:term, $b:term, eq_nil, v_FORMS, v_DIFF, in_FORMS, item_FORMS, in_DIFF, item_DIFF, slice1, setPar_nil, setPar_v, setPar_o, sl_10, sl_01, zp_tt, zp_ll, freeAt, Option.isSome_some, Option.isSome_none, Option.map_some, Option.map_none, List.drop_succ_cons, List.drop_zero, len_s, ty_dic, ty_sh, ty_un, v_sh, v_un, get_sh, get_un, is_nn, is_tn, s_name_name, s_name_bool, s_name_share, s_name_lot, s_name_deed, s_name_cells, s_name_heirs, s_bool_name, s_bool_bool, s_bool_share, s_bool_lot, s_bool_deed, s_bool_cells, s_bool_heirs, s_number_name, s_number_bool, s_number_share, s_number_lot, s_number_deed, s_number_cells, s_number_heirs, s_amount_name, s_amount_bool, s_amount_share, s_amount_lot, s_amount_deed, s_amount_cells, s_amount_heirs, s_day_name, s_day_bool, s_day_share, s_day_lot, s_day_deed, s_day_cells, s_day_heirs, s_share_name, s_share_bool, s_share_share, s_share_lot, s_share_deed, s_share_cells, s_share_heirs, s_lot_name, s_lot_bool, s_lot_share, s_lot_lot, s_lot_deed, s_lot_cells, s_lot_heirs, s_deed_name, s_deed_bool, s_deed_share, s_deed_lot, s_deed_deed, s_deed_cells, s_deed_heirs, s_heirs_name, s_heirs_bool, s_heirs_share, s_heirs_lot, s_heirs_deed, s_heirs_cells, s_heirs_heirs, s_cells_name, s_cells_bool, s_cells_share, s_cells_lot, s_cells_deed, s_cells_cells, s_cells_heirs, i_name, i_bool, i_number, i_amount, i_day, i_share, i_lot, i_deed, i_heirs, i_cells, in_si, al1, al2, ↓oP_some, ↓onB_some, ↓onS_some, ↓onNx_nx, ↓onNx_ret, ↓onNx_brk, ↓onNx_ct, ↓rdS_v, ↓rdS_ol, ↓onI_int, ↓onFn_fn, ↓onLst_l, ↓wF_ret, ↓wR_ok, ↓wR_ofO, ↓if_true, ↓if_false, ↓flF_ret, ↓flF_nx, oP_some, onB_some, onS_some, onNx_nx, onNx_ret, onNx_brk, onNx_ct, rdS_v, rdS_ol, onI_int, onFn_fn, onLst_l, wF_ret, wR_ok, wR_ofO, if_true, if_false, flF_ret, flF_nx, wR_ok, wR_no, wR_ofO, ↓wE_var, ↓wE_const, ↓wE_prim, ↓wE_slice, ↓wE_meth, ↓wE_mprim, ↓wE_tup, ↓wE_lst, ↓wE_cell, ↓wE_dic, ↓wE_and, ↓wE_or, ↓wE_not, ↓wE_if, ↓wE_chain, ↓wE_call, ↓wE_new, ↓wE_callv, onFn_fn, ↓wE_comp, ↓wE_scomp, ↓turnC_w, ↓wL_nil, ↓wL_cons, ↓wV_nil, ↓wV_cons, onI_int, ↓wP_nil, ↓wP_cons, ↓wCh_one, ↓wCh_more, ↓wIf_nil, ↓wIf_cons, ↓wI_seq, ↓wI_range, ↓wI_zip, ↓wA_peek, ↓wA_const, ↓wA_prim, ↓wA_slice, ↓wA_meth, ↓wA_mprim, ↓wA_tup, ↓wA_lst, ↓wA_cell, ↓wA_dic, ↓wA_and, ↓wA_or, ↓wA_not, ↓wA_ifE, ↓wA_chain, ↓wA_call, ↓wA_callv, ↓wA_new, ↓wA_comp, ↓wA_scomp, ↓wA_var, ↓look_nil, ↓look_cons, lookAV_d, lookAV_pk, slV_v, slV_ol, slV_oo, ↓rd_w, rdS_v, rdS_ol, ↓wS_asg, ↓wS_asgO, onLst_l, ↓wS_par, ↓wS_put, ↓wS_expr, ↓wS_ret, ↓wS_ite, ↓wS_for, ↓bodyS_w, ↓wS_while, ↓wS_pass, ↓wS_retN, ↓wS_brk, ↓wS_cont, ↓wB_nil, ↓wB_cons, flF_nx, flF_ret, onNx_nx, onNx_ret, onNx_brk, onNx_ct, onB_some, oP_some, oP_none, oP_blO, oP_notO, oP_lstO, onS_some, wF_ret, p_isi, p_eq, p_ne, p_lt, p_le, p_gt, p_ge, p_is, p_isnot, p_in, p_notin, p_item, p_len, p_all, p_any, p_add, p_sub, p_mul, p_fdiv, p_mod, p_pow, p_neg, p_abs, p_int, p_join, p_get2, p_get3, p_list, p_tuple, p_sorted, p_set, p_dict, p_attr, tru_bl, tru_non, v_non, v_bl, v_int, v_str, v_ty, v_fn, v_cls, v_tup, v_lst, v_dic, v_set, v_obj, lt_ii, le_ii, lt_ss, len_str, len_tup, len_lst, len_set, len_dic, sub_ii, add_ii, seq_str, seq_tup, seq_lst, item_ti, item_li, eq_ii, eq_ss, eq_bb, all_bls, ↓bindT_nm, ↓bindT_tup, ↓bindTs_nil, ↓bindTs_cons, List.all_cons, List.all_nil, List.set_cons_zero, List.set_cons_succ, List.getElem?_cons_zero, List.getElem?_cons_succ, List.getElem?_nil, wipeE, backE, List.foldl_cons, List.foldl_nil, Option.getD_some, List.length_cons, List.length_nil, List.length_set, Nat.reduceSub, Nat.reduceAdd, Nat.reduceLT, Nat.reduceLeDiff, List.replicate_succ, List.replicate_zero, List.map_cons, List.map_nil, List.nil_append, List.cons_append, List.append_nil, env0, decide_true, decide_false, Bool.and_true, Bool.true_and, Bool.not_true, Bool.not_false, Bool.false_eq_true, if_true, if_false, true_and, and_true, decide_eq_true_eq, Nat.zero_lt_succ, Nat.succ_lt_succ_iff, rng_w1, rng_w2, mul_w, fdiv_w, mod_w, pow_w, adds_w, addt_w, addl_w, atI_l0, atI_l1, atI_l2, atI_l3, atI_l4, nc0, nc1, nc2, nc3, nc4, nc5, nc6, nc7, Int.reduceBEq, noOwn_nil, noOwn_cons, ownF_v, ownF_n, ownF_vs])
local macro_rules | `(tactic| k_whileD $a $b $c "w") => `(tactic| simp (config := {failIfUnchanged := false, implicitDefEqProofs := false}) only [$a:term, $b:term, $c:term, eq_nil, v_FORMS, v_DIFF, in_FORMS, item_FORMS, in_DIFF, item_DIFF, slice1, setPar_nil, setPar_v, setPar_o, sl_10, sl_01, zp_tt, zp_ll, freeAt, Option.isSome_some, Option.isSome_none, Option.map_some, Option.map_none, List.drop_succ_cons, List.drop_zero, len_s, ty_dic, ty_sh, ty_un, v_sh, v_un, get_sh, get_un, is_nn, is_tn, s_name_name, s_name_bool, s_name_share, s_name_lot, s_name_deed, s_name_cells, s_name_heirs, s_bool_name, s_bool_bool, s_bool_share, s_bool_lot, s_bool_deed, s_bool_cells, s_bool_heirs, s_number_name, s_number_bool, s_number_share, s_number_lot, s_number_deed, s_number_cells, s_number_heirs, s_amount_name, s_amount_bool, s_amount_share, s_amount_lot, s_amount_deed, s_amount_cells, s_amount_heirs, s_day_name, s_day_bool, s_day_share, s_day_lot, s_day_deed, s_day_cells, s_day_heirs, s_share_name, s_share_bool, s_share_share, s_share_lot, s_share_deed, s_share_cells, s_share_heirs, s_lot_name, s_lot_bool, s_lot_share, s_lot_lot, s_lot_deed, s_lot_cells, s_lot_heirs, s_deed_name, s_deed_bool, s_deed_share, s_deed_lot, s_deed_deed, s_deed_cells, s_deed_heirs, s_heirs_name, s_heirs_bool, s_heirs_share, s_heirs_lot, s_heirs_deed, s_heirs_cells, s_heirs_heirs, s_cells_name, s_cells_bool, s_cells_share, s_cells_lot, s_cells_deed, s_cells_cells, s_cells_heirs, i_name, i_bool, i_number, i_amount, i_day, i_share, i_lot, i_deed, i_heirs, i_cells, in_si, al1, al2, ↓oP_some, ↓onB_some, ↓onS_some, ↓onNx_nx, ↓onNx_ret, ↓onNx_brk, ↓onNx_ct, ↓rdS_v, ↓rdS_ol, ↓onI_int, ↓onFn_fn, ↓onLst_l, ↓wF_ret, ↓wR_ok, ↓wR_ofO, ↓if_true, ↓if_false, ↓flF_ret, ↓flF_nx, oP_some, onB_some, onS_some, onNx_nx, onNx_ret, onNx_brk, onNx_ct, rdS_v, rdS_ol, onI_int, onFn_fn, onLst_l, wF_ret, wR_ok, wR_ofO, if_true, if_false, flF_ret, flF_nx, wR_ok, wR_no, wR_ofO, ↓wE_var, ↓wE_const, ↓wE_prim, ↓wE_slice, ↓wE_meth, ↓wE_mprim, ↓wE_tup, ↓wE_lst, ↓wE_cell, ↓wE_dic, ↓wE_and, ↓wE_or, ↓wE_not, ↓wE_if, ↓wE_chain, ↓wE_call, ↓wE_new, ↓wE_callv, onFn_fn, ↓wE_comp, ↓wE_scomp, ↓turnC_w, ↓wL_nil, ↓wL_cons, ↓wV_nil, ↓wV_cons, onI_int, ↓wP_nil, ↓wP_cons, ↓wCh_one, ↓wCh_more, ↓wIf_nil, ↓wIf_cons, ↓wI_seq, ↓wI_range, ↓wI_zip, ↓wA_peek, ↓wA_const, ↓wA_prim, ↓wA_slice, ↓wA_meth, ↓wA_mprim, ↓wA_tup, ↓wA_lst, ↓wA_cell, ↓wA_dic, ↓wA_and, ↓wA_or, ↓wA_not, ↓wA_ifE, ↓wA_chain, ↓wA_call, ↓wA_callv, ↓wA_new, ↓wA_comp, ↓wA_scomp, ↓wA_var, ↓look_nil, ↓look_cons, lookAV_d, lookAV_pk, slV_v, slV_ol, slV_oo, ↓rd_w, rdS_v, rdS_ol, ↓wS_asg, ↓wS_asgO, onLst_l, ↓wS_par, ↓wS_put, ↓wS_expr, ↓wS_ret, ↓wS_ite, ↓wS_for, ↓bodyS_w, ↓wS_while, ↓wS_pass, ↓wS_retN, ↓wS_brk, ↓wS_cont, ↓wB_nil, ↓wB_cons, flF_nx, flF_ret, onNx_nx, onNx_ret, onNx_brk, onNx_ct, onB_some, oP_some, oP_none, oP_blO, oP_notO, oP_lstO, onS_some, wF_ret, p_isi, p_eq, p_ne, p_lt, p_le, p_gt, p_ge, p_is, p_isnot, p_in, p_notin, p_item, p_len, p_all, p_any, p_add, p_sub, p_mul, p_fdiv, p_mod, p_pow, p_neg, p_abs, p_int, p_join, p_get2, p_get3, p_list, p_tuple, p_sorted, p_set, p_dict, p_attr, tru_bl, tru_non, v_non, v_bl, v_int, v_str, v_ty, v_fn, v_cls, v_tup, v_lst, v_dic, v_set, v_obj, lt_ii, le_ii, lt_ss, len_str, len_tup, len_lst, len_set, len_dic, sub_ii, add_ii, seq_str, seq_tup, seq_lst, item_ti, item_li, eq_ii, eq_ss, eq_bb, all_bls, ↓bindT_nm, ↓bindT_tup, ↓bindTs_nil, ↓bindTs_cons, List.all_cons, List.all_nil, List.set_cons_zero, List.set_cons_succ, List.getElem?_cons_zero, List.getElem?_cons_succ, List.getElem?_nil, wipeE, backE, List.foldl_cons, List.foldl_nil, Option.getD_some, List.length_cons, List.length_nil, List.length_set, Nat.reduceSub, Nat.reduceAdd, Nat.reduceLT, Nat.reduceLeDiff, List.replicate_succ, List.replicate_zero, List.map_cons, List.map_nil, List.nil_append, List.cons_append, List.append_nil, env0, decide_true, decide_false, Bool.and_true, Bool.true_and, Bool.not_true, Bool.not_false, Bool.false_eq_true, if_true, if_false, true_and, and_true, decide_eq_true_eq, Nat.zero_lt_succ, Nat.succ_lt_succ_iff, rng_w1, rng_w2, mul_w, fdiv_w, mod_w, pow_w, adds_w, addt_w, addl_w, atI_l0, atI_l1, atI_l2, atI_l3, atI_l4, nc0, nc1, nc2, nc3, nc4, nc5, nc6, nc7, Int.reduceBEq, noOwn_nil, noOwn_cons, ownF_v, ownF_n, ownF_vs])
section
variable {n k m : Nat} {x : D} {S : Sto}
theorem lk_deed (h : gd k x = true) (ih : G m (.fn "_law_is_deed") [x] S = .ret (.bl (isDeed x)) S) : G (m + 1) (.fn "_law_is_kind") [x, .str "deed"] S = .ret (.bl (isPlain x)) S := by
  rw [wF_eq, G_fn (c := c__law_is_kind) rfl rfl rfl (by decide)]
  simp only [c__law_is_kind]
  cases ep : isPlain x with
  | true =>
    obtain ⟨w, items, rfl, h1, h2⟩ := plain_is ep
    have e : isDeed (.tup (.str w :: items)) = true := by unfold isDeed; rw [ep]; rfl
    ktr_call ih e
    rw [si_beq, decide_eq_false h1, decide_eq_false h2]
    rfl
  | false =>
    cases ec : isCorr x with
    | true =>
      obtain ⟨w, items, rfl, h1⟩ := corr_is ec
      have e : isDeed (.tup (.str w :: items)) = true := by unfold isDeed; rw [ec, Bool.or_true]
      ktr_call ih e
      rw [si_beq]
      have : (decide (w = ("strike" : Str)) || decide (w = ("instead" : Str))) = true := by
        rcases h1 with rfl | rfl <;> decide +kernel
      rw [this]
      rfl
    | false =>
      have e : isDeed x = false := by unfold isDeed; rw [ep, ec]; rfl
      ktr_call ih e
theorem ld_no (h : gd k x = true) (ht : isTu x = false) : G (n + 3) (.fn "_law_is_deed") [x] S = .ret (.bl false) S := by
  rw [wF_eq, G_fn (c := c__law_is_deed) rfl rfl rfl (by decide)]
  simp only [c__law_is_deed]
  ktr_call (view_good h) ((isi_tup h).trans (by rw [ht]))
theorem ld_ns {d : D} {items : List D} (h : gd k d = true) (ht : isSt d = false) : G (n + 3) (.fn "_law_is_deed") [.tup (d :: items)] S = .ret (.bl false) S := by
  rw [wF_eq, G_fn (c := c__law_is_deed) rfl rfl rfl (by decide)]
  simp only [c__law_is_deed]
  k_whileD (show isiD (.tup (d :: items)) (.ty "tuple") = some true from rfl) (view_good (S := S) h) ((isi_str h).trans (by rw [ht])) "w"
theorem ld_nil : G (n + 3) (.fn "_law_is_deed") [.tup []] S = .ret (.bl false) S := by kernel_rfl
theorem ld_none {w : Str} {items : List D} (e : kindsOf w = .non) : G (n + 3) (.fn "_law_is_deed") [.tup (.str w :: items)] S = .ret (.bl false) S := by
  rw [wF_eq, G_fn (c := c__law_is_deed) rfl rfl rfl (by decide)]
  simp only [c__law_is_deed]
  k_whileD (show isiD (.tup (.str w :: items)) (.ty "tuple") = some true from rfl) (l_shapes) e "w"
  simp only [show isiD (.str w) (.ty "str") = some true from rfl]
  k_whileD (show isiD (.tup (.str w :: items)) (.ty "tuple") = some true from rfl) (l_shapes) e "w"
theorem ld_some {w : Str} {items : List D} {kds : List Kd} (e : forms.lookup w = some kds) (h : gd (k + 1) (.tup (.str w :: items)) = true) : G (n + 3) (.fn "_law_is_deed") [.tup (.str w :: items)] S = .ret (.bl (plainL (.str w :: items))) S := by
  rw [wF_eq, G_fn (c := c__law_is_deed) rfl rfl rfl (by decide)]
  simp only [c__law_is_deed]
  obtain ⟨hd, hl⟩ := gd_tup h
  k_whileD (show isiD (.tup (.str w :: items)) (.ty "tuple") = some true from rfl) (l_shapes) (kinds_some e) "w"
  simp only [show isiD (.str w) (.ty "str") = some true from rfl]
  k_whileD (show isiD (.tup (.str w :: items)) (.ty "tuple") = some true from rfl) (l_shapes) (kinds_some e) "w"
  by_cases c : items.length = kds.length
  · rw [if_neg (by rw [List.length_map, ← c]; simp), zip_map2]
    refine ⟨by decide, by decide, ?_⟩
    refine comp_map (fun p : D × Kd => .tup [p.1, .str (nmK p.2)]) (fun p => .bl (isK p.2 p.1)) (items.zip kds) ?_ (fun p m => ?_) ?_
    · have : (items.zip kds).length ≤ 60 := by
        rw [List.length_zip]
        have : items.length ≤ 60 := by
          have : (D.str w :: items).length = items.length + 1 := rfl
          omega
        omega
      exact ne_len this (by omega)
    · k_search (lk_kind (hd p.1 (List.mem_cons_of_mem _ (List.of_mem_zip m).1)))
    · walk_at "w"
      rw [zip_swap]
      cases a : (kds.zip items).all fun p => isK p.1 p.2 with
      | false =>
        walk_at "w"
        simp only [plainL, e, allK, a, Bool.and_false, Bool.false_and]
      | true =>
        walk_at "w"
        by_cases hw : w = "heirs"
        · subst hw
          have e2 : forms.lookup ("heirs" : Str) = some [.name, .heirs] := by decide +kernel
          rw [e2] at e
          cases e
          obtain ⟨x, y, rfl⟩ : ∃ x y, items = [x, y] := by
            match items, c with
            | [x, y], _ => exact ⟨x, y, rfl⟩
          have a2 : (isName x && (isHeirs y && true)) = true := a
          simp only [Bool.and_eq_true, and_true] at a2
          obtain ⟨s, rfl⟩ := name_is a2.1
          obtain ⟨hs, rfl⟩ : ∃ hs, y = .tup hs := by
            have := a2.2
            unfold isHeirs at this
            split at this
            · exact ⟨_, rfl⟩
            · cases this
          have a3 : (isRow 1 4 hs && hs.all isHeir && decide ((dd (hs.map hk)).length = hs.length)) = true := a2.2
          simp only [Bool.and_eq_true] at a3
          have a4 : isRow 1 4 hs = true := a3.1.1
          unfold isRow at a4
          simp only [Bool.and_eq_true, decide_eq_true_eq] at a4
          simp only [beq_self_eq_true]
          walk_at "w"
          refine comp_list fst0 hs (ne_len a4.2 (by omega)) (fun d m => ?_) ?_
          · obtain ⟨p, q, rfl⟩ := heir_is (List.all_eq_true.mp a3.1.2 d m)
            walk_at "w"
            simp only [fst0]
          · rw [in_lst rfl (flat_heirs a3.1.2)]
            ktr_call (l_unlike) spots_heirs
            simp only [plainL, e2, allK, a, extra, heirOk, if_true, decide_true, Bool.true_and, List.length_cons, List.length_nil]
            cases (hs.map fst0).any fun y => feqD y (.str s) <;> simp
        · rw [show (w == ("heirs" : Str)) = false from by rw [beq_eq_false_iff_ne]; exact hw]
          walk_at "w"
          cases eD : diffs.lookup w with
          | none =>
            ktr_call (l_unlike) (spots_none eD)
            simp only [plainL, e, allK, a, extra, if_neg hw, eD, c, decide_true, Bool.true_and]
          | some p =>
            obtain ⟨p1, p2⟩ := p
            obtain ⟨⟨x1, y1⟩, ⟨x2, y2⟩⟩ := dif_at e eD c a
            ktr_call (l_unlike) (spots_some eD)
            k_whileD y1 y2 (atI_nn) "w"
            simp only [plainL, e, allK, a, extra, if_neg hw, eD, c, decide_true, Bool.true_and, difOk, y1, y2]
  · rw [if_pos (by rw [List.length_map]; simp; omega)]
    simp only [plainL, e, c]
    rfl
theorem ld_strike {items : List D} (h : gd (k + 1) (.tup (.str "strike" :: items)) = true) : G (n + 3) (.fn "_law_is_deed") [.tup (.str "strike" :: items)] S = .ret (.bl (isDeed (.tup (.str "strike" :: items)))) S := by
  rw [wF_eq, G_fn (c := c__law_is_deed) rfl rfl rfl (by decide)]
  simp only [c__law_is_deed]
  obtain ⟨hd, hl⟩ := gd_tup h
  have e0 : isPlain (.tup (.str "strike" :: items)) = false := by
    show (match forms.lookup ("strike" : Str) with
      | some kds => decide (items.length = kds.length) && allK kds items && extra "strike" items
      | none => false) = false
    rw [f_strike]
  k_whileD (show isiD (.tup (.str "strike" :: items)) (.ty "tuple") = some true from rfl) (l_shapes) (kinds_strike) "w"
  simp only [show isiD (.str "strike") (.ty "str") = some true from rfl]
  k_whileD (show isiD (.tup (.str "strike" :: items)) (.ty "tuple") = some true from rfl) (l_shapes) (kinds_strike) "w"
  by_cases c : items.length = 1
  · obtain ⟨a, rfl⟩ : ∃ a, items = [a] := by
      match items, c with
      | [a], _ => exact ⟨a, rfl⟩
    rw [if_neg (by simp)]
    refine ⟨by decide, by decide, ?_⟩
    refine comp_map (fun a : D => .tup [a, .str "number"]) (fun a => .bl (isNum 1 999 a)) [a] (ne_len (a := 1) (by simp) (by omega)) (fun p m => ?_) ?_
    · have : p = a := by simpa using m
      subst this
      k_search (lk_number (hd p (by simp)))
    · ktr_call (l_unlike) spots_strike
      have e : isDeed (.tup [.str "strike", a]) = isNum 1 999 a := by
        unfold isDeed
        rw [e0]
        show (false || (decide (("strike" : Str) = "strike") && isNum 1 999 a)) = _
        rw [decide_eq_true rfl]
        rfl
      rw [e]
      cases isNum 1 999 a
      · simp
      · ktr_call s_sh0 s_si0
  · have e : isDeed (.tup (.str "strike" :: items)) = false := by
      unfold isDeed
      rw [e0]
      rcases items with _ | ⟨a, _ | ⟨b, _ | ⟨d, t⟩⟩⟩
      · rfl
      · exact absurd rfl c
      · show (false || (decide (("strike" : Str) = "instead") && isNum 1 999 a && isPlain b)) = _
        rw [decide_eq_false (by decide +kernel)]
        rfl
      · rfl
    rw [if_pos (by simp; omega), e]
def fB (p : D × Str) : Bool := if p.2 = "number" then isNum 1 999 p.1 else isPlain p.1
theorem ld_instead {items : List D} (h : gd (k + 1) (.tup (.str "instead" :: items)) = true) (ih : ∀ b ∈ items, G (n + 1) (.fn "_law_is_deed") [b] S = .ret (.bl (isDeed b)) S) : G (n + 3) (.fn "_law_is_deed") [.tup (.str "instead" :: items)] S = .ret (.bl (isDeed (.tup (.str "instead" :: items)))) S := by
  rw [wF_eq, G_fn (c := c__law_is_deed) rfl rfl rfl (by decide)]
  simp only [c__law_is_deed]
  obtain ⟨hd, hl⟩ := gd_tup h
  have e0 : isPlain (.tup (.str "instead" :: items)) = false := by
    show (match forms.lookup ("instead" : Str) with
      | some kds => decide (items.length = kds.length) && allK kds items && extra "instead" items
      | none => false) = false
    rw [f_instead]
  k_whileD (show isiD (.tup (.str "instead" :: items)) (.ty "tuple") = some true from rfl) (l_shapes) (kinds_instead) "w"
  simp only [show isiD (.str "instead") (.ty "str") = some true from rfl]
  k_whileD (show isiD (.tup (.str "instead" :: items)) (.ty "tuple") = some true from rfl) (l_shapes) (kinds_instead) "w"
  by_cases c : items.length = 2
  · obtain ⟨a, b, rfl⟩ : ∃ a b, items = [a, b] := by
      match items, c with
      | [a, b], _ => exact ⟨a, b, rfl⟩
    rw [if_neg (by simp)]
    refine ⟨by decide, by decide, ?_⟩
    refine comp_map (fun p : D × Str => .tup [p.1, .str p.2]) (fun p => .bl (fB p)) [(a, "number"), (b, "deed")] (ne_len (a := 2) (by simp) (by omega)) (fun p m => ?_) ?_
    · have : p = (a, ("number" : Str)) ∨ p = (b, ("deed" : Str)) := by simpa using m
      rcases this with rfl | rfl
      · k_search (lk_number (hd a (by simp)))
        rfl
      · k_search (lk_deed (hd b (by simp)) (ih b (by simp)))
        rfl
    · ktr_call (l_unlike) spots_instead
      have e1 : fB (a, "number") = isNum 1 999 a := if_pos rfl
      have e2 : fB (b, "deed") = isPlain b := if_neg (show ¬ ("deed" : Str) = "number" by decide +kernel)
      have e : isDeed (.tup [.str "instead", a, b]) = (isNum 1 999 a && isPlain b) := by
        unfold isDeed
        rw [e0]
        show (false || (decide (("instead" : Str) = "instead") && isNum 1 999 a && isPlain b)) = _
        rw [decide_eq_true rfl]
        rfl
      rw [e, e1, e2]
      cases isNum 1 999 a <;> cases isPlain b
      · simp
      · simp
      · simp
      · ktr_call s_ih0 s_si0
  · have e : isDeed (.tup (.str "instead" :: items)) = false := by
      unfold isDeed
      rw [e0]
      rcases items with _ | ⟨a, _ | ⟨b, _ | ⟨d, t⟩⟩⟩
      · rfl
      · show (false || (decide (("instead" : Str) = "strike") && isNum 1 999 a)) = _
        rw [decide_eq_false (by decide +kernel)]
        rfl
      · exact absurd rfl c
      · rfl
    rw [if_pos (by simp; omega), e]
theorem l_deed : ∀ {k n : Nat} {x : D} {S : Sto}, gd k x = true → G (n + 2 * k + 3) (.fn "_law_is_deed") [x] S = .ret (.bl (isDeed x)) S
  | 0, n, x, S, h => by
    have ht : isTu x = false := by cases x <;> first | rfl | cases h
    rw [show n + 2 * 0 + 3 = n + 3 by omega, ld_no h ht]
    cases x <;> first | rfl | cases ht
  | k + 1, n, x, S, h => by
    rw [show n + 2 * (k + 1) + 3 = (n + 2 * k + 2) + 3 by omega]
    cases ht : isTu x with
    | false =>
      rw [ld_no h ht]
      cases x <;> first | rfl | cases ht
    | true =>
      obtain ⟨ds, rfl⟩ := isT_of ht
      cases ds with
      | nil => exact ld_nil
      | cons d items =>
        have gi := (gd_tup h).1 d List.mem_cons_self
        cases hs : isSt d with
        | false =>
          rw [ld_ns gi hs]
          have : isDeed (.tup (d :: items)) = false := by
            unfold isDeed
            cases e1 : isPlain (.tup (d :: items)) with
            | true => obtain ⟨w, l, q, _⟩ := plain_is e1; cases q; cases hs
            | false => cases e2 : isCorr (.tup (d :: items)) with
              | true => obtain ⟨w, l, q, _⟩ := corr_is e2; cases q; cases hs
              | false => rfl
          rw [this]
        | true =>
          obtain ⟨w, rfl⟩ := isS_of hs
          cases e : forms.lookup w with
          | some kds =>
            rw [ld_some e h]
            have hc : isCorr (.tup (.str w :: items)) = false := by
              cases e2 : isCorr (.tup (.str w :: items)) with
              | false => rfl
              | true =>
                obtain ⟨w', l, q, z⟩ := corr_is e2
                cases q
                rcases z with rfl | rfl
                · rw [f_strike] at e; cases e
                · rw [f_instead] at e; cases e
            unfold isDeed
            rw [hc, Bool.or_false]
            rfl
          | none =>
            by_cases h1 : w = "strike"
            · subst h1
              exact ld_strike h
            · by_cases h2 : w = "instead"
              · subst h2
                refine ld_instead h fun b m => ?_
                rw [show n + 2 * k + 2 + 1 = n + 2 * k + 3 by omega]
                exact l_deed ((gd_tup h).1 b (List.mem_cons_of_mem _ m))
              · rw [ld_none (kinds_none e h1 h2)]
                have : isDeed (.tup (.str w :: items)) = false := by
                  unfold isDeed
                  cases e2 : isCorr (.tup (.str w :: items)) with
                  | true =>
                    obtain ⟨w', l, q, z⟩ := corr_is e2
                    cases q
                    rcases z with z | z
                    · exact absurd z h1
                    · exact absurd z h2
                  | false =>
                    show ((match forms.lookup w with
                      | some kds => decide (items.length = kds.length) && allK kds items && extra w items
                      | none => false) || false) = false
                    rw [e]
                    rfl
                rw [this]
end
end R.M
end
section
set_option Elab.async false
set_option linter.all false
set_option maxRecDepth 100000
set_option maxHeartbeats 4000000
namespace R.M
open PySem L2
section
variable {ρ : Env} {S : Sto} {i l : Nat} {p : MPrim} {ds : List D} {Q : D → Env → Sto → Prop}
def chL (p : MPrim) (ds : List D) (ρ : Env) (S : Sto) (l : Nat) (o : Option Cell) (Q : D → Env → Sto → Prop) : Prop := match o with
  | some (.lst xs) => oP (mprimD p xs ds) fun r => Q r.1 ρ (S.set l (.lst r.2))
  | _ => False
def chS (p : MPrim) (ds : List D) (ρ : Env) (S : Sto) (i : Nat) (o : Option (Option SV)) (Q : D → Env → Sto → Prop) : Prop := match o with
  | some (some (.ol xs)) => oP (mprimD p xs ds) fun r => Q r.1 (ρ.set i (some (.ol r.2))) S
  | some (some (.v (.mut l))) => chL p ds ρ S l (S[l]?) Q
  | _ => False
theorem chL_congr {o o' : Option Cell} (h : o = o') : chL p ds ρ S l o Q = chL p ds ρ S l o' Q := by rw [h]
theorem chS_congr {o o' : Option (Option SV)} (h : o = o') : chS p ds ρ S i o Q = chS p ds ρ S i o' Q := by rw [h]
theorem chL_l {xs : List D} : chL p ds ρ S l (some (.lst xs)) Q = oP (mprimD p xs ds) fun r => Q r.1 ρ (S.set l (.lst r.2)) := rfl
theorem chS_o {xs : List D} : chS p ds ρ S i (some (some (.ol xs))) Q = oP (mprimD p xs ds) fun r => Q r.1 (ρ.set i (some (.ol r.2))) S := rfl
theorem chS_m : chS p ds ρ S i (some (some (.v (.mut l)))) Q = chL p ds ρ S l (S[l]?) Q := rfl
theorem ch_w : wR (changeAV p ds ρ S (.pk i)) Q = chS p ds ρ S i (ρ[i]?) Q := by
  show wR (match ρ[i]? with
    | some (some (.ol xs)) => match mprimD p xs ds with
      | some (d, ys) => .ok d (ρ.set i (some (.ol ys))) S
      | none => .no
    | some (some (.v (.mut l))) => match S[l]? with
      | some (.lst xs) => match mprimD p xs ds with
        | some (d, ys) => .ok d ρ (S.set l (.lst ys))
        | none => .no
      | _ => .no
    | _ => .no) Q = _
  unfold chS
  rcases ρ[i]? with _ | (_ | (d | xs | _))
  · rfl
  · rfl
  · cases d with
    | «mut» l =>
      show wR (match S[l]? with
        | some (.lst xs) => match mprimD p xs ds with
          | some (d, ys) => .ok d ρ (S.set l (.lst ys))
          | none => .no
        | _ => .no) Q = chL p ds ρ S l (S[l]?) Q
      unfold chL
      rcases S[l]? with _ | (xs | _)
      · rfl
      · show wR (match mprimD p xs ds with
          | some (d, ys) => .ok d ρ (S.set l (.lst ys))
          | none => .no) Q = oP (mprimD p xs ds) _
        cases mprimD p xs ds <;> rfl
      · rfl
    | _ => rfl
  · show wR (match mprimD p xs ds with
      | some (d, ys) => .ok d (ρ.set i (some (.ol ys))) S
      | none => .no) Q = oP (mprimD p xs ds) _
    cases mprimD p xs ds <;> rfl
  · rfl
def mvD (o : Option Cell) : Option D := match o with
  | some (Cell.lst ds) => some (D.lst ds)
  | some (Cell.obj c fs vs) => some (D.obj c fs vs)
  | none => none
theorem v_mut : viewD S (.mut l) = mvD (S[l]?) := by
  show (match S[l]? with
    | some (Cell.lst ds) => some (D.lst ds)
    | some (Cell.obj c fs vs) => some (D.obj c fs vs)
    | none => none) = _
  unfold mvD
  rcases S[l]? with _ | (_ | _) <;> rfl
theorem mvD_l : mvD (some (.lst ds)) = some (.lst ds) := rfl
end
section
variable {a b c d e x : D}
theorem put1 : mprimD .put [a, b, c, d, e] [.int 1, x] = some (.non, [a, x, c, d, e]) := rfl
theorem put2 : mprimD .put [a, b, c, d, e] [.int 2, x] = some (.non, [a, b, x, d, e]) := rfl
theorem put3 : mprimD .put [a, b, c, d, e] [.int 3, x] = some (.non, [a, b, c, x, e]) := rfl
theorem put4 : mprimD .put [a, b, c, d, e] [.int 4, x] = some (.non, [a, b, c, d, x]) := rfl
end
theorem abs_i {i : Int} : absD (.int i) = some (.int (if i < 0 then -i else i)) := rfl
theorem int_i {i : Int} : intD (.int i) = some (.int i) := rfl
theorem neg_i {i : Int} : negD (.int i) = some (.int (-i)) := rfl
/-- the bag of draws, in cell 0 -/
def Bag (S : Sto) : Prop := ∃ (cs : List Int) (p g m k : Int), S = [Cell.lst [D.lst (cs.map D.int), D.int p, D.int g, D.int m, D.int k]] ∧ 0 ≤ p ∧ p ≤ cs.length ∧ 0 ≤ g ∧ 0 ≤ m ∧ m < 2147483648
local macro_rules | `(tactic| walk_at "w") => `(tactic| simp (config := {failIfUnchanged := false, implicitDefEqProofs := false}) only [eq_nil, v_FORMS, v_DIFF, in_FORMS, item_FORMS, in_DIFF, item_DIFF, slice1, setPar_nil, setPar_v, setPar_o, sl_10, sl_01, zp_tt, zp_ll, freeAt, Option.isSome_some, Option.isSome_none, Option.map_some, Option.map_none, List.drop_succ_cons, List.drop_zero, len_s, ty_dic, ty_sh, ty_un, v_sh, v_un, get_sh, get_un, is_nn, is_tn, s_name_name, s_name_bool, s_name_share, s_name_lot, s_name_deed, s_name_cells, s_name_heirs, s_bool_name, s_bool_bool, s_bool_share, s_bool_lot, s_bool_deed, s_bool_cells, s_bool_heirs, s_number_name, s_number_bool, s_number_share, s_number_lot, s_number_deed, s_number_cells, s_number_heirs, s_amount_name, s_amount_bool, s_amount_share, s_amount_lot, s_amount_deed, s_amount_cells, s_amount_heirs, s_day_name, s_day_bool, s_day_share, s_day_lot, s_day_deed, s_day_cells, s_day_heirs, s_share_name, s_share_bool, s_share_share, s_share_lot, s_share_deed, s_share_cells, s_share_heirs, s_lot_name, s_lot_bool, s_lot_share, s_lot_lot, s_lot_deed, s_lot_cells, s_lot_heirs, s_deed_name, s_deed_bool, s_deed_share, s_deed_lot, s_deed_deed, s_deed_cells, s_deed_heirs, s_heirs_name, s_heirs_bool, s_heirs_share, s_heirs_lot, s_heirs_deed, s_heirs_cells, s_heirs_heirs, s_cells_name, s_cells_bool, s_cells_share, s_cells_lot, s_cells_deed, s_cells_cells, s_cells_heirs, i_name, i_bool, i_number, i_amount, i_day, i_share, i_lot, i_deed, i_heirs, i_cells, in_si, al1, al2, ↓ch_w, chS_o, chS_m, ↓chS_o, ↓chS_m, chL_l, ↓chL_l, v_mut, mvD_l, put1, put2, put3, put4, abs_i, int_i, neg_i, ↓oP_some, ↓onB_some, ↓onS_some, ↓onNx_nx, ↓onNx_ret, ↓onNx_brk, ↓onNx_ct, ↓rdS_v, ↓rdS_ol, ↓onI_int, ↓onFn_fn, ↓onLst_l, ↓wF_ret, ↓wR_ok, ↓wR_ofO, ↓if_true, ↓if_false, ↓flF_ret, ↓flF_nx, oP_some, onB_some, onS_some, onNx_nx, onNx_ret, onNx_brk, onNx_ct, rdS_v, rdS_ol, onI_int, onFn_fn, onLst_l, wF_ret, wR_ok, wR_ofO, if_true, if_false, flF_ret, flF_nx, wR_ok, wR_no, wR_ofO, ↓wE_var, ↓wE_const, ↓wE_prim, ↓wE_slice, ↓wE_meth, ↓wE_mprim, ↓wE_tup, ↓wE_lst, ↓wE_cell, ↓wE_dic, ↓wE_and, ↓wE_or, ↓wE_not, ↓wE_if, ↓wE_chain, ↓wE_call, ↓wE_new, ↓wE_callv, onFn_fn, ↓wE_comp, ↓wE_scomp, ↓turnC_w, ↓wL_nil, ↓wL_cons, ↓wV_nil, ↓wV_cons, onI_int, ↓wP_nil, ↓wP_cons, ↓wCh_one, ↓wCh_more, ↓wIf_nil, ↓wIf_cons, ↓wI_seq, ↓wI_range, ↓wI_zip, ↓wA_peek, ↓wA_const, ↓wA_prim, ↓wA_slice, ↓wA_meth, ↓wA_mprim, ↓wA_tup, ↓wA_lst, ↓wA_cell, ↓wA_dic, ↓wA_and, ↓wA_or, ↓wA_not, ↓wA_ifE, ↓wA_chain, ↓wA_call, ↓wA_callv, ↓wA_new, ↓wA_comp, ↓wA_scomp, ↓wA_var, ↓look_nil, ↓look_cons, lookAV_d, lookAV_pk, slV_v, slV_ol, slV_oo, ↓rd_w, rdS_v, rdS_ol, ↓wS_asg, ↓wS_asgO, onLst_l, ↓wS_par, ↓wS_put, ↓wS_expr, ↓wS_ret, ↓wS_ite, ↓wS_for, ↓bodyS_w, ↓wS_while, ↓wS_pass, ↓wS_retN, ↓wS_brk, ↓wS_cont, ↓wB_nil, ↓wB_cons, flF_nx, flF_ret, onNx_nx, onNx_ret, onNx_brk, onNx_ct, onB_some, oP_some, oP_none, oP_blO, oP_notO, oP_lstO, onS_some, wF_ret, p_isi, p_eq, p_ne, p_lt, p_le, p_gt, p_ge, p_is, p_isnot, p_in, p_notin, p_item, p_len, p_all, p_any, p_add, p_sub, p_mul, p_fdiv, p_mod, p_pow, p_neg, p_abs, p_int, p_join, p_get2, p_get3, p_list, p_tuple, p_sorted, p_set, p_dict, p_attr, tru_bl, tru_non, v_non, v_bl, v_int, v_str, v_ty, v_fn, v_cls, v_tup, v_lst, v_dic, v_set, v_obj, lt_ii, le_ii, lt_ss, len_str, len_tup, len_lst, len_set, len_dic, sub_ii, add_ii, seq_str, seq_tup, seq_lst, item_ti, item_li, eq_ii, eq_ss, eq_bb, all_bls, ↓bindT_nm, ↓bindT_tup, ↓bindTs_nil, ↓bindTs_cons, List.all_cons, List.all_nil, List.set_cons_zero, List.set_cons_succ, List.getElem?_cons_zero, List.getElem?_cons_succ, List.getElem?_nil, wipeE, backE, List.foldl_cons, List.foldl_nil, Option.getD_some, List.length_cons, List.length_nil, List.length_set, Nat.reduceSub, Nat.reduceAdd, Nat.reduceLT, Nat.reduceLeDiff, List.replicate_succ, List.replicate_zero, List.map_cons, List.map_nil, List.nil_append, List.cons_append, List.append_nil, env0, decide_true, decide_false, Bool.and_true, Bool.true_and, Bool.not_true, Bool.not_false, Bool.false_eq_true, if_true, if_false, true_and, and_true, decide_eq_true_eq, Nat.zero_lt_succ, Nat.succ_lt_succ_iff, rng_w1, rng_w2, mul_w, fdiv_w, mod_w, pow_w, adds_w, addt_w, addl_w, atI_l0, atI_l1, atI_l2, atI_l3, atI_l4, nc0, nc1, nc2, nc3, nc4, nc5, nc6, nc7, Int.reduceBEq, noOwn_nil, noOwn_cons, ownF_v, ownF_n, ownF_vs])
local macro_rules | `(tactic| k_search $a) => `(tactic| simp (config := {failIfUnchanged := false, implicitDefEqProofs := false}) only [$a:term, eq_nil, v_FORMS, v_DIFF, in_FORMS, item_FORMS, in_DIFF, item_DIFF, slice1, setPar_nil, setPar_v, setPar_o, sl_10, sl_01, zp_tt, zp_ll, freeAt, Option.isSome_some, Option.isSome_none, Option.map_some, Option.map_none, List.drop_succ_cons, List.drop_zero, len_s, ty_dic, ty_sh, ty_un, v_sh, v_un, get_sh, get_un, is_nn, is_tn, s_name_name, s_name_bool, s_name_share, s_name_lot, s_name_deed, s_name_cells, s_name_heirs, s_bool_name, s_bool_bool, s_bool_share, s_bool_lot, s_bool_deed, s_bool_cells, s_bool_heirs, s_number_name, s_number_bool, s_number_share, s_number_lot, s_number_deed, s_number_cells, s_number_heirs, s_amount_name, s_amount_bool, s_amount_share, s_amount_lot, s_amount_deed, s_amount_cells, s_amount_heirs, s_day_name, s_day_bool, s_day_share, s_day_lot, s_day_deed, s_day_cells, s_day_heirs, s_share_name, s_share_bool, s_share_share, s_share_lot, s_share_deed, s_share_cells, s_share_heirs, s_lot_name, s_lot_bool, s_lot_share, s_lot_lot, s_lot_deed, s_lot_cells, s_lot_heirs, s_deed_name, s_deed_bool, s_deed_share, s_deed_lot, s_deed_deed, s_deed_cells, s_deed_heirs, s_heirs_name, s_heirs_bool, s_heirs_share, s_heirs_lot, s_heirs_deed, s_heirs_cells, s_heirs_heirs, s_cells_name, s_cells_bool, s_cells_share, s_cells_lot, s_cells_deed, s_cells_cells, s_cells_heirs, i_name, i_bool, i_number, i_amount, i_day, i_share, i_lot, i_deed, i_heirs, i_cells, in_si, al1, al2, ↓ch_w, chS_o, chS_m, ↓chS_o, ↓chS_m, chL_l, ↓chL_l, v_mut, mvD_l, put1, put2, put3, put4, abs_i, int_i, neg_i, ↓oP_some, ↓onB_some, ↓onS_some, ↓onNx_nx, ↓onNx_ret, ↓onNx_brk, ↓onNx_ct, ↓rdS_v, ↓rdS_ol, ↓onI_int, ↓onFn_fn, ↓onLst_l, ↓wF_ret, ↓wR_ok, ↓wR_ofO, ↓if_true, ↓if_false, ↓flF_ret, ↓flF_nx, oP_some, onB_some, onS_some, onNx_nx, onNx_ret, onNx_brk, onNx_ct, rdS_v, rdS_ol, onI_int, onFn_fn, onLst_l, wF_ret, wR_ok, wR_ofO, if_true, if_false, flF_ret, flF_nx, wR_ok, wR_no, wR_ofO, ↓wE_var, ↓wE_const, ↓wE_prim, ↓wE_slice, ↓wE_meth, ↓wE_mprim, ↓wE_tup, ↓wE_lst, ↓wE_cell, ↓wE_dic, ↓wE_and, ↓wE_or, ↓wE_not, ↓wE_if, ↓wE_chain, ↓wE_call, ↓wE_new, ↓wE_callv, onFn_fn, ↓wE_comp, ↓wE_scomp, ↓turnC_w, ↓wL_nil, ↓wL_cons, ↓wV_nil, ↓wV_cons, onI_int, ↓wP_nil, ↓wP_cons, ↓wCh_one, ↓wCh_more, ↓wIf_nil, ↓wIf_cons, ↓wI_seq, ↓wI_range, ↓wI_zip, ↓wA_peek, ↓wA_const, ↓wA_prim, ↓wA_slice, ↓wA_meth, ↓wA_mprim, ↓wA_tup, ↓wA_lst, ↓wA_cell, ↓wA_dic, ↓wA_and, ↓wA_or, ↓wA_not, ↓wA_ifE, ↓wA_chain, ↓wA_call, ↓wA_callv, ↓wA_new, ↓wA_comp, ↓wA_scomp, ↓wA_var, ↓look_nil, ↓look_cons, lookAV_d, lookAV_pk, slV_v, slV_ol, slV_oo, ↓rd_w, rdS_v, rdS_ol, ↓wS_asg, ↓wS_asgO, onLst_l, ↓wS_par, ↓wS_put, ↓wS_expr, ↓wS_ret, ↓wS_ite, ↓wS_for, ↓bodyS_w, ↓wS_while, ↓wS_pass, ↓wS_retN, ↓wS_brk, ↓wS_cont, ↓wB_nil, ↓wB_cons, flF_nx, flF_ret, onNx_nx, onNx_ret, onNx_brk, onNx_ct, onB_some, oP_some, oP_none, oP_blO, oP_notO, oP_lstO, onS_some, wF_ret, p_isi, p_eq, p_ne, p_lt, p_le, p_gt, p_ge, p_is, p_isnot, p_in, p_notin, p_item, p_len, p_all, p_any, p_add, p_sub, p_mul, p_fdiv, p_mod, p_pow, p_neg, p_abs, p_int, p_join, p_get2, p_get3, p_list, p_tuple, p_sorted, p_set, p_dict, p_attr, tru_bl, tru_non, v_non, v_bl, v_int, v_str, v_ty, v_fn, v_cls, v_tup, v_lst, v_dic, v_set, v_obj, lt_ii, le_ii, lt_ss, len_str, len_tup, len_lst, len_set, len_dic, sub_ii, add_ii, seq_str, seq_tup, seq_lst, item_ti, item_li, eq_ii, eq_ss, eq_bb, all_bls, ↓bindT_nm, ↓bindT_tup, ↓bindTs_nil, ↓bindTs_cons, List.all_cons, List.all_nil, List.set_cons_zero, List.set_cons_succ, List.getElem?_cons_zero, List.getElem?_cons_succ, List.getElem?_nil, wipeE, backE, List.foldl_cons, List.foldl_nil, Option.getD_some, List.length_cons, List.length_nil, List.length_set, Nat.reduceSub, Nat.reduceAdd, Nat.reduceLT, Nat.reduceLeDiff, List.replicate_succ, List.replicate_zero, List.map_cons, List.map_nil, List.nil_append, List.cons_append, List.append_nil, env0, decide_true, decide_false, Bool.and_true, Bool.true_and, Bool.not_true, Bool.not_false, Bool.false_eq_true, if_true, if_false, true_and, and_true, decide_eq_true_eq, Nat.zero_lt_succ, Nat.succ_lt_succ_iff, rng_w1, rng_w2, mul_w, fdiv_w, mod_w, pow_w, adds_w, addt_w, addl_w, atI_l0, atI_l1, atI_l2, atI_l3, atI_l4, nc0, nc1, nc2, nc3, nc4, nc5, nc6, nc7, Int.reduceBEq, noOwn_nil, noOwn_cons, ownF_v, ownF_n, ownF_vs])
local macro_rules | `(tactic| ktr_call $a $b) => `(tactic| simp (config := {failIfUnchanged := false, implicitDefEqProofs := false}) only [$a:term, $b:term, eq_nil, v_FORMS, v_DIFF, in_FORMS, item_FORMS, in_DIFF, item_DIFF, slice1, setPar_nil, setPar_v, setPar_o, sl_10, sl_01, zp_tt, zp_ll, freeAt, Option.isSome_some, Option.isSome_none, Option.map_some, Option.map_none, List.drop_succ_cons, List.drop_zero, len_s, ty_dic, ty_sh, ty_un, v_sh, v_un, get_sh, get_un, is_nn, is_tn, s_name_name, s_name_bool, s_name_share, s_name_lot, s_name_deed, s_name_cells, s_name_heirs, s_bool_name, s_bool_bool, s_bool_share, s_bool_lot, s_bool_deed, s_bool_cells, s_bool_heirs, s_number_name, s_number_bool, s_number_share, s_number_lot, s_number_deed, s_number_cells, s_number_heirs, s_amount_name, s_amount_bool, s_amount_share, s_amount_lot, s_amount_deed, s_amount_cells, s_amount_heirs, s_day_name, s_day_bool, s_day_share, s_day_lot, s_day_deed, s_day_cells, s_day_heirs, s_share_name, s_share_bool, s_share_share, s_share_lot, s_share_deed, s_share_cells, s_share_heirs, s_lot_name, s_lot_bool, s_lot_share, s_lot_lot, s_lot_deed, s_lot_cells, s_lot_heirs, s_deed_name, s_deed_bool, s_deed_share, s_deed_lot, s_deed_deed, s_deed_cells, s_deed_heirs, s_heirs_name, s_heirs_bool, s_heirs_share, s_heirs_lot, s_heirs_deed, s_heirs_cells, s_heirs_heirs, s_cells_name, s_cells_bool, s_cells_share, s_cells_lot, s_cells_deed, s_cells_cells, s_cells_heirs, i_name, i_bool, i_number, i_amount, i_day, i_share, i_lot, i_deed, i_heirs, i_cells, in_si, al1, al2, ↓ch_w, chS_o, chS_m, ↓chS_o, ↓chS_m, chL_l, ↓chL_l, v_mut, mvD_l, put1, put2, put3, put4, abs_i, int_i, neg_i, ↓oP_some, ↓onB_some, ↓onS_some, ↓onNx_nx, ↓onNx_ret, ↓onNx_brk, ↓onNx_ct, ↓rdS_v, ↓rdS_ol, ↓onI_int, ↓onFn_fn, ↓onLst_l, ↓wF_ret, ↓wR_ok, ↓wR_ofO, ↓if_true, ↓if_false, ↓flF_ret, ↓flF_nx, oP_some, onB_some, onS_some, onNx_nx, onNx_ret, onNx_brk, onNx_ct, rdS_v, rdS_ol, onI_int, onFn_fn, onLst_l, wF_ret, wR_ok, wR_ofO, if_true, if_false, flF_ret, flF_nx, wR_ok, wR_no, wR_ofO, ↓wE_var, ↓wE_const, ↓wE_prim, ↓wE_slice, ↓wE_meth, ↓wE_mprim, ↓wE_tup, ↓wE_lst, ↓wE_cell, ↓wE_dic, ↓wE_and, ↓wE_or, ↓wE_not, ↓wE_if, ↓wE_chain, ↓wE_call, ↓wE_new, ↓wE_callv, onFn_fn, ↓wE_comp, ↓wE_scomp, ↓turnC_w, ↓wL_nil, ↓wL_cons, ↓wV_nil, ↓wV_cons, onI_int, ↓wP_nil, ↓wP_cons, ↓wCh_one, ↓wCh_more, ↓wIf_nil, ↓wIf_cons, ↓wI_seq, ↓wI_range, ↓wI_zip, ↓wA_peek, ↓wA_const, ↓wA_prim, ↓wA_slice, ↓wA_meth, ↓wA_mprim, ↓wA_tup, ↓wA_lst, ↓wA_cell, ↓wA_dic, ↓wA_and, ↓wA_or, ↓wA_not, ↓wA_ifE, ↓wA_chain, ↓wA_call, ↓wA_callv, ↓wA_new, ↓wA_comp, ↓wA_scomp, ↓wA_var, ↓look_nil, ↓look_cons, lookAV_d, lookAV_pk, slV_v, slV_ol, slV_oo, ↓rd_w, rdS_v, rdS_ol, ↓wS_asg, ↓wS_asgO, onLst_l, ↓wS_par, ↓wS_put, ↓wS_expr, ↓wS_ret, ↓wS_ite, ↓wS_for, ↓bodyS_w, ↓wS_while, ↓wS_pass, ↓wS_retN, ↓wS_brk, ↓wS_cont, ↓wB_nil, ↓wB_cons, flF_nx, flF_ret, onNx_nx, onNx_ret, onNx_brk, onNx_ct, onB_some, oP_some, oP_none, oP_blO, oP_notO, oP_lstO, onS_some, wF_ret, p_isi, p_eq, p_ne, p_lt, p_le, p_gt, p_ge, p_is, p_isnot, p_in, p_notin, p_item, p_len, p_all, p_any, p_add, p_sub, p_mul, p_fdiv, p_mod, p_pow, p_neg, p_abs, p_int, p_join, p_get2, p_get3, p_list, p_tuple, p_sorted, p_set, p_dict, p_attr, tru_bl, tru_non, v_non, v_bl, v_int, v_str, v_ty, v_fn, v_cls, v_tup, v_lst, v_dic, v_set, v_obj, lt_ii, le_ii, lt_ss, len_str, len_tup, len_lst, len_set, len_dic, sub_ii, add_ii, seq_str, seq_tup, seq_lst, item_ti, item_li, eq_ii, eq_ss, eq_bb, all_bls, ↓bindT_nm, ↓bindT_tup, ↓bindTs_nil, ↓bindTs_cons, List.all_cons, List.all_nil, List.set_cons_zero, List.set_cons_succ, List.getElem?_cons_zero, List.getElem?_cons_succ, List.getElem?_nil, wipeE, backE, List.foldl_cons, List.foldl_nil, Option.getD_some, List.length_cons, List.length_nil, List.length_set, Nat.reduceSub, Nat.reduceAdd, Nat.reduceLT, Nat.reduceLeDiff, List.replicate_succ, List.replicate_zero, List.map_cons, List.map_nil, List.nil_append, List.cons_append, List.append_nil, env0, decide_true, decide_false, Bool.and_true, Bool.true_and, Bool.not_true, Bool.not_false, Bool.false_eq_true, if_true, if_false, true_and, and_true, decide_eq_true_eq, Nat.zero_lt_succ, Nat.succ_lt_succ_iff, rng_w1, rng_w2, mul_w, fdiv_w, mod_w, pow_w, adds_w, addt_w, addl_w, atI_l0, atI_l1, atI_l2, atI_l3, atI_l4, nc0, nc1, nc2, nc3, nc4, nc5, nc6, nc7, Int.reduceBEq, noOwn_nil, noOwn_cons, ownF_v, ownF_n, ownF_vs])
local macro_rules | `(tactic| k_whileD $a $b $c "w") => `(tactic| simp (config := {failIfUnchanged := false, implicitDefEqProofs := false}) only [$a:term, $b:term, $c:term, eq_nil, v_FORMS, v_DIFF, in_FORMS, item_FORMS, in_DIFF, item_DIFF, slice1, setPar_nil, setPar_v, setPar_o, sl_10, sl_01, zp_tt, zp_ll, freeAt, Option.isSome_some, Option.isSome_none, Option.map_some, Option.map_none, List.drop_succ_cons, List.drop_zero, len_s, ty_dic, ty_sh, ty_un, v_sh, v_un, get_sh, get_un, is_nn, is_tn, s_name_name, s_name_bool, s_name_share, s_name_lot, s_name_deed, s_name_cells, s_name_heirs, s_bool_name, s_bool_bool, s_bool_share, s_bool_lot, s_bool_deed, s_bool_cells, s_bool_heirs, s_number_name, s_number_bool, s_number_share, s_number_lot, s_number_deed, s_number_cells, s_number_heirs, s_amount_name, s_amount_bool, s_amount_share, s_amount_lot, s_amount_deed, s_amount_cells, s_amount_heirs, s_day_name, s_day_bool, s_day_share, s_day_lot, s_day_deed, s_day_cells, s_day_heirs, s_share_name, s_share_bool, s_share_share, s_share_lot, s_share_deed, s_share_cells, s_share_heirs, s_lot_name, s_lot_bool, s_lot_share, s_lot_lot, s_lot_deed, s_lot_cells, s_lot_heirs, s_deed_name, s_deed_bool, s_deed_share, s_deed_lot, s_deed_deed, s_deed_cells, s_deed_heirs, s_heirs_name, s_heirs_bool, s_heirs_share, s_heirs_lot, s_heirs_deed, s_heirs_cells, s_heirs_heirs, s_cells_name, s_cells_bool, s_cells_share, s_cells_lot, s_cells_deed, s_cells_cells, s_cells_heirs, i_name, i_bool, i_number, i_amount, i_day, i_share, i_lot, i_deed, i_heirs, i_cells, in_si, al1, al2, ↓ch_w, chS_o, chS_m, ↓chS_o, ↓chS_m, chL_l, ↓chL_l, v_mut, mvD_l, put1, put2, put3, put4, abs_i, int_i, neg_i, ↓oP_some, ↓onB_some, ↓onS_some, ↓onNx_nx, ↓onNx_ret, ↓onNx_brk, ↓onNx_ct, ↓rdS_v, ↓rdS_ol, ↓onI_int, ↓onFn_fn, ↓onLst_l, ↓wF_ret, ↓wR_ok, ↓wR_ofO, ↓if_true, ↓if_false, ↓flF_ret, ↓flF_nx, oP_some, onB_some, onS_some, onNx_nx, onNx_ret, onNx_brk, onNx_ct, rdS_v, rdS_ol, onI_int, onFn_fn, onLst_l, wF_ret, wR_ok, wR_ofO, if_true, if_false, flF_ret, flF_nx, wR_ok, wR_no, wR_ofO, ↓wE_var, ↓wE_const, ↓wE_prim, ↓wE_slice, ↓wE_meth, ↓wE_mprim, ↓wE_tup, ↓wE_lst, ↓wE_cell, ↓wE_dic, ↓wE_and, ↓wE_or, ↓wE_not, ↓wE_if, ↓wE_chain, ↓wE_call, ↓wE_new, ↓wE_callv, onFn_fn, ↓wE_comp, ↓wE_scomp, ↓turnC_w, ↓wL_nil, ↓wL_cons, ↓wV_nil, ↓wV_cons, onI_int, ↓wP_nil, ↓wP_cons, ↓wCh_one, ↓wCh_more, ↓wIf_nil, ↓wIf_cons, ↓wI_seq, ↓wI_range, ↓wI_zip, ↓wA_peek, ↓wA_const, ↓wA_prim, ↓wA_slice, ↓wA_meth, ↓wA_mprim, ↓wA_tup, ↓wA_lst, ↓wA_cell, ↓wA_dic, ↓wA_and, ↓wA_or, ↓wA_not, ↓wA_ifE, ↓wA_chain, ↓wA_call, ↓wA_callv, ↓wA_new, ↓wA_comp, ↓wA_scomp, ↓wA_var, ↓look_nil, ↓look_cons, lookAV_d, lookAV_pk, slV_v, slV_ol, slV_oo, ↓rd_w, rdS_v, rdS_ol, ↓wS_asg, ↓wS_asgO, onLst_l, ↓wS_par, ↓wS_put, ↓wS_expr, ↓wS_ret, ↓wS_ite, ↓wS_for, ↓bodyS_w, ↓wS_while, ↓wS_pass, ↓wS_retN, ↓wS_brk, ↓wS_cont, ↓wB_nil, ↓wB_cons, flF_nx, flF_ret, onNx_nx, onNx_ret, onNx_brk, onNx_ct, onB_some, oP_some, oP_none, oP_blO, oP_notO, oP_lstO, onS_some, wF_ret, p_isi, p_eq, p_ne, p_lt, p_le, p_gt, p_ge, p_is, p_isnot, p_in, p_notin, p_item, p_len, p_all, p_any, p_add, p_sub, p_mul, p_fdiv, p_mod, p_pow, p_neg, p_abs, p_int, p_join, p_get2, p_get3, p_list, p_tuple, p_sorted, p_set, p_dict, p_attr, tru_bl, tru_non, v_non, v_bl, v_int, v_str, v_ty, v_fn, v_cls, v_tup, v_lst, v_dic, v_set, v_obj, lt_ii, le_ii, lt_ss, len_str, len_tup, len_lst, len_set, len_dic, sub_ii, add_ii, seq_str, seq_tup, seq_lst, item_ti, item_li, eq_ii, eq_ss, eq_bb, all_bls, ↓bindT_nm, ↓bindT_tup, ↓bindTs_nil, ↓bindTs_cons, List.all_cons, List.all_nil, List.set_cons_zero, List.set_cons_succ, List.getElem?_cons_zero, List.getElem?_cons_succ, List.getElem?_nil, wipeE, backE, List.foldl_cons, List.foldl_nil, Option.getD_some, List.length_cons, List.length_nil, List.length_set, Nat.reduceSub, Nat.reduceAdd, Nat.reduceLT, Nat.reduceLeDiff, List.replicate_succ, List.replicate_zero, List.map_cons, List.map_nil, List.nil_append, List.cons_append, List.append_nil, env0, decide_true, decide_false, Bool.and_true, Bool.true_and, Bool.not_true, Bool.not_false, Bool.false_eq_true, if_true, if_false, true_and, and_true, decide_eq_true_eq, Nat.zero_lt_succ, Nat.succ_lt_succ_iff, rng_w1, rng_w2, mul_w, fdiv_w, mod_w, pow_w, adds_w, addt_w, addl_w, atI_l0, atI_l1, atI_l2, atI_l3, atI_l4, nc0, nc1, nc2, nc3, nc4, nc5, nc6, nc7, Int.reduceBEq, noOwn_nil, noOwn_cons, ownF_v, ownF_n, ownF_vs])
theorem at_int {cs : List Int} {p : Int} (h0 : 0 ≤ p) (h1 : p < cs.length) : ∃ c, atI (cs.map D.int) p = some (.int c) := by
  obtain ⟨j, rfl⟩ : ∃ j : Nat, p = j := ⟨p.toNat, by omega⟩
  refine ⟨cs[j]'(by omega), ?_⟩
  rw [atI_nn, List.getElem?_map, List.getElem?_eq_getElem (by omega)]
  rfl
theorem s64 {m : Int} (h : 0 ≤ m) (k : m < 2147483648) : small64 m := by
  unfold small64
  omega
theorem bag_of {cs : List Int} {p g m k : Int} (p0 : 0 ≤ p) (p1 : p ≤ cs.length) (g0 : 0 ≤ g) (m0 : 0 ≤ m) (m1 : m < 2147483648) : Bag [Cell.lst [D.lst (cs.map D.int), D.int p, D.int g, D.int m, D.int k]] := ⟨cs, p, g, m, k, rfl, p0, p1, g0, m0, m1⟩
theorem dr_mod {x : Int} : 0 ≤ x % 2147483587 ∧ x % 2147483587 < 2147483648 := by omega
theorem dr_mod2 {x : Int} : 0 ≤ x % 2147483629 ∧ x % 2147483629 < 2147483648 := by omega
theorem dr_tail {cs : List Int} {p g m k sides : Int} (p0 : 0 ≤ p) (p1 : p ≤ cs.length) (g0 : 0 ≤ g) (m0 : 0 ≤ m) (m1 : m < 2147483648) (h0 : 0 < sides) :
    (small64 m ∨ small64 49033) ∧ (small64 k ∨ small64 110039) ∧ (small64 m ∨ small64 m) ∧ (small64 (m * m) ∨ small64 17) ∧ (0 : Int) < 2147483587 ∧ ((0 : Int) < 71 ∧ (71 : Int) < 1073741824) ∧ (0 : Int) < 8011 ∧
    (small64 ((m * m * 17 + (m * 49033 + k * 110039 + 60041)) % 2147483587 % 8011) ∨ small64 61) ∧ 0 < sides ∧
    ∃ r, D.int (((m * m * 17 + (m * 49033 + k * 110039 + 60041)) % 2147483587 / 71 + (m * m * 17 + (m * 49033 + k * 110039 + 60041)) % 2147483587 % 8011 * 61) % sides) = D.int r ∧ 0 ≤ r ∧ r < sides ∧
      Bag [Cell.lst [D.lst (cs.map D.int), D.int p, D.int g, D.int ((m * m * 17 + (m * 49033 + k * 110039 + 60041)) % 2147483587), D.int k]] :=
  ⟨.inr (by decide), .inr (by decide), .inl (s64 m0 m1), .inr (by decide), by decide, by decide, by decide, .inr (by decide), h0, _, rfl, Int.emod_nonneg _ (by omega), Int.emod_lt_of_pos _ h0, bag_of p0 p1 g0 dr_mod.1 dr_mod.2⟩
section
variable {n : Nat} {S : Sto}
theorem l_draw {sides : Int} (hS : Bag S) (h0 : 0 < sides) (h1 : sides < 1073741824) : wF (G (n + 1) (.fn "_law_draw") [.mut 0, .int sides] S) fun d S' => ∃ r, d = .int r ∧ 0 ≤ r ∧ r < sides ∧ Bag S' := by
  obtain ⟨cs, p, g, m, k, rfl, p0, p1, g0, m0, m1⟩ := hS
  rw [G_fn (c := c__law_draw) rfl rfl rfl (by decide)]
  simp only [c__law_draw]
  by_cases hc : g = 0 ∧ p < cs.length
  · obtain ⟨rfl, hp⟩ := hc
    obtain ⟨c, ec⟩ := at_int p0 hp
    have e1 : ((0 : Int) == 0) = true := rfl
    have hp' : p < ((cs.map D.int).length : Int) := by rw [List.length_map]; exact hp
    k_whileD ec hp' e1 "w"
    refine ⟨by decide, ?_⟩
    have ha : 0 ≤ (if c < 0 then -c else c) := by split <;> omega
    generalize (if c < 0 then -c else c) = a at ha
    by_cases c1 : (10 : Int) ^ Int.toNat 18 ≤ a
    · rw [if_pos c1]
      by_cases c2 : 0 < a
      · rw [if_pos c2]
        exact ⟨h0, ⟨h0, h1⟩, _, rfl, Int.emod_nonneg _ (by omega), Int.emod_lt_of_pos _ h0, bag_of (by omega) (by omega) (Int.ediv_nonneg ha (by omega)) m0 m1⟩
      · rw [if_neg c2]
        exact dr_tail (by omega) (by omega) ha m0 m1 h0
    · rw [if_neg c1]
      refine ⟨by decide, .inr (by decide), .inr (by decide), by decide, ?_⟩
      rw [if_neg (by decide)]
      exact dr_tail (by omega) (by omega) (by omega) dr_mod2.1 dr_mod2.2 h0
  · by_cases hg : 0 < g
    · have e1 : (g == 0) = false := by rw [beq_eq_false_iff_ne]; omega
      ktr_call e1 hg
      exact ⟨h0, ⟨h0, h1⟩, _, rfl, Int.emod_nonneg _ (by omega), Int.emod_lt_of_pos _ h0, bag_of p0 p1 (Int.ediv_nonneg g0 (by omega)) m0 m1⟩
    · have e0 : g = 0 := by omega
      subst e0
      have hp : ¬ p < ((cs.map D.int).length : Int) := by rw [List.length_map]; omega
      have e1 : ((0 : Int) == 0) = true := rfl
      ktr_call e1 hp
      exact dr_tail p0 p1 (by omega) m0 m1 h0
end
end R.M
end
section
set_option Elab.async false
set_option linter.all false
set_option maxRecDepth 100000
set_option maxHeartbeats 4000000
namespace R.M
open PySem L2
theorem comp_inv {α : Type} {turn : D → Env → Sto → Res (Option D)} {own : List Nat} {Q : List D → Env → Sto → Prop} {ρ : Env} {S : Sto} (P : D → Prop) (g : α → D) (l : List α) (hl : l.length ≤ sizeLine) (hS : Bag S)
    (h : ∀ a ∈ l, ∀ S, Bag S → wR (turn (g a) ρ S) fun o ρ' S' => ∃ y, o = some y ∧ P y ∧ wipeE ρ' own = ρ ∧ Bag S') (q : ∀ ys S', ys.length = l.length → (∀ y ∈ ys, P y) → Bag S' → Q ys ρ S') : wR (loopC turn own (l.map g) [] ρ S) Q := by
  refine loopC_inv (fun ds acc ρ' S' => ∃ pre post, l = pre ++ post ∧ ds = post.map g ∧ acc.length = pre.length ∧ (∀ y ∈ acc, P y) ∧ ρ' = ρ ∧ Bag S') ?_ ?_ _ _ _ _ ⟨[], l, rfl, rfl, rfl, fun _ z => (nomatch z), rfl, hS⟩
  · rintro acc ρ' S' ⟨pre, post, e, e2, e3, e4, rfl, e5⟩
    have : post = [] := by cases post <;> first | rfl | cases e2
    subst this
    rw [List.append_nil] at e
    subst e
    exact q acc S' e3 e4 e5
  · rintro d r acc ρ' S' ⟨pre, post, e, e2, e3, e4, rfl, e5⟩
    cases post with
    | nil => cases e2
    | cons a post =>
      rw [List.map_cons] at e2
      injection e2 with e6 e7
      subst e6 e7
      refine wR_mono (h a (by rw [e]; simp) S' e5) ?_
      rintro o ρ2 S2 ⟨y, rfl, e8, e9, e10⟩
      refine ⟨?_, pre ++ [a], post, by rw [e]; simp, rfl, by simp [e3], ?_, e9, e10⟩
      · have : l.length = pre.length + (post.length + 1) := by rw [e]; simp
        omega
      · intro z m
        rcases List.mem_append.mp m with m | m
        · exact e4 z m
        · have : z = y := by simpa using m
          rw [this]; exact e8
theorem pop_at {xs : List D} {r : Int} (h0 : 0 ≤ r) (h1 : r < xs.length) : ∃ x, x ∈ xs ∧ ∃ j, j < xs.length ∧ mprimD .pop xs [.int r] = some (x, xs.eraseIdx j) := by
  obtain ⟨j, rfl⟩ : ∃ j : Nat, r = j := ⟨r.toNat, by omega⟩
  have hj : j < xs.length := by omega
  refine ⟨xs[j], List.getElem_mem hj, j, hj, ?_⟩
  show (match ixN xs.length j with
    | some k => match xs[k]? with
      | some x => some (x, xs.eraseIdx k)
      | none => none
    | none => none) = _
  have : ixN xs.length j = some j := by
    unfold ixN
    simp [hj]
  rw [this]
  simp only [List.getElem?_eq_getElem hj]
theorem app_w {xs : List D} {x : D} {P : D × List D → Prop} : oP (mprimD .append xs [x]) P = (xs.length < sizeLine ∧ P (.non, xs ++ [x])) := by
  show oP (if xs.length < sizeLine then some (D.non, xs ++ [x]) else none) P = _
  rw [oP_ite]
  by_cases h : xs.length < sizeLine
  · rw [if_pos h]; simp only [h, true_and]; rfl
  · rw [if_neg h]; simp only [h, false_and]; rfl
theorem ins_w {xs : List D} {i : Int} {x : D} {P : D × List D → Prop} : oP (mprimD .insert xs [.int i, x]) P = ((0 ≤ i ∧ i < 2 ^ 62 ∧ xs.length < sizeLine) ∧ P (.non, xs.take i.toNat ++ x :: xs.drop i.toNat)) := by
  show oP (if 0 ≤ i ∧ i < 2 ^ 62 ∧ xs.length < sizeLine then some (D.non, xs.take i.toNat ++ x :: xs.drop i.toNat) else none) P = _
  rw [oP_ite]
  by_cases h : 0 ≤ i ∧ i < 2 ^ 62 ∧ xs.length < sizeLine
  · rw [if_pos h]; simp only [h, true_and]; rfl
  · rw [if_neg h]; simp only [h, false_and]; rfl
theorem ty_str {s : Str} : tyIs "str" (some (.str s)) = true := rfl
theorem ty_lst {s : List D} : tyIs "list" (some (.lst s)) = true := rfl
theorem item_si {s : Str} {i : Int} : itemD (.str s) (.int i) = (atI s.cps.toList i).map fun c => .str ⟨#[c]⟩ := rfl
theorem list_str {s : Str} : listD (.str s) = some (s.cps.toList.map fun c => .str ⟨#[c]⟩) := rfl
theorem list_tup {ds : List D} : listD (.tup ds) = some ds := rfl
theorem tup_lst {ds : List D} : tupleD (.lst ds) = some (.tup ds) := rfl
theorem at_mem {α : Type} {xs : List α} {r : Int} (h0 : 0 ≤ r) (h1 : r < xs.length) : ∃ x, x ∈ xs ∧ atI xs r = some x := by
  obtain ⟨j, rfl⟩ : ∃ j : Nat, r = j := ⟨r.toNat, by omega⟩
  have hj : j < xs.length := by omega
  exact ⟨xs[j], List.getElem_mem hj, by rw [atI_nn, List.getElem?_eq_getElem hj]⟩
local macro_rules | `(tactic| walk_at "w") => `(tactic| simp (config := {failIfUnchanged := false, implicitDefEqProofs := false}) only [eq_nil, v_FORMS, v_DIFF, in_FORMS, item_FORMS, in_DIFF, item_DIFF, slice1, setPar_nil, setPar_v, setPar_o, sl_10, sl_01, zp_tt, zp_ll, freeAt, Option.isSome_some, Option.isSome_none, Option.map_some, Option.map_none, List.drop_succ_cons, List.drop_zero, len_s, ty_dic, ty_sh, ty_un, v_sh, v_un, get_sh, get_un, is_nn, is_tn, s_name_name, s_name_bool, s_name_share, s_name_lot, s_name_deed, s_name_cells, s_name_heirs, s_bool_name, s_bool_bool, s_bool_share, s_bool_lot, s_bool_deed, s_bool_cells, s_bool_heirs, s_number_name, s_number_bool, s_number_share, s_number_lot, s_number_deed, s_number_cells, s_number_heirs, s_amount_name, s_amount_bool, s_amount_share, s_amount_lot, s_amount_deed, s_amount_cells, s_amount_heirs, s_day_name, s_day_bool, s_day_share, s_day_lot, s_day_deed, s_day_cells, s_day_heirs, s_share_name, s_share_bool, s_share_share, s_share_lot, s_share_deed, s_share_cells, s_share_heirs, s_lot_name, s_lot_bool, s_lot_share, s_lot_lot, s_lot_deed, s_lot_cells, s_lot_heirs, s_deed_name, s_deed_bool, s_deed_share, s_deed_lot, s_deed_deed, s_deed_cells, s_deed_heirs, s_heirs_name, s_heirs_bool, s_heirs_share, s_heirs_lot, s_heirs_deed, s_heirs_cells, s_heirs_heirs, s_cells_name, s_cells_bool, s_cells_share, s_cells_lot, s_cells_deed, s_cells_cells, s_cells_heirs, i_name, i_bool, i_number, i_amount, i_day, i_share, i_lot, i_deed, i_heirs, i_cells, in_si, al1, al2, ↓ch_w, chS_o, chS_m, ↓chS_o, ↓chS_m, chL_l, ↓chL_l, v_mut, mvD_l, put1, put2, put3, put4, abs_i, int_i, neg_i, app_w, ins_w, ty_str, ty_lst, item_si, list_str, list_tup, tup_lst, ↓oP_some, ↓onB_some, ↓onS_some, ↓onNx_nx, ↓onNx_ret, ↓onNx_brk, ↓onNx_ct, ↓rdS_v, ↓rdS_ol, ↓onI_int, ↓onFn_fn, ↓onLst_l, ↓wF_ret, ↓wR_ok, ↓wR_ofO, ↓if_true, ↓if_false, ↓flF_ret, ↓flF_nx, oP_some, onB_some, onS_some, onNx_nx, onNx_ret, onNx_brk, onNx_ct, rdS_v, rdS_ol, onI_int, onFn_fn, onLst_l, wF_ret, wR_ok, wR_ofO, if_true, if_false, flF_ret, flF_nx, wR_ok, wR_no, wR_ofO, ↓wE_var, ↓wE_const, ↓wE_prim, ↓wE_slice, ↓wE_meth, ↓wE_mprim, ↓wE_tup, ↓wE_lst, ↓wE_cell, ↓wE_dic, ↓wE_and, ↓wE_or, ↓wE_not, ↓wE_if, ↓wE_chain, ↓wE_call, ↓wE_new, ↓wE_callv, onFn_fn, ↓wE_comp, ↓wE_scomp, ↓turnC_w, ↓wL_nil, ↓wL_cons, ↓wV_nil, ↓wV_cons, onI_int, ↓wP_nil, ↓wP_cons, ↓wCh_one, ↓wCh_more, ↓wIf_nil, ↓wIf_cons, ↓wI_seq, ↓wI_range, ↓wI_zip, ↓wA_peek, ↓wA_const, ↓wA_prim, ↓wA_slice, ↓wA_meth, ↓wA_mprim, ↓wA_tup, ↓wA_lst, ↓wA_cell, ↓wA_dic, ↓wA_and, ↓wA_or, ↓wA_not, ↓wA_ifE, ↓wA_chain, ↓wA_call, ↓wA_callv, ↓wA_new, ↓wA_comp, ↓wA_scomp, ↓wA_var, ↓look_nil, ↓look_cons, lookAV_d, lookAV_pk, slV_v, slV_ol, slV_oo, ↓rd_w, rdS_v, rdS_ol, ↓wS_asg, ↓wS_asgO, onLst_l, ↓wS_par, ↓wS_put, ↓wS_expr, ↓wS_ret, ↓wS_ite, ↓wS_for, ↓bodyS_w, ↓wS_while, ↓wS_pass, ↓wS_retN, ↓wS_brk, ↓wS_cont, ↓wB_nil, ↓wB_cons, flF_nx, flF_ret, onNx_nx, onNx_ret, onNx_brk, onNx_ct, onB_some, oP_some, oP_none, oP_blO, oP_notO, oP_lstO, onS_some, wF_ret, p_isi, p_eq, p_ne, p_lt, p_le, p_gt, p_ge, p_is, p_isnot, p_in, p_notin, p_item, p_len, p_all, p_any, p_add, p_sub, p_mul, p_fdiv, p_mod, p_pow, p_neg, p_abs, p_int, p_join, p_get2, p_get3, p_list, p_tuple, p_sorted, p_set, p_dict, p_attr, tru_bl, tru_non, v_non, v_bl, v_int, v_str, v_ty, v_fn, v_cls, v_tup, v_lst, v_dic, v_set, v_obj, lt_ii, le_ii, lt_ss, len_str, len_tup, len_lst, len_set, len_dic, sub_ii, add_ii, seq_str, seq_tup, seq_lst, item_ti, item_li, eq_ii, eq_ss, eq_bb, all_bls, ↓bindT_nm, ↓bindT_tup, ↓bindTs_nil, ↓bindTs_cons, List.all_cons, List.all_nil, List.set_cons_zero, List.set_cons_succ, List.getElem?_cons_zero, List.getElem?_cons_succ, List.getElem?_nil, wipeE, backE, List.foldl_cons, List.foldl_nil, Option.getD_some, List.length_cons, List.length_nil, List.length_set, Nat.reduceSub, Nat.reduceAdd, Nat.reduceLT, Nat.reduceLeDiff, List.replicate_succ, List.replicate_zero, List.map_cons, List.map_nil, List.nil_append, List.cons_append, List.append_nil, env0, decide_true, decide_false, Bool.and_true, Bool.true_and, Bool.not_true, Bool.not_false, Bool.false_eq_true, if_true, if_false, true_and, and_true, decide_eq_true_eq, Nat.zero_lt_succ, Nat.succ_lt_succ_iff, rng_w1, rng_w2, mul_w, fdiv_w, mod_w, pow_w, adds_w, addt_w, addl_w, atI_l0, atI_l1, atI_l2, atI_l3, atI_l4, nc0, nc1, nc2, nc3, nc4, nc5, nc6, nc7, Int.reduceBEq, noOwn_nil, noOwn_cons, ownF_v, ownF_n, ownF_vs])
local macro_rules | `(tactic| k_search $a) => `(tactic| simp (config := {failIfUnchanged := false, implicitDefEqProofs := false}) only [$a:term, eq_nil, v_FORMS, v_DIFF, in_FORMS, item_FORMS, in_DIFF, item_DIFF, slice1, setPar_nil, setPar_v, setPar_o, sl_10, sl_01, zp_tt, zp_ll, freeAt, Option.isSome_some, Option.isSome_none, Option.map_some, Option.map_none, List.drop_succ_cons, List.drop_zero, len_s, ty_dic, ty_sh, ty_un, v_sh, v_un, get_sh, get_un, is_nn, is_tn, s_name_name, s_name_bool, s_name_share, s_name_lot, s_name_deed, s_name_cells, s_name_heirs, s_bool_name, s_bool_bool, s_bool_share, s_bool_lot, s_bool_deed, s_bool_cells, s_bool_heirs, s_number_name, s_number_bool, s_number_share, s_number_lot, s_number_deed, s_number_cells, s_number_heirs, s_amount_name, s_amount_bool, s_amount_share, s_amount_lot, s_amount_deed, s_amount_cells, s_amount_heirs, s_day_name, s_day_bool, s_day_share, s_day_lot, s_day_deed, s_day_cells, s_day_heirs, s_share_name, s_share_bool, s_share_share, s_share_lot, s_share_deed, s_share_cells, s_share_heirs, s_lot_name, s_lot_bool, s_lot_share, s_lot_lot, s_lot_deed, s_lot_cells, s_lot_heirs, s_deed_name, s_deed_bool, s_deed_share, s_deed_lot, s_deed_deed, s_deed_cells, s_deed_heirs, s_heirs_name, s_heirs_bool, s_heirs_share, s_heirs_lot, s_heirs_deed, s_heirs_cells, s_heirs_heirs, s_cells_name, s_cells_bool, s_cells_share, s_cells_lot, s_cells_deed, s_cells_cells, s_cells_heirs, i_name, i_bool, i_number, i_amount, i_day, i_share, i_lot, i_deed, i_heirs, i_cells, in_si, al1, al2, ↓ch_w, chS_o, chS_m, ↓chS_o, ↓chS_m, chL_l, ↓chL_l, v_mut, mvD_l, put1, put2, put3, put4, abs_i, int_i, neg_i, app_w, ins_w, ty_str, ty_lst, item_si, list_str, list_tup, tup_lst, ↓oP_some, ↓onB_some, ↓onS_some, ↓onNx_nx, ↓onNx_ret, ↓onNx_brk, ↓onNx_ct, ↓rdS_v, ↓rdS_ol, ↓onI_int, ↓onFn_fn, ↓onLst_l, ↓wF_ret, ↓wR_ok, ↓wR_ofO, ↓if_true, ↓if_false, ↓flF_ret, ↓flF_nx, oP_some, onB_some, onS_some, onNx_nx, onNx_ret, onNx_brk, onNx_ct, rdS_v, rdS_ol, onI_int, onFn_fn, onLst_l, wF_ret, wR_ok, wR_ofO, if_true, if_false, flF_ret, flF_nx, wR_ok, wR_no, wR_ofO, ↓wE_var, ↓wE_const, ↓wE_prim, ↓wE_slice, ↓wE_meth, ↓wE_mprim, ↓wE_tup, ↓wE_lst, ↓wE_cell, ↓wE_dic, ↓wE_and, ↓wE_or, ↓wE_not, ↓wE_if, ↓wE_chain, ↓wE_call, ↓wE_new, ↓wE_callv, onFn_fn, ↓wE_comp, ↓wE_scomp, ↓turnC_w, ↓wL_nil, ↓wL_cons, ↓wV_nil, ↓wV_cons, onI_int, ↓wP_nil, ↓wP_cons, ↓wCh_one, ↓wCh_more, ↓wIf_nil, ↓wIf_cons, ↓wI_seq, ↓wI_range, ↓wI_zip, ↓wA_peek, ↓wA_const, ↓wA_prim, ↓wA_slice, ↓wA_meth, ↓wA_mprim, ↓wA_tup, ↓wA_lst, ↓wA_cell, ↓wA_dic, ↓wA_and, ↓wA_or, ↓wA_not, ↓wA_ifE, ↓wA_chain, ↓wA_call, ↓wA_callv, ↓wA_new, ↓wA_comp, ↓wA_scomp, ↓wA_var, ↓look_nil, ↓look_cons, lookAV_d, lookAV_pk, slV_v, slV_ol, slV_oo, ↓rd_w, rdS_v, rdS_ol, ↓wS_asg, ↓wS_asgO, onLst_l, ↓wS_par, ↓wS_put, ↓wS_expr, ↓wS_ret, ↓wS_ite, ↓wS_for, ↓bodyS_w, ↓wS_while, ↓wS_pass, ↓wS_retN, ↓wS_brk, ↓wS_cont, ↓wB_nil, ↓wB_cons, flF_nx, flF_ret, onNx_nx, onNx_ret, onNx_brk, onNx_ct, onB_some, oP_some, oP_none, oP_blO, oP_notO, oP_lstO, onS_some, wF_ret, p_isi, p_eq, p_ne, p_lt, p_le, p_gt, p_ge, p_is, p_isnot, p_in, p_notin, p_item, p_len, p_all, p_any, p_add, p_sub, p_mul, p_fdiv, p_mod, p_pow, p_neg, p_abs, p_int, p_join, p_get2, p_get3, p_list, p_tuple, p_sorted, p_set, p_dict, p_attr, tru_bl, tru_non, v_non, v_bl, v_int, v_str, v_ty, v_fn, v_cls, v_tup, v_lst, v_dic, v_set, v_obj, lt_ii, le_ii, lt_ss, len_str, len_tup, len_lst, len_set, len_dic, sub_ii, add_ii, seq_str, seq_tup, seq_lst, item_ti, item_li, eq_ii, eq_ss, eq_bb, all_bls, ↓bindT_nm, ↓bindT_tup, ↓bindTs_nil, ↓bindTs_cons, List.all_cons, List.all_nil, List.set_cons_zero, List.set_cons_succ, List.getElem?_cons_zero, List.getElem?_cons_succ, List.getElem?_nil, wipeE, backE, List.foldl_cons, List.foldl_nil, Option.getD_some, List.length_cons, List.length_nil, List.length_set, Nat.reduceSub, Nat.reduceAdd, Nat.reduceLT, Nat.reduceLeDiff, List.replicate_succ, List.replicate_zero, List.map_cons, List.map_nil, List.nil_append, List.cons_append, List.append_nil, env0, decide_true, decide_false, Bool.and_true, Bool.true_and, Bool.not_true, Bool.not_false, Bool.false_eq_true, if_true, if_false, true_and, and_true, decide_eq_true_eq, Nat.zero_lt_succ, Nat.succ_lt_succ_iff, rng_w1, rng_w2, mul_w, fdiv_w, mod_w, pow_w, adds_w, addt_w, addl_w, atI_l0, atI_l1, atI_l2, atI_l3, atI_l4, nc0, nc1, nc2, nc3, nc4, nc5, nc6, nc7, Int.reduceBEq, noOwn_nil, noOwn_cons, ownF_v, ownF_n, ownF_vs])
local macro_rules | `(tactic| ktr_call $a $b) => `(tactic| simp (config := {failIfUnchanged := false, implicitDefEqProofs := false}) only [$a:term, $b:term, eq_nil, v_FORMS, v_DIFF, in_FORMS, item_FORMS, in_DIFF, item_DIFF, slice1, setPar_nil, setPar_v, setPar_o, sl_10, sl_01, zp_tt, zp_ll, freeAt, Option.isSome_some, Option.isSome_none, Option.map_some, Option.map_none, List.drop_succ_cons, List.drop_zero, len_s, ty_dic, ty_sh, ty_un, v_sh, v_un, get_sh, get_un, is_nn, is_tn, s_name_name, s_name_bool, s_name_share, s_name_lot, s_name_deed, s_name_cells, s_name_heirs, s_bool_name, s_bool_bool, s_bool_share, s_bool_lot, s_bool_deed, s_bool_cells, s_bool_heirs, s_number_name, s_number_bool, s_number_share, s_number_lot, s_number_deed, s_number_cells, s_number_heirs, s_amount_name, s_amount_bool, s_amount_share, s_amount_lot, s_amount_deed, s_amount_cells, s_amount_heirs, s_day_name, s_day_bool, s_day_share, s_day_lot, s_day_deed, s_day_cells, s_day_heirs, s_share_name, s_share_bool, s_share_share, s_share_lot, s_share_deed, s_share_cells, s_share_heirs, s_lot_name, s_lot_bool, s_lot_share, s_lot_lot, s_lot_deed, s_lot_cells, s_lot_heirs, s_deed_name, s_deed_bool, s_deed_share, s_deed_lot, s_deed_deed, s_deed_cells, s_deed_heirs, s_heirs_name, s_heirs_bool, s_heirs_share, s_heirs_lot, s_heirs_deed, s_heirs_cells, s_heirs_heirs, s_cells_name, s_cells_bool, s_cells_share, s_cells_lot, s_cells_deed, s_cells_cells, s_cells_heirs, i_name, i_bool, i_number, i_amount, i_day, i_share, i_lot, i_deed, i_heirs, i_cells, in_si, al1, al2, ↓ch_w, chS_o, chS_m, ↓chS_o, ↓chS_m, chL_l, ↓chL_l, v_mut, mvD_l, put1, put2, put3, put4, abs_i, int_i, neg_i, app_w, ins_w, ty_str, ty_lst, item_si, list_str, list_tup, tup_lst, ↓oP_some, ↓onB_some, ↓onS_some, ↓onNx_nx, ↓onNx_ret, ↓onNx_brk, ↓onNx_ct, ↓rdS_v, ↓rdS_ol, ↓onI_int, ↓onFn_fn, ↓onLst_l, ↓wF_ret, ↓wR_ok, ↓wR_ofO, ↓if_true, ↓if_false, ↓flF_ret, ↓flF_nx, oP_some, onB_some, onS_some, onNx_nx, onNx_ret, onNx_brk, onNx_ct, rdS_v, rdS_ol, onI_int, onFn_fn, onLst_l, wF_ret, wR_ok, wR_ofO, if_true, if_false, flF_ret, flF_nx, wR_ok, wR_no, wR_ofO, ↓wE_var, ↓wE_const, ↓wE_prim, ↓wE_slice, ↓wE_meth, ↓wE_mprim, ↓wE_tup, ↓wE_lst, ↓wE_cell, ↓wE_dic, ↓wE_and, ↓wE_or, ↓wE_not, ↓wE_if, ↓wE_chain, ↓wE_call, ↓wE_new, ↓wE_callv, onFn_fn, ↓wE_comp, ↓wE_scomp, ↓turnC_w, ↓wL_nil, ↓wL_cons, ↓wV_nil, ↓wV_cons, onI_int, ↓wP_nil, ↓wP_cons, ↓wCh_one, ↓wCh_more, ↓wIf_nil, ↓wIf_cons, ↓wI_seq, ↓wI_range, ↓wI_zip, ↓wA_peek, ↓wA_const, ↓wA_prim, ↓wA_slice, ↓wA_meth, ↓wA_mprim, ↓wA_tup, ↓wA_lst, ↓wA_cell, ↓wA_dic, ↓wA_and, ↓wA_or, ↓wA_not, ↓wA_ifE, ↓wA_chain, ↓wA_call, ↓wA_callv, ↓wA_new, ↓wA_comp, ↓wA_scomp, ↓wA_var, ↓look_nil, ↓look_cons, lookAV_d, lookAV_pk, slV_v, slV_ol, slV_oo, ↓rd_w, rdS_v, rdS_ol, ↓wS_asg, ↓wS_asgO, onLst_l, ↓wS_par, ↓wS_put, ↓wS_expr, ↓wS_ret, ↓wS_ite, ↓wS_for, ↓bodyS_w, ↓wS_while, ↓wS_pass, ↓wS_retN, ↓wS_brk, ↓wS_cont, ↓wB_nil, ↓wB_cons, flF_nx, flF_ret, onNx_nx, onNx_ret, onNx_brk, onNx_ct, onB_some, oP_some, oP_none, oP_blO, oP_notO, oP_lstO, onS_some, wF_ret, p_isi, p_eq, p_ne, p_lt, p_le, p_gt, p_ge, p_is, p_isnot, p_in, p_notin, p_item, p_len, p_all, p_any, p_add, p_sub, p_mul, p_fdiv, p_mod, p_pow, p_neg, p_abs, p_int, p_join, p_get2, p_get3, p_list, p_tuple, p_sorted, p_set, p_dict, p_attr, tru_bl, tru_non, v_non, v_bl, v_int, v_str, v_ty, v_fn, v_cls, v_tup, v_lst, v_dic, v_set, v_obj, lt_ii, le_ii, lt_ss, len_str, len_tup, len_lst, len_set, len_dic, sub_ii, add_ii, seq_str, seq_tup, seq_lst, item_ti, item_li, eq_ii, eq_ss, eq_bb, all_bls, ↓bindT_nm, ↓bindT_tup, ↓bindTs_nil, ↓bindTs_cons, List.all_cons, List.all_nil, List.set_cons_zero, List.set_cons_succ, List.getElem?_cons_zero, List.getElem?_cons_succ, List.getElem?_nil, wipeE, backE, List.foldl_cons, List.foldl_nil, Option.getD_some, List.length_cons, List.length_nil, List.length_set, Nat.reduceSub, Nat.reduceAdd, Nat.reduceLT, Nat.reduceLeDiff, List.replicate_succ, List.replicate_zero, List.map_cons, List.map_nil, List.nil_append, List.cons_append, List.append_nil, env0, decide_true, decide_false, Bool.and_true, Bool.true_and, Bool.not_true, Bool.not_false, Bool.false_eq_true, if_true, if_false, true_and, and_true, decide_eq_true_eq, Nat.zero_lt_succ, Nat.succ_lt_succ_iff, rng_w1, rng_w2, mul_w, fdiv_w, mod_w, pow_w, adds_w, addt_w, addl_w, atI_l0, atI_l1, atI_l2, atI_l3, atI_l4, nc0, nc1, nc2, nc3, nc4, nc5, nc6, nc7, Int.reduceBEq, noOwn_nil, noOwn_cons, ownF_v, ownF_n, ownF_vs])
local macro_rules | `(tactic| k_whileD $a $b $c "w") => `(tactic| simp (config := {failIfUnchanged := false, implicitDefEqProofs := false}) only [$a:term, $b:term, $c:term, eq_nil, v_FORMS, v_DIFF, in_FORMS, item_FORMS, in_DIFF, item_DIFF, slice1, setPar_nil, setPar_v, setPar_o, sl_10, sl_01, zp_tt, zp_ll, freeAt, Option.isSome_some, Option.isSome_none, Option.map_some, Option.map_none, List.drop_succ_cons, List.drop_zero, len_s, ty_dic, ty_sh, ty_un, v_sh, v_un, get_sh, get_un, is_nn, is_tn, s_name_name, s_name_bool, s_name_share, s_name_lot, s_name_deed, s_name_cells, s_name_heirs, s_bool_name, s_bool_bool, s_bool_share, s_bool_lot, s_bool_deed, s_bool_cells, s_bool_heirs, s_number_name, s_number_bool, s_number_share, s_number_lot, s_number_deed, s_number_cells, s_number_heirs, s_amount_name, s_amount_bool, s_amount_share, s_amount_lot, s_amount_deed, s_amount_cells, s_amount_heirs, s_day_name, s_day_bool, s_day_share, s_day_lot, s_day_deed, s_day_cells, s_day_heirs, s_share_name, s_share_bool, s_share_share, s_share_lot, s_share_deed, s_share_cells, s_share_heirs, s_lot_name, s_lot_bool, s_lot_share, s_lot_lot, s_lot_deed, s_lot_cells, s_lot_heirs, s_deed_name, s_deed_bool, s_deed_share, s_deed_lot, s_deed_deed, s_deed_cells, s_deed_heirs, s_heirs_name, s_heirs_bool, s_heirs_share, s_heirs_lot, s_heirs_deed, s_heirs_cells, s_heirs_heirs, s_cells_name, s_cells_bool, s_cells_share, s_cells_lot, s_cells_deed, s_cells_cells, s_cells_heirs, i_name, i_bool, i_number, i_amount, i_day, i_share, i_lot, i_deed, i_heirs, i_cells, in_si, al1, al2, ↓ch_w, chS_o, chS_m, ↓chS_o, ↓chS_m, chL_l, ↓chL_l, v_mut, mvD_l, put1, put2, put3, put4, abs_i, int_i, neg_i, app_w, ins_w, ty_str, ty_lst, item_si, list_str, list_tup, tup_lst, ↓oP_some, ↓onB_some, ↓onS_some, ↓onNx_nx, ↓onNx_ret, ↓onNx_brk, ↓onNx_ct, ↓rdS_v, ↓rdS_ol, ↓onI_int, ↓onFn_fn, ↓onLst_l, ↓wF_ret, ↓wR_ok, ↓wR_ofO, ↓if_true, ↓if_false, ↓flF_ret, ↓flF_nx, oP_some, onB_some, onS_some, onNx_nx, onNx_ret, onNx_brk, onNx_ct, rdS_v, rdS_ol, onI_int, onFn_fn, onLst_l, wF_ret, wR_ok, wR_ofO, if_true, if_false, flF_ret, flF_nx, wR_ok, wR_no, wR_ofO, ↓wE_var, ↓wE_const, ↓wE_prim, ↓wE_slice, ↓wE_meth, ↓wE_mprim, ↓wE_tup, ↓wE_lst, ↓wE_cell, ↓wE_dic, ↓wE_and, ↓wE_or, ↓wE_not, ↓wE_if, ↓wE_chain, ↓wE_call, ↓wE_new, ↓wE_callv, onFn_fn, ↓wE_comp, ↓wE_scomp, ↓turnC_w, ↓wL_nil, ↓wL_cons, ↓wV_nil, ↓wV_cons, onI_int, ↓wP_nil, ↓wP_cons, ↓wCh_one, ↓wCh_more, ↓wIf_nil, ↓wIf_cons, ↓wI_seq, ↓wI_range, ↓wI_zip, ↓wA_peek, ↓wA_const, ↓wA_prim, ↓wA_slice, ↓wA_meth, ↓wA_mprim, ↓wA_tup, ↓wA_lst, ↓wA_cell, ↓wA_dic, ↓wA_and, ↓wA_or, ↓wA_not, ↓wA_ifE, ↓wA_chain, ↓wA_call, ↓wA_callv, ↓wA_new, ↓wA_comp, ↓wA_scomp, ↓wA_var, ↓look_nil, ↓look_cons, lookAV_d, lookAV_pk, slV_v, slV_ol, slV_oo, ↓rd_w, rdS_v, rdS_ol, ↓wS_asg, ↓wS_asgO, onLst_l, ↓wS_par, ↓wS_put, ↓wS_expr, ↓wS_ret, ↓wS_ite, ↓wS_for, ↓bodyS_w, ↓wS_while, ↓wS_pass, ↓wS_retN, ↓wS_brk, ↓wS_cont, ↓wB_nil, ↓wB_cons, flF_nx, flF_ret, onNx_nx, onNx_ret, onNx_brk, onNx_ct, onB_some, oP_some, oP_none, oP_blO, oP_notO, oP_lstO, onS_some, wF_ret, p_isi, p_eq, p_ne, p_lt, p_le, p_gt, p_ge, p_is, p_isnot, p_in, p_notin, p_item, p_len, p_all, p_any, p_add, p_sub, p_mul, p_fdiv, p_mod, p_pow, p_neg, p_abs, p_int, p_join, p_get2, p_get3, p_list, p_tuple, p_sorted, p_set, p_dict, p_attr, tru_bl, tru_non, v_non, v_bl, v_int, v_str, v_ty, v_fn, v_cls, v_tup, v_lst, v_dic, v_set, v_obj, lt_ii, le_ii, lt_ss, len_str, len_tup, len_lst, len_set, len_dic, sub_ii, add_ii, seq_str, seq_tup, seq_lst, item_ti, item_li, eq_ii, eq_ss, eq_bb, all_bls, ↓bindT_nm, ↓bindT_tup, ↓bindTs_nil, ↓bindTs_cons, List.all_cons, List.all_nil, List.set_cons_zero, List.set_cons_succ, List.getElem?_cons_zero, List.getElem?_cons_succ, List.getElem?_nil, wipeE, backE, List.foldl_cons, List.foldl_nil, Option.getD_some, List.length_cons, List.length_nil, List.length_set, Nat.reduceSub, Nat.reduceAdd, Nat.reduceLT, Nat.reduceLeDiff, List.replicate_succ, List.replicate_zero, List.map_cons, List.map_nil, List.nil_append, List.cons_append, List.append_nil, env0, decide_true, decide_false, Bool.and_true, Bool.true_and, Bool.not_true, Bool.not_false, Bool.false_eq_true, if_true, if_false, true_and, and_true, decide_eq_true_eq, Nat.zero_lt_succ, Nat.succ_lt_succ_iff, rng_w1, rng_w2, mul_w, fdiv_w, mod_w, pow_w, adds_w, addt_w, addl_w, atI_l0, atI_l1, atI_l2, atI_l3, atI_l4, nc0, nc1, nc2, nc3, nc4, nc5, nc6, nc7, Int.reduceBEq, noOwn_nil, noOwn_cons, ownF_v, ownF_n, ownF_vs])
section
variable {n : Nat} {S : Sto}
theorem l_of {ds : List D} (hS : Bag S) (h0 : 0 < ds.length) (h1 : ds.length < 1000000) : wF (G (n + 2) (.fn "_law_of") [.mut 0, .lst ds] S) fun d S' => d ∈ ds ∧ Bag S' := by
  rw [G_fn (c := c__law_of) rfl rfl rfl (by decide)]
  simp only [c__law_of]
  walk_at "w"
  refine wF_mono (l_draw hS (by omega) (by omega)) ?_
  rintro d S' ⟨r, rfl, r0, r1, hS'⟩
  obtain ⟨x, m, e⟩ := at_mem r0 r1
  k_search e
  exact ⟨m, hS'⟩
theorem l_ofs {s : Str} (hS : Bag S) (h0 : 0 < s.length) (h1 : s.length < 1000000) : wF (G (n + 2) (.fn "_law_of") [.mut 0, .str s] S) fun d S' => (∃ c, c ∈ s.cps.toList ∧ d = .str ⟨#[c]⟩) ∧ Bag S' := by
  rw [G_fn (c := c__law_of) rfl rfl rfl (by decide)]
  simp only [c__law_of]
  walk_at "w"
  refine wF_mono (l_draw hS (by omega) (by omega)) ?_
  rintro d S' ⟨r, rfl, r0, r1, hS'⟩
  obtain ⟨x, m, e⟩ := at_mem (xs := s.cps.toList) r0 (by have : s.cps.toList.length = s.length := Array.length_toList; omega)
  ktr_call e Option.map_some
  exact ⟨⟨x, m, rfl⟩, hS'⟩
theorem l_mixed {xs : List D} (hS : Bag S) (h1 : xs.length ≤ 60) : wF (G (n + 2) (.fn "_law_mixed") [.mut 0, .lst xs] S) fun d S' => ∃ ys, d = .lst ys ∧ ys.length = xs.length ∧ (∀ y ∈ ys, y ∈ xs) ∧ Bag S' := by
  rw [G_fn (c := c__law_mixed) rfl rfl rfl (by decide)]
  simp only [c__law_mixed]
  walk_at "w"
  refine loopS_inv (fun ds ρ S => ∃ (ys : List D) (o : Option D), ρ = [some (.v (.mut 0)), some (.v (.lst xs)), some (.ol ys), vs o] ∧ ys.length + ds.length = xs.length ∧ (∀ y ∈ ys, y ∈ xs) ∧ (∀ y ∈ ds, y ∈ xs) ∧ Bag S) ?_ ?_ _ _ _ ⟨[], none, rfl, by simp, fun _ z => (nomatch z), fun _ z => z, hS⟩
  · rintro ρ S ⟨ys, o, rfl, e, h, _, hS⟩
    walk_at "w"
    exact ⟨ys, rfl, by simpa using e, h, hS⟩
  · rintro d r ρ S ⟨ys, o, rfl, e, h, h2, hS⟩
    rw [List.length_cons] at e
    walk_at "w"
    refine wF_mono (l_draw hS (by omega) (by omega)) ?_
    rintro d' S' ⟨i, rfl, i0, i1, hS'⟩
    walk_at "w"
    refine ⟨⟨i0, by omega, by rw [sizeLine_eq]; omega⟩, ys.take i.toNat ++ d :: ys.drop i.toNat, some d, rfl, ?_, ?_, fun y m => h2 y (List.mem_cons_of_mem _ m), hS'⟩
    · rw [List.length_append, List.length_cons, List.length_take, List.length_drop]
      omega
    · intro y m
      rcases List.mem_append.mp m with m | m
      · exact h y (List.mem_of_mem_take m)
      · rcases List.mem_cons.mp m with rfl | m
        · exact h2 y List.mem_cons_self
        · exact h y (List.mem_of_mem_drop m)
end
theorem abc_len : abc.length = 26 := by decide +kernel
theorem abc_all : ∀ c ∈ abc.cps.toList, letter c = true := by decide +kernel
def chs (cs : List Nat) : Str := ⟨cs.toArray⟩
theorem sjoin_chs : ∀ cs : List Nat, Str.join "" (cs.map fun c => ⟨#[c]⟩) = chs cs
  | [] => rfl
  | [c] => rfl
  | c :: d :: r => by
    have ih := sjoin_chs (d :: r)
    show (⟨#[c]⟩ : Str) ++ ("" : Str) ++ Str.join "" ((d :: r).map fun c => ⟨#[c]⟩) = _
    rw [ih]
    show (⟨#[c] ++ #[] ++ (d :: r).toArray⟩ : Str) = ⟨(c :: d :: r).toArray⟩
    congr 1
    apply Array.ext'
    simp
theorem join_chs (cs : List Nat) : Txt.join "" (cs.map fun c => ⟨#[c]⟩) = chs cs := by rw [TL.join_eq]; exact sjoin_chs cs
theorem strs_chs : ∀ cs : List Nat, strsD (cs.map fun c => D.str ⟨#[c]⟩) = some (cs.map fun c => ⟨#[c]⟩)
  | [] => rfl
  | c :: r => by
    show (strsD (r.map fun c => D.str ⟨#[c]⟩)).map (⟨#[c]⟩ :: ·) = _
    rw [strs_chs r]
    rfl
theorem sum_chs : ∀ cs : List Nat, sumLen "" (cs.map fun c => ⟨#[c]⟩) = cs.length
  | [] => rfl
  | c :: r => by
    show (1 + 0) + sumLen "" (r.map fun c => ⟨#[c]⟩) = r.length + 1
    rw [sum_chs r]
    omega
theorem join_w {cs : List Nat} (h : cs.length ≤ 1000) : joinD (.str "") (.lst (cs.map fun c => D.str ⟨#[c]⟩)) = some (.str (chs cs)) := by
  show (match strsD (cs.map fun c => D.str ⟨#[c]⟩) with
    | some ss => if sumLen "" ss ≤ strMax then some (D.str (Txt.join "" ss)) else none
    | none => none) = _
  rw [strs_chs]
  show (if sumLen "" (cs.map fun c => ⟨#[c]⟩) ≤ strMax then some (D.str (Txt.join "" (cs.map fun c => ⟨#[c]⟩))) else none) = _
  rw [sum_chs, join_chs, if_pos (by unfold strMax; omega)]
theorem name_chs {c : Nat} {cs : List Nat} (h : letter c = true) (k : ∀ d ∈ cs, letter d = true) (l : cs.length ≤ 5) : isName (.str (⟨#[c]⟩ ++ chs cs)) = true := by
  have e : (⟨#[c]⟩ ++ chs cs : Str).cps.toList = c :: cs := by
    show (#[c] ++ cs.toArray).toList = c :: cs
    simp
  have e2 : (⟨#[c]⟩ ++ chs cs : Str).length = cs.length + 1 := by
    show (#[c] ++ cs.toArray).size = _
    simp
  show (decide (1 ≤ (⟨#[c]⟩ ++ chs cs : Str).length) && decide ((⟨#[c]⟩ ++ chs cs : Str).length ≤ 6) && (⟨#[c]⟩ ++ chs cs : Str).cps.toList.all letter) = true
  rw [e, e2]
  simp only [Bool.and_eq_true, decide_eq_true_eq, List.all_eq_true]
  refine ⟨⟨by omega, by omega⟩, ?_⟩
  intro x m
  rcases List.mem_cons.mp m with rfl | m
  · exact h
  · exact k x m
def isCh (d : D) : Prop := ∃ c, d = .str ⟨#[c]⟩ ∧ letter c = true
theorem chs_of : ∀ {ys : List D}, (∀ y ∈ ys, isCh y) → ∃ cs : List Nat, ys = cs.map (fun c => D.str ⟨#[c]⟩) ∧ (∀ c ∈ cs, letter c = true) ∧ cs.length = ys.length
  | [], _ => ⟨[], rfl, fun _ z => (nomatch z), rfl⟩
  | y :: ys, h => by
    obtain ⟨c, rfl, hc⟩ := h y List.mem_cons_self
    obtain ⟨cs, rfl, h2, h3⟩ := chs_of fun z m => h z (List.mem_cons_of_mem _ m)
    refine ⟨c :: cs, rfl, ?_, by simp⟩
    intro d m
    rcases List.mem_cons.mp m with rfl | m
    · exact hc
    · exact h2 d m
section
variable {n : Nat} {S : Sto}
theorem l_names {many : Nat} (hS : Bag S) (hm : many ≤ 26) : wF (G (n + 3) (.fn "_law_names") [.mut 0, .int (many : Nat)] S) fun d S' => ∃ ys, d = .lst ys ∧ ys.length = many ∧ (∀ y ∈ ys, isName y = true) ∧ Bag S' := by
  rw [G_fn (c := c__law_names) rfl rfl rfl (by decide)]
  simp only [c__law_names]
  walk_at "w"
  refine ⟨ok0 (by omega), ?_⟩
  rw [rangeD0]
  refine loopS_inv (fun ds ρ S => ∃ (sp ys : List D) (o2 o5 o6 : Option D), ρ = [some (.v (.mut 0)), some (.v (.int (many : Nat))), vs o2, some (.ol sp), some (.ol ys), vs o5, vs o6, none] ∧ ys.length + ds.length = many ∧ sp.length + ys.length = 26 ∧ (∀ y ∈ ys, isName y = true) ∧ (∀ y ∈ sp, isCh y) ∧ Bag S) ?_ ?_ _ _ _ ⟨_, [], none, none, none, rfl, ?_, ?_, fun _ z => (nomatch z), ?_, hS⟩
  · rintro ρ S ⟨sp, ys, o2, o5, o6, rfl, e, _, h, _, hS⟩
    walk_at "w"
    exact ⟨ys, rfl, by simpa using e, h, hS⟩
  · rintro d r ρ S ⟨sp, ys, o2, o5, o6, rfl, e, e2, h, h2, hS⟩
    rw [List.length_cons] at e
    walk_at "w"
    refine wF_mono (l_draw hS (by omega) (by omega)) ?_
    rintro d' S' ⟨i, rfl, i0, i1, hS⟩
    obtain ⟨x, mx, j, hj, ex⟩ := pop_at i0 i1
    k_search ex
    refine wF_mono (l_of hS (by decide) (by decide)) ?_
    rintro d2 S2 ⟨md, hS⟩
    obtain ⟨t, rfl, ht⟩ : ∃ t : Nat, d2 = .int (t : Nat) ∧ t ≤ 5 := by
      simp only [List.mem_cons, List.mem_nil_iff, or_false] at md
      rcases md with rfl | rfl | rfl | rfl | rfl | rfl
      · exact ⟨0, rfl, by omega⟩
      · exact ⟨0, rfl, by omega⟩
      · exact ⟨1, rfl, by omega⟩
      · exact ⟨2, rfl, by omega⟩
      · exact ⟨3, rfl, by omega⟩
      · exact ⟨5, rfl, by omega⟩
    walk_at "w"
    refine ⟨ok0 (by omega), ?_⟩
    rw [rangeD0]
    refine comp_inv isCh _ (List.range t) (by rw [List.length_range, sizeLine_eq]; omega) hS ?_ ?_
    · intro a _ S hS
      walk_at "w"
      refine wF_mono (l_ofs (s := abc) hS (by rw [abc_len]; omega) (by rw [abc_len]; omega)) ?_
      rintro d S' ⟨⟨c, mc, rfl⟩, hS'⟩
      exact ⟨_, rfl, ⟨c, rfl, abc_all c mc⟩, hS'⟩
    · intro zs S3 hl hz hS
      obtain ⟨cs, rfl, hc, hl2⟩ := chs_of hz
      rw [List.length_range] at hl
      obtain ⟨c, rfl, hlc⟩ := h2 x mx
      k_search (join_w (cs := cs) (by omega))
      have hn := name_chs hlc hc (by omega)
      have hlen : (chs cs).length = cs.length := rfl
      refine ⟨?_, by rw [sizeLine_eq]; omega, sp.eraseIdx j, ys ++ [_], some d, some (.str ⟨#[c]⟩), some (.lst _), rfl, ?_, ?_, ?_, ?_, hS⟩
      · rw [hlen]
        show 1 + cs.length ≤ strMax
        unfold strMax
        omega
      · rw [List.length_append]; simp only [List.length_cons, List.length_nil]; omega
      · rw [List.length_append, List.length_eraseIdx, if_pos hj]; simp only [List.length_cons, List.length_nil]; omega
      · intro y m
        rcases List.mem_append.mp m with m | m
        · exact h y m
        · have : y = .str (⟨#[c]⟩ ++ chs cs) := by simpa using m
          rw [this]; exact hn
      · exact fun y m => h2 y (List.mem_of_mem_eraseIdx m)
  · simp
  · rw [List.length_map, Array.length_toList]
    exact abc_len
  · intro y m
    obtain ⟨c, m2, rfl⟩ := List.mem_map.mp m
    exact ⟨c, rfl, abc_all c m2⟩
end
end R.M
end
section
set_option Elab.async false
set_option linter.all false
set_option maxRecDepth 100000
set_option maxHeartbeats 4000000
namespace R.M
open PySem L2
section
variable {O : Orc} {L : Nat} {Fl : Str → Str → Bool} {ρ : Env} {S : Sto}
def onOO (o : Option (Option SV)) (P : Str → List Str → List D → Prop) : Prop := match o with
  | some (some (.oo c fs vs)) => P c fs vs
  | _ => False
theorem onOO_congr {o o' : Option (Option SV)} {P : Str → List Str → List D → Prop} (h : o = o') : onOO o P = onOO o' P := by rw [h]
theorem onOO_o {c : Str} {fs : List Str} {vs : List D} {P : Str → List Str → List D → Prop} : onOO (some (some (.oo c fs vs))) P = P c fs vs := rfl
theorem wS_fld {i : Nat} {f : Str} {e : CE} {Q : Flw → Env → Sto → Prop} : wR (evS O L Fl (.fld (.peek i) f e) ρ S) Q = wR (evE O e ρ S) fun d ρ S => onOO (ρ[i]?) fun c fs vs => (decide (fs.length < 900) && Fl c f) = true ∧ Q .nx (ρ.set i (some (.oo c (putD f d fs vs).1 (putD f d fs vs).2))) S := by
  show wR (Res.bind _ _) Q = _
  rw [wR_bind]; congr 1; funext d r s
  show wR (match r[i]? with
    | some (some (.oo c fs vs)) => if fs.length < 900 && Fl c f then .ok .nx (r.set i (some (.oo c (putD f d fs vs).1 (putD f d fs vs).2))) s else .no
    | _ => .no) Q = _
  unfold onOO
  rcases r[i]? with _ | (_ | (_ | _ | ⟨c, fs, vs⟩))
  · rfl
  · rfl
  · rfl
  · rfl
  · show wR (if fs.length < 900 && Fl c f then _ else _) Q = ((decide (fs.length < 900) && Fl c f) = true ∧ _)
    rw [wR_ite]
    split
    · rename_i h; simp only [h, true_and, wR_ok]
    · rename_i h; simp only [h, false_and, wR_no, Bool.false_eq_true]
def flI (Q : D → Sto → Prop) (ρ : Env) (S : Sto) : Flw → Prop
  | .nx => oP (objAt ρ) fun d => Q d S
  | _ => False
theorem wF_finI {r : Res Flw} {Q : D → Sto → Prop} : wF (finI r) Q = wR r fun f ρ S => flI Q ρ S f := by
  cases r with
  | ok f r s =>
    cases f with
    | nx =>
      show wF (match objAt r with
        | some d => .ret d s
        | none => .no) Q = oP (objAt r) fun d => Q d s
      cases objAt r <;> rfl
    | _ => rfl
  | exc x r s => rfl
  | no => rfl
end
theorem G_new {n : Nat} {f : Str} {c : CF} {k : Str} {as : List D} {S : Sto} {Q : D → Sto → Prop} (h : tab80 (.new f) = some c) (h0 : c.init = some k) (h1 : as.length + 1 = c.np) (h2 : c.np ≤ c.nl) : wF (G (n + 1) (.new f) as S) Q = wR (evB (G n) 70 Fl80 c.body (envI c.nl k as) S) fun f ρ S => flI Q ρ S f := by
  rw [G_s h]
  unfold evF
  rw [h0]
  simp only [h1, h2, and_self, if_true]
  exact wF_finI
theorem flI_nx {Q : D → Sto → Prop} {ρ : Env} {S : Sto} : flI Q ρ S .nx = oP (objAt ρ) fun d => Q d S := rfl
theorem objAt_oo {c : Str} {fs : List Str} {vs : List D} {r : Env} : objAt (some (.oo c fs vs) :: r) = some (.obj c fs vs) := rfl
theorem Fl_t : Fl80 "Share" "top" = true := by decide +kernel
theorem Fl_b : Fl80 "Share" "bottom" = true := by decide +kernel
theorem putD_n {f : Str} {v : D} : putD f v [] [] = ([f], [v]) := rfl
theorem putD_b {x y : D} : putD "bottom" y [("top" : Str)] [x] = ([("top" : Str), ("bottom" : Str)], [x, y]) := by kernel_rfl
theorem loopW_w {test : Env → Sto → Res D} {body : Env → Sto → Res Flw} {n : Nat} {ρ : Env} {S : Sto} {Q : Flw → Env → Sto → Prop} : wR (loopW test body (n + 1) ρ S) Q = wR (test ρ S) fun x ρ S => onB (tru x) (wR (body ρ S) fun f ρ S => match f with
    | .nx => wR (loopW test body n ρ S) Q
    | .ct => wR (loopW test body n ρ S) Q
    | .brk => Q .nx ρ S
    | .ret d => Q (.ret d) ρ S) (Q .nx ρ S) := by
  show wR (Res.bind _ _) Q = _
  rw [wR_bind]; congr 1; funext x r s
  cases tru x with
  | none => rfl
  | some b =>
    cases b with
    | false => rfl
    | true =>
      show wR (Res.bind _ _) Q = wR _ _
      rw [wR_bind]; congr 1; funext f r s
      cases f <;> rfl
local macro_rules | `(tactic| walk_at "w") => `(tactic| simp (config := {failIfUnchanged := false, implicitDefEqProofs := false}) only [eq_nil, v_FORMS, v_DIFF, in_FORMS, item_FORMS, in_DIFF, item_DIFF, slice1, setPar_nil, setPar_v, setPar_o, sl_10, sl_01, zp_tt, zp_ll, freeAt, Option.isSome_some, Option.isSome_none, Option.map_some, Option.map_none, List.drop_succ_cons, List.drop_zero, len_s, ty_dic, ty_sh, ty_un, v_sh, v_un, get_sh, get_un, is_nn, is_tn, s_name_name, s_name_bool, s_name_share, s_name_lot, s_name_deed, s_name_cells, s_name_heirs, s_bool_name, s_bool_bool, s_bool_share, s_bool_lot, s_bool_deed, s_bool_cells, s_bool_heirs, s_number_name, s_number_bool, s_number_share, s_number_lot, s_number_deed, s_number_cells, s_number_heirs, s_amount_name, s_amount_bool, s_amount_share, s_amount_lot, s_amount_deed, s_amount_cells, s_amount_heirs, s_day_name, s_day_bool, s_day_share, s_day_lot, s_day_deed, s_day_cells, s_day_heirs, s_share_name, s_share_bool, s_share_share, s_share_lot, s_share_deed, s_share_cells, s_share_heirs, s_lot_name, s_lot_bool, s_lot_share, s_lot_lot, s_lot_deed, s_lot_cells, s_lot_heirs, s_deed_name, s_deed_bool, s_deed_share, s_deed_lot, s_deed_deed, s_deed_cells, s_deed_heirs, s_heirs_name, s_heirs_bool, s_heirs_share, s_heirs_lot, s_heirs_deed, s_heirs_cells, s_heirs_heirs, s_cells_name, s_cells_bool, s_cells_share, s_cells_lot, s_cells_deed, s_cells_cells, s_cells_heirs, i_name, i_bool, i_number, i_amount, i_day, i_share, i_lot, i_deed, i_heirs, i_cells, in_si, al1, al2, ↓ch_w, chS_o, chS_m, ↓chS_o, ↓chS_m, chL_l, ↓chL_l, v_mut, mvD_l, put1, put2, put3, put4, abs_i, int_i, neg_i, app_w, ins_w, ty_str, ty_lst, item_si, list_str, list_tup, tup_lst, wS_fld, onOO_o, ↓onOO_o, flI_nx, objAt_oo, Fl_t, Fl_b, putD_n, putD_b, ↓oP_some, ↓onB_some, ↓onS_some, ↓onNx_nx, ↓onNx_ret, ↓onNx_brk, ↓onNx_ct, ↓rdS_v, ↓rdS_ol, ↓onI_int, ↓onFn_fn, ↓onLst_l, ↓wF_ret, ↓wR_ok, ↓wR_ofO, ↓if_true, ↓if_false, ↓flF_ret, ↓flF_nx, oP_some, onB_some, onS_some, onNx_nx, onNx_ret, onNx_brk, onNx_ct, rdS_v, rdS_ol, onI_int, onFn_fn, onLst_l, wF_ret, wR_ok, wR_ofO, if_true, if_false, flF_ret, flF_nx, wR_ok, wR_no, wR_ofO, ↓wE_var, ↓wE_const, ↓wE_prim, ↓wE_slice, ↓wE_meth, ↓wE_mprim, ↓wE_tup, ↓wE_lst, ↓wE_cell, ↓wE_dic, ↓wE_and, ↓wE_or, ↓wE_not, ↓wE_if, ↓wE_chain, ↓wE_call, ↓wE_new, ↓wE_callv, onFn_fn, ↓wE_comp, ↓wE_scomp, ↓turnC_w, ↓wL_nil, ↓wL_cons, ↓wV_nil, ↓wV_cons, onI_int, ↓wP_nil, ↓wP_cons, ↓wCh_one, ↓wCh_more, ↓wIf_nil, ↓wIf_cons, ↓wI_seq, ↓wI_range, ↓wI_zip, ↓wA_peek, ↓wA_const, ↓wA_prim, ↓wA_slice, ↓wA_meth, ↓wA_mprim, ↓wA_tup, ↓wA_lst, ↓wA_cell, ↓wA_dic, ↓wA_and, ↓wA_or, ↓wA_not, ↓wA_ifE, ↓wA_chain, ↓wA_call, ↓wA_callv, ↓wA_new, ↓wA_comp, ↓wA_scomp, ↓wA_var, ↓look_nil, ↓look_cons, lookAV_d, lookAV_pk, slV_v, slV_ol, slV_oo, ↓rd_w, rdS_v, rdS_ol, ↓wS_asg, ↓wS_asgO, onLst_l, ↓wS_par, ↓wS_put, ↓wS_expr, ↓wS_ret, ↓wS_ite, ↓wS_for, ↓bodyS_w, ↓wS_while, ↓wS_pass, ↓wS_retN, ↓wS_brk, ↓wS_cont, ↓wB_nil, ↓wB_cons, flF_nx, flF_ret, onNx_nx, onNx_ret, onNx_brk, onNx_ct, onB_some, oP_some, oP_none, oP_blO, oP_notO, oP_lstO, onS_some, wF_ret, p_isi, p_eq, p_ne, p_lt, p_le, p_gt, p_ge, p_is, p_isnot, p_in, p_notin, p_item, p_len, p_all, p_any, p_add, p_sub, p_mul, p_fdiv, p_mod, p_pow, p_neg, p_abs, p_int, p_join, p_get2, p_get3, p_list, p_tuple, p_sorted, p_set, p_dict, p_attr, tru_bl, tru_non, v_non, v_bl, v_int, v_str, v_ty, v_fn, v_cls, v_tup, v_lst, v_dic, v_set, v_obj, lt_ii, le_ii, lt_ss, len_str, len_tup, len_lst, len_set, len_dic, sub_ii, add_ii, seq_str, seq_tup, seq_lst, item_ti, item_li, eq_ii, eq_ss, eq_bb, all_bls, ↓bindT_nm, ↓bindT_tup, ↓bindTs_nil, ↓bindTs_cons, List.all_cons, List.all_nil, List.set_cons_zero, List.set_cons_succ, List.getElem?_cons_zero, List.getElem?_cons_succ, List.getElem?_nil, wipeE, backE, List.foldl_cons, List.foldl_nil, Option.getD_some, List.length_cons, List.length_nil, List.length_set, Nat.reduceSub, Nat.reduceAdd, Nat.reduceLT, Nat.reduceLeDiff, List.replicate_succ, List.replicate_zero, List.map_cons, List.map_nil, List.nil_append, List.cons_append, List.append_nil, env0, decide_true, decide_false, Bool.and_true, Bool.true_and, Bool.not_true, Bool.not_false, Bool.false_eq_true, if_true, if_false, true_and, and_true, decide_eq_true_eq, Nat.zero_lt_succ, Nat.succ_lt_succ_iff, rng_w1, rng_w2, mul_w, fdiv_w, mod_w, pow_w, adds_w, addt_w, addl_w, atI_l0, atI_l1, atI_l2, atI_l3, atI_l4, nc0, nc1, nc2, nc3, nc4, nc5, nc6, nc7, Int.reduceBEq, noOwn_nil, noOwn_cons, ownF_v, ownF_n, ownF_vs])
local macro_rules | `(tactic| k_search $a) => `(tactic| simp (config := {failIfUnchanged := false, implicitDefEqProofs := false}) only [$a:term, eq_nil, v_FORMS, v_DIFF, in_FORMS, item_FORMS, in_DIFF, item_DIFF, slice1, setPar_nil, setPar_v, setPar_o, sl_10, sl_01, zp_tt, zp_ll, freeAt, Option.isSome_some, Option.isSome_none, Option.map_some, Option.map_none, List.drop_succ_cons, List.drop_zero, len_s, ty_dic, ty_sh, ty_un, v_sh, v_un, get_sh, get_un, is_nn, is_tn, s_name_name, s_name_bool, s_name_share, s_name_lot, s_name_deed, s_name_cells, s_name_heirs, s_bool_name, s_bool_bool, s_bool_share, s_bool_lot, s_bool_deed, s_bool_cells, s_bool_heirs, s_number_name, s_number_bool, s_number_share, s_number_lot, s_number_deed, s_number_cells, s_number_heirs, s_amount_name, s_amount_bool, s_amount_share, s_amount_lot, s_amount_deed, s_amount_cells, s_amount_heirs, s_day_name, s_day_bool, s_day_share, s_day_lot, s_day_deed, s_day_cells, s_day_heirs, s_share_name, s_share_bool, s_share_share, s_share_lot, s_share_deed, s_share_cells, s_share_heirs, s_lot_name, s_lot_bool, s_lot_share, s_lot_lot, s_lot_deed, s_lot_cells, s_lot_heirs, s_deed_name, s_deed_bool, s_deed_share, s_deed_lot, s_deed_deed, s_deed_cells, s_deed_heirs, s_heirs_name, s_heirs_bool, s_heirs_share, s_heirs_lot, s_heirs_deed, s_heirs_cells, s_heirs_heirs, s_cells_name, s_cells_bool, s_cells_share, s_cells_lot, s_cells_deed, s_cells_cells, s_cells_heirs, i_name, i_bool, i_number, i_amount, i_day, i_share, i_lot, i_deed, i_heirs, i_cells, in_si, al1, al2, ↓ch_w, chS_o, chS_m, ↓chS_o, ↓chS_m, chL_l, ↓chL_l, v_mut, mvD_l, put1, put2, put3, put4, abs_i, int_i, neg_i, app_w, ins_w, ty_str, ty_lst, item_si, list_str, list_tup, tup_lst, wS_fld, onOO_o, ↓onOO_o, flI_nx, objAt_oo, Fl_t, Fl_b, putD_n, putD_b, ↓oP_some, ↓onB_some, ↓onS_some, ↓onNx_nx, ↓onNx_ret, ↓onNx_brk, ↓onNx_ct, ↓rdS_v, ↓rdS_ol, ↓onI_int, ↓onFn_fn, ↓onLst_l, ↓wF_ret, ↓wR_ok, ↓wR_ofO, ↓if_true, ↓if_false, ↓flF_ret, ↓flF_nx, oP_some, onB_some, onS_some, onNx_nx, onNx_ret, onNx_brk, onNx_ct, rdS_v, rdS_ol, onI_int, onFn_fn, onLst_l, wF_ret, wR_ok, wR_ofO, if_true, if_false, flF_ret, flF_nx, wR_ok, wR_no, wR_ofO, ↓wE_var, ↓wE_const, ↓wE_prim, ↓wE_slice, ↓wE_meth, ↓wE_mprim, ↓wE_tup, ↓wE_lst, ↓wE_cell, ↓wE_dic, ↓wE_and, ↓wE_or, ↓wE_not, ↓wE_if, ↓wE_chain, ↓wE_call, ↓wE_new, ↓wE_callv, onFn_fn, ↓wE_comp, ↓wE_scomp, ↓turnC_w, ↓wL_nil, ↓wL_cons, ↓wV_nil, ↓wV_cons, onI_int, ↓wP_nil, ↓wP_cons, ↓wCh_one, ↓wCh_more, ↓wIf_nil, ↓wIf_cons, ↓wI_seq, ↓wI_range, ↓wI_zip, ↓wA_peek, ↓wA_const, ↓wA_prim, ↓wA_slice, ↓wA_meth, ↓wA_mprim, ↓wA_tup, ↓wA_lst, ↓wA_cell, ↓wA_dic, ↓wA_and, ↓wA_or, ↓wA_not, ↓wA_ifE, ↓wA_chain, ↓wA_call, ↓wA_callv, ↓wA_new, ↓wA_comp, ↓wA_scomp, ↓wA_var, ↓look_nil, ↓look_cons, lookAV_d, lookAV_pk, slV_v, slV_ol, slV_oo, ↓rd_w, rdS_v, rdS_ol, ↓wS_asg, ↓wS_asgO, onLst_l, ↓wS_par, ↓wS_put, ↓wS_expr, ↓wS_ret, ↓wS_ite, ↓wS_for, ↓bodyS_w, ↓wS_while, ↓wS_pass, ↓wS_retN, ↓wS_brk, ↓wS_cont, ↓wB_nil, ↓wB_cons, flF_nx, flF_ret, onNx_nx, onNx_ret, onNx_brk, onNx_ct, onB_some, oP_some, oP_none, oP_blO, oP_notO, oP_lstO, onS_some, wF_ret, p_isi, p_eq, p_ne, p_lt, p_le, p_gt, p_ge, p_is, p_isnot, p_in, p_notin, p_item, p_len, p_all, p_any, p_add, p_sub, p_mul, p_fdiv, p_mod, p_pow, p_neg, p_abs, p_int, p_join, p_get2, p_get3, p_list, p_tuple, p_sorted, p_set, p_dict, p_attr, tru_bl, tru_non, v_non, v_bl, v_int, v_str, v_ty, v_fn, v_cls, v_tup, v_lst, v_dic, v_set, v_obj, lt_ii, le_ii, lt_ss, len_str, len_tup, len_lst, len_set, len_dic, sub_ii, add_ii, seq_str, seq_tup, seq_lst, item_ti, item_li, eq_ii, eq_ss, eq_bb, all_bls, ↓bindT_nm, ↓bindT_tup, ↓bindTs_nil, ↓bindTs_cons, List.all_cons, List.all_nil, List.set_cons_zero, List.set_cons_succ, List.getElem?_cons_zero, List.getElem?_cons_succ, List.getElem?_nil, wipeE, backE, List.foldl_cons, List.foldl_nil, Option.getD_some, List.length_cons, List.length_nil, List.length_set, Nat.reduceSub, Nat.reduceAdd, Nat.reduceLT, Nat.reduceLeDiff, List.replicate_succ, List.replicate_zero, List.map_cons, List.map_nil, List.nil_append, List.cons_append, List.append_nil, env0, decide_true, decide_false, Bool.and_true, Bool.true_and, Bool.not_true, Bool.not_false, Bool.false_eq_true, if_true, if_false, true_and, and_true, decide_eq_true_eq, Nat.zero_lt_succ, Nat.succ_lt_succ_iff, rng_w1, rng_w2, mul_w, fdiv_w, mod_w, pow_w, adds_w, addt_w, addl_w, atI_l0, atI_l1, atI_l2, atI_l3, atI_l4, nc0, nc1, nc2, nc3, nc4, nc5, nc6, nc7, Int.reduceBEq, noOwn_nil, noOwn_cons, ownF_v, ownF_n, ownF_vs])
local macro_rules | `(tactic| ktr_call $a $b) => `(tactic| simp (config := {failIfUnchanged := false, implicitDefEqProofs := false}) only [$a:term, $b:term, eq_nil, v_FORMS, v_DIFF, in_FORMS, item_FORMS, in_DIFF, item_DIFF, slice1, setPar_nil, setPar_v, setPar_o, sl_10, sl_01, zp_tt, zp_ll, freeAt, Option.isSome_some, Option.isSome_none, Option.map_some, Option.map_none, List.drop_succ_cons, List.drop_zero, len_s, ty_dic, ty_sh, ty_un, v_sh, v_un, get_sh, get_un, is_nn, is_tn, s_name_name, s_name_bool, s_name_share, s_name_lot, s_name_deed, s_name_cells, s_name_heirs, s_bool_name, s_bool_bool, s_bool_share, s_bool_lot, s_bool_deed, s_bool_cells, s_bool_heirs, s_number_name, s_number_bool, s_number_share, s_number_lot, s_number_deed, s_number_cells, s_number_heirs, s_amount_name, s_amount_bool, s_amount_share, s_amount_lot, s_amount_deed, s_amount_cells, s_amount_heirs, s_day_name, s_day_bool, s_day_share, s_day_lot, s_day_deed, s_day_cells, s_day_heirs, s_share_name, s_share_bool, s_share_share, s_share_lot, s_share_deed, s_share_cells, s_share_heirs, s_lot_name, s_lot_bool, s_lot_share, s_lot_lot, s_lot_deed, s_lot_cells, s_lot_heirs, s_deed_name, s_deed_bool, s_deed_share, s_deed_lot, s_deed_deed, s_deed_cells, s_deed_heirs, s_heirs_name, s_heirs_bool, s_heirs_share, s_heirs_lot, s_heirs_deed, s_heirs_cells, s_heirs_heirs, s_cells_name, s_cells_bool, s_cells_share, s_cells_lot, s_cells_deed, s_cells_cells, s_cells_heirs, i_name, i_bool, i_number, i_amount, i_day, i_share, i_lot, i_deed, i_heirs, i_cells, in_si, al1, al2, ↓ch_w, chS_o, chS_m, ↓chS_o, ↓chS_m, chL_l, ↓chL_l, v_mut, mvD_l, put1, put2, put3, put4, abs_i, int_i, neg_i, app_w, ins_w, ty_str, ty_lst, item_si, list_str, list_tup, tup_lst, wS_fld, onOO_o, ↓onOO_o, flI_nx, objAt_oo, Fl_t, Fl_b, putD_n, putD_b, ↓oP_some, ↓onB_some, ↓onS_some, ↓onNx_nx, ↓onNx_ret, ↓onNx_brk, ↓onNx_ct, ↓rdS_v, ↓rdS_ol, ↓onI_int, ↓onFn_fn, ↓onLst_l, ↓wF_ret, ↓wR_ok, ↓wR_ofO, ↓if_true, ↓if_false, ↓flF_ret, ↓flF_nx, oP_some, onB_some, onS_some, onNx_nx, onNx_ret, onNx_brk, onNx_ct, rdS_v, rdS_ol, onI_int, onFn_fn, onLst_l, wF_ret, wR_ok, wR_ofO, if_true, if_false, flF_ret, flF_nx, wR_ok, wR_no, wR_ofO, ↓wE_var, ↓wE_const, ↓wE_prim, ↓wE_slice, ↓wE_meth, ↓wE_mprim, ↓wE_tup, ↓wE_lst, ↓wE_cell, ↓wE_dic, ↓wE_and, ↓wE_or, ↓wE_not, ↓wE_if, ↓wE_chain, ↓wE_call, ↓wE_new, ↓wE_callv, onFn_fn, ↓wE_comp, ↓wE_scomp, ↓turnC_w, ↓wL_nil, ↓wL_cons, ↓wV_nil, ↓wV_cons, onI_int, ↓wP_nil, ↓wP_cons, ↓wCh_one, ↓wCh_more, ↓wIf_nil, ↓wIf_cons, ↓wI_seq, ↓wI_range, ↓wI_zip, ↓wA_peek, ↓wA_const, ↓wA_prim, ↓wA_slice, ↓wA_meth, ↓wA_mprim, ↓wA_tup, ↓wA_lst, ↓wA_cell, ↓wA_dic, ↓wA_and, ↓wA_or, ↓wA_not, ↓wA_ifE, ↓wA_chain, ↓wA_call, ↓wA_callv, ↓wA_new, ↓wA_comp, ↓wA_scomp, ↓wA_var, ↓look_nil, ↓look_cons, lookAV_d, lookAV_pk, slV_v, slV_ol, slV_oo, ↓rd_w, rdS_v, rdS_ol, ↓wS_asg, ↓wS_asgO, onLst_l, ↓wS_par, ↓wS_put, ↓wS_expr, ↓wS_ret, ↓wS_ite, ↓wS_for, ↓bodyS_w, ↓wS_while, ↓wS_pass, ↓wS_retN, ↓wS_brk, ↓wS_cont, ↓wB_nil, ↓wB_cons, flF_nx, flF_ret, onNx_nx, onNx_ret, onNx_brk, onNx_ct, onB_some, oP_some, oP_none, oP_blO, oP_notO, oP_lstO, onS_some, wF_ret, p_isi, p_eq, p_ne, p_lt, p_le, p_gt, p_ge, p_is, p_isnot, p_in, p_notin, p_item, p_len, p_all, p_any, p_add, p_sub, p_mul, p_fdiv, p_mod, p_pow, p_neg, p_abs, p_int, p_join, p_get2, p_get3, p_list, p_tuple, p_sorted, p_set, p_dict, p_attr, tru_bl, tru_non, v_non, v_bl, v_int, v_str, v_ty, v_fn, v_cls, v_tup, v_lst, v_dic, v_set, v_obj, lt_ii, le_ii, lt_ss, len_str, len_tup, len_lst, len_set, len_dic, sub_ii, add_ii, seq_str, seq_tup, seq_lst, item_ti, item_li, eq_ii, eq_ss, eq_bb, all_bls, ↓bindT_nm, ↓bindT_tup, ↓bindTs_nil, ↓bindTs_cons, List.all_cons, List.all_nil, List.set_cons_zero, List.set_cons_succ, List.getElem?_cons_zero, List.getElem?_cons_succ, List.getElem?_nil, wipeE, backE, List.foldl_cons, List.foldl_nil, Option.getD_some, List.length_cons, List.length_nil, List.length_set, Nat.reduceSub, Nat.reduceAdd, Nat.reduceLT, Nat.reduceLeDiff, List.replicate_succ, List.replicate_zero, List.map_cons, List.map_nil, List.nil_append, List.cons_append, List.append_nil, env0, decide_true, decide_false, Bool.and_true, Bool.true_and, Bool.not_true, Bool.not_false, Bool.false_eq_true, if_true, if_false, true_and, and_true, decide_eq_true_eq, Nat.zero_lt_succ, Nat.succ_lt_succ_iff, rng_w1, rng_w2, mul_w, fdiv_w, mod_w, pow_w, adds_w, addt_w, addl_w, atI_l0, atI_l1, atI_l2, atI_l3, atI_l4, nc0, nc1, nc2, nc3, nc4, nc5, nc6, nc7, Int.reduceBEq, noOwn_nil, noOwn_cons, ownF_v, ownF_n, ownF_vs])
local macro_rules | `(tactic| k_whileD $a $b $c "w") => `(tactic| simp (config := {failIfUnchanged := false, implicitDefEqProofs := false}) only [$a:term, $b:term, $c:term, eq_nil, v_FORMS, v_DIFF, in_FORMS, item_FORMS, in_DIFF, item_DIFF, slice1, setPar_nil, setPar_v, setPar_o, sl_10, sl_01, zp_tt, zp_ll, freeAt, Option.isSome_some, Option.isSome_none, Option.map_some, Option.map_none, List.drop_succ_cons, List.drop_zero, len_s, ty_dic, ty_sh, ty_un, v_sh, v_un, get_sh, get_un, is_nn, is_tn, s_name_name, s_name_bool, s_name_share, s_name_lot, s_name_deed, s_name_cells, s_name_heirs, s_bool_name, s_bool_bool, s_bool_share, s_bool_lot, s_bool_deed, s_bool_cells, s_bool_heirs, s_number_name, s_number_bool, s_number_share, s_number_lot, s_number_deed, s_number_cells, s_number_heirs, s_amount_name, s_amount_bool, s_amount_share, s_amount_lot, s_amount_deed, s_amount_cells, s_amount_heirs, s_day_name, s_day_bool, s_day_share, s_day_lot, s_day_deed, s_day_cells, s_day_heirs, s_share_name, s_share_bool, s_share_share, s_share_lot, s_share_deed, s_share_cells, s_share_heirs, s_lot_name, s_lot_bool, s_lot_share, s_lot_lot, s_lot_deed, s_lot_cells, s_lot_heirs, s_deed_name, s_deed_bool, s_deed_share, s_deed_lot, s_deed_deed, s_deed_cells, s_deed_heirs, s_heirs_name, s_heirs_bool, s_heirs_share, s_heirs_lot, s_heirs_deed, s_heirs_cells, s_heirs_heirs, s_cells_name, s_cells_bool, s_cells_share, s_cells_lot, s_cells_deed, s_cells_cells, s_cells_heirs, i_name, i_bool, i_number, i_amount, i_day, i_share, i_lot, i_deed, i_heirs, i_cells, in_si, al1, al2, ↓ch_w, chS_o, chS_m, ↓chS_o, ↓chS_m, chL_l, ↓chL_l, v_mut, mvD_l, put1, put2, put3, put4, abs_i, int_i, neg_i, app_w, ins_w, ty_str, ty_lst, item_si, list_str, list_tup, tup_lst, wS_fld, onOO_o, ↓onOO_o, flI_nx, objAt_oo, Fl_t, Fl_b, putD_n, putD_b, ↓oP_some, ↓onB_some, ↓onS_some, ↓onNx_nx, ↓onNx_ret, ↓onNx_brk, ↓onNx_ct, ↓rdS_v, ↓rdS_ol, ↓onI_int, ↓onFn_fn, ↓onLst_l, ↓wF_ret, ↓wR_ok, ↓wR_ofO, ↓if_true, ↓if_false, ↓flF_ret, ↓flF_nx, oP_some, onB_some, onS_some, onNx_nx, onNx_ret, onNx_brk, onNx_ct, rdS_v, rdS_ol, onI_int, onFn_fn, onLst_l, wF_ret, wR_ok, wR_ofO, if_true, if_false, flF_ret, flF_nx, wR_ok, wR_no, wR_ofO, ↓wE_var, ↓wE_const, ↓wE_prim, ↓wE_slice, ↓wE_meth, ↓wE_mprim, ↓wE_tup, ↓wE_lst, ↓wE_cell, ↓wE_dic, ↓wE_and, ↓wE_or, ↓wE_not, ↓wE_if, ↓wE_chain, ↓wE_call, ↓wE_new, ↓wE_callv, onFn_fn, ↓wE_comp, ↓wE_scomp, ↓turnC_w, ↓wL_nil, ↓wL_cons, ↓wV_nil, ↓wV_cons, onI_int, ↓wP_nil, ↓wP_cons, ↓wCh_one, ↓wCh_more, ↓wIf_nil, ↓wIf_cons, ↓wI_seq, ↓wI_range, ↓wI_zip, ↓wA_peek, ↓wA_const, ↓wA_prim, ↓wA_slice, ↓wA_meth, ↓wA_mprim, ↓wA_tup, ↓wA_lst, ↓wA_cell, ↓wA_dic, ↓wA_and, ↓wA_or, ↓wA_not, ↓wA_ifE, ↓wA_chain, ↓wA_call, ↓wA_callv, ↓wA_new, ↓wA_comp, ↓wA_scomp, ↓wA_var, ↓look_nil, ↓look_cons, lookAV_d, lookAV_pk, slV_v, slV_ol, slV_oo, ↓rd_w, rdS_v, rdS_ol, ↓wS_asg, ↓wS_asgO, onLst_l, ↓wS_par, ↓wS_put, ↓wS_expr, ↓wS_ret, ↓wS_ite, ↓wS_for, ↓bodyS_w, ↓wS_while, ↓wS_pass, ↓wS_retN, ↓wS_brk, ↓wS_cont, ↓wB_nil, ↓wB_cons, flF_nx, flF_ret, onNx_nx, onNx_ret, onNx_brk, onNx_ct, onB_some, oP_some, oP_none, oP_blO, oP_notO, oP_lstO, onS_some, wF_ret, p_isi, p_eq, p_ne, p_lt, p_le, p_gt, p_ge, p_is, p_isnot, p_in, p_notin, p_item, p_len, p_all, p_any, p_add, p_sub, p_mul, p_fdiv, p_mod, p_pow, p_neg, p_abs, p_int, p_join, p_get2, p_get3, p_list, p_tuple, p_sorted, p_set, p_dict, p_attr, tru_bl, tru_non, v_non, v_bl, v_int, v_str, v_ty, v_fn, v_cls, v_tup, v_lst, v_dic, v_set, v_obj, lt_ii, le_ii, lt_ss, len_str, len_tup, len_lst, len_set, len_dic, sub_ii, add_ii, seq_str, seq_tup, seq_lst, item_ti, item_li, eq_ii, eq_ss, eq_bb, all_bls, ↓bindT_nm, ↓bindT_tup, ↓bindTs_nil, ↓bindTs_cons, List.all_cons, List.all_nil, List.set_cons_zero, List.set_cons_succ, List.getElem?_cons_zero, List.getElem?_cons_succ, List.getElem?_nil, wipeE, backE, List.foldl_cons, List.foldl_nil, Option.getD_some, List.length_cons, List.length_nil, List.length_set, Nat.reduceSub, Nat.reduceAdd, Nat.reduceLT, Nat.reduceLeDiff, List.replicate_succ, List.replicate_zero, List.map_cons, List.map_nil, List.nil_append, List.cons_append, List.append_nil, env0, decide_true, decide_false, Bool.and_true, Bool.true_and, Bool.not_true, Bool.not_false, Bool.false_eq_true, if_true, if_false, true_and, and_true, decide_eq_true_eq, Nat.zero_lt_succ, Nat.succ_lt_succ_iff, rng_w1, rng_w2, mul_w, fdiv_w, mod_w, pow_w, adds_w, addt_w, addl_w, atI_l0, atI_l1, atI_l2, atI_l3, atI_l4, nc0, nc1, nc2, nc3, nc4, nc5, nc6, nc7, Int.reduceBEq, noOwn_nil, noOwn_cons, ownF_v, ownF_n, ownF_vs])
section
variable {n : Nat} {S : Sto}
theorem gcd_loop {Q : Flw → Env → Sto → Prop} {B : Int} : ∀ (m : Nat) (a b : Int), 0 ≤ b → b < m → a.natAbs ≤ B → b ≤ B → (a ≠ 0 ∨ b ≠ 0) → (∀ c : Int, c ≠ 0 → c.natAbs ≤ B → Q .nx [some (.v (.int c)), some (.v (.int 0))] S) →
    wR (loopW (evE (G n) (.prim .ne [(.peek 1), (.const (.int 0))])) (evB (G n) 70 Fl80 [(.par [(0, false), (1, false)] [(.var 1), (.prim .mod [(.peek 0), (.peek 1)])])]) m [some (.v (.int a)), some (.v (.int b))] S) Q
  | 0, a, b, h0, h1, _, _, _, _ => by omega
  | m + 1, a, b, h0, h1, h2, h3, h4, q => by
    rw [loopW_w]
    walk_at "w"
    by_cases hb : b = 0
    · subst hb
      rw [show ((0 : Int) == 0) = true from rfl]
      walk_at "w"
      exact q a (by omega) h2
    · rw [show (b == (0 : Int)) = false from by rw [beq_eq_false_iff_ne]; exact hb]
      walk_at "w"
      refine ⟨by omega, ?_⟩
      have e1 := Int.emod_nonneg a hb
      have e2 := Int.emod_lt_of_pos a (show 0 < b by omega)
      exact gcd_loop m b (a % b) e1 (by omega) (by omega) (by omega) (.inl hb) q
theorem g_gcd {a b : Int} (h0 : 0 < b) (h1 : b ≤ 61) (h2 : a.natAbs ≤ 100) {Q : D → Sto → Prop} (q : ∀ c : Int, 0 < c → c ≤ 100 → Q (.int c) S) : wF (G (n + 1) (.fn "common_divisor") [.int a, .int b] S) Q := by
  rw [G_fn (c := c_common_divisor) rfl rfl rfl (by decide)]
  simp only [c_common_divisor]
  walk_at "w"
  refine gcd_loop (B := 100) 70 a b (by omega) (by omega) (by omega) (by omega) (.inr (by omega)) fun c hc hB => ?_
  walk_at "w"
  refine q _ ?_ ?_
  · split <;> omega
  · split <;> omega
theorem new_share {a b : Int} (h0 : 0 < b) (h1 : b ≤ 61) (h2 : a.natAbs ≤ 100) : wF (G (n + 3) (.new "Share") [.int a, .int b] S) fun d S' => (∃ x y, d = .obj "Share" fTB [.int x, .int y]) ∧ S' = S := by
  rw [G_new (c := c_Share) (k := "Share") rfl rfl rfl (by decide)]
  simp only [c_Share, envI]
  have w1 : ∀ (i : Int) (S : Sto), G (n + 2) (.fn "is_whole") [.int i] S = .ret (.bl true) S := fun i S => g_whole (k := 0) rfl
  k_search w1
  have h3 : ¬ b < 1 := by omega
  k_search h3
  refine g_gcd h0 h1 h2 fun c c0 c1 => ?_
  k_search h3
  refine ⟨⟨by omega, by omega⟩, ⟨by omega, by omega⟩, _, _, rfl⟩
end
end R.M
end
section
set_option Elab.async false
set_option linter.all false
set_option maxRecDepth 100000
set_option maxHeartbeats 4000000
namespace R.M
open PySem L2
theorem comp_invl {turn : D → Env → Sto → Res (Option D)} {own : List Nat} {Q : List D → Env → Sto → Prop} {ρ : Env} {S : Sto} (P : D → Prop) (l : List D) (hl : l.length ≤ sizeLine) (hS : Bag S)
    (h : ∀ a ∈ l, ∀ S, Bag S → wR (turn a ρ S) fun o ρ' S' => ∃ y, o = some y ∧ P y ∧ wipeE ρ' own = ρ ∧ Bag S') (q : ∀ ys S', ys.length = l.length → (∀ y ∈ ys, P y) → Bag S' → Q ys ρ S') : wR (loopC turn own l [] ρ S) Q := by
  have e := comp_inv (turn := turn) (own := own) (Q := Q) P (fun a => a) l hl hS h q
  rwa [List.map_id'] at e
theorem strs_of : ∀ {ys : List D}, (∀ y ∈ ys, isName y = true) → ∃ ss, strsD ys = some ss ∧ ss.length = ys.length
  | [], _ => ⟨[], rfl, rfl⟩
  | y :: ys, h => by
    obtain ⟨s, rfl⟩ := name_is (h y List.mem_cons_self)
    obtain ⟨ss, h1, h2⟩ := strs_of fun z m => h z (List.mem_cons_of_mem _ m)
    refine ⟨s :: ss, ?_, by simp [h2]⟩
    show (strsD ys).map (s :: ·) = _
    rw [h1]; rfl
theorem ins_len {s : Str} : ∀ {l : List Str}, (insS s l).length = l.length + 1
  | [] => rfl
  | t :: r => by
    unfold insS
    split
    · rfl
    · rw [List.length_cons, ins_len, List.length_cons]
theorem sort_len : ∀ {l : List Str}, (sortS l).length = l.length
  | [] => rfl
  | s :: r => by
    show (insS s (sortS r)).length = _
    rw [ins_len, sort_len]; rfl
theorem sort_w {ys : List D} (h : ∀ y ∈ ys, isName y = true) (l : ys.length ≤ 60) : ∃ ss : List Str, ss.length = ys.length ∧ sortO (.lst ys) = some (.lst (ss.map D.str)) := by
  obtain ⟨ss, h1, h2⟩ := strs_of h
  refine ⟨sortS ss, by rw [sort_len, h2], ?_⟩
  show lstO (match strsD ys with
    | some ss => if ss.length < 64 then some ((sortS ss).map .str) else none
    | none => match intsD ys with
      | some is => if is.length < 64 then some ((sortI is).map .int) else none
      | none => none) = _
  rw [h1]
  show lstO (if ss.length < 64 then some ((sortS ss).map .str) else none) = _
  rw [if_pos (by omega)]
  rfl
theorem gd_name {k : Nat} {x : D} (h : isName x = true) : gd k x = true := by
  obtain ⟨s, rfl⟩ := name_is h
  have := gd_le (k := 0) (x := .str s) rfl k
  rwa [Nat.zero_add] at this
theorem gd_int {k : Nat} {i : Int} : gd k (.int i) = true := by
  have := gd_le (k := 0) (x := .int i) rfl k
  rwa [Nat.zero_add] at this
theorem gd_str {k : Nat} {i : Str} : gd k (.str i) = true := by
  have := gd_le (k := 0) (x := .str i) rfl k
  rwa [Nat.zero_add] at this
theorem gd_bl {k : Nat} {i : Bool} : gd k (.bl i) = true := by
  have := gd_le (k := 0) (x := .bl i) rfl k
  rwa [Nat.zero_add] at this
theorem gd_sh {k : Nat} {x y : Int} : gd k (.obj "Share" fTB [.int x, .int y]) = true := by
  have := gd_le (k := 0) (x := .obj "Share" fTB [.int x, .int y]) (by kernel_rfl) k
  rwa [Nat.zero_add] at this
local macro_rules | `(tactic| walk_at "w") => `(tactic| simp (config := {failIfUnchanged := false, implicitDefEqProofs := false}) only [eq_nil, v_FORMS, v_DIFF, in_FORMS, item_FORMS, in_DIFF, item_DIFF, slice1, setPar_nil, setPar_v, setPar_o, sl_10, sl_01, zp_tt, zp_ll, freeAt, Option.isSome_some, Option.isSome_none, Option.map_some, Option.map_none, List.drop_succ_cons, List.drop_zero, len_s, ty_dic, ty_sh, ty_un, v_sh, v_un, get_sh, get_un, is_nn, is_tn, s_name_name, s_name_bool, s_name_share, s_name_lot, s_name_deed, s_name_cells, s_name_heirs, s_bool_name, s_bool_bool, s_bool_share, s_bool_lot, s_bool_deed, s_bool_cells, s_bool_heirs, s_number_name, s_number_bool, s_number_share, s_number_lot, s_number_deed, s_number_cells, s_number_heirs, s_amount_name, s_amount_bool, s_amount_share, s_amount_lot, s_amount_deed, s_amount_cells, s_amount_heirs, s_day_name, s_day_bool, s_day_share, s_day_lot, s_day_deed, s_day_cells, s_day_heirs, s_share_name, s_share_bool, s_share_share, s_share_lot, s_share_deed, s_share_cells, s_share_heirs, s_lot_name, s_lot_bool, s_lot_share, s_lot_lot, s_lot_deed, s_lot_cells, s_lot_heirs, s_deed_name, s_deed_bool, s_deed_share, s_deed_lot, s_deed_deed, s_deed_cells, s_deed_heirs, s_heirs_name, s_heirs_bool, s_heirs_share, s_heirs_lot, s_heirs_deed, s_heirs_cells, s_heirs_heirs, s_cells_name, s_cells_bool, s_cells_share, s_cells_lot, s_cells_deed, s_cells_cells, s_cells_heirs, i_name, i_bool, i_number, i_amount, i_day, i_share, i_lot, i_deed, i_heirs, i_cells, in_si, al1, al2, ↓ch_w, chS_o, chS_m, ↓chS_o, ↓chS_m, chL_l, ↓chL_l, v_mut, mvD_l, put1, put2, put3, put4, abs_i, int_i, neg_i, app_w, ins_w, ty_str, ty_lst, item_si, list_str, list_tup, tup_lst, wS_fld, onOO_o, ↓onOO_o, flI_nx, objAt_oo, Fl_t, Fl_b, putD_n, putD_b, ↓oP_some, ↓onB_some, ↓onS_some, ↓onNx_nx, ↓onNx_ret, ↓onNx_brk, ↓onNx_ct, ↓rdS_v, ↓rdS_ol, ↓onI_int, ↓onFn_fn, ↓onLst_l, ↓wF_ret, ↓wR_ok, ↓wR_ofO, ↓if_true, ↓if_false, ↓flF_ret, ↓flF_nx, oP_some, onB_some, onS_some, onNx_nx, onNx_ret, onNx_brk, onNx_ct, rdS_v, rdS_ol, onI_int, onFn_fn, onLst_l, wF_ret, wR_ok, wR_ofO, if_true, if_false, flF_ret, flF_nx, wR_ok, wR_no, wR_ofO, ↓wE_var, ↓wE_const, ↓wE_prim, ↓wE_slice, ↓wE_meth, ↓wE_mprim, ↓wE_tup, ↓wE_lst, ↓wE_cell, ↓wE_dic, ↓wE_and, ↓wE_or, ↓wE_not, ↓wE_if, ↓wE_chain, ↓wE_call, ↓wE_new, ↓wE_callv, onFn_fn, ↓wE_comp, ↓wE_scomp, ↓turnC_w, ↓wL_nil, ↓wL_cons, ↓wV_nil, ↓wV_cons, onI_int, ↓wP_nil, ↓wP_cons, ↓wCh_one, ↓wCh_more, ↓wIf_nil, ↓wIf_cons, ↓wI_seq, ↓wI_range, ↓wI_zip, ↓wA_peek, ↓wA_const, ↓wA_prim, ↓wA_slice, ↓wA_meth, ↓wA_mprim, ↓wA_tup, ↓wA_lst, ↓wA_cell, ↓wA_dic, ↓wA_and, ↓wA_or, ↓wA_not, ↓wA_ifE, ↓wA_chain, ↓wA_call, ↓wA_callv, ↓wA_new, ↓wA_comp, ↓wA_scomp, ↓wA_var, ↓look_nil, ↓look_cons, lookAV_d, lookAV_pk, slV_v, slV_ol, slV_oo, ↓rd_w, rdS_v, rdS_ol, ↓wS_asg, ↓wS_asgO, onLst_l, ↓wS_par, ↓wS_put, ↓wS_expr, ↓wS_ret, ↓wS_ite, ↓wS_for, ↓bodyS_w, ↓wS_while, ↓wS_pass, ↓wS_retN, ↓wS_brk, ↓wS_cont, ↓wB_nil, ↓wB_cons, flF_nx, flF_ret, onNx_nx, onNx_ret, onNx_brk, onNx_ct, onB_some, oP_some, oP_none, oP_blO, oP_notO, oP_lstO, onS_some, wF_ret, p_isi, p_eq, p_ne, p_lt, p_le, p_gt, p_ge, p_is, p_isnot, p_in, p_notin, p_item, p_len, p_all, p_any, p_add, p_sub, p_mul, p_fdiv, p_mod, p_pow, p_neg, p_abs, p_int, p_join, p_get2, p_get3, p_list, p_tuple, p_sorted, p_set, p_dict, p_attr, tru_bl, tru_non, v_non, v_bl, v_int, v_str, v_ty, v_fn, v_cls, v_tup, v_lst, v_dic, v_set, v_obj, lt_ii, le_ii, lt_ss, len_str, len_tup, len_lst, len_set, len_dic, sub_ii, add_ii, seq_str, seq_tup, seq_lst, item_ti, item_li, eq_ii, eq_ss, eq_bb, all_bls, ↓bindT_nm, ↓bindT_tup, ↓bindTs_nil, ↓bindTs_cons, List.all_cons, List.all_nil, List.set_cons_zero, List.set_cons_succ, List.getElem?_cons_zero, List.getElem?_cons_succ, List.getElem?_nil, wipeE, backE, List.foldl_cons, List.foldl_nil, Option.getD_some, List.length_cons, List.length_nil, List.length_set, Nat.reduceSub, Nat.reduceAdd, Nat.reduceLT, Nat.reduceLeDiff, List.replicate_succ, List.replicate_zero, List.map_cons, List.map_nil, List.nil_append, List.cons_append, List.append_nil, env0, decide_true, decide_false, Bool.and_true, Bool.true_and, Bool.not_true, Bool.not_false, Bool.false_eq_true, if_true, if_false, true_and, and_true, decide_eq_true_eq, Nat.zero_lt_succ, Nat.succ_lt_succ_iff, rng_w1, rng_w2, mul_w, fdiv_w, mod_w, pow_w, adds_w, addt_w, addl_w, atI_l0, atI_l1, atI_l2, atI_l3, atI_l4, nc0, nc1, nc2, nc3, nc4, nc5, nc6, nc7, Int.reduceBEq, noOwn_nil, noOwn_cons, ownF_v, ownF_n, ownF_vs])
local macro_rules | `(tactic| k_search $a) => `(tactic| simp (config := {failIfUnchanged := false, implicitDefEqProofs := false}) only [$a:term, eq_nil, v_FORMS, v_DIFF, in_FORMS, item_FORMS, in_DIFF, item_DIFF, slice1, setPar_nil, setPar_v, setPar_o, sl_10, sl_01, zp_tt, zp_ll, freeAt, Option.isSome_some, Option.isSome_none, Option.map_some, Option.map_none, List.drop_succ_cons, List.drop_zero, len_s, ty_dic, ty_sh, ty_un, v_sh, v_un, get_sh, get_un, is_nn, is_tn, s_name_name, s_name_bool, s_name_share, s_name_lot, s_name_deed, s_name_cells, s_name_heirs, s_bool_name, s_bool_bool, s_bool_share, s_bool_lot, s_bool_deed, s_bool_cells, s_bool_heirs, s_number_name, s_number_bool, s_number_share, s_number_lot, s_number_deed, s_number_cells, s_number_heirs, s_amount_name, s_amount_bool, s_amount_share, s_amount_lot, s_amount_deed, s_amount_cells, s_amount_heirs, s_day_name, s_day_bool, s_day_share, s_day_lot, s_day_deed, s_day_cells, s_day_heirs, s_share_name, s_share_bool, s_share_share, s_share_lot, s_share_deed, s_share_cells, s_share_heirs, s_lot_name, s_lot_bool, s_lot_share, s_lot_lot, s_lot_deed, s_lot_cells, s_lot_heirs, s_deed_name, s_deed_bool, s_deed_share, s_deed_lot, s_deed_deed, s_deed_cells, s_deed_heirs, s_heirs_name, s_heirs_bool, s_heirs_share, s_heirs_lot, s_heirs_deed, s_heirs_cells, s_heirs_heirs, s_cells_name, s_cells_bool, s_cells_share, s_cells_lot, s_cells_deed, s_cells_cells, s_cells_heirs, i_name, i_bool, i_number, i_amount, i_day, i_share, i_lot, i_deed, i_heirs, i_cells, in_si, al1, al2, ↓ch_w, chS_o, chS_m, ↓chS_o, ↓chS_m, chL_l, ↓chL_l, v_mut, mvD_l, put1, put2, put3, put4, abs_i, int_i, neg_i, app_w, ins_w, ty_str, ty_lst, item_si, list_str, list_tup, tup_lst, wS_fld, onOO_o, ↓onOO_o, flI_nx, objAt_oo, Fl_t, Fl_b, putD_n, putD_b, ↓oP_some, ↓onB_some, ↓onS_some, ↓onNx_nx, ↓onNx_ret, ↓onNx_brk, ↓onNx_ct, ↓rdS_v, ↓rdS_ol, ↓onI_int, ↓onFn_fn, ↓onLst_l, ↓wF_ret, ↓wR_ok, ↓wR_ofO, ↓if_true, ↓if_false, ↓flF_ret, ↓flF_nx, oP_some, onB_some, onS_some, onNx_nx, onNx_ret, onNx_brk, onNx_ct, rdS_v, rdS_ol, onI_int, onFn_fn, onLst_l, wF_ret, wR_ok, wR_ofO, if_true, if_false, flF_ret, flF_nx, wR_ok, wR_no, wR_ofO, ↓wE_var, ↓wE_const, ↓wE_prim, ↓wE_slice, ↓wE_meth, ↓wE_mprim, ↓wE_tup, ↓wE_lst, ↓wE_cell, ↓wE_dic, ↓wE_and, ↓wE_or, ↓wE_not, ↓wE_if, ↓wE_chain, ↓wE_call, ↓wE_new, ↓wE_callv, onFn_fn, ↓wE_comp, ↓wE_scomp, ↓turnC_w, ↓wL_nil, ↓wL_cons, ↓wV_nil, ↓wV_cons, onI_int, ↓wP_nil, ↓wP_cons, ↓wCh_one, ↓wCh_more, ↓wIf_nil, ↓wIf_cons, ↓wI_seq, ↓wI_range, ↓wI_zip, ↓wA_peek, ↓wA_const, ↓wA_prim, ↓wA_slice, ↓wA_meth, ↓wA_mprim, ↓wA_tup, ↓wA_lst, ↓wA_cell, ↓wA_dic, ↓wA_and, ↓wA_or, ↓wA_not, ↓wA_ifE, ↓wA_chain, ↓wA_call, ↓wA_callv, ↓wA_new, ↓wA_comp, ↓wA_scomp, ↓wA_var, ↓look_nil, ↓look_cons, lookAV_d, lookAV_pk, slV_v, slV_ol, slV_oo, ↓rd_w, rdS_v, rdS_ol, ↓wS_asg, ↓wS_asgO, onLst_l, ↓wS_par, ↓wS_put, ↓wS_expr, ↓wS_ret, ↓wS_ite, ↓wS_for, ↓bodyS_w, ↓wS_while, ↓wS_pass, ↓wS_retN, ↓wS_brk, ↓wS_cont, ↓wB_nil, ↓wB_cons, flF_nx, flF_ret, onNx_nx, onNx_ret, onNx_brk, onNx_ct, onB_some, oP_some, oP_none, oP_blO, oP_notO, oP_lstO, onS_some, wF_ret, p_isi, p_eq, p_ne, p_lt, p_le, p_gt, p_ge, p_is, p_isnot, p_in, p_notin, p_item, p_len, p_all, p_any, p_add, p_sub, p_mul, p_fdiv, p_mod, p_pow, p_neg, p_abs, p_int, p_join, p_get2, p_get3, p_list, p_tuple, p_sorted, p_set, p_dict, p_attr, tru_bl, tru_non, v_non, v_bl, v_int, v_str, v_ty, v_fn, v_cls, v_tup, v_lst, v_dic, v_set, v_obj, lt_ii, le_ii, lt_ss, len_str, len_tup, len_lst, len_set, len_dic, sub_ii, add_ii, seq_str, seq_tup, seq_lst, item_ti, item_li, eq_ii, eq_ss, eq_bb, all_bls, ↓bindT_nm, ↓bindT_tup, ↓bindTs_nil, ↓bindTs_cons, List.all_cons, List.all_nil, List.set_cons_zero, List.set_cons_succ, List.getElem?_cons_zero, List.getElem?_cons_succ, List.getElem?_nil, wipeE, backE, List.foldl_cons, List.foldl_nil, Option.getD_some, List.length_cons, List.length_nil, List.length_set, Nat.reduceSub, Nat.reduceAdd, Nat.reduceLT, Nat.reduceLeDiff, List.replicate_succ, List.replicate_zero, List.map_cons, List.map_nil, List.nil_append, List.cons_append, List.append_nil, env0, decide_true, decide_false, Bool.and_true, Bool.true_and, Bool.not_true, Bool.not_false, Bool.false_eq_true, if_true, if_false, true_and, and_true, decide_eq_true_eq, Nat.zero_lt_succ, Nat.succ_lt_succ_iff, rng_w1, rng_w2, mul_w, fdiv_w, mod_w, pow_w, adds_w, addt_w, addl_w, atI_l0, atI_l1, atI_l2, atI_l3, atI_l4, nc0, nc1, nc2, nc3, nc4, nc5, nc6, nc7, Int.reduceBEq, noOwn_nil, noOwn_cons, ownF_v, ownF_n, ownF_vs])
local macro_rules | `(tactic| ktr_call $a $b) => `(tactic| simp (config := {failIfUnchanged := false, implicitDefEqProofs := false}) only [$a:term, $b:term, eq_nil, v_FORMS, v_DIFF, in_FORMS, item_FORMS, in_DIFF, item_DIFF, slice1, setPar_nil, setPar_v, setPar_o, sl_10, sl_01, zp_tt, zp_ll, freeAt, Option.isSome_some, Option.isSome_none, Option.map_some, Option.map_none, List.drop_succ_cons, List.drop_zero, len_s, ty_dic, ty_sh, ty_un, v_sh, v_un, get_sh, get_un, is_nn, is_tn, s_name_name, s_name_bool, s_name_share, s_name_lot, s_name_deed, s_name_cells, s_name_heirs, s_bool_name, s_bool_bool, s_bool_share, s_bool_lot, s_bool_deed, s_bool_cells, s_bool_heirs, s_number_name, s_number_bool, s_number_share, s_number_lot, s_number_deed, s_number_cells, s_number_heirs, s_amount_name, s_amount_bool, s_amount_share, s_amount_lot, s_amount_deed, s_amount_cells, s_amount_heirs, s_day_name, s_day_bool, s_day_share, s_day_lot, s_day_deed, s_day_cells, s_day_heirs, s_share_name, s_share_bool, s_share_share, s_share_lot, s_share_deed, s_share_cells, s_share_heirs, s_lot_name, s_lot_bool, s_lot_share, s_lot_lot, s_lot_deed, s_lot_cells, s_lot_heirs, s_deed_name, s_deed_bool, s_deed_share, s_deed_lot, s_deed_deed, s_deed_cells, s_deed_heirs, s_heirs_name, s_heirs_bool, s_heirs_share, s_heirs_lot, s_heirs_deed, s_heirs_cells, s_heirs_heirs, s_cells_name, s_cells_bool, s_cells_share, s_cells_lot, s_cells_deed, s_cells_cells, s_cells_heirs, i_name, i_bool, i_number, i_amount, i_day, i_share, i_lot, i_deed, i_heirs, i_cells, in_si, al1, al2, ↓ch_w, chS_o, chS_m, ↓chS_o, ↓chS_m, chL_l, ↓chL_l, v_mut, mvD_l, put1, put2, put3, put4, abs_i, int_i, neg_i, app_w, ins_w, ty_str, ty_lst, item_si, list_str, list_tup, tup_lst, wS_fld, onOO_o, ↓onOO_o, flI_nx, objAt_oo, Fl_t, Fl_b, putD_n, putD_b, ↓oP_some, ↓onB_some, ↓onS_some, ↓onNx_nx, ↓onNx_ret, ↓onNx_brk, ↓onNx_ct, ↓rdS_v, ↓rdS_ol, ↓onI_int, ↓onFn_fn, ↓onLst_l, ↓wF_ret, ↓wR_ok, ↓wR_ofO, ↓if_true, ↓if_false, ↓flF_ret, ↓flF_nx, oP_some, onB_some, onS_some, onNx_nx, onNx_ret, onNx_brk, onNx_ct, rdS_v, rdS_ol, onI_int, onFn_fn, onLst_l, wF_ret, wR_ok, wR_ofO, if_true, if_false, flF_ret, flF_nx, wR_ok, wR_no, wR_ofO, ↓wE_var, ↓wE_const, ↓wE_prim, ↓wE_slice, ↓wE_meth, ↓wE_mprim, ↓wE_tup, ↓wE_lst, ↓wE_cell, ↓wE_dic, ↓wE_and, ↓wE_or, ↓wE_not, ↓wE_if, ↓wE_chain, ↓wE_call, ↓wE_new, ↓wE_callv, onFn_fn, ↓wE_comp, ↓wE_scomp, ↓turnC_w, ↓wL_nil, ↓wL_cons, ↓wV_nil, ↓wV_cons, onI_int, ↓wP_nil, ↓wP_cons, ↓wCh_one, ↓wCh_more, ↓wIf_nil, ↓wIf_cons, ↓wI_seq, ↓wI_range, ↓wI_zip, ↓wA_peek, ↓wA_const, ↓wA_prim, ↓wA_slice, ↓wA_meth, ↓wA_mprim, ↓wA_tup, ↓wA_lst, ↓wA_cell, ↓wA_dic, ↓wA_and, ↓wA_or, ↓wA_not, ↓wA_ifE, ↓wA_chain, ↓wA_call, ↓wA_callv, ↓wA_new, ↓wA_comp, ↓wA_scomp, ↓wA_var, ↓look_nil, ↓look_cons, lookAV_d, lookAV_pk, slV_v, slV_ol, slV_oo, ↓rd_w, rdS_v, rdS_ol, ↓wS_asg, ↓wS_asgO, onLst_l, ↓wS_par, ↓wS_put, ↓wS_expr, ↓wS_ret, ↓wS_ite, ↓wS_for, ↓bodyS_w, ↓wS_while, ↓wS_pass, ↓wS_retN, ↓wS_brk, ↓wS_cont, ↓wB_nil, ↓wB_cons, flF_nx, flF_ret, onNx_nx, onNx_ret, onNx_brk, onNx_ct, onB_some, oP_some, oP_none, oP_blO, oP_notO, oP_lstO, onS_some, wF_ret, p_isi, p_eq, p_ne, p_lt, p_le, p_gt, p_ge, p_is, p_isnot, p_in, p_notin, p_item, p_len, p_all, p_any, p_add, p_sub, p_mul, p_fdiv, p_mod, p_pow, p_neg, p_abs, p_int, p_join, p_get2, p_get3, p_list, p_tuple, p_sorted, p_set, p_dict, p_attr, tru_bl, tru_non, v_non, v_bl, v_int, v_str, v_ty, v_fn, v_cls, v_tup, v_lst, v_dic, v_set, v_obj, lt_ii, le_ii, lt_ss, len_str, len_tup, len_lst, len_set, len_dic, sub_ii, add_ii, seq_str, seq_tup, seq_lst, item_ti, item_li, eq_ii, eq_ss, eq_bb, all_bls, ↓bindT_nm, ↓bindT_tup, ↓bindTs_nil, ↓bindTs_cons, List.all_cons, List.all_nil, List.set_cons_zero, List.set_cons_succ, List.getElem?_cons_zero, List.getElem?_cons_succ, List.getElem?_nil, wipeE, backE, List.foldl_cons, List.foldl_nil, Option.getD_some, List.length_cons, List.length_nil, List.length_set, Nat.reduceSub, Nat.reduceAdd, Nat.reduceLT, Nat.reduceLeDiff, List.replicate_succ, List.replicate_zero, List.map_cons, List.map_nil, List.nil_append, List.cons_append, List.append_nil, env0, decide_true, decide_false, Bool.and_true, Bool.true_and, Bool.not_true, Bool.not_false, Bool.false_eq_true, if_true, if_false, true_and, and_true, decide_eq_true_eq, Nat.zero_lt_succ, Nat.succ_lt_succ_iff, rng_w1, rng_w2, mul_w, fdiv_w, mod_w, pow_w, adds_w, addt_w, addl_w, atI_l0, atI_l1, atI_l2, atI_l3, atI_l4, nc0, nc1, nc2, nc3, nc4, nc5, nc6, nc7, Int.reduceBEq, noOwn_nil, noOwn_cons, ownF_v, ownF_n, ownF_vs])
local macro_rules | `(tactic| k_whileD $a $b $c "w") => `(tactic| simp (config := {failIfUnchanged := false, implicitDefEqProofs := false}) only [$a:term, $b:term, $c:term, eq_nil, v_FORMS, v_DIFF, in_FORMS, item_FORMS, in_DIFF, item_DIFF, slice1, setPar_nil, setPar_v, setPar_o, sl_10, sl_01, zp_tt, zp_ll, freeAt, Option.isSome_some, Option.isSome_none, Option.map_some, Option.map_none, List.drop_succ_cons, List.drop_zero, len_s, ty_dic, ty_sh, ty_un, v_sh, v_un, get_sh, get_un, is_nn, is_tn, s_name_name, s_name_bool, s_name_share, s_name_lot, s_name_deed, s_name_cells, s_name_heirs, s_bool_name, s_bool_bool, s_bool_share, s_bool_lot, s_bool_deed, s_bool_cells, s_bool_heirs, s_number_name, s_number_bool, s_number_share, s_number_lot, s_number_deed, s_number_cells, s_number_heirs, s_amount_name, s_amount_bool, s_amount_share, s_amount_lot, s_amount_deed, s_amount_cells, s_amount_heirs, s_day_name, s_day_bool, s_day_share, s_day_lot, s_day_deed, s_day_cells, s_day_heirs, s_share_name, s_share_bool, s_share_share, s_share_lot, s_share_deed, s_share_cells, s_share_heirs, s_lot_name, s_lot_bool, s_lot_share, s_lot_lot, s_lot_deed, s_lot_cells, s_lot_heirs, s_deed_name, s_deed_bool, s_deed_share, s_deed_lot, s_deed_deed, s_deed_cells, s_deed_heirs, s_heirs_name, s_heirs_bool, s_heirs_share, s_heirs_lot, s_heirs_deed, s_heirs_cells, s_heirs_heirs, s_cells_name, s_cells_bool, s_cells_share, s_cells_lot, s_cells_deed, s_cells_cells, s_cells_heirs, i_name, i_bool, i_number, i_amount, i_day, i_share, i_lot, i_deed, i_heirs, i_cells, in_si, al1, al2, ↓ch_w, chS_o, chS_m, ↓chS_o, ↓chS_m, chL_l, ↓chL_l, v_mut, mvD_l, put1, put2, put3, put4, abs_i, int_i, neg_i, app_w, ins_w, ty_str, ty_lst, item_si, list_str, list_tup, tup_lst, wS_fld, onOO_o, ↓onOO_o, flI_nx, objAt_oo, Fl_t, Fl_b, putD_n, putD_b, ↓oP_some, ↓onB_some, ↓onS_some, ↓onNx_nx, ↓onNx_ret, ↓onNx_brk, ↓onNx_ct, ↓rdS_v, ↓rdS_ol, ↓onI_int, ↓onFn_fn, ↓onLst_l, ↓wF_ret, ↓wR_ok, ↓wR_ofO, ↓if_true, ↓if_false, ↓flF_ret, ↓flF_nx, oP_some, onB_some, onS_some, onNx_nx, onNx_ret, onNx_brk, onNx_ct, rdS_v, rdS_ol, onI_int, onFn_fn, onLst_l, wF_ret, wR_ok, wR_ofO, if_true, if_false, flF_ret, flF_nx, wR_ok, wR_no, wR_ofO, ↓wE_var, ↓wE_const, ↓wE_prim, ↓wE_slice, ↓wE_meth, ↓wE_mprim, ↓wE_tup, ↓wE_lst, ↓wE_cell, ↓wE_dic, ↓wE_and, ↓wE_or, ↓wE_not, ↓wE_if, ↓wE_chain, ↓wE_call, ↓wE_new, ↓wE_callv, onFn_fn, ↓wE_comp, ↓wE_scomp, ↓turnC_w, ↓wL_nil, ↓wL_cons, ↓wV_nil, ↓wV_cons, onI_int, ↓wP_nil, ↓wP_cons, ↓wCh_one, ↓wCh_more, ↓wIf_nil, ↓wIf_cons, ↓wI_seq, ↓wI_range, ↓wI_zip, ↓wA_peek, ↓wA_const, ↓wA_prim, ↓wA_slice, ↓wA_meth, ↓wA_mprim, ↓wA_tup, ↓wA_lst, ↓wA_cell, ↓wA_dic, ↓wA_and, ↓wA_or, ↓wA_not, ↓wA_ifE, ↓wA_chain, ↓wA_call, ↓wA_callv, ↓wA_new, ↓wA_comp, ↓wA_scomp, ↓wA_var, ↓look_nil, ↓look_cons, lookAV_d, lookAV_pk, slV_v, slV_ol, slV_oo, ↓rd_w, rdS_v, rdS_ol, ↓wS_asg, ↓wS_asgO, onLst_l, ↓wS_par, ↓wS_put, ↓wS_expr, ↓wS_ret, ↓wS_ite, ↓wS_for, ↓bodyS_w, ↓wS_while, ↓wS_pass, ↓wS_retN, ↓wS_brk, ↓wS_cont, ↓wB_nil, ↓wB_cons, flF_nx, flF_ret, onNx_nx, onNx_ret, onNx_brk, onNx_ct, onB_some, oP_some, oP_none, oP_blO, oP_notO, oP_lstO, onS_some, wF_ret, p_isi, p_eq, p_ne, p_lt, p_le, p_gt, p_ge, p_is, p_isnot, p_in, p_notin, p_item, p_len, p_all, p_any, p_add, p_sub, p_mul, p_fdiv, p_mod, p_pow, p_neg, p_abs, p_int, p_join, p_get2, p_get3, p_list, p_tuple, p_sorted, p_set, p_dict, p_attr, tru_bl, tru_non, v_non, v_bl, v_int, v_str, v_ty, v_fn, v_cls, v_tup, v_lst, v_dic, v_set, v_obj, lt_ii, le_ii, lt_ss, len_str, len_tup, len_lst, len_set, len_dic, sub_ii, add_ii, seq_str, seq_tup, seq_lst, item_ti, item_li, eq_ii, eq_ss, eq_bb, all_bls, ↓bindT_nm, ↓bindT_tup, ↓bindTs_nil, ↓bindTs_cons, List.all_cons, List.all_nil, List.set_cons_zero, List.set_cons_succ, List.getElem?_cons_zero, List.getElem?_cons_succ, List.getElem?_nil, wipeE, backE, List.foldl_cons, List.foldl_nil, Option.getD_some, List.length_cons, List.length_nil, List.length_set, Nat.reduceSub, Nat.reduceAdd, Nat.reduceLT, Nat.reduceLeDiff, List.replicate_succ, List.replicate_zero, List.map_cons, List.map_nil, List.nil_append, List.cons_append, List.append_nil, env0, decide_true, decide_false, Bool.and_true, Bool.true_and, Bool.not_true, Bool.not_false, Bool.false_eq_true, if_true, if_false, true_and, and_true, decide_eq_true_eq, Nat.zero_lt_succ, Nat.succ_lt_succ_iff, rng_w1, rng_w2, mul_w, fdiv_w, mod_w, pow_w, adds_w, addt_w, addl_w, atI_l0, atI_l1, atI_l2, atI_l3, atI_l4, nc0, nc1, nc2, nc3, nc4, nc5, nc6, nc7, Int.reduceBEq, noOwn_nil, noOwn_cons, ownF_v, ownF_n, ownF_vs])
section
variable {n : Nat} {S : Sto}
theorem so_name (hS : Bag S) : wF (G (n + 4) (.fn "_law_some_of") [.mut 0, .str "name"] S) fun d S' => isName d = true ∧ Bag S' := by
  rw [G_fn (c := c__law_some_of) rfl rfl rfl (by decide)]
  simp only [c__law_some_of]
  walk_at "w"
  refine wF_mono (l_names (many := 1) hS (by omega)) ?_
  rintro d S' ⟨ys, rfl, hl, hy, hS'⟩
  match ys, hl with
  | [y], _ =>
    walk_at "w"
    exact ⟨hy y (by simp), hS'⟩
theorem so_bool (hS : Bag S) : wF (G (n + 4) (.fn "_law_some_of") [.mut 0, .str "bool"] S) fun d S' => gd 2 d = true ∧ Bag S' := by
  rw [G_fn (c := c__law_some_of) rfl rfl rfl (by decide)]
  simp only [c__law_some_of]
  walk_at "w"
  refine wF_mono (l_draw hS (by decide) (by decide)) ?_
  rintro d S' ⟨i, rfl, _, _, hS'⟩
  walk_at "w"
  exact ⟨gd_bl, hS'⟩
theorem so_number (hS : Bag S) : wF (G (n + 4) (.fn "_law_some_of") [.mut 0, .str "number"] S) fun d S' => gd 2 d = true ∧ Bag S' := by
  rw [G_fn (c := c__law_some_of) rfl rfl rfl (by decide)]
  simp only [c__law_some_of]
  ktr_call (rg_number) (rg_ok)
  refine ⟨by decide, ?_⟩
  refine wF_mono (l_draw hS (by decide) (by decide)) ?_
  rintro d S' ⟨i, rfl, _, _, hS'⟩
  walk_at "w"
  refine wF_mono (l_of hS' (by simp) (by simp)) ?_
  rintro d S' ⟨m, hS'⟩
  refine ⟨?_, hS'⟩
  simp only [List.mem_cons, List.mem_nil_iff, or_false] at m
  rcases m with rfl | rfl | rfl <;> exact gd_int
theorem so_amount (hS : Bag S) : wF (G (n + 4) (.fn "_law_some_of") [.mut 0, .str "amount"] S) fun d S' => gd 2 d = true ∧ Bag S' := by
  rw [G_fn (c := c__law_some_of) rfl rfl rfl (by decide)]
  simp only [c__law_some_of]
  ktr_call (rg_amount) (rg_ok)
  refine ⟨by decide, ?_⟩
  refine wF_mono (l_draw hS (by decide) (by decide)) ?_
  rintro d S' ⟨i, rfl, _, _, hS'⟩
  walk_at "w"
  refine wF_mono (l_of hS' (by simp) (by simp)) ?_
  rintro d S' ⟨m, hS'⟩
  refine ⟨?_, hS'⟩
  simp only [List.mem_cons, List.mem_nil_iff, or_false] at m
  rcases m with rfl | rfl | rfl <;> exact gd_int
theorem so_day (hS : Bag S) : wF (G (n + 4) (.fn "_law_some_of") [.mut 0, .str "day"] S) fun d S' => gd 2 d = true ∧ Bag S' := by
  rw [G_fn (c := c__law_some_of) rfl rfl rfl (by decide)]
  simp only [c__law_some_of]
  ktr_call (rg_day) (rg_ok)
  refine ⟨by decide, ?_⟩
  refine wF_mono (l_draw hS (by decide) (by decide)) ?_
  rintro d S' ⟨i, rfl, _, _, hS'⟩
  walk_at "w"
  refine wF_mono (l_of hS' (by simp) (by simp)) ?_
  rintro d S' ⟨m, hS'⟩
  refine ⟨?_, hS'⟩
  simp only [List.mem_cons, List.mem_nil_iff, or_false] at m
  rcases m with rfl | rfl | rfl <;> exact gd_int
theorem so_share (hS : Bag S) : wF (G (n + 4) (.fn "_law_some_of") [.mut 0, .str "share"] S) fun d S' => gd 2 d = true ∧ Bag S' := by
  rw [G_fn (c := c__law_some_of) rfl rfl rfl (by decide)]
  simp only [c__law_some_of]
  walk_at "w"
  refine wF_mono (l_draw hS (by decide) (by decide)) ?_
  rintro d S' ⟨i, rfl, i0, i1, hS'⟩
  walk_at "w"
  refine wF_mono (l_draw hS' (by omega) (by omega)) ?_
  rintro d S' ⟨j, rfl, j0, j1, hS'⟩
  walk_at "w"
  refine wF_mono (new_share (by omega) (by omega) (by omega)) ?_
  rintro d S2 ⟨⟨x, y, rfl⟩, rfl⟩
  exact ⟨gd_sh, hS'⟩
theorem so_lot (hS : Bag S) : wF (G (n + 4) (.fn "_law_some_of") [.mut 0, .str "lot"] S) fun d S' => gd 2 d = true ∧ Bag S' := by
  rw [G_fn (c := c__law_some_of) rfl rfl rfl (by decide)]
  simp only [c__law_some_of]
  walk_at "w"
  refine wF_mono (l_of hS (by simp) (by simp)) ?_
  rintro d S' ⟨m, hS'⟩
  obtain ⟨t, rfl, ht⟩ : ∃ t : Nat, d = .int (t : Nat) ∧ t ≤ 11 := by
    simp only [List.mem_cons, List.mem_nil_iff, or_false] at m
    rcases m with rfl | rfl | rfl | rfl | rfl
    · exact ⟨0, rfl, by omega⟩
    · exact ⟨0, rfl, by omega⟩
    · exact ⟨1, rfl, by omega⟩
    · exact ⟨2, rfl, by omega⟩
    · exact ⟨11, rfl, by omega⟩
  walk_at "w"
  rw [show (1 + (t : Int)) = ((1 + t : Nat) : Int) by omega]
  refine wF_mono (l_names (many := 1 + t) hS' (by omega)) ?_
  rintro d S' ⟨ys, rfl, hl, hy, hS'⟩
  obtain ⟨ss, hs, e⟩ := sort_w hy (by omega)
  k_search e
  refine ⟨gd_tup_of (k := 1) ?_ (by rw [List.length_map]; omega), hS'⟩
  intro d m
  obtain ⟨s, _, rfl⟩ := List.mem_map.mp m
  exact gd_str
theorem so_heirs (hS : Bag S) : wF (G (n + 4) (.fn "_law_some_of") [.mut 0, .str "heirs"] S) fun d S' => gd 2 d = true ∧ Bag S' := by
  rw [G_fn (c := c__law_some_of) rfl rfl rfl (by decide)]
  simp only [c__law_some_of]
  walk_at "w"
  refine wF_mono (l_draw hS (by decide) (by decide)) ?_
  rintro d S' ⟨i, rfl, i0, i1, hS'⟩
  obtain ⟨t, rfl⟩ : ∃ t : Nat, i = t := ⟨i.toNat, by omega⟩
  walk_at "w"
  rw [show (1 + (t : Int)) = ((1 + t : Nat) : Int) by omega]
  refine wF_mono (l_names (many := 1 + t) hS' (by omega)) ?_
  rintro d S' ⟨ys, rfl, hl, hy, hS'⟩
  walk_at "w"
  refine comp_invl (fun d => gd 1 d = true) ys (by rw [sizeLine_eq]; omega) hS' ?_ ?_
  · intro a m S hS
    walk_at "w"
    refine wF_mono (l_draw hS (by decide) (by decide)) ?_
    rintro d S' ⟨j, rfl, _, _, hS'⟩
    walk_at "w"
    refine ⟨_, rfl, ?_, hS'⟩
    refine gd_tup_of (k := 0) ?_ (by simp)
    intro d md
    simp only [List.mem_cons, List.mem_nil_iff, or_false] at md
    rcases md with rfl | rfl
    · exact gd_name (hy _ m)
    · exact gd_int
  · intro zs S2 hl2 hz hS2
    walk_at "w"
    exact ⟨gd_tup_of hz (by omega), hS2⟩
theorem so_cells (hS : Bag S) : wF (G (n + 4) (.fn "_law_some_of") [.mut 0, .str "cells"] S) fun d S' => gd 2 d = true ∧ Bag S' := by
  rw [G_fn (c := c__law_some_of) rfl rfl rfl (by decide)]
  simp only [c__law_some_of]
  walk_at "w"
  refine wF_mono (l_of hS (by simp) (by simp)) ?_
  rintro d S' ⟨m, hS'⟩
  obtain ⟨t, rfl, ht⟩ : ∃ t : Nat, d = .int (t : Nat) ∧ t ≤ 12 := by
    simp only [List.mem_cons, List.mem_nil_iff, or_false] at m
    rcases m with rfl | rfl | rfl | rfl
    · exact ⟨1, rfl, by omega⟩
    · exact ⟨2, rfl, by omega⟩
    · exact ⟨5, rfl, by omega⟩
    · exact ⟨12, rfl, by omega⟩
  walk_at "w"
  refine ⟨ok0 (by omega), ?_⟩
  rw [rangeD0]
  refine comp_inv (fun d => gd 1 d = true) _ (List.range t) (by rw [List.length_range, sizeLine_eq]; omega) hS' ?_ ?_
  · intro a m S hS
    walk_at "w"
    refine wF_mono (l_draw hS (by decide) (by decide)) ?_
    rintro d S' ⟨j, rfl, _, _, hS'⟩
    walk_at "w"
    refine ⟨_, rfl, ?_, hS'⟩
    refine gd_tup_of (k := 0) ?_ (by simp)
    intro d md
    simp only [List.mem_cons, List.mem_nil_iff, or_false] at md
    rcases md with rfl | rfl <;> exact gd_int
  · intro zs S2 hl2 hz hS2
    rw [List.length_range] at hl2
    walk_at "w"
    refine wF_mono (l_mixed hS2 (by omega)) ?_
    rintro d S' ⟨ws, rfl, hl3, hw, hS'⟩
    walk_at "w"
    exact ⟨gd_tup_of (fun d m => hz d (hw d m)) (by omega), hS'⟩
def kinds9 : List Str := ["name", "bool", "number", "amount", "day", "share", "lot", "cells", "heirs"]
theorem so_kind {s : Str} (h : s ∈ kinds9) (hS : Bag S) : wF (G (n + 4) (.fn "_law_some_of") [.mut 0, .str s] S) fun d S' => gd 2 d = true ∧ Bag S' := by
  simp only [kinds9, List.mem_cons, List.mem_nil_iff, or_false] at h
  rcases h with rfl | rfl | rfl | rfl | rfl | rfl | rfl | rfl | rfl
  · exact wF_mono (so_name hS) fun d S' h => ⟨gd_name h.1, h.2⟩
  · exact so_bool hS
  · exact so_number hS
  · exact so_amount hS
  · exact so_day hS
  · exact so_share hS
  · exact so_lot hS
  · exact so_cells hS
  · exact so_heirs hS
end
end R.M
end
section
set_option Elab.async false
set_option linter.all false
set_option maxRecDepth 100000
set_option maxHeartbeats 4000000
namespace R.M
open PySem L2
theorem comp_filt {α : Type} {turn : D → Env → Sto → Res (Option D)} {own : List Nat} {Q : List D → Env → Sto → Prop} {ρ : Env} {S : Sto} (g f : α → D) (p : α → Bool) (l : List α) (hl : l.length ≤ sizeLine)
    (h : ∀ a ∈ l, wR (turn (g a) ρ S) fun o ρ' S' => o = (if p a then some (f a) else none) ∧ wipeE ρ' own = ρ ∧ S' = S) (q : Q ((l.filter p).map f) ρ S) : wR (loopC turn own (l.map g) [] ρ S) Q := by
  refine loopC_inv (fun ds acc ρ' S' => ∃ pre post, l = pre ++ post ∧ ds = post.map g ∧ acc = (pre.filter p).map f ∧ ρ' = ρ ∧ S' = S) ?_ ?_ _ _ _ _ ⟨[], l, rfl, rfl, rfl, rfl, rfl⟩
  · rintro acc ρ' S' ⟨pre, post, e, e2, rfl, rfl, rfl⟩
    have : post = [] := by cases post <;> first | rfl | cases e2
    subst this
    rw [List.append_nil] at e
    subst e
    exact q
  · rintro d r acc ρ' S' ⟨pre, post, e, e2, rfl, rfl, rfl⟩
    cases post with
    | nil => cases e2
    | cons a post =>
      rw [List.map_cons] at e2
      injection e2 with e3 e4
      subst e3 e4
      refine wR_mono (h a (by rw [e]; simp)) ?_
      rintro o ρ2 S2 ⟨rfl, e5, rfl⟩
      cases hp : p a with
      | true =>
        simp only [if_true]
        refine ⟨?_, pre ++ [a], post, by rw [e]; simp, rfl, by simp [hp], ?_⟩
        rotate_left
        · first | exact ⟨e5, rfl⟩ | exact ⟨e5, trivial⟩
        rw [List.length_map]
        have h1 : l.length = pre.length + (post.length + 1) := by rw [e]; simp
        have h2 := List.length_filter_le p pre
        omega
      | false =>
        refine ⟨pre ++ [a], post, by rw [e]; simp, rfl, by simp [hp], ?_⟩
        first | exact ⟨e5, rfl⟩ | exact ⟨e5, trivial⟩
def words : List Str := sortS (lforms.map fun p => p.1)
def isSI (w : Str) : Bool := decide (w = "strike") || decide (w = "instead")
def okW (wide : Bool) (w : Str) : Bool := wide || !isSI w
def kindsW (wide : Bool) : List Str := if wide then "deed" :: kinds9 else kinds9
theorem list_sh : listD shapesD = some (lforms.map fun p => D.str p.1) := by
  show (if (lforms.map fun p => D.str p.1).all isKey then some (lforms.map fun p => D.str p.1) else none) = _
  rw [keys_tab, if_pos rfl]
theorem sort_sh : sortO (.lst (lforms.map fun p => D.str p.1)) = some (.lst (words.map D.str)) := by kernel_rfl
theorem item_sh {w : Str} : itemD shapesD (.str w) = (lforms.lookup w).map fun l => .tup (l.map .str) := item_tab (g := fun (l : List Str) => .tup (l.map .str))
def kindTab (wide : Bool) : Bool := (words.filter (okW wide)).all fun w => match lforms.lookup w with
  | some l => decide (l.length ≤ 6) && l.all fun s => (kindsW wide).contains s
  | none => false
theorem kind_tab : ∀ wide, kindTab wide = true := by decide +kernel
theorem kind_of {wide : Bool} {w : Str} (h : w ∈ words.filter (okW wide)) : ∃ l, lforms.lookup w = some l ∧ l.length ≤ 6 ∧ ∀ s ∈ l, s ∈ kindsW wide := by
  have h1 := List.all_eq_true.mp (kind_tab wide) w h
  cases e : lforms.lookup w with
  | none => rw [e] at h1; cases h1
  | some l =>
    rw [e] at h1
    simp only [Bool.and_eq_true, decide_eq_true_eq, List.all_eq_true] at h1
    refine ⟨l, rfl, h1.1, fun s m => ?_⟩
    have := h1.2 s m
    simpa using this
theorem merge_deed {x : D} (h : isName x = true) : isDeed (.tup [.str "merge", x]) = true := by
  have e : forms.lookup ("merge" : Str) = some [.name] := by decide +kernel
  have e2 : diffs.lookup ("merge" : Str) = none := by decide +kernel
  have : isPlain (.tup [.str "merge", x]) = true := by
    show plainL [.str "merge", x] = true
    show (match forms.lookup ("merge" : Str) with
      | some kds => decide ([x].length = kds.length) && allK kds [x] && extra "merge" [x]
      | none => false) = true
    rw [e]
    show (decide (1 = 1) && (isName x && true) && extra "merge" [x]) = true
    unfold extra
    rw [if_neg (by decide +kernel), e2, h]
    rfl
  unfold isDeed
  rw [this]; rfl
local macro_rules | `(tactic| walk_at "w") => `(tactic| simp (config := {failIfUnchanged := false, implicitDefEqProofs := false}) only [eq_nil, v_FORMS, v_DIFF, in_FORMS, item_FORMS, in_DIFF, item_DIFF, slice1, setPar_nil, setPar_v, setPar_o, sl_10, sl_01, zp_tt, zp_ll, freeAt, Option.isSome_some, Option.isSome_none, Option.map_some, Option.map_none, List.drop_succ_cons, List.drop_zero, len_s, ty_dic, ty_sh, ty_un, v_sh, v_un, get_sh, get_un, is_nn, is_tn, s_name_name, s_name_bool, s_name_share, s_name_lot, s_name_deed, s_name_cells, s_name_heirs, s_bool_name, s_bool_bool, s_bool_share, s_bool_lot, s_bool_deed, s_bool_cells, s_bool_heirs, s_number_name, s_number_bool, s_number_share, s_number_lot, s_number_deed, s_number_cells, s_number_heirs, s_amount_name, s_amount_bool, s_amount_share, s_amount_lot, s_amount_deed, s_amount_cells, s_amount_heirs, s_day_name, s_day_bool, s_day_share, s_day_lot, s_day_deed, s_day_cells, s_day_heirs, s_share_name, s_share_bool, s_share_share, s_share_lot, s_share_deed, s_share_cells, s_share_heirs, s_lot_name, s_lot_bool, s_lot_share, s_lot_lot, s_lot_deed, s_lot_cells, s_lot_heirs, s_deed_name, s_deed_bool, s_deed_share, s_deed_lot, s_deed_deed, s_deed_cells, s_deed_heirs, s_heirs_name, s_heirs_bool, s_heirs_share, s_heirs_lot, s_heirs_deed, s_heirs_cells, s_heirs_heirs, s_cells_name, s_cells_bool, s_cells_share, s_cells_lot, s_cells_deed, s_cells_cells, s_cells_heirs, i_name, i_bool, i_number, i_amount, i_day, i_share, i_lot, i_deed, i_heirs, i_cells, in_si, al1, al2, ↓ch_w, chS_o, chS_m, ↓chS_o, ↓chS_m, chL_l, ↓chL_l, v_mut, mvD_l, put1, put2, put3, put4, abs_i, int_i, neg_i, app_w, ins_w, ty_str, ty_lst, item_si, list_str, list_tup, tup_lst, wS_fld, onOO_o, ↓onOO_o, flI_nx, objAt_oo, Fl_t, Fl_b, putD_n, putD_b, list_sh, item_sh, in_si, ↓oP_some, ↓onB_some, ↓onS_some, ↓onNx_nx, ↓onNx_ret, ↓onNx_brk, ↓onNx_ct, ↓rdS_v, ↓rdS_ol, ↓onI_int, ↓onFn_fn, ↓onLst_l, ↓wF_ret, ↓wR_ok, ↓wR_ofO, ↓if_true, ↓if_false, ↓flF_ret, ↓flF_nx, oP_some, onB_some, onS_some, onNx_nx, onNx_ret, onNx_brk, onNx_ct, rdS_v, rdS_ol, onI_int, onFn_fn, onLst_l, wF_ret, wR_ok, wR_ofO, if_true, if_false, flF_ret, flF_nx, wR_ok, wR_no, wR_ofO, ↓wE_var, ↓wE_const, ↓wE_prim, ↓wE_slice, ↓wE_meth, ↓wE_mprim, ↓wE_tup, ↓wE_lst, ↓wE_cell, ↓wE_dic, ↓wE_and, ↓wE_or, ↓wE_not, ↓wE_if, ↓wE_chain, ↓wE_call, ↓wE_new, ↓wE_callv, onFn_fn, ↓wE_comp, ↓wE_scomp, ↓turnC_w, ↓wL_nil, ↓wL_cons, ↓wV_nil, ↓wV_cons, onI_int, ↓wP_nil, ↓wP_cons, ↓wCh_one, ↓wCh_more, ↓wIf_nil, ↓wIf_cons, ↓wI_seq, ↓wI_range, ↓wI_zip, ↓wA_peek, ↓wA_const, ↓wA_prim, ↓wA_slice, ↓wA_meth, ↓wA_mprim, ↓wA_tup, ↓wA_lst, ↓wA_cell, ↓wA_dic, ↓wA_and, ↓wA_or, ↓wA_not, ↓wA_ifE, ↓wA_chain, ↓wA_call, ↓wA_callv, ↓wA_new, ↓wA_comp, ↓wA_scomp, ↓wA_var, ↓look_nil, ↓look_cons, lookAV_d, lookAV_pk, slV_v, slV_ol, slV_oo, ↓rd_w, rdS_v, rdS_ol, ↓wS_asg, ↓wS_asgO, onLst_l, ↓wS_par, ↓wS_put, ↓wS_expr, ↓wS_ret, ↓wS_ite, ↓wS_for, ↓bodyS_w, ↓wS_while, ↓wS_pass, ↓wS_retN, ↓wS_brk, ↓wS_cont, ↓wB_nil, ↓wB_cons, flF_nx, flF_ret, onNx_nx, onNx_ret, onNx_brk, onNx_ct, onB_some, oP_some, oP_none, oP_blO, oP_notO, oP_lstO, onS_some, wF_ret, p_isi, p_eq, p_ne, p_lt, p_le, p_gt, p_ge, p_is, p_isnot, p_in, p_notin, p_item, p_len, p_all, p_any, p_add, p_sub, p_mul, p_fdiv, p_mod, p_pow, p_neg, p_abs, p_int, p_join, p_get2, p_get3, p_list, p_tuple, p_sorted, p_set, p_dict, p_attr, tru_bl, tru_non, v_non, v_bl, v_int, v_str, v_ty, v_fn, v_cls, v_tup, v_lst, v_dic, v_set, v_obj, lt_ii, le_ii, lt_ss, len_str, len_tup, len_lst, len_set, len_dic, sub_ii, add_ii, seq_str, seq_tup, seq_lst, item_ti, item_li, eq_ii, eq_ss, eq_bb, all_bls, ↓bindT_nm, ↓bindT_tup, ↓bindTs_nil, ↓bindTs_cons, List.all_cons, List.all_nil, List.set_cons_zero, List.set_cons_succ, List.getElem?_cons_zero, List.getElem?_cons_succ, List.getElem?_nil, wipeE, backE, List.foldl_cons, List.foldl_nil, Option.getD_some, List.length_cons, List.length_nil, List.length_set, Nat.reduceSub, Nat.reduceAdd, Nat.reduceLT, Nat.reduceLeDiff, List.replicate_succ, List.replicate_zero, List.map_cons, List.map_nil, List.nil_append, List.cons_append, List.append_nil, env0, decide_true, decide_false, Bool.and_true, Bool.true_and, Bool.not_true, Bool.not_false, Bool.false_eq_true, if_true, if_false, true_and, and_true, decide_eq_true_eq, Nat.zero_lt_succ, Nat.succ_lt_succ_iff, rng_w1, rng_w2, mul_w, fdiv_w, mod_w, pow_w, adds_w, addt_w, addl_w, atI_l0, atI_l1, atI_l2, atI_l3, atI_l4, nc0, nc1, nc2, nc3, nc4, nc5, nc6, nc7, Int.reduceBEq, noOwn_nil, noOwn_cons, ownF_v, ownF_n, ownF_vs])
local macro_rules | `(tactic| k_search $a) => `(tactic| simp (config := {failIfUnchanged := false, implicitDefEqProofs := false}) only [$a:term, eq_nil, v_FORMS, v_DIFF, in_FORMS, item_FORMS, in_DIFF, item_DIFF, slice1, setPar_nil, setPar_v, setPar_o, sl_10, sl_01, zp_tt, zp_ll, freeAt, Option.isSome_some, Option.isSome_none, Option.map_some, Option.map_none, List.drop_succ_cons, List.drop_zero, len_s, ty_dic, ty_sh, ty_un, v_sh, v_un, get_sh, get_un, is_nn, is_tn, s_name_name, s_name_bool, s_name_share, s_name_lot, s_name_deed, s_name_cells, s_name_heirs, s_bool_name, s_bool_bool, s_bool_share, s_bool_lot, s_bool_deed, s_bool_cells, s_bool_heirs, s_number_name, s_number_bool, s_number_share, s_number_lot, s_number_deed, s_number_cells, s_number_heirs, s_amount_name, s_amount_bool, s_amount_share, s_amount_lot, s_amount_deed, s_amount_cells, s_amount_heirs, s_day_name, s_day_bool, s_day_share, s_day_lot, s_day_deed, s_day_cells, s_day_heirs, s_share_name, s_share_bool, s_share_share, s_share_lot, s_share_deed, s_share_cells, s_share_heirs, s_lot_name, s_lot_bool, s_lot_share, s_lot_lot, s_lot_deed, s_lot_cells, s_lot_heirs, s_deed_name, s_deed_bool, s_deed_share, s_deed_lot, s_deed_deed, s_deed_cells, s_deed_heirs, s_heirs_name, s_heirs_bool, s_heirs_share, s_heirs_lot, s_heirs_deed, s_heirs_cells, s_heirs_heirs, s_cells_name, s_cells_bool, s_cells_share, s_cells_lot, s_cells_deed, s_cells_cells, s_cells_heirs, i_name, i_bool, i_number, i_amount, i_day, i_share, i_lot, i_deed, i_heirs, i_cells, in_si, al1, al2, ↓ch_w, chS_o, chS_m, ↓chS_o, ↓chS_m, chL_l, ↓chL_l, v_mut, mvD_l, put1, put2, put3, put4, abs_i, int_i, neg_i, app_w, ins_w, ty_str, ty_lst, item_si, list_str, list_tup, tup_lst, wS_fld, onOO_o, ↓onOO_o, flI_nx, objAt_oo, Fl_t, Fl_b, putD_n, putD_b, list_sh, item_sh, in_si, ↓oP_some, ↓onB_some, ↓onS_some, ↓onNx_nx, ↓onNx_ret, ↓onNx_brk, ↓onNx_ct, ↓rdS_v, ↓rdS_ol, ↓onI_int, ↓onFn_fn, ↓onLst_l, ↓wF_ret, ↓wR_ok, ↓wR_ofO, ↓if_true, ↓if_false, ↓flF_ret, ↓flF_nx, oP_some, onB_some, onS_some, onNx_nx, onNx_ret, onNx_brk, onNx_ct, rdS_v, rdS_ol, onI_int, onFn_fn, onLst_l, wF_ret, wR_ok, wR_ofO, if_true, if_false, flF_ret, flF_nx, wR_ok, wR_no, wR_ofO, ↓wE_var, ↓wE_const, ↓wE_prim, ↓wE_slice, ↓wE_meth, ↓wE_mprim, ↓wE_tup, ↓wE_lst, ↓wE_cell, ↓wE_dic, ↓wE_and, ↓wE_or, ↓wE_not, ↓wE_if, ↓wE_chain, ↓wE_call, ↓wE_new, ↓wE_callv, onFn_fn, ↓wE_comp, ↓wE_scomp, ↓turnC_w, ↓wL_nil, ↓wL_cons, ↓wV_nil, ↓wV_cons, onI_int, ↓wP_nil, ↓wP_cons, ↓wCh_one, ↓wCh_more, ↓wIf_nil, ↓wIf_cons, ↓wI_seq, ↓wI_range, ↓wI_zip, ↓wA_peek, ↓wA_const, ↓wA_prim, ↓wA_slice, ↓wA_meth, ↓wA_mprim, ↓wA_tup, ↓wA_lst, ↓wA_cell, ↓wA_dic, ↓wA_and, ↓wA_or, ↓wA_not, ↓wA_ifE, ↓wA_chain, ↓wA_call, ↓wA_callv, ↓wA_new, ↓wA_comp, ↓wA_scomp, ↓wA_var, ↓look_nil, ↓look_cons, lookAV_d, lookAV_pk, slV_v, slV_ol, slV_oo, ↓rd_w, rdS_v, rdS_ol, ↓wS_asg, ↓wS_asgO, onLst_l, ↓wS_par, ↓wS_put, ↓wS_expr, ↓wS_ret, ↓wS_ite, ↓wS_for, ↓bodyS_w, ↓wS_while, ↓wS_pass, ↓wS_retN, ↓wS_brk, ↓wS_cont, ↓wB_nil, ↓wB_cons, flF_nx, flF_ret, onNx_nx, onNx_ret, onNx_brk, onNx_ct, onB_some, oP_some, oP_none, oP_blO, oP_notO, oP_lstO, onS_some, wF_ret, p_isi, p_eq, p_ne, p_lt, p_le, p_gt, p_ge, p_is, p_isnot, p_in, p_notin, p_item, p_len, p_all, p_any, p_add, p_sub, p_mul, p_fdiv, p_mod, p_pow, p_neg, p_abs, p_int, p_join, p_get2, p_get3, p_list, p_tuple, p_sorted, p_set, p_dict, p_attr, tru_bl, tru_non, v_non, v_bl, v_int, v_str, v_ty, v_fn, v_cls, v_tup, v_lst, v_dic, v_set, v_obj, lt_ii, le_ii, lt_ss, len_str, len_tup, len_lst, len_set, len_dic, sub_ii, add_ii, seq_str, seq_tup, seq_lst, item_ti, item_li, eq_ii, eq_ss, eq_bb, all_bls, ↓bindT_nm, ↓bindT_tup, ↓bindTs_nil, ↓bindTs_cons, List.all_cons, List.all_nil, List.set_cons_zero, List.set_cons_succ, List.getElem?_cons_zero, List.getElem?_cons_succ, List.getElem?_nil, wipeE, backE, List.foldl_cons, List.foldl_nil, Option.getD_some, List.length_cons, List.length_nil, List.length_set, Nat.reduceSub, Nat.reduceAdd, Nat.reduceLT, Nat.reduceLeDiff, List.replicate_succ, List.replicate_zero, List.map_cons, List.map_nil, List.nil_append, List.cons_append, List.append_nil, env0, decide_true, decide_false, Bool.and_true, Bool.true_and, Bool.not_true, Bool.not_false, Bool.false_eq_true, if_true, if_false, true_and, and_true, decide_eq_true_eq, Nat.zero_lt_succ, Nat.succ_lt_succ_iff, rng_w1, rng_w2, mul_w, fdiv_w, mod_w, pow_w, adds_w, addt_w, addl_w, atI_l0, atI_l1, atI_l2, atI_l3, atI_l4, nc0, nc1, nc2, nc3, nc4, nc5, nc6, nc7, Int.reduceBEq, noOwn_nil, noOwn_cons, ownF_v, ownF_n, ownF_vs])
local macro_rules | `(tactic| ktr_call $a $b) => `(tactic| simp (config := {failIfUnchanged := false, implicitDefEqProofs := false}) only [$a:term, $b:term, eq_nil, v_FORMS, v_DIFF, in_FORMS, item_FORMS, in_DIFF, item_DIFF, slice1, setPar_nil, setPar_v, setPar_o, sl_10, sl_01, zp_tt, zp_ll, freeAt, Option.isSome_some, Option.isSome_none, Option.map_some, Option.map_none, List.drop_succ_cons, List.drop_zero, len_s, ty_dic, ty_sh, ty_un, v_sh, v_un, get_sh, get_un, is_nn, is_tn, s_name_name, s_name_bool, s_name_share, s_name_lot, s_name_deed, s_name_cells, s_name_heirs, s_bool_name, s_bool_bool, s_bool_share, s_bool_lot, s_bool_deed, s_bool_cells, s_bool_heirs, s_number_name, s_number_bool, s_number_share, s_number_lot, s_number_deed, s_number_cells, s_number_heirs, s_amount_name, s_amount_bool, s_amount_share, s_amount_lot, s_amount_deed, s_amount_cells, s_amount_heirs, s_day_name, s_day_bool, s_day_share, s_day_lot, s_day_deed, s_day_cells, s_day_heirs, s_share_name, s_share_bool, s_share_share, s_share_lot, s_share_deed, s_share_cells, s_share_heirs, s_lot_name, s_lot_bool, s_lot_share, s_lot_lot, s_lot_deed, s_lot_cells, s_lot_heirs, s_deed_name, s_deed_bool, s_deed_share, s_deed_lot, s_deed_deed, s_deed_cells, s_deed_heirs, s_heirs_name, s_heirs_bool, s_heirs_share, s_heirs_lot, s_heirs_deed, s_heirs_cells, s_heirs_heirs, s_cells_name, s_cells_bool, s_cells_share, s_cells_lot, s_cells_deed, s_cells_cells, s_cells_heirs, i_name, i_bool, i_number, i_amount, i_day, i_share, i_lot, i_deed, i_heirs, i_cells, in_si, al1, al2, ↓ch_w, chS_o, chS_m, ↓chS_o, ↓chS_m, chL_l, ↓chL_l, v_mut, mvD_l, put1, put2, put3, put4, abs_i, int_i, neg_i, app_w, ins_w, ty_str, ty_lst, item_si, list_str, list_tup, tup_lst, wS_fld, onOO_o, ↓onOO_o, flI_nx, objAt_oo, Fl_t, Fl_b, putD_n, putD_b, list_sh, item_sh, in_si, ↓oP_some, ↓onB_some, ↓onS_some, ↓onNx_nx, ↓onNx_ret, ↓onNx_brk, ↓onNx_ct, ↓rdS_v, ↓rdS_ol, ↓onI_int, ↓onFn_fn, ↓onLst_l, ↓wF_ret, ↓wR_ok, ↓wR_ofO, ↓if_true, ↓if_false, ↓flF_ret, ↓flF_nx, oP_some, onB_some, onS_some, onNx_nx, onNx_ret, onNx_brk, onNx_ct, rdS_v, rdS_ol, onI_int, onFn_fn, onLst_l, wF_ret, wR_ok, wR_ofO, if_true, if_false, flF_ret, flF_nx, wR_ok, wR_no, wR_ofO, ↓wE_var, ↓wE_const, ↓wE_prim, ↓wE_slice, ↓wE_meth, ↓wE_mprim, ↓wE_tup, ↓wE_lst, ↓wE_cell, ↓wE_dic, ↓wE_and, ↓wE_or, ↓wE_not, ↓wE_if, ↓wE_chain, ↓wE_call, ↓wE_new, ↓wE_callv, onFn_fn, ↓wE_comp, ↓wE_scomp, ↓turnC_w, ↓wL_nil, ↓wL_cons, ↓wV_nil, ↓wV_cons, onI_int, ↓wP_nil, ↓wP_cons, ↓wCh_one, ↓wCh_more, ↓wIf_nil, ↓wIf_cons, ↓wI_seq, ↓wI_range, ↓wI_zip, ↓wA_peek, ↓wA_const, ↓wA_prim, ↓wA_slice, ↓wA_meth, ↓wA_mprim, ↓wA_tup, ↓wA_lst, ↓wA_cell, ↓wA_dic, ↓wA_and, ↓wA_or, ↓wA_not, ↓wA_ifE, ↓wA_chain, ↓wA_call, ↓wA_callv, ↓wA_new, ↓wA_comp, ↓wA_scomp, ↓wA_var, ↓look_nil, ↓look_cons, lookAV_d, lookAV_pk, slV_v, slV_ol, slV_oo, ↓rd_w, rdS_v, rdS_ol, ↓wS_asg, ↓wS_asgO, onLst_l, ↓wS_par, ↓wS_put, ↓wS_expr, ↓wS_ret, ↓wS_ite, ↓wS_for, ↓bodyS_w, ↓wS_while, ↓wS_pass, ↓wS_retN, ↓wS_brk, ↓wS_cont, ↓wB_nil, ↓wB_cons, flF_nx, flF_ret, onNx_nx, onNx_ret, onNx_brk, onNx_ct, onB_some, oP_some, oP_none, oP_blO, oP_notO, oP_lstO, onS_some, wF_ret, p_isi, p_eq, p_ne, p_lt, p_le, p_gt, p_ge, p_is, p_isnot, p_in, p_notin, p_item, p_len, p_all, p_any, p_add, p_sub, p_mul, p_fdiv, p_mod, p_pow, p_neg, p_abs, p_int, p_join, p_get2, p_get3, p_list, p_tuple, p_sorted, p_set, p_dict, p_attr, tru_bl, tru_non, v_non, v_bl, v_int, v_str, v_ty, v_fn, v_cls, v_tup, v_lst, v_dic, v_set, v_obj, lt_ii, le_ii, lt_ss, len_str, len_tup, len_lst, len_set, len_dic, sub_ii, add_ii, seq_str, seq_tup, seq_lst, item_ti, item_li, eq_ii, eq_ss, eq_bb, all_bls, ↓bindT_nm, ↓bindT_tup, ↓bindTs_nil, ↓bindTs_cons, List.all_cons, List.all_nil, List.set_cons_zero, List.set_cons_succ, List.getElem?_cons_zero, List.getElem?_cons_succ, List.getElem?_nil, wipeE, backE, List.foldl_cons, List.foldl_nil, Option.getD_some, List.length_cons, List.length_nil, List.length_set, Nat.reduceSub, Nat.reduceAdd, Nat.reduceLT, Nat.reduceLeDiff, List.replicate_succ, List.replicate_zero, List.map_cons, List.map_nil, List.nil_append, List.cons_append, List.append_nil, env0, decide_true, decide_false, Bool.and_true, Bool.true_and, Bool.not_true, Bool.not_false, Bool.false_eq_true, if_true, if_false, true_and, and_true, decide_eq_true_eq, Nat.zero_lt_succ, Nat.succ_lt_succ_iff, rng_w1, rng_w2, mul_w, fdiv_w, mod_w, pow_w, adds_w, addt_w, addl_w, atI_l0, atI_l1, atI_l2, atI_l3, atI_l4, nc0, nc1, nc2, nc3, nc4, nc5, nc6, nc7, Int.reduceBEq, noOwn_nil, noOwn_cons, ownF_v, ownF_n, ownF_vs])
local macro_rules | `(tactic| k_whileD $a $b $c "w") => `(tactic| simp (config := {failIfUnchanged := false, implicitDefEqProofs := false}) only [$a:term, $b:term, $c:term, eq_nil, v_FORMS, v_DIFF, in_FORMS, item_FORMS, in_DIFF, item_DIFF, slice1, setPar_nil, setPar_v, setPar_o, sl_10, sl_01, zp_tt, zp_ll, freeAt, Option.isSome_some, Option.isSome_none, Option.map_some, Option.map_none, List.drop_succ_cons, List.drop_zero, len_s, ty_dic, ty_sh, ty_un, v_sh, v_un, get_sh, get_un, is_nn, is_tn, s_name_name, s_name_bool, s_name_share, s_name_lot, s_name_deed, s_name_cells, s_name_heirs, s_bool_name, s_bool_bool, s_bool_share, s_bool_lot, s_bool_deed, s_bool_cells, s_bool_heirs, s_number_name, s_number_bool, s_number_share, s_number_lot, s_number_deed, s_number_cells, s_number_heirs, s_amount_name, s_amount_bool, s_amount_share, s_amount_lot, s_amount_deed, s_amount_cells, s_amount_heirs, s_day_name, s_day_bool, s_day_share, s_day_lot, s_day_deed, s_day_cells, s_day_heirs, s_share_name, s_share_bool, s_share_share, s_share_lot, s_share_deed, s_share_cells, s_share_heirs, s_lot_name, s_lot_bool, s_lot_share, s_lot_lot, s_lot_deed, s_lot_cells, s_lot_heirs, s_deed_name, s_deed_bool, s_deed_share, s_deed_lot, s_deed_deed, s_deed_cells, s_deed_heirs, s_heirs_name, s_heirs_bool, s_heirs_share, s_heirs_lot, s_heirs_deed, s_heirs_cells, s_heirs_heirs, s_cells_name, s_cells_bool, s_cells_share, s_cells_lot, s_cells_deed, s_cells_cells, s_cells_heirs, i_name, i_bool, i_number, i_amount, i_day, i_share, i_lot, i_deed, i_heirs, i_cells, in_si, al1, al2, ↓ch_w, chS_o, chS_m, ↓chS_o, ↓chS_m, chL_l, ↓chL_l, v_mut, mvD_l, put1, put2, put3, put4, abs_i, int_i, neg_i, app_w, ins_w, ty_str, ty_lst, item_si, list_str, list_tup, tup_lst, wS_fld, onOO_o, ↓onOO_o, flI_nx, objAt_oo, Fl_t, Fl_b, putD_n, putD_b, list_sh, item_sh, in_si, ↓oP_some, ↓onB_some, ↓onS_some, ↓onNx_nx, ↓onNx_ret, ↓onNx_brk, ↓onNx_ct, ↓rdS_v, ↓rdS_ol, ↓onI_int, ↓onFn_fn, ↓onLst_l, ↓wF_ret, ↓wR_ok, ↓wR_ofO, ↓if_true, ↓if_false, ↓flF_ret, ↓flF_nx, oP_some, onB_some, onS_some, onNx_nx, onNx_ret, onNx_brk, onNx_ct, rdS_v, rdS_ol, onI_int, onFn_fn, onLst_l, wF_ret, wR_ok, wR_ofO, if_true, if_false, flF_ret, flF_nx, wR_ok, wR_no, wR_ofO, ↓wE_var, ↓wE_const, ↓wE_prim, ↓wE_slice, ↓wE_meth, ↓wE_mprim, ↓wE_tup, ↓wE_lst, ↓wE_cell, ↓wE_dic, ↓wE_and, ↓wE_or, ↓wE_not, ↓wE_if, ↓wE_chain, ↓wE_call, ↓wE_new, ↓wE_callv, onFn_fn, ↓wE_comp, ↓wE_scomp, ↓turnC_w, ↓wL_nil, ↓wL_cons, ↓wV_nil, ↓wV_cons, onI_int, ↓wP_nil, ↓wP_cons, ↓wCh_one, ↓wCh_more, ↓wIf_nil, ↓wIf_cons, ↓wI_seq, ↓wI_range, ↓wI_zip, ↓wA_peek, ↓wA_const, ↓wA_prim, ↓wA_slice, ↓wA_meth, ↓wA_mprim, ↓wA_tup, ↓wA_lst, ↓wA_cell, ↓wA_dic, ↓wA_and, ↓wA_or, ↓wA_not, ↓wA_ifE, ↓wA_chain, ↓wA_call, ↓wA_callv, ↓wA_new, ↓wA_comp, ↓wA_scomp, ↓wA_var, ↓look_nil, ↓look_cons, lookAV_d, lookAV_pk, slV_v, slV_ol, slV_oo, ↓rd_w, rdS_v, rdS_ol, ↓wS_asg, ↓wS_asgO, onLst_l, ↓wS_par, ↓wS_put, ↓wS_expr, ↓wS_ret, ↓wS_ite, ↓wS_for, ↓bodyS_w, ↓wS_while, ↓wS_pass, ↓wS_retN, ↓wS_brk, ↓wS_cont, ↓wB_nil, ↓wB_cons, flF_nx, flF_ret, onNx_nx, onNx_ret, onNx_brk, onNx_ct, onB_some, oP_some, oP_none, oP_blO, oP_notO, oP_lstO, onS_some, wF_ret, p_isi, p_eq, p_ne, p_lt, p_le, p_gt, p_ge, p_is, p_isnot, p_in, p_notin, p_item, p_len, p_all, p_any, p_add, p_sub, p_mul, p_fdiv, p_mod, p_pow, p_neg, p_abs, p_int, p_join, p_get2, p_get3, p_list, p_tuple, p_sorted, p_set, p_dict, p_attr, tru_bl, tru_non, v_non, v_bl, v_int, v_str, v_ty, v_fn, v_cls, v_tup, v_lst, v_dic, v_set, v_obj, lt_ii, le_ii, lt_ss, len_str, len_tup, len_lst, len_set, len_dic, sub_ii, add_ii, seq_str, seq_tup, seq_lst, item_ti, item_li, eq_ii, eq_ss, eq_bb, all_bls, ↓bindT_nm, ↓bindT_tup, ↓bindTs_nil, ↓bindTs_cons, List.all_cons, List.all_nil, List.set_cons_zero, List.set_cons_succ, List.getElem?_cons_zero, List.getElem?_cons_succ, List.getElem?_nil, wipeE, backE, List.foldl_cons, List.foldl_nil, Option.getD_some, List.length_cons, List.length_nil, List.length_set, Nat.reduceSub, Nat.reduceAdd, Nat.reduceLT, Nat.reduceLeDiff, List.replicate_succ, List.replicate_zero, List.map_cons, List.map_nil, List.nil_append, List.cons_append, List.append_nil, env0, decide_true, decide_false, Bool.and_true, Bool.true_and, Bool.not_true, Bool.not_false, Bool.false_eq_true, if_true, if_false, true_and, and_true, decide_eq_true_eq, Nat.zero_lt_succ, Nat.succ_lt_succ_iff, rng_w1, rng_w2, mul_w, fdiv_w, mod_w, pow_w, adds_w, addt_w, addl_w, atI_l0, atI_l1, atI_l2, atI_l3, atI_l4, nc0, nc1, nc2, nc3, nc4, nc5, nc6, nc7, Int.reduceBEq, noOwn_nil, noOwn_cons, ownF_v, ownF_n, ownF_vs])
section
variable {n k : Nat} {S : Sto}
theorem sd_gen {wide : Bool} (so : ∀ s S, s ∈ kindsW wide → Bag S → wF (G (n + 9) (.fn "_law_some_of") [.mut 0, .str s] S) fun d S' => gd k d = true ∧ Bag S') (ld : ∀ x S, gd (k + 1) x = true → G (n + 9) (.fn "_law_is_deed") [x] S = .ret (.bl (isDeed x)) S) (hS : Bag S) :
    wF (G (n + 10) (.fn "_law_some_deed") [.mut 0, .bl wide] S) fun d S' => isDeed d = true ∧ gd (k + 1) d = true ∧ Bag S' := by
  rw [G_fn (c := c__law_some_deed) rfl rfl rfl (by decide)]
  simp only [c__law_some_deed]
  ktr_call (l_shapes) sort_sh
  refine comp_filt D.str D.str (okW wide) words (ne_len (a := 60) (by decide +kernel) (by omega)) (fun w m => ?_) ?_
  · walk_at "w"
    rw [si_beq]
    unfold okW isSI
    cases wide <;> cases (decide (w = ("strike" : Str)) || decide (w = ("instead" : Str))) <;> simp
  · walk_at "w"
    have hlen : 0 < ((words.filter (okW wide)).map D.str).length ∧ ((words.filter (okW wide)).map D.str).length < 1000000 := by
      rw [List.length_map]
      cases wide <;> decide +kernel
    refine wF_mono (l_of hS hlen.1 hlen.2) ?_
    rintro d S' ⟨m, hS'⟩
    obtain ⟨w, mw, rfl⟩ := List.mem_map.mp m
    obtain ⟨l, el, hl, hk⟩ := kind_of mw
    ktr_call el Option.map_some
    refine loopS_inv (fun ds ρ S => ∃ (found : List D) (o5 : Option D), ρ = [some (.v (.mut 0)), some (.v (.bl wide)), some (.v (.lst (words.map D.str))), some (.v (.str w)), some (.v (.tup found)), vs o5, none] ∧ (∀ x ∈ found, gd k x = true) ∧ found.length + ds.length ≤ 7 ∧ (∀ d ∈ ds, ∃ s, d = .str s ∧ s ∈ kindsW wide) ∧ Bag S) ?_ ?_ _ _ _ ⟨[.str w], none, rfl, ?_, ?_, ?_, hS'⟩
    · rintro ρ S ⟨found, o5, rfl, h1, h2, _, hS⟩
      walk_at "w"
      have gt : gd (k + 1) (.tup found) = true := gd_tup_of h1 (by simp only [List.length_nil] at h2; omega)
      rw [ld _ _ gt]
      walk_at "w"
      cases e : isDeed (.tup found) with
      | true =>
        walk_at "w"
        exact ⟨gt, hS⟩
      | false =>
        walk_at "w"
        refine wF_mono (so_name hS) ?_
        rintro d S' ⟨hn, hS'⟩
        refine ⟨merge_deed hn, gd_tup_of ?_ (by simp), hS'⟩
        intro x m
        simp only [List.mem_cons, List.mem_nil_iff, or_false] at m
        rcases m with rfl | rfl
        · exact gd_str
        · exact gd_name hn
    · rintro d r ρ S ⟨found, o5, rfl, h1, h2, h3, hS⟩
      obtain ⟨s, rfl, ms⟩ := h3 d List.mem_cons_self
      rw [List.length_cons] at h2
      walk_at "w"
      refine wF_mono (so s S ms hS) ?_
      rintro d S' ⟨hg, hS'⟩
      walk_at "w"
      refine ⟨by rw [sizeLine_eq]; omega, found ++ [d], some (.str s), rfl, ?_, ?_, fun d m => h3 d (List.mem_cons_of_mem _ m), hS'⟩
      · intro x m
        rcases List.mem_append.mp m with m | m
        · exact h1 x m
        · have : x = d := by simpa using m
          rw [this]; exact hg
      · rw [List.length_append]; simp only [List.length_cons, List.length_nil]; omega
    · intro x m
      have : x = .str w := by simpa using m
      rw [this]; exact gd_str
    · simp only [List.length_cons, List.length_nil, List.length_map]; omega
    · intro d m
      obtain ⟨s, ms, rfl⟩ := List.mem_map.mp m
      exact ⟨s, rfl, hk s ms⟩
theorem sd_narrow (hS : Bag S) : wF (G (n + 10) (.fn "_law_some_deed") [.mut 0, .bl false] S) fun d S' => isDeed d = true ∧ gd 3 d = true ∧ Bag S' :=
  sd_gen (k := 2) (fun s S m hS => so_kind m hS) (fun x S h => l_deed (n := n) h) hS
theorem so_deed (hS : Bag S) : wF (G (n + 11) (.fn "_law_some_of") [.mut 0, .str "deed"] S) fun d S' => gd 3 d = true ∧ Bag S' := by
  rw [G_fn (c := c__law_some_of) rfl rfl rfl (by decide)]
  simp only [c__law_some_of]
  walk_at "w"
  refine wF_mono (sd_narrow hS) ?_
  rintro d S' ⟨_, h, hS'⟩
  exact ⟨h, hS'⟩
theorem sd_wide (hS : Bag S) : wF (G (n + 12) (.fn "_law_some_deed") [.mut 0, .bl true] S) fun d S' => isDeed d = true ∧ gd 4 d = true ∧ Bag S' :=
  sd_gen (n := n + 2) (k := 3) (fun s S m hS => by
    rcases List.mem_cons.mp m with rfl | m
    · exact so_deed hS
    · exact wF_mono (so_kind (n := n + 7) m hS) fun d S' h => ⟨gd_up h.1, h.2⟩) (fun x S h => l_deed (n := n) h) hS
end
end R.M
end
section
set_option Elab.async false
set_option linter.all false
set_option maxRecDepth 100000
set_option maxHeartbeats 4000000
namespace R.M
open PySem L2
def oddA : List D := [.non, (.bl true), (.bl false), (.int 0), (.int (-1)), (.int 1000), (.int 999999999999), (.int 10000), (.str ""), (.str "A"), (.str "abcdefg"), (.str "a b"), (.tup []), (.lst []), (.dic [] []), (.tup [(.str "b"), (.str "a")]), (.tup [(.str "a"), (.str "a")]), (.lst [(.str "a")]), (.tup [(.str "a"), (.int 1)]), (.tup [(.int 1), (.str "a")]), (.tup [(.tup [(.int 0), (.int 0)]), (.tup [(.int 0), (.int 0)])]), (.tup [(.tup [(.int 0), (.int 12)])]), (.tup [(.tup [(.int 0), (.int (-1))])]), (.tup [(.lst [(.int 0), (.int 0)])]), (.tup [(.tup [(.int 0), (.bl true)])]), (.tup [(.tup [(.str "a"), (.int 0)])]), (.tup [(.tup [(.str "a"), (.int 10)])]), (.tup [(.tup [(.str "a"), (.int 1)]), (.tup [(.str "a"), (.int 2)])]), (.tup [(.tup [(.str "a"), (.bl true)])]), (.lst [(.tup [(.str "a"), (.int 1)])]), (.obj "Share" fTB [.int 1, .int 61]), (.obj "Share" fTB [.int 3, .int 2]), (.obj "Share" fTB [.int 0, .int 1]), (.obj "Share" fTB [.int (-1), .int 2]), (.str "1/2"), (.tup [(.int 1), (.int 2)]), (.tup [(.str "strike"), (.int 1)]), (.tup [(.str "instead"), (.int 1), (.tup [(.str "void"), (.int 1)])]), (.tup [(.str "void")]), (.str "void"), (.int 1), (.str "a"), (.tup [(.str "a")]), (.obj "Share" fTB [.int 1, .int 1]), (.obj "Share" fTB [.int 1, .int 60])]
def oddB : List D := [(.tup [(.tup [(.int 11), (.int 11)])]), (.tup [(.tup [(.str "a"), (.int 9)])]), (.tup [(.str "void"), (.int 1)]), (.int 999), (.int 9999)]
def isVoid : D → Bool
  | .tup (.str w :: _) => decide (w = "void")
  | _ => false
/-- what is asked of an odd value -/
def oddP (d : D) : Bool := gd 3 d && (isCorr d == (isDeed d && !isVoid d))
theorem oddA_ok : oddA.all oddP = true := by decide +kernel
theorem oddB_ok : oddB.all oddP = true := by decide +kernel
theorem odd_names {ys : List D} (hl : ys.length = 3) (hy : ∀ y ∈ ys, isName y = true) : oddP (.tup (.str "a" :: ys)) = true := by
  match ys, hl with
  | [x, y, z], _ =>
    have h1 : gd 3 (.tup [.str "a", x, y, z]) = true := by
      refine gd_tup_of (k := 2) ?_ (by simp)
      intro d m
      simp only [List.mem_cons, List.mem_nil_iff, or_false] at m
      rcases m with rfl | rfl | rfl | rfl
      · exact gd_str
      · exact gd_name (hy _ (by simp))
      · exact gd_name (hy _ (by simp))
      · exact gd_name (hy _ (by simp))
    have e : forms.lookup ("a" : Str) = none := by decide +kernel
    have h2 : isPlain (.tup [.str "a", x, y, z]) = false := by
      show (match forms.lookup ("a" : Str) with
        | some kds => decide ([x, y, z].length = kds.length) && allK kds [x, y, z] && extra "a" [x, y, z]
        | none => false) = false
      rw [e]
    have h3 : isCorr (.tup [.str "a", x, y, z]) = false := rfl
    unfold oddP isDeed
    rw [h1, h2, h3]
    rfl
section
variable {n : Nat} {S : Sto}
theorem sh_1_61 : G (n + 3) (.new "Share") [.int 1, .int 61] S = .ret (.obj "Share" fTB [.int 1, .int 61]) S := by kernel_rfl
theorem sh_3_2 : G (n + 3) (.new "Share") [.int 3, .int 2] S = .ret (.obj "Share" fTB [.int 3, .int 2]) S := by kernel_rfl
theorem sh_0_1 : G (n + 3) (.new "Share") [.int 0, .int 1] S = .ret (.obj "Share" fTB [.int 0, .int 1]) S := by kernel_rfl
theorem sh_m1_2 : G (n + 3) (.new "Share") [.int (-1), .int 2] S = .ret (.obj "Share" fTB [.int (-1), .int 2]) S := by kernel_rfl
theorem sh_1_1 : G (n + 3) (.new "Share") [.int 1, .int 1] S = .ret (.obj "Share" fTB [.int 1, .int 1]) S := by kernel_rfl
theorem sh_1_60 : G (n + 3) (.new "Share") [.int 1, .int 60] S = .ret (.obj "Share" fTB [.int 1, .int 60]) S := by kernel_rfl
end
local macro_rules | `(tactic| walk_at "w") => `(tactic| simp (config := {failIfUnchanged := false, implicitDefEqProofs := false}) only [eq_nil, v_FORMS, v_DIFF, in_FORMS, item_FORMS, in_DIFF, item_DIFF, slice1, setPar_nil, setPar_v, setPar_o, sl_10, sl_01, zp_tt, zp_ll, freeAt, Option.isSome_some, Option.isSome_none, Option.map_some, Option.map_none, List.drop_succ_cons, List.drop_zero, len_s, ty_dic, ty_sh, ty_un, v_sh, v_un, get_sh, get_un, is_nn, is_tn, s_name_name, s_name_bool, s_name_share, s_name_lot, s_name_deed, s_name_cells, s_name_heirs, s_bool_name, s_bool_bool, s_bool_share, s_bool_lot, s_bool_deed, s_bool_cells, s_bool_heirs, s_number_name, s_number_bool, s_number_share, s_number_lot, s_number_deed, s_number_cells, s_number_heirs, s_amount_name, s_amount_bool, s_amount_share, s_amount_lot, s_amount_deed, s_amount_cells, s_amount_heirs, s_day_name, s_day_bool, s_day_share, s_day_lot, s_day_deed, s_day_cells, s_day_heirs, s_share_name, s_share_bool, s_share_share, s_share_lot, s_share_deed, s_share_cells, s_share_heirs, s_lot_name, s_lot_bool, s_lot_share, s_lot_lot, s_lot_deed, s_lot_cells, s_lot_heirs, s_deed_name, s_deed_bool, s_deed_share, s_deed_lot, s_deed_deed, s_deed_cells, s_deed_heirs, s_heirs_name, s_heirs_bool, s_heirs_share, s_heirs_lot, s_heirs_deed, s_heirs_cells, s_heirs_heirs, s_cells_name, s_cells_bool, s_cells_share, s_cells_lot, s_cells_deed, s_cells_cells, s_cells_heirs, i_name, i_bool, i_number, i_amount, i_day, i_share, i_lot, i_deed, i_heirs, i_cells, in_si, al1, al2, ↓ch_w, chS_o, chS_m, ↓chS_o, ↓chS_m, chL_l, ↓chL_l, v_mut, mvD_l, put1, put2, put3, put4, abs_i, int_i, neg_i, app_w, ins_w, ty_str, ty_lst, item_si, list_str, list_tup, tup_lst, wS_fld, onOO_o, ↓onOO_o, flI_nx, objAt_oo, Fl_t, Fl_b, putD_n, putD_b, list_sh, item_sh, in_si, in_si, sh_1_61, sh_3_2, sh_0_1, sh_m1_2, sh_1_1, sh_1_60, ↓oP_some, ↓onB_some, ↓onS_some, ↓onNx_nx, ↓onNx_ret, ↓onNx_brk, ↓onNx_ct, ↓rdS_v, ↓rdS_ol, ↓onI_int, ↓onFn_fn, ↓onLst_l, ↓wF_ret, ↓wR_ok, ↓wR_ofO, ↓if_true, ↓if_false, ↓flF_ret, ↓flF_nx, oP_some, onB_some, onS_some, onNx_nx, onNx_ret, onNx_brk, onNx_ct, rdS_v, rdS_ol, onI_int, onFn_fn, onLst_l, wF_ret, wR_ok, wR_ofO, if_true, if_false, flF_ret, flF_nx, wR_ok, wR_no, wR_ofO, ↓wE_var, ↓wE_const, ↓wE_prim, ↓wE_slice, ↓wE_meth, ↓wE_mprim, ↓wE_tup, ↓wE_lst, ↓wE_cell, ↓wE_dic, ↓wE_and, ↓wE_or, ↓wE_not, ↓wE_if, ↓wE_chain, ↓wE_call, ↓wE_new, ↓wE_callv, onFn_fn, ↓wE_comp, ↓wE_scomp, ↓turnC_w, ↓wL_nil, ↓wL_cons, ↓wV_nil, ↓wV_cons, onI_int, ↓wP_nil, ↓wP_cons, ↓wCh_one, ↓wCh_more, ↓wIf_nil, ↓wIf_cons, ↓wI_seq, ↓wI_range, ↓wI_zip, ↓wA_peek, ↓wA_const, ↓wA_prim, ↓wA_slice, ↓wA_meth, ↓wA_mprim, ↓wA_tup, ↓wA_lst, ↓wA_cell, ↓wA_dic, ↓wA_and, ↓wA_or, ↓wA_not, ↓wA_ifE, ↓wA_chain, ↓wA_call, ↓wA_callv, ↓wA_new, ↓wA_comp, ↓wA_scomp, ↓wA_var, ↓look_nil, ↓look_cons, lookAV_d, lookAV_pk, slV_v, slV_ol, slV_oo, ↓rd_w, rdS_v, rdS_ol, ↓wS_asg, ↓wS_asgO, onLst_l, ↓wS_par, ↓wS_put, ↓wS_expr, ↓wS_ret, ↓wS_ite, ↓wS_for, ↓bodyS_w, ↓wS_while, ↓wS_pass, ↓wS_retN, ↓wS_brk, ↓wS_cont, ↓wB_nil, ↓wB_cons, flF_nx, flF_ret, onNx_nx, onNx_ret, onNx_brk, onNx_ct, onB_some, oP_some, oP_none, oP_blO, oP_notO, oP_lstO, onS_some, wF_ret, p_isi, p_eq, p_ne, p_lt, p_le, p_gt, p_ge, p_is, p_isnot, p_in, p_notin, p_item, p_len, p_all, p_any, p_add, p_sub, p_mul, p_fdiv, p_mod, p_pow, p_neg, p_abs, p_int, p_join, p_get2, p_get3, p_list, p_tuple, p_sorted, p_set, p_dict, p_attr, tru_bl, tru_non, v_non, v_bl, v_int, v_str, v_ty, v_fn, v_cls, v_tup, v_lst, v_dic, v_set, v_obj, lt_ii, le_ii, lt_ss, len_str, len_tup, len_lst, len_set, len_dic, sub_ii, add_ii, seq_str, seq_tup, seq_lst, item_ti, item_li, eq_ii, eq_ss, eq_bb, all_bls, ↓bindT_nm, ↓bindT_tup, ↓bindTs_nil, ↓bindTs_cons, List.all_cons, List.all_nil, List.set_cons_zero, List.set_cons_succ, List.getElem?_cons_zero, List.getElem?_cons_succ, List.getElem?_nil, wipeE, backE, List.foldl_cons, List.foldl_nil, Option.getD_some, List.length_cons, List.length_nil, List.length_set, Nat.reduceSub, Nat.reduceAdd, Nat.reduceLT, Nat.reduceLeDiff, List.replicate_succ, List.replicate_zero, List.map_cons, List.map_nil, List.nil_append, List.cons_append, List.append_nil, env0, decide_true, decide_false, Bool.and_true, Bool.true_and, Bool.not_true, Bool.not_false, Bool.false_eq_true, if_true, if_false, true_and, and_true, decide_eq_true_eq, Nat.zero_lt_succ, Nat.succ_lt_succ_iff, rng_w1, rng_w2, mul_w, fdiv_w, mod_w, pow_w, adds_w, addt_w, addl_w, atI_l0, atI_l1, atI_l2, atI_l3, atI_l4, nc0, nc1, nc2, nc3, nc4, nc5, nc6, nc7, Int.reduceBEq, noOwn_nil, noOwn_cons, ownF_v, ownF_n, ownF_vs])
local macro_rules | `(tactic| k_search $a) => `(tactic| simp (config := {failIfUnchanged := false, implicitDefEqProofs := false}) only [$a:term, eq_nil, v_FORMS, v_DIFF, in_FORMS, item_FORMS, in_DIFF, item_DIFF, slice1, setPar_nil, setPar_v, setPar_o, sl_10, sl_01, zp_tt, zp_ll, freeAt, Option.isSome_some, Option.isSome_none, Option.map_some, Option.map_none, List.drop_succ_cons, List.drop_zero, len_s, ty_dic, ty_sh, ty_un, v_sh, v_un, get_sh, get_un, is_nn, is_tn, s_name_name, s_name_bool, s_name_share, s_name_lot, s_name_deed, s_name_cells, s_name_heirs, s_bool_name, s_bool_bool, s_bool_share, s_bool_lot, s_bool_deed, s_bool_cells, s_bool_heirs, s_number_name, s_number_bool, s_number_share, s_number_lot, s_number_deed, s_number_cells, s_number_heirs, s_amount_name, s_amount_bool, s_amount_share, s_amount_lot, s_amount_deed, s_amount_cells, s_amount_heirs, s_day_name, s_day_bool, s_day_share, s_day_lot, s_day_deed, s_day_cells, s_day_heirs, s_share_name, s_share_bool, s_share_share, s_share_lot, s_share_deed, s_share_cells, s_share_heirs, s_lot_name, s_lot_bool, s_lot_share, s_lot_lot, s_lot_deed, s_lot_cells, s_lot_heirs, s_deed_name, s_deed_bool, s_deed_share, s_deed_lot, s_deed_deed, s_deed_cells, s_deed_heirs, s_heirs_name, s_heirs_bool, s_heirs_share, s_heirs_lot, s_heirs_deed, s_heirs_cells, s_heirs_heirs, s_cells_name, s_cells_bool, s_cells_share, s_cells_lot, s_cells_deed, s_cells_cells, s_cells_heirs, i_name, i_bool, i_number, i_amount, i_day, i_share, i_lot, i_deed, i_heirs, i_cells, in_si, al1, al2, ↓ch_w, chS_o, chS_m, ↓chS_o, ↓chS_m, chL_l, ↓chL_l, v_mut, mvD_l, put1, put2, put3, put4, abs_i, int_i, neg_i, app_w, ins_w, ty_str, ty_lst, item_si, list_str, list_tup, tup_lst, wS_fld, onOO_o, ↓onOO_o, flI_nx, objAt_oo, Fl_t, Fl_b, putD_n, putD_b, list_sh, item_sh, in_si, in_si, sh_1_61, sh_3_2, sh_0_1, sh_m1_2, sh_1_1, sh_1_60, ↓oP_some, ↓onB_some, ↓onS_some, ↓onNx_nx, ↓onNx_ret, ↓onNx_brk, ↓onNx_ct, ↓rdS_v, ↓rdS_ol, ↓onI_int, ↓onFn_fn, ↓onLst_l, ↓wF_ret, ↓wR_ok, ↓wR_ofO, ↓if_true, ↓if_false, ↓flF_ret, ↓flF_nx, oP_some, onB_some, onS_some, onNx_nx, onNx_ret, onNx_brk, onNx_ct, rdS_v, rdS_ol, onI_int, onFn_fn, onLst_l, wF_ret, wR_ok, wR_ofO, if_true, if_false, flF_ret, flF_nx, wR_ok, wR_no, wR_ofO, ↓wE_var, ↓wE_const, ↓wE_prim, ↓wE_slice, ↓wE_meth, ↓wE_mprim, ↓wE_tup, ↓wE_lst, ↓wE_cell, ↓wE_dic, ↓wE_and, ↓wE_or, ↓wE_not, ↓wE_if, ↓wE_chain, ↓wE_call, ↓wE_new, ↓wE_callv, onFn_fn, ↓wE_comp, ↓wE_scomp, ↓turnC_w, ↓wL_nil, ↓wL_cons, ↓wV_nil, ↓wV_cons, onI_int, ↓wP_nil, ↓wP_cons, ↓wCh_one, ↓wCh_more, ↓wIf_nil, ↓wIf_cons, ↓wI_seq, ↓wI_range, ↓wI_zip, ↓wA_peek, ↓wA_const, ↓wA_prim, ↓wA_slice, ↓wA_meth, ↓wA_mprim, ↓wA_tup, ↓wA_lst, ↓wA_cell, ↓wA_dic, ↓wA_and, ↓wA_or, ↓wA_not, ↓wA_ifE, ↓wA_chain, ↓wA_call, ↓wA_callv, ↓wA_new, ↓wA_comp, ↓wA_scomp, ↓wA_var, ↓look_nil, ↓look_cons, lookAV_d, lookAV_pk, slV_v, slV_ol, slV_oo, ↓rd_w, rdS_v, rdS_ol, ↓wS_asg, ↓wS_asgO, onLst_l, ↓wS_par, ↓wS_put, ↓wS_expr, ↓wS_ret, ↓wS_ite, ↓wS_for, ↓bodyS_w, ↓wS_while, ↓wS_pass, ↓wS_retN, ↓wS_brk, ↓wS_cont, ↓wB_nil, ↓wB_cons, flF_nx, flF_ret, onNx_nx, onNx_ret, onNx_brk, onNx_ct, onB_some, oP_some, oP_none, oP_blO, oP_notO, oP_lstO, onS_some, wF_ret, p_isi, p_eq, p_ne, p_lt, p_le, p_gt, p_ge, p_is, p_isnot, p_in, p_notin, p_item, p_len, p_all, p_any, p_add, p_sub, p_mul, p_fdiv, p_mod, p_pow, p_neg, p_abs, p_int, p_join, p_get2, p_get3, p_list, p_tuple, p_sorted, p_set, p_dict, p_attr, tru_bl, tru_non, v_non, v_bl, v_int, v_str, v_ty, v_fn, v_cls, v_tup, v_lst, v_dic, v_set, v_obj, lt_ii, le_ii, lt_ss, len_str, len_tup, len_lst, len_set, len_dic, sub_ii, add_ii, seq_str, seq_tup, seq_lst, item_ti, item_li, eq_ii, eq_ss, eq_bb, all_bls, ↓bindT_nm, ↓bindT_tup, ↓bindTs_nil, ↓bindTs_cons, List.all_cons, List.all_nil, List.set_cons_zero, List.set_cons_succ, List.getElem?_cons_zero, List.getElem?_cons_succ, List.getElem?_nil, wipeE, backE, List.foldl_cons, List.foldl_nil, Option.getD_some, List.length_cons, List.length_nil, List.length_set, Nat.reduceSub, Nat.reduceAdd, Nat.reduceLT, Nat.reduceLeDiff, List.replicate_succ, List.replicate_zero, List.map_cons, List.map_nil, List.nil_append, List.cons_append, List.append_nil, env0, decide_true, decide_false, Bool.and_true, Bool.true_and, Bool.not_true, Bool.not_false, Bool.false_eq_true, if_true, if_false, true_and, and_true, decide_eq_true_eq, Nat.zero_lt_succ, Nat.succ_lt_succ_iff, rng_w1, rng_w2, mul_w, fdiv_w, mod_w, pow_w, adds_w, addt_w, addl_w, atI_l0, atI_l1, atI_l2, atI_l3, atI_l4, nc0, nc1, nc2, nc3, nc4, nc5, nc6, nc7, Int.reduceBEq, noOwn_nil, noOwn_cons, ownF_v, ownF_n, ownF_vs])
local macro_rules | `(tactic| ktr_call $a $b) => `(tactic| simp (config := {failIfUnchanged := false, implicitDefEqProofs := false}) only [$a:term, $b:term, eq_nil, v_FORMS, v_DIFF, in_FORMS, item_FORMS, in_DIFF, item_DIFF, slice1, setPar_nil, setPar_v, setPar_o, sl_10, sl_01, zp_tt, zp_ll, freeAt, Option.isSome_some, Option.isSome_none, Option.map_some, Option.map_none, List.drop_succ_cons, List.drop_zero, len_s, ty_dic, ty_sh, ty_un, v_sh, v_un, get_sh, get_un, is_nn, is_tn, s_name_name, s_name_bool, s_name_share, s_name_lot, s_name_deed, s_name_cells, s_name_heirs, s_bool_name, s_bool_bool, s_bool_share, s_bool_lot, s_bool_deed, s_bool_cells, s_bool_heirs, s_number_name, s_number_bool, s_number_share, s_number_lot, s_number_deed, s_number_cells, s_number_heirs, s_amount_name, s_amount_bool, s_amount_share, s_amount_lot, s_amount_deed, s_amount_cells, s_amount_heirs, s_day_name, s_day_bool, s_day_share, s_day_lot, s_day_deed, s_day_cells, s_day_heirs, s_share_name, s_share_bool, s_share_share, s_share_lot, s_share_deed, s_share_cells, s_share_heirs, s_lot_name, s_lot_bool, s_lot_share, s_lot_lot, s_lot_deed, s_lot_cells, s_lot_heirs, s_deed_name, s_deed_bool, s_deed_share, s_deed_lot, s_deed_deed, s_deed_cells, s_deed_heirs, s_heirs_name, s_heirs_bool, s_heirs_share, s_heirs_lot, s_heirs_deed, s_heirs_cells, s_heirs_heirs, s_cells_name, s_cells_bool, s_cells_share, s_cells_lot, s_cells_deed, s_cells_cells, s_cells_heirs, i_name, i_bool, i_number, i_amount, i_day, i_share, i_lot, i_deed, i_heirs, i_cells, in_si, al1, al2, ↓ch_w, chS_o, chS_m, ↓chS_o, ↓chS_m, chL_l, ↓chL_l, v_mut, mvD_l, put1, put2, put3, put4, abs_i, int_i, neg_i, app_w, ins_w, ty_str, ty_lst, item_si, list_str, list_tup, tup_lst, wS_fld, onOO_o, ↓onOO_o, flI_nx, objAt_oo, Fl_t, Fl_b, putD_n, putD_b, list_sh, item_sh, in_si, in_si, sh_1_61, sh_3_2, sh_0_1, sh_m1_2, sh_1_1, sh_1_60, ↓oP_some, ↓onB_some, ↓onS_some, ↓onNx_nx, ↓onNx_ret, ↓onNx_brk, ↓onNx_ct, ↓rdS_v, ↓rdS_ol, ↓onI_int, ↓onFn_fn, ↓onLst_l, ↓wF_ret, ↓wR_ok, ↓wR_ofO, ↓if_true, ↓if_false, ↓flF_ret, ↓flF_nx, oP_some, onB_some, onS_some, onNx_nx, onNx_ret, onNx_brk, onNx_ct, rdS_v, rdS_ol, onI_int, onFn_fn, onLst_l, wF_ret, wR_ok, wR_ofO, if_true, if_false, flF_ret, flF_nx, wR_ok, wR_no, wR_ofO, ↓wE_var, ↓wE_const, ↓wE_prim, ↓wE_slice, ↓wE_meth, ↓wE_mprim, ↓wE_tup, ↓wE_lst, ↓wE_cell, ↓wE_dic, ↓wE_and, ↓wE_or, ↓wE_not, ↓wE_if, ↓wE_chain, ↓wE_call, ↓wE_new, ↓wE_callv, onFn_fn, ↓wE_comp, ↓wE_scomp, ↓turnC_w, ↓wL_nil, ↓wL_cons, ↓wV_nil, ↓wV_cons, onI_int, ↓wP_nil, ↓wP_cons, ↓wCh_one, ↓wCh_more, ↓wIf_nil, ↓wIf_cons, ↓wI_seq, ↓wI_range, ↓wI_zip, ↓wA_peek, ↓wA_const, ↓wA_prim, ↓wA_slice, ↓wA_meth, ↓wA_mprim, ↓wA_tup, ↓wA_lst, ↓wA_cell, ↓wA_dic, ↓wA_and, ↓wA_or, ↓wA_not, ↓wA_ifE, ↓wA_chain, ↓wA_call, ↓wA_callv, ↓wA_new, ↓wA_comp, ↓wA_scomp, ↓wA_var, ↓look_nil, ↓look_cons, lookAV_d, lookAV_pk, slV_v, slV_ol, slV_oo, ↓rd_w, rdS_v, rdS_ol, ↓wS_asg, ↓wS_asgO, onLst_l, ↓wS_par, ↓wS_put, ↓wS_expr, ↓wS_ret, ↓wS_ite, ↓wS_for, ↓bodyS_w, ↓wS_while, ↓wS_pass, ↓wS_retN, ↓wS_brk, ↓wS_cont, ↓wB_nil, ↓wB_cons, flF_nx, flF_ret, onNx_nx, onNx_ret, onNx_brk, onNx_ct, onB_some, oP_some, oP_none, oP_blO, oP_notO, oP_lstO, onS_some, wF_ret, p_isi, p_eq, p_ne, p_lt, p_le, p_gt, p_ge, p_is, p_isnot, p_in, p_notin, p_item, p_len, p_all, p_any, p_add, p_sub, p_mul, p_fdiv, p_mod, p_pow, p_neg, p_abs, p_int, p_join, p_get2, p_get3, p_list, p_tuple, p_sorted, p_set, p_dict, p_attr, tru_bl, tru_non, v_non, v_bl, v_int, v_str, v_ty, v_fn, v_cls, v_tup, v_lst, v_dic, v_set, v_obj, lt_ii, le_ii, lt_ss, len_str, len_tup, len_lst, len_set, len_dic, sub_ii, add_ii, seq_str, seq_tup, seq_lst, item_ti, item_li, eq_ii, eq_ss, eq_bb, all_bls, ↓bindT_nm, ↓bindT_tup, ↓bindTs_nil, ↓bindTs_cons, List.all_cons, List.all_nil, List.set_cons_zero, List.set_cons_succ, List.getElem?_cons_zero, List.getElem?_cons_succ, List.getElem?_nil, wipeE, backE, List.foldl_cons, List.foldl_nil, Option.getD_some, List.length_cons, List.length_nil, List.length_set, Nat.reduceSub, Nat.reduceAdd, Nat.reduceLT, Nat.reduceLeDiff, List.replicate_succ, List.replicate_zero, List.map_cons, List.map_nil, List.nil_append, List.cons_append, List.append_nil, env0, decide_true, decide_false, Bool.and_true, Bool.true_and, Bool.not_true, Bool.not_false, Bool.false_eq_true, if_true, if_false, true_and, and_true, decide_eq_true_eq, Nat.zero_lt_succ, Nat.succ_lt_succ_iff, rng_w1, rng_w2, mul_w, fdiv_w, mod_w, pow_w, adds_w, addt_w, addl_w, atI_l0, atI_l1, atI_l2, atI_l3, atI_l4, nc0, nc1, nc2, nc3, nc4, nc5, nc6, nc7, Int.reduceBEq, noOwn_nil, noOwn_cons, ownF_v, ownF_n, ownF_vs])
local macro_rules | `(tactic| k_whileD $a $b $c "w") => `(tactic| simp (config := {failIfUnchanged := false, implicitDefEqProofs := false}) only [$a:term, $b:term, $c:term, eq_nil, v_FORMS, v_DIFF, in_FORMS, item_FORMS, in_DIFF, item_DIFF, slice1, setPar_nil, setPar_v, setPar_o, sl_10, sl_01, zp_tt, zp_ll, freeAt, Option.isSome_some, Option.isSome_none, Option.map_some, Option.map_none, List.drop_succ_cons, List.drop_zero, len_s, ty_dic, ty_sh, ty_un, v_sh, v_un, get_sh, get_un, is_nn, is_tn, s_name_name, s_name_bool, s_name_share, s_name_lot, s_name_deed, s_name_cells, s_name_heirs, s_bool_name, s_bool_bool, s_bool_share, s_bool_lot, s_bool_deed, s_bool_cells, s_bool_heirs, s_number_name, s_number_bool, s_number_share, s_number_lot, s_number_deed, s_number_cells, s_number_heirs, s_amount_name, s_amount_bool, s_amount_share, s_amount_lot, s_amount_deed, s_amount_cells, s_amount_heirs, s_day_name, s_day_bool, s_day_share, s_day_lot, s_day_deed, s_day_cells, s_day_heirs, s_share_name, s_share_bool, s_share_share, s_share_lot, s_share_deed, s_share_cells, s_share_heirs, s_lot_name, s_lot_bool, s_lot_share, s_lot_lot, s_lot_deed, s_lot_cells, s_lot_heirs, s_deed_name, s_deed_bool, s_deed_share, s_deed_lot, s_deed_deed, s_deed_cells, s_deed_heirs, s_heirs_name, s_heirs_bool, s_heirs_share, s_heirs_lot, s_heirs_deed, s_heirs_cells, s_heirs_heirs, s_cells_name, s_cells_bool, s_cells_share, s_cells_lot, s_cells_deed, s_cells_cells, s_cells_heirs, i_name, i_bool, i_number, i_amount, i_day, i_share, i_lot, i_deed, i_heirs, i_cells, in_si, al1, al2, ↓ch_w, chS_o, chS_m, ↓chS_o, ↓chS_m, chL_l, ↓chL_l, v_mut, mvD_l, put1, put2, put3, put4, abs_i, int_i, neg_i, app_w, ins_w, ty_str, ty_lst, item_si, list_str, list_tup, tup_lst, wS_fld, onOO_o, ↓onOO_o, flI_nx, objAt_oo, Fl_t, Fl_b, putD_n, putD_b, list_sh, item_sh, in_si, in_si, sh_1_61, sh_3_2, sh_0_1, sh_m1_2, sh_1_1, sh_1_60, ↓oP_some, ↓onB_some, ↓onS_some, ↓onNx_nx, ↓onNx_ret, ↓onNx_brk, ↓onNx_ct, ↓rdS_v, ↓rdS_ol, ↓onI_int, ↓onFn_fn, ↓onLst_l, ↓wF_ret, ↓wR_ok, ↓wR_ofO, ↓if_true, ↓if_false, ↓flF_ret, ↓flF_nx, oP_some, onB_some, onS_some, onNx_nx, onNx_ret, onNx_brk, onNx_ct, rdS_v, rdS_ol, onI_int, onFn_fn, onLst_l, wF_ret, wR_ok, wR_ofO, if_true, if_false, flF_ret, flF_nx, wR_ok, wR_no, wR_ofO, ↓wE_var, ↓wE_const, ↓wE_prim, ↓wE_slice, ↓wE_meth, ↓wE_mprim, ↓wE_tup, ↓wE_lst, ↓wE_cell, ↓wE_dic, ↓wE_and, ↓wE_or, ↓wE_not, ↓wE_if, ↓wE_chain, ↓wE_call, ↓wE_new, ↓wE_callv, onFn_fn, ↓wE_comp, ↓wE_scomp, ↓turnC_w, ↓wL_nil, ↓wL_cons, ↓wV_nil, ↓wV_cons, onI_int, ↓wP_nil, ↓wP_cons, ↓wCh_one, ↓wCh_more, ↓wIf_nil, ↓wIf_cons, ↓wI_seq, ↓wI_range, ↓wI_zip, ↓wA_peek, ↓wA_const, ↓wA_prim, ↓wA_slice, ↓wA_meth, ↓wA_mprim, ↓wA_tup, ↓wA_lst, ↓wA_cell, ↓wA_dic, ↓wA_and, ↓wA_or, ↓wA_not, ↓wA_ifE, ↓wA_chain, ↓wA_call, ↓wA_callv, ↓wA_new, ↓wA_comp, ↓wA_scomp, ↓wA_var, ↓look_nil, ↓look_cons, lookAV_d, lookAV_pk, slV_v, slV_ol, slV_oo, ↓rd_w, rdS_v, rdS_ol, ↓wS_asg, ↓wS_asgO, onLst_l, ↓wS_par, ↓wS_put, ↓wS_expr, ↓wS_ret, ↓wS_ite, ↓wS_for, ↓bodyS_w, ↓wS_while, ↓wS_pass, ↓wS_retN, ↓wS_brk, ↓wS_cont, ↓wB_nil, ↓wB_cons, flF_nx, flF_ret, onNx_nx, onNx_ret, onNx_brk, onNx_ct, onB_some, oP_some, oP_none, oP_blO, oP_notO, oP_lstO, onS_some, wF_ret, p_isi, p_eq, p_ne, p_lt, p_le, p_gt, p_ge, p_is, p_isnot, p_in, p_notin, p_item, p_len, p_all, p_any, p_add, p_sub, p_mul, p_fdiv, p_mod, p_pow, p_neg, p_abs, p_int, p_join, p_get2, p_get3, p_list, p_tuple, p_sorted, p_set, p_dict, p_attr, tru_bl, tru_non, v_non, v_bl, v_int, v_str, v_ty, v_fn, v_cls, v_tup, v_lst, v_dic, v_set, v_obj, lt_ii, le_ii, lt_ss, len_str, len_tup, len_lst, len_set, len_dic, sub_ii, add_ii, seq_str, seq_tup, seq_lst, item_ti, item_li, eq_ii, eq_ss, eq_bb, all_bls, ↓bindT_nm, ↓bindT_tup, ↓bindTs_nil, ↓bindTs_cons, List.all_cons, List.all_nil, List.set_cons_zero, List.set_cons_succ, List.getElem?_cons_zero, List.getElem?_cons_succ, List.getElem?_nil, wipeE, backE, List.foldl_cons, List.foldl_nil, Option.getD_some, List.length_cons, List.length_nil, List.length_set, Nat.reduceSub, Nat.reduceAdd, Nat.reduceLT, Nat.reduceLeDiff, List.replicate_succ, List.replicate_zero, List.map_cons, List.map_nil, List.nil_append, List.cons_append, List.append_nil, env0, decide_true, decide_false, Bool.and_true, Bool.true_and, Bool.not_true, Bool.not_false, Bool.false_eq_true, if_true, if_false, true_and, and_true, decide_eq_true_eq, Nat.zero_lt_succ, Nat.succ_lt_succ_iff, rng_w1, rng_w2, mul_w, fdiv_w, mod_w, pow_w, adds_w, addt_w, addl_w, atI_l0, atI_l1, atI_l2, atI_l3, atI_l4, nc0, nc1, nc2, nc3, nc4, nc5, nc6, nc7, Int.reduceBEq, noOwn_nil, noOwn_cons, ownF_v, ownF_n, ownF_vs])
section
variable {n : Nat} {S : Sto}
theorem l_odd (hS : Bag S) : wF (G (n + 4) (.fn "_law_odd") [.mut 0] S) fun d S' => oddP d = true ∧ Bag S' := by
  rw [G_fn (c := c__law_odd) rfl rfl rfl (by decide)]
  simp only [c__law_odd]
  walk_at "w"
  refine ⟨by decide, rfl, ?_⟩
  refine wF_mono (l_names (many := 3) hS (by omega)) ?_
  rintro d S' ⟨ys, rfl, hl, hy, hS'⟩
  simp only [show (10 : Int) ^ Int.toNat 12 - 1 = 999999999999 from by decide]
  walk_at "w"
  refine ⟨by rw [sizeLine_eq]; omega, ?_⟩
  refine wF_mono (l_of hS' (by simp) (by simp)) ?_
  rintro d S' ⟨m, hS'⟩
  have m' : d ∈ oddA ++ (.tup (.str "a" :: ys) :: oddB) := m
  refine ⟨?_, hS'⟩
  rcases List.mem_append.mp m' with m' | m'
  · exact List.all_eq_true.mp oddA_ok d m'
  · rcases List.mem_cons.mp m' with rfl | m'
    · exact odd_names hl hy
    · exact List.all_eq_true.mp oddB_ok d m'
theorem odd_gd {d : D} (h : oddP d = true) : gd 3 d = true := by
  unfold oddP at h
  rw [Bool.and_eq_true] at h
  exact h.1
theorem cut_sub {ds : List D} {lo hi : Option Int} : (∀ d ∈ cutL ds lo hi, d ∈ ds) ∧ (cutL ds lo hi).length ≤ ds.length := by
  unfold cutL
  refine ⟨fun d m => List.mem_of_mem_drop (List.mem_of_mem_take m), ?_⟩
  rw [List.length_take, List.length_drop]
  omega
theorem sl_t {ds : List D} {lo hi : Option Int} : sliceD (.tup ds) lo hi = some (.tup (cutL ds lo hi)) := rfl
theorem way_ne {r j : Int} (h : r ≠ j) : (r == j) = false := by rw [beq_eq_false_iff_ne]; exact h
theorem instead_is {ds : List D} (h : isDeed (.tup (.str "instead" :: ds)) = true) : ∃ a b, ds = [a, b] ∧ isPlain b = true := by
  unfold isDeed at h
  rw [Bool.or_eq_true] at h
  rcases h with h | h
  · obtain ⟨w, l, q, _, q2⟩ := plain_is h
    cases q
    exact absurd rfl q2
  · rcases ds with _ | ⟨a, _ | ⟨b, _ | ⟨c, t⟩⟩⟩
    · cases h
    · replace h : (decide (("instead" : Str) = "strike") && isNum 1 999 a) = true := h
      rw [decide_eq_false (by decide +kernel)] at h
      cases h
    · replace h : (decide (("instead" : Str) = "instead") && isNum 1 999 a && isPlain b) = true := h
      simp only [Bool.and_eq_true] at h
      exact ⟨a, b, rfl, h.2⟩
    · cases h
end
local macro_rules | `(tactic| walk_at "w") => `(tactic| simp (config := {failIfUnchanged := false, implicitDefEqProofs := false}) only [eq_nil, v_FORMS, v_DIFF, in_FORMS, item_FORMS, in_DIFF, item_DIFF, setPar_nil, setPar_v, setPar_o, sl_10, sl_01, zp_tt, zp_ll, freeAt, Option.isSome_some, Option.isSome_none, Option.map_some, Option.map_none, List.drop_succ_cons, List.drop_zero, len_s, ty_dic, ty_sh, ty_un, v_sh, v_un, get_sh, get_un, is_nn, is_tn, s_name_name, s_name_bool, s_name_share, s_name_lot, s_name_deed, s_name_cells, s_name_heirs, s_bool_name, s_bool_bool, s_bool_share, s_bool_lot, s_bool_deed, s_bool_cells, s_bool_heirs, s_number_name, s_number_bool, s_number_share, s_number_lot, s_number_deed, s_number_cells, s_number_heirs, s_amount_name, s_amount_bool, s_amount_share, s_amount_lot, s_amount_deed, s_amount_cells, s_amount_heirs, s_day_name, s_day_bool, s_day_share, s_day_lot, s_day_deed, s_day_cells, s_day_heirs, s_share_name, s_share_bool, s_share_share, s_share_lot, s_share_deed, s_share_cells, s_share_heirs, s_lot_name, s_lot_bool, s_lot_share, s_lot_lot, s_lot_deed, s_lot_cells, s_lot_heirs, s_deed_name, s_deed_bool, s_deed_share, s_deed_lot, s_deed_deed, s_deed_cells, s_deed_heirs, s_heirs_name, s_heirs_bool, s_heirs_share, s_heirs_lot, s_heirs_deed, s_heirs_cells, s_heirs_heirs, s_cells_name, s_cells_bool, s_cells_share, s_cells_lot, s_cells_deed, s_cells_cells, s_cells_heirs, i_name, i_bool, i_number, i_amount, i_day, i_share, i_lot, i_deed, i_heirs, i_cells, in_si, al1, al2, ↓ch_w, chS_o, chS_m, ↓chS_o, ↓chS_m, chL_l, ↓chL_l, v_mut, mvD_l, put1, put2, put3, put4, abs_i, int_i, neg_i, app_w, ins_w, ty_str, ty_lst, item_si, list_str, list_tup, tup_lst, wS_fld, onOO_o, ↓onOO_o, flI_nx, objAt_oo, Fl_t, Fl_b, putD_n, putD_b, list_sh, item_sh, in_si, in_si, sh_1_61, sh_3_2, sh_0_1, sh_m1_2, sh_1_1, sh_1_60, sl_t, ↓oP_some, ↓onB_some, ↓onS_some, ↓onNx_nx, ↓onNx_ret, ↓onNx_brk, ↓onNx_ct, ↓rdS_v, ↓rdS_ol, ↓onI_int, ↓onFn_fn, ↓onLst_l, ↓wF_ret, ↓wR_ok, ↓wR_ofO, ↓if_true, ↓if_false, ↓flF_ret, ↓flF_nx, oP_some, onB_some, onS_some, onNx_nx, onNx_ret, onNx_brk, onNx_ct, rdS_v, rdS_ol, onI_int, onFn_fn, onLst_l, wF_ret, wR_ok, wR_ofO, if_true, if_false, flF_ret, flF_nx, wR_ok, wR_no, wR_ofO, ↓wE_var, ↓wE_const, ↓wE_prim, ↓wE_slice, ↓wE_meth, ↓wE_mprim, ↓wE_tup, ↓wE_lst, ↓wE_cell, ↓wE_dic, ↓wE_and, ↓wE_or, ↓wE_not, ↓wE_if, ↓wE_chain, ↓wE_call, ↓wE_new, ↓wE_callv, onFn_fn, ↓wE_comp, ↓wE_scomp, ↓turnC_w, ↓wL_nil, ↓wL_cons, ↓wV_nil, ↓wV_cons, onI_int, ↓wP_nil, ↓wP_cons, ↓wCh_one, ↓wCh_more, ↓wIf_nil, ↓wIf_cons, ↓wI_seq, ↓wI_range, ↓wI_zip, ↓wA_peek, ↓wA_const, ↓wA_prim, ↓wA_slice, ↓wA_meth, ↓wA_mprim, ↓wA_tup, ↓wA_lst, ↓wA_cell, ↓wA_dic, ↓wA_and, ↓wA_or, ↓wA_not, ↓wA_ifE, ↓wA_chain, ↓wA_call, ↓wA_callv, ↓wA_new, ↓wA_comp, ↓wA_scomp, ↓wA_var, ↓look_nil, ↓look_cons, lookAV_d, lookAV_pk, slV_v, slV_ol, slV_oo, ↓rd_w, rdS_v, rdS_ol, ↓wS_asg, ↓wS_asgO, onLst_l, ↓wS_par, ↓wS_put, ↓wS_expr, ↓wS_ret, ↓wS_ite, ↓wS_for, ↓bodyS_w, ↓wS_while, ↓wS_pass, ↓wS_retN, ↓wS_brk, ↓wS_cont, ↓wB_nil, ↓wB_cons, flF_nx, flF_ret, onNx_nx, onNx_ret, onNx_brk, onNx_ct, onB_some, oP_some, oP_none, oP_blO, oP_notO, oP_lstO, onS_some, wF_ret, p_isi, p_eq, p_ne, p_lt, p_le, p_gt, p_ge, p_is, p_isnot, p_in, p_notin, p_item, p_len, p_all, p_any, p_add, p_sub, p_mul, p_fdiv, p_mod, p_pow, p_neg, p_abs, p_int, p_join, p_get2, p_get3, p_list, p_tuple, p_sorted, p_set, p_dict, p_attr, tru_bl, tru_non, v_non, v_bl, v_int, v_str, v_ty, v_fn, v_cls, v_tup, v_lst, v_dic, v_set, v_obj, lt_ii, le_ii, lt_ss, len_str, len_tup, len_lst, len_set, len_dic, sub_ii, add_ii, seq_str, seq_tup, seq_lst, item_ti, item_li, eq_ii, eq_ss, eq_bb, all_bls, ↓bindT_nm, ↓bindT_tup, ↓bindTs_nil, ↓bindTs_cons, List.all_cons, List.all_nil, List.set_cons_zero, List.set_cons_succ, List.getElem?_cons_zero, List.getElem?_cons_succ, List.getElem?_nil, wipeE, backE, List.foldl_cons, List.foldl_nil, Option.getD_some, List.length_cons, List.length_nil, List.length_set, Nat.reduceSub, Nat.reduceAdd, Nat.reduceLT, Nat.reduceLeDiff, List.replicate_succ, List.replicate_zero, List.map_cons, List.map_nil, List.nil_append, List.cons_append, List.append_nil, env0, decide_true, decide_false, Bool.and_true, Bool.true_and, Bool.not_true, Bool.not_false, Bool.false_eq_true, if_true, if_false, true_and, and_true, decide_eq_true_eq, Nat.zero_lt_succ, Nat.succ_lt_succ_iff, rng_w1, rng_w2, mul_w, fdiv_w, mod_w, pow_w, adds_w, addt_w, addl_w, atI_l0, atI_l1, atI_l2, atI_l3, atI_l4, nc0, nc1, nc2, nc3, nc4, nc5, nc6, nc7, Int.reduceBEq, noOwn_nil, noOwn_cons, ownF_v, ownF_n, ownF_vs])
local macro_rules | `(tactic| k_search $a) => `(tactic| simp (config := {failIfUnchanged := false, implicitDefEqProofs := false}) only [$a:term, eq_nil, v_FORMS, v_DIFF, in_FORMS, item_FORMS, in_DIFF, item_DIFF, setPar_nil, setPar_v, setPar_o, sl_10, sl_01, zp_tt, zp_ll, freeAt, Option.isSome_some, Option.isSome_none, Option.map_some, Option.map_none, List.drop_succ_cons, List.drop_zero, len_s, ty_dic, ty_sh, ty_un, v_sh, v_un, get_sh, get_un, is_nn, is_tn, s_name_name, s_name_bool, s_name_share, s_name_lot, s_name_deed, s_name_cells, s_name_heirs, s_bool_name, s_bool_bool, s_bool_share, s_bool_lot, s_bool_deed, s_bool_cells, s_bool_heirs, s_number_name, s_number_bool, s_number_share, s_number_lot, s_number_deed, s_number_cells, s_number_heirs, s_amount_name, s_amount_bool, s_amount_share, s_amount_lot, s_amount_deed, s_amount_cells, s_amount_heirs, s_day_name, s_day_bool, s_day_share, s_day_lot, s_day_deed, s_day_cells, s_day_heirs, s_share_name, s_share_bool, s_share_share, s_share_lot, s_share_deed, s_share_cells, s_share_heirs, s_lot_name, s_lot_bool, s_lot_share, s_lot_lot, s_lot_deed, s_lot_cells, s_lot_heirs, s_deed_name, s_deed_bool, s_deed_share, s_deed_lot, s_deed_deed, s_deed_cells, s_deed_heirs, s_heirs_name, s_heirs_bool, s_heirs_share, s_heirs_lot, s_heirs_deed, s_heirs_cells, s_heirs_heirs, s_cells_name, s_cells_bool, s_cells_share, s_cells_lot, s_cells_deed, s_cells_cells, s_cells_heirs, i_name, i_bool, i_number, i_amount, i_day, i_share, i_lot, i_deed, i_heirs, i_cells, in_si, al1, al2, ↓ch_w, chS_o, chS_m, ↓chS_o, ↓chS_m, chL_l, ↓chL_l, v_mut, mvD_l, put1, put2, put3, put4, abs_i, int_i, neg_i, app_w, ins_w, ty_str, ty_lst, item_si, list_str, list_tup, tup_lst, wS_fld, onOO_o, ↓onOO_o, flI_nx, objAt_oo, Fl_t, Fl_b, putD_n, putD_b, list_sh, item_sh, in_si, in_si, sh_1_61, sh_3_2, sh_0_1, sh_m1_2, sh_1_1, sh_1_60, sl_t, ↓oP_some, ↓onB_some, ↓onS_some, ↓onNx_nx, ↓onNx_ret, ↓onNx_brk, ↓onNx_ct, ↓rdS_v, ↓rdS_ol, ↓onI_int, ↓onFn_fn, ↓onLst_l, ↓wF_ret, ↓wR_ok, ↓wR_ofO, ↓if_true, ↓if_false, ↓flF_ret, ↓flF_nx, oP_some, onB_some, onS_some, onNx_nx, onNx_ret, onNx_brk, onNx_ct, rdS_v, rdS_ol, onI_int, onFn_fn, onLst_l, wF_ret, wR_ok, wR_ofO, if_true, if_false, flF_ret, flF_nx, wR_ok, wR_no, wR_ofO, ↓wE_var, ↓wE_const, ↓wE_prim, ↓wE_slice, ↓wE_meth, ↓wE_mprim, ↓wE_tup, ↓wE_lst, ↓wE_cell, ↓wE_dic, ↓wE_and, ↓wE_or, ↓wE_not, ↓wE_if, ↓wE_chain, ↓wE_call, ↓wE_new, ↓wE_callv, onFn_fn, ↓wE_comp, ↓wE_scomp, ↓turnC_w, ↓wL_nil, ↓wL_cons, ↓wV_nil, ↓wV_cons, onI_int, ↓wP_nil, ↓wP_cons, ↓wCh_one, ↓wCh_more, ↓wIf_nil, ↓wIf_cons, ↓wI_seq, ↓wI_range, ↓wI_zip, ↓wA_peek, ↓wA_const, ↓wA_prim, ↓wA_slice, ↓wA_meth, ↓wA_mprim, ↓wA_tup, ↓wA_lst, ↓wA_cell, ↓wA_dic, ↓wA_and, ↓wA_or, ↓wA_not, ↓wA_ifE, ↓wA_chain, ↓wA_call, ↓wA_callv, ↓wA_new, ↓wA_comp, ↓wA_scomp, ↓wA_var, ↓look_nil, ↓look_cons, lookAV_d, lookAV_pk, slV_v, slV_ol, slV_oo, ↓rd_w, rdS_v, rdS_ol, ↓wS_asg, ↓wS_asgO, onLst_l, ↓wS_par, ↓wS_put, ↓wS_expr, ↓wS_ret, ↓wS_ite, ↓wS_for, ↓bodyS_w, ↓wS_while, ↓wS_pass, ↓wS_retN, ↓wS_brk, ↓wS_cont, ↓wB_nil, ↓wB_cons, flF_nx, flF_ret, onNx_nx, onNx_ret, onNx_brk, onNx_ct, onB_some, oP_some, oP_none, oP_blO, oP_notO, oP_lstO, onS_some, wF_ret, p_isi, p_eq, p_ne, p_lt, p_le, p_gt, p_ge, p_is, p_isnot, p_in, p_notin, p_item, p_len, p_all, p_any, p_add, p_sub, p_mul, p_fdiv, p_mod, p_pow, p_neg, p_abs, p_int, p_join, p_get2, p_get3, p_list, p_tuple, p_sorted, p_set, p_dict, p_attr, tru_bl, tru_non, v_non, v_bl, v_int, v_str, v_ty, v_fn, v_cls, v_tup, v_lst, v_dic, v_set, v_obj, lt_ii, le_ii, lt_ss, len_str, len_tup, len_lst, len_set, len_dic, sub_ii, add_ii, seq_str, seq_tup, seq_lst, item_ti, item_li, eq_ii, eq_ss, eq_bb, all_bls, ↓bindT_nm, ↓bindT_tup, ↓bindTs_nil, ↓bindTs_cons, List.all_cons, List.all_nil, List.set_cons_zero, List.set_cons_succ, List.getElem?_cons_zero, List.getElem?_cons_succ, List.getElem?_nil, wipeE, backE, List.foldl_cons, List.foldl_nil, Option.getD_some, List.length_cons, List.length_nil, List.length_set, Nat.reduceSub, Nat.reduceAdd, Nat.reduceLT, Nat.reduceLeDiff, List.replicate_succ, List.replicate_zero, List.map_cons, List.map_nil, List.nil_append, List.cons_append, List.append_nil, env0, decide_true, decide_false, Bool.and_true, Bool.true_and, Bool.not_true, Bool.not_false, Bool.false_eq_true, if_true, if_false, true_and, and_true, decide_eq_true_eq, Nat.zero_lt_succ, Nat.succ_lt_succ_iff, rng_w1, rng_w2, mul_w, fdiv_w, mod_w, pow_w, adds_w, addt_w, addl_w, atI_l0, atI_l1, atI_l2, atI_l3, atI_l4, nc0, nc1, nc2, nc3, nc4, nc5, nc6, nc7, Int.reduceBEq, noOwn_nil, noOwn_cons, ownF_v, ownF_n, ownF_vs])
local macro_rules | `(tactic| ktr_call $a $b) => `(tactic| simp (config := {failIfUnchanged := false, implicitDefEqProofs := false}) only [$a:term, $b:term, eq_nil, v_FORMS, v_DIFF, in_FORMS, item_FORMS, in_DIFF, item_DIFF, setPar_nil, setPar_v, setPar_o, sl_10, sl_01, zp_tt, zp_ll, freeAt, Option.isSome_some, Option.isSome_none, Option.map_some, Option.map_none, List.drop_succ_cons, List.drop_zero, len_s, ty_dic, ty_sh, ty_un, v_sh, v_un, get_sh, get_un, is_nn, is_tn, s_name_name, s_name_bool, s_name_share, s_name_lot, s_name_deed, s_name_cells, s_name_heirs, s_bool_name, s_bool_bool, s_bool_share, s_bool_lot, s_bool_deed, s_bool_cells, s_bool_heirs, s_number_name, s_number_bool, s_number_share, s_number_lot, s_number_deed, s_number_cells, s_number_heirs, s_amount_name, s_amount_bool, s_amount_share, s_amount_lot, s_amount_deed, s_amount_cells, s_amount_heirs, s_day_name, s_day_bool, s_day_share, s_day_lot, s_day_deed, s_day_cells, s_day_heirs, s_share_name, s_share_bool, s_share_share, s_share_lot, s_share_deed, s_share_cells, s_share_heirs, s_lot_name, s_lot_bool, s_lot_share, s_lot_lot, s_lot_deed, s_lot_cells, s_lot_heirs, s_deed_name, s_deed_bool, s_deed_share, s_deed_lot, s_deed_deed, s_deed_cells, s_deed_heirs, s_heirs_name, s_heirs_bool, s_heirs_share, s_heirs_lot, s_heirs_deed, s_heirs_cells, s_heirs_heirs, s_cells_name, s_cells_bool, s_cells_share, s_cells_lot, s_cells_deed, s_cells_cells, s_cells_heirs, i_name, i_bool, i_number, i_amount, i_day, i_share, i_lot, i_deed, i_heirs, i_cells, in_si, al1, al2, ↓ch_w, chS_o, chS_m, ↓chS_o, ↓chS_m, chL_l, ↓chL_l, v_mut, mvD_l, put1, put2, put3, put4, abs_i, int_i, neg_i, app_w, ins_w, ty_str, ty_lst, item_si, list_str, list_tup, tup_lst, wS_fld, onOO_o, ↓onOO_o, flI_nx, objAt_oo, Fl_t, Fl_b, putD_n, putD_b, list_sh, item_sh, in_si, in_si, sh_1_61, sh_3_2, sh_0_1, sh_m1_2, sh_1_1, sh_1_60, sl_t, ↓oP_some, ↓onB_some, ↓onS_some, ↓onNx_nx, ↓onNx_ret, ↓onNx_brk, ↓onNx_ct, ↓rdS_v, ↓rdS_ol, ↓onI_int, ↓onFn_fn, ↓onLst_l, ↓wF_ret, ↓wR_ok, ↓wR_ofO, ↓if_true, ↓if_false, ↓flF_ret, ↓flF_nx, oP_some, onB_some, onS_some, onNx_nx, onNx_ret, onNx_brk, onNx_ct, rdS_v, rdS_ol, onI_int, onFn_fn, onLst_l, wF_ret, wR_ok, wR_ofO, if_true, if_false, flF_ret, flF_nx, wR_ok, wR_no, wR_ofO, ↓wE_var, ↓wE_const, ↓wE_prim, ↓wE_slice, ↓wE_meth, ↓wE_mprim, ↓wE_tup, ↓wE_lst, ↓wE_cell, ↓wE_dic, ↓wE_and, ↓wE_or, ↓wE_not, ↓wE_if, ↓wE_chain, ↓wE_call, ↓wE_new, ↓wE_callv, onFn_fn, ↓wE_comp, ↓wE_scomp, ↓turnC_w, ↓wL_nil, ↓wL_cons, ↓wV_nil, ↓wV_cons, onI_int, ↓wP_nil, ↓wP_cons, ↓wCh_one, ↓wCh_more, ↓wIf_nil, ↓wIf_cons, ↓wI_seq, ↓wI_range, ↓wI_zip, ↓wA_peek, ↓wA_const, ↓wA_prim, ↓wA_slice, ↓wA_meth, ↓wA_mprim, ↓wA_tup, ↓wA_lst, ↓wA_cell, ↓wA_dic, ↓wA_and, ↓wA_or, ↓wA_not, ↓wA_ifE, ↓wA_chain, ↓wA_call, ↓wA_callv, ↓wA_new, ↓wA_comp, ↓wA_scomp, ↓wA_var, ↓look_nil, ↓look_cons, lookAV_d, lookAV_pk, slV_v, slV_ol, slV_oo, ↓rd_w, rdS_v, rdS_ol, ↓wS_asg, ↓wS_asgO, onLst_l, ↓wS_par, ↓wS_put, ↓wS_expr, ↓wS_ret, ↓wS_ite, ↓wS_for, ↓bodyS_w, ↓wS_while, ↓wS_pass, ↓wS_retN, ↓wS_brk, ↓wS_cont, ↓wB_nil, ↓wB_cons, flF_nx, flF_ret, onNx_nx, onNx_ret, onNx_brk, onNx_ct, onB_some, oP_some, oP_none, oP_blO, oP_notO, oP_lstO, onS_some, wF_ret, p_isi, p_eq, p_ne, p_lt, p_le, p_gt, p_ge, p_is, p_isnot, p_in, p_notin, p_item, p_len, p_all, p_any, p_add, p_sub, p_mul, p_fdiv, p_mod, p_pow, p_neg, p_abs, p_int, p_join, p_get2, p_get3, p_list, p_tuple, p_sorted, p_set, p_dict, p_attr, tru_bl, tru_non, v_non, v_bl, v_int, v_str, v_ty, v_fn, v_cls, v_tup, v_lst, v_dic, v_set, v_obj, lt_ii, le_ii, lt_ss, len_str, len_tup, len_lst, len_set, len_dic, sub_ii, add_ii, seq_str, seq_tup, seq_lst, item_ti, item_li, eq_ii, eq_ss, eq_bb, all_bls, ↓bindT_nm, ↓bindT_tup, ↓bindTs_nil, ↓bindTs_cons, List.all_cons, List.all_nil, List.set_cons_zero, List.set_cons_succ, List.getElem?_cons_zero, List.getElem?_cons_succ, List.getElem?_nil, wipeE, backE, List.foldl_cons, List.foldl_nil, Option.getD_some, List.length_cons, List.length_nil, List.length_set, Nat.reduceSub, Nat.reduceAdd, Nat.reduceLT, Nat.reduceLeDiff, List.replicate_succ, List.replicate_zero, List.map_cons, List.map_nil, List.nil_append, List.cons_append, List.append_nil, env0, decide_true, decide_false, Bool.and_true, Bool.true_and, Bool.not_true, Bool.not_false, Bool.false_eq_true, if_true, if_false, true_and, and_true, decide_eq_true_eq, Nat.zero_lt_succ, Nat.succ_lt_succ_iff, rng_w1, rng_w2, mul_w, fdiv_w, mod_w, pow_w, adds_w, addt_w, addl_w, atI_l0, atI_l1, atI_l2, atI_l3, atI_l4, nc0, nc1, nc2, nc3, nc4, nc5, nc6, nc7, Int.reduceBEq, noOwn_nil, noOwn_cons, ownF_v, ownF_n, ownF_vs])
local macro_rules | `(tactic| k_whileD $a $b $c "w") => `(tactic| simp (config := {failIfUnchanged := false, implicitDefEqProofs := false}) only [$a:term, $b:term, $c:term, eq_nil, v_FORMS, v_DIFF, in_FORMS, item_FORMS, in_DIFF, item_DIFF, setPar_nil, setPar_v, setPar_o, sl_10, sl_01, zp_tt, zp_ll, freeAt, Option.isSome_some, Option.isSome_none, Option.map_some, Option.map_none, List.drop_succ_cons, List.drop_zero, len_s, ty_dic, ty_sh, ty_un, v_sh, v_un, get_sh, get_un, is_nn, is_tn, s_name_name, s_name_bool, s_name_share, s_name_lot, s_name_deed, s_name_cells, s_name_heirs, s_bool_name, s_bool_bool, s_bool_share, s_bool_lot, s_bool_deed, s_bool_cells, s_bool_heirs, s_number_name, s_number_bool, s_number_share, s_number_lot, s_number_deed, s_number_cells, s_number_heirs, s_amount_name, s_amount_bool, s_amount_share, s_amount_lot, s_amount_deed, s_amount_cells, s_amount_heirs, s_day_name, s_day_bool, s_day_share, s_day_lot, s_day_deed, s_day_cells, s_day_heirs, s_share_name, s_share_bool, s_share_share, s_share_lot, s_share_deed, s_share_cells, s_share_heirs, s_lot_name, s_lot_bool, s_lot_share, s_lot_lot, s_lot_deed, s_lot_cells, s_lot_heirs, s_deed_name, s_deed_bool, s_deed_share, s_deed_lot, s_deed_deed, s_deed_cells, s_deed_heirs, s_heirs_name, s_heirs_bool, s_heirs_share, s_heirs_lot, s_heirs_deed, s_heirs_cells, s_heirs_heirs, s_cells_name, s_cells_bool, s_cells_share, s_cells_lot, s_cells_deed, s_cells_cells, s_cells_heirs, i_name, i_bool, i_number, i_amount, i_day, i_share, i_lot, i_deed, i_heirs, i_cells, in_si, al1, al2, ↓ch_w, chS_o, chS_m, ↓chS_o, ↓chS_m, chL_l, ↓chL_l, v_mut, mvD_l, put1, put2, put3, put4, abs_i, int_i, neg_i, app_w, ins_w, ty_str, ty_lst, item_si, list_str, list_tup, tup_lst, wS_fld, onOO_o, ↓onOO_o, flI_nx, objAt_oo, Fl_t, Fl_b, putD_n, putD_b, list_sh, item_sh, in_si, in_si, sh_1_61, sh_3_2, sh_0_1, sh_m1_2, sh_1_1, sh_1_60, sl_t, ↓oP_some, ↓onB_some, ↓onS_some, ↓onNx_nx, ↓onNx_ret, ↓onNx_brk, ↓onNx_ct, ↓rdS_v, ↓rdS_ol, ↓onI_int, ↓onFn_fn, ↓onLst_l, ↓wF_ret, ↓wR_ok, ↓wR_ofO, ↓if_true, ↓if_false, ↓flF_ret, ↓flF_nx, oP_some, onB_some, onS_some, onNx_nx, onNx_ret, onNx_brk, onNx_ct, rdS_v, rdS_ol, onI_int, onFn_fn, onLst_l, wF_ret, wR_ok, wR_ofO, if_true, if_false, flF_ret, flF_nx, wR_ok, wR_no, wR_ofO, ↓wE_var, ↓wE_const, ↓wE_prim, ↓wE_slice, ↓wE_meth, ↓wE_mprim, ↓wE_tup, ↓wE_lst, ↓wE_cell, ↓wE_dic, ↓wE_and, ↓wE_or, ↓wE_not, ↓wE_if, ↓wE_chain, ↓wE_call, ↓wE_new, ↓wE_callv, onFn_fn, ↓wE_comp, ↓wE_scomp, ↓turnC_w, ↓wL_nil, ↓wL_cons, ↓wV_nil, ↓wV_cons, onI_int, ↓wP_nil, ↓wP_cons, ↓wCh_one, ↓wCh_more, ↓wIf_nil, ↓wIf_cons, ↓wI_seq, ↓wI_range, ↓wI_zip, ↓wA_peek, ↓wA_const, ↓wA_prim, ↓wA_slice, ↓wA_meth, ↓wA_mprim, ↓wA_tup, ↓wA_lst, ↓wA_cell, ↓wA_dic, ↓wA_and, ↓wA_or, ↓wA_not, ↓wA_ifE, ↓wA_chain, ↓wA_call, ↓wA_callv, ↓wA_new, ↓wA_comp, ↓wA_scomp, ↓wA_var, ↓look_nil, ↓look_cons, lookAV_d, lookAV_pk, slV_v, slV_ol, slV_oo, ↓rd_w, rdS_v, rdS_ol, ↓wS_asg, ↓wS_asgO, onLst_l, ↓wS_par, ↓wS_put, ↓wS_expr, ↓wS_ret, ↓wS_ite, ↓wS_for, ↓bodyS_w, ↓wS_while, ↓wS_pass, ↓wS_retN, ↓wS_brk, ↓wS_cont, ↓wB_nil, ↓wB_cons, flF_nx, flF_ret, onNx_nx, onNx_ret, onNx_brk, onNx_ct, onB_some, oP_some, oP_none, oP_blO, oP_notO, oP_lstO, onS_some, wF_ret, p_isi, p_eq, p_ne, p_lt, p_le, p_gt, p_ge, p_is, p_isnot, p_in, p_notin, p_item, p_len, p_all, p_any, p_add, p_sub, p_mul, p_fdiv, p_mod, p_pow, p_neg, p_abs, p_int, p_join, p_get2, p_get3, p_list, p_tuple, p_sorted, p_set, p_dict, p_attr, tru_bl, tru_non, v_non, v_bl, v_int, v_str, v_ty, v_fn, v_cls, v_tup, v_lst, v_dic, v_set, v_obj, lt_ii, le_ii, lt_ss, len_str, len_tup, len_lst, len_set, len_dic, sub_ii, add_ii, seq_str, seq_tup, seq_lst, item_ti, item_li, eq_ii, eq_ss, eq_bb, all_bls, ↓bindT_nm, ↓bindT_tup, ↓bindTs_nil, ↓bindTs_cons, List.all_cons, List.all_nil, List.set_cons_zero, List.set_cons_succ, List.getElem?_cons_zero, List.getElem?_cons_succ, List.getElem?_nil, wipeE, backE, List.foldl_cons, List.foldl_nil, Option.getD_some, List.length_cons, List.length_nil, List.length_set, Nat.reduceSub, Nat.reduceAdd, Nat.reduceLT, Nat.reduceLeDiff, List.replicate_succ, List.replicate_zero, List.map_cons, List.map_nil, List.nil_append, List.cons_append, List.append_nil, env0, decide_true, decide_false, Bool.and_true, Bool.true_and, Bool.not_true, Bool.not_false, Bool.false_eq_true, if_true, if_false, true_and, and_true, decide_eq_true_eq, Nat.zero_lt_succ, Nat.succ_lt_succ_iff, rng_w1, rng_w2, mul_w, fdiv_w, mod_w, pow_w, adds_w, addt_w, addl_w, atI_l0, atI_l1, atI_l2, atI_l3, atI_l4, nc0, nc1, nc2, nc3, nc4, nc5, nc6, nc7, Int.reduceBEq, noOwn_nil, noOwn_cons, ownF_v, ownF_n, ownF_vs])
theorem forms_len : forms.all (fun p => decide (p.2.length ≤ 20)) = true := by decide +kernel
theorem deed_len {w : Str} {items : List D} (h : isDeed (.tup (.str w :: items)) = true) : items.length ≤ 20 := by
  unfold isDeed at h
  rw [Bool.or_eq_true] at h
  rcases h with h | h
  · replace h : (match forms.lookup w with
      | some kds => decide (items.length = kds.length) && allK kds items && extra w items
      | none => false) = true := h
    cases e : forms.lookup w with
    | none => rw [e] at h; cases h
    | some kds =>
      rw [e] at h
      simp only [Bool.and_eq_true, decide_eq_true_eq] at h
      have := List.all_eq_true.mp forms_len _ (lookup_mem e)
      simp only [decide_eq_true_eq] at this
      omega
  · rcases items with _ | ⟨a, _ | ⟨b, _ | ⟨c, t⟩⟩⟩
    · simp
    · simp
    · simp
    · cases h
theorem deed_is {x : D} (h : isDeed x = true) : ∃ w items, x = .tup (.str w :: items) := by
  unfold isDeed at h
  rw [Bool.or_eq_true] at h
  rcases h with h | h
  · obtain ⟨w, l, q, _⟩ := plain_is h
    exact ⟨w, l, q⟩
  · obtain ⟨w, l, q, _⟩ := corr_is h
    exact ⟨w, l, q⟩
section
variable {n : Nat} {S : Sto}
theorem gd3 {K : Nat} (hK : 3 ≤ K) {d : D} (h : gd 3 d = true) : gd K d = true := by
  have := gd_le h (K - 3)
  rwa [show 3 + (K - 3) = K by omega] at this
/-- a bent deed -/
theorem l_bentG {w : Str} {items : List D} {K : Nat} (hK : 3 ≤ K) (hw : w = "instead" → ∃ a b, items = [a, b] ∧ ∀ S, Bag S → wF (G (n + 4) (.fn "_law_bent") [.mut 0, b] S) fun d S' => gd K d = true ∧ Bag S')
    (hg : ∀ d ∈ D.str w :: items, gd K d = true) (hl : items.length ≤ 20) (hS : Bag S) : wF (G (n + 5) (.fn "_law_bent") [.mut 0, .tup (.str w :: items)] S) fun d S' => gd (K + 1) d = true ∧ Bag S' := by
  rw [G_fn (c := c__law_bent) rfl rfl rfl (by decide)]
  simp only [c__law_bent]
  walk_at "w"
  refine wF_mono (l_draw hS (by decide) (by decide)) ?_
  rintro d S' ⟨way, rfl, w0, w1, hS'⟩
  walk_at "w"
  refine wF_mono (l_draw hS' (by omega) (by omega)) ?_
  rintro d S' ⟨r, rfl, r0, r1, hS'⟩
  have q1 : ∀ {lo hi : Option Int} (d : D), d ∈ cutL (D.str w :: items) lo hi → gd K d = true := fun d m => hg d (cut_sub.1 d m)
  have q2 : ∀ {lo hi : Option Int}, (cutL (D.str w :: items) lo hi).length ≤ items.length + 1 := fun {lo hi} => cut_sub.2
  have q3 : ∀ {lo hi : Option Int}, (cutL items lo hi).length ≤ items.length := fun {lo hi} => cut_sub.2
  by_cases c0 : way = 0
  · subst c0
    walk_at "w"
    refine wF_mono (l_odd hS') ?_
    rintro d S2 ⟨hd, hS2⟩
    refine ⟨by rw [sizeLine_eq]; omega, gd_tup_of ?_ (by simp only [List.length_cons, List.length_append, List.length_nil]; omega), hS2⟩
    intro x m
    rcases List.mem_cons.mp m with rfl | m
    · exact hg _ List.mem_cons_self
    · rcases List.mem_append.mp m with m | m
      · exact hg x (List.mem_cons_of_mem _ m)
      · have : x = d := by simpa using m
        rw [this]; exact gd3 hK (odd_gd hd)
  have hA := cut_sub (ds := D.str w :: items) (lo := none) (hi := some r)
  have hB := cut_sub (ds := D.str w :: items) (lo := some (r + 1)) (hi := none)
  have hC := cut_sub (ds := D.str w :: items) (lo := some 1) (hi := none)
  have hD := cut_sub (ds := D.str w :: items) (lo := none) (hi := some 2)
  rw [List.length_cons] at hA hB hC hD
  clear q1 q2 q3
  by_cases c1 : way = 1
  · subst c1
    k_search (way_ne c0)
    generalize cutL (D.str w :: items) none (some r) = A at hA
    generalize cutL (D.str w :: items) (some (r + 1)) none = B at hB
    refine ⟨by omega, by omega, by omega, by omega, by rw [sizeLine_eq]; omega, gd_tup_of ?_ (by rw [List.length_append]; omega), hS'⟩
    intro x m
    rcases List.mem_append.mp m with m | m
    · exact hg x (hA.1 x m)
    · exact hg x (hB.1 x m)
  by_cases c2 : way = 2
  · subst c2
    ktr_call (way_ne c0) (way_ne c1)
    exact ⟨gd_lst_of hg, hS'⟩
  by_cases c3 : way = 3
  · subst c3
    k_whileD (way_ne c0) (way_ne c1) (way_ne c2) "w"
    refine wF_mono (l_draw hS' (by omega) (by omega)) ?_
    rintro d S2 ⟨i, rfl, i0, i1, hS2⟩
    obtain ⟨y, my, ey⟩ := at_mem (xs := D.str w :: items) i0 (by rw [List.length_cons]; exact i1)
    k_search ey
    generalize cutL (D.str w :: items) none (some r) = A at hA
    generalize cutL (D.str w :: items) (some (r + 1)) none = B at hB
    refine ⟨by omega, by omega, by rw [sizeLine_eq]; omega, by omega, by omega, ?_, gd_tup_of ?_ ?_, hS2⟩
    · rw [List.length_append, sizeLine_eq]; simp only [List.length_cons, List.length_nil]; omega
    · intro x m
      rcases List.mem_append.mp m with m | m
      · rcases List.mem_append.mp m with m | m
        · exact hg x (hA.1 x m)
        · have : x = y := by simpa using m
          rw [this]; exact hg y my
      · exact hg x (hB.1 x m)
    · rw [List.length_append, List.length_append]; simp only [List.length_cons, List.length_nil]; omega
  by_cases c4 : way = 4
  · subst c4
    k_whileD (way_ne c0) (way_ne c1) (way_ne c2) "w"
    ktr_call (way_ne c3) (l_shapes)
    k_search (sort_sh)
    refine ⟨by rw [sizeLine_eq, List.length_map]; decide +kernel, ?_⟩
    refine wF_mono (l_of hS' (by rw [List.length_append]; simp only [List.length_cons]; omega) (by rw [List.length_append, List.length_map]; decide +kernel)) ?_
    rintro d S2 ⟨md, hS2⟩
    walk_at "w"
    generalize cutL (D.str w :: items) (some 1) none = C at hC
    refine ⟨by decide, by decide, by rw [sizeLine_eq]; omega, gd_tup_of ?_ ?_, hS2⟩
    · intro x m
      rcases List.mem_cons.mp m with rfl | m
      · rcases List.mem_append.mp md with md | md
        · obtain ⟨v, _, rfl⟩ := List.mem_map.mp md
          exact gd_str
        · simp only [List.mem_cons, List.mem_nil_iff, or_false] at md
          rcases md with rfl | rfl | rfl <;> exact gd_str
      · exact hg x (hC.1 x m)
    · simp only [List.length_cons]; omega
  have last : ∀ S', Bag S' → wF (G (n + 4) (.fn "_law_odd") [.mut 0] S') fun d S => (cutL (D.str w :: items) none (some r)).length + 1 ≤ sizeLine ∧ -2 ^ 62 ≤ r + 1 ∧ r + 1 ≤ 2 ^ 62 ∧ ((cutL (D.str w :: items) none (some r)) ++ [d]).length + (cutL (D.str w :: items) (some (r + 1)) none).length ≤ sizeLine ∧ gd (K + 1) (.tup ((cutL (D.str w :: items) none (some r)) ++ [d] ++ cutL (D.str w :: items) (some (r + 1)) none)) = true ∧ Bag S := by
    intro S' hS'
    refine wF_mono (l_odd hS') ?_
    rintro d S2 ⟨hd, hS2⟩
    generalize cutL (D.str w :: items) none (some r) = A at hA
    generalize cutL (D.str w :: items) (some (r + 1)) none = B at hB
    refine ⟨by rw [sizeLine_eq]; omega, by omega, by omega, ?_, gd_tup_of ?_ ?_, hS2⟩
    · rw [List.length_append, sizeLine_eq]; simp only [List.length_cons, List.length_nil]; omega
    · intro x m
      rcases List.mem_append.mp m with m | m
      · rcases List.mem_append.mp m with m | m
        · exact hg x (hA.1 x m)
        · have : x = d := by simpa using m
          rw [this]; exact gd3 hK (odd_gd hd)
      · exact hg x (hB.1 x m)
    · rw [List.length_append, List.length_append]; simp only [List.length_cons, List.length_nil]; omega
  by_cases c5 : way = 5
  · subst c5
    by_cases hi : w = "instead"
    · subst hi
      obtain ⟨a, b, rfl, hb⟩ := hw rfl
      k_whileD (way_ne c0) (way_ne c1) (way_ne c2) "w"
      k_whileD (way_ne c3) (way_ne c4) (beq_self_eq_true ("instead" : Str)) "w"
      refine ⟨by decide, by decide, ?_⟩
      refine wF_mono (hb _ hS') ?_
      rintro d S2 ⟨hd, hS2⟩
      generalize cutL [D.str "instead", a, b] none (some 2) = E at hD
      simp only [List.length_cons, List.length_nil] at hD
      refine ⟨by rw [sizeLine_eq]; omega, gd_tup_of ?_ ?_, hS2⟩
      · intro x m
        rcases List.mem_append.mp m with m | m
        · exact hg x (hD.1 x m)
        · have : x = d := by simpa using m
          rw [this]; exact hd
      · rw [List.length_append]; simp only [List.length_cons, List.length_nil]; omega
    · k_whileD (way_ne c0) (way_ne c1) (way_ne c2) "w"
      k_whileD (way_ne c3) (way_ne c4) (show (w == ("instead" : Str)) = false from by rw [beq_eq_false_iff_ne]; exact hi) "w"
      refine ⟨by omega, by omega, ?_⟩
      exact last _ hS'
  · k_whileD (way_ne c0) (way_ne c1) (way_ne c2) "w"
    k_whileD (way_ne c3) (way_ne c4) (way_ne c5) "w"
    refine ⟨by omega, by omega, ?_⟩
    exact last _ hS'
theorem l_bent {x : D} (hx : isDeed x = true) (hg : gd 4 x = true) (hS : Bag S) : wF (G (n + 6) (.fn "_law_bent") [.mut 0, x] S) fun d S' => gd 5 d = true ∧ Bag S' := by
  obtain ⟨w, items, rfl⟩ := deed_is hx
  have h1 := (gd_tup hg).1
  refine l_bentG (n := n + 1) (K := 4) (by omega) ?_ (fun d m => gd_up (h1 d m)) (deed_len hx) hS
  intro hw
  subst hw
  obtain ⟨a, b, rfl, hb⟩ := instead_is hx
  refine ⟨a, b, rfl, fun S hS => ?_⟩
  obtain ⟨v, l, rfl, _, hv⟩ := plain_is hb
  have hb2 : isDeed (.tup (.str v :: l)) = true := by unfold isDeed; rw [hb]; rfl
  have h2 := h1 (.tup (.str v :: l)) (by simp)
  exact l_bentG (n := n) (K := 3) (by omega) (fun z => absurd z hv) (fun d m => gd_up ((gd_tup h2).1 d m)) (deed_len hb2) hS
end
end R.M
end
section
set_option Elab.async false
set_option linter.all false
set_option maxRecDepth 100000
set_option maxHeartbeats 4000000
namespace R.M
open PySem L2
section
variable {ds : List D} {b : Bool} {lo hi : Option Int}
theorem is_ln : isD (.lst ds) .non = some false := rfl
theorem is_bn : isD (.bl b) .non = some false := rfl
theorem is_bb {c : Bool} : isD (.bl b) (.bl c) = some (decide (b = c)) := rfl
theorem i_ld : isiD (.lst ds) (.ty "dict") = some false := rfl
theorem i_lt : isiD (.lst ds) (.tup [.ty "list", .ty "tuple"]) = some true := rfl
theorem i_ll : isiD (.lst ds) (.ty "list") = some true := rfl
theorem i_lu : isiD (.lst ds) (.ty "tuple") = some false := rfl
theorem i_bd : isiD (.bl b) (.ty "dict") = some false := rfl
theorem i_bt : isiD (.bl b) (.tup [.ty "list", .ty "tuple"]) = some false := rfl
theorem i_bb : isiD (.bl b) (.ty "bool") = some true := rfl
theorem i_bi : isiD (.bl b) (.ty "int") = some true := rfl
theorem i_bs : isiD (.bl b) (.ty "str") = some false := rfl
theorem sl_l : sliceD (.lst ds) lo hi = some (.lst (cutL ds lo hi)) := rfl
theorem list_lst : listD (.lst ds) = some ds := rfl
end
theorem cut_map {α β : Type} {f : α → β} {l : List α} {lo hi : Option Int} : cutL (l.map f) lo hi = (cutL l lo hi).map f := by
  unfold cutL
  rw [List.length_map, List.map_take, List.map_drop]
def five : List D := (Str.ofString "bcdef").cps.toList.map fun c => .tup [.str ⟨#[c]⟩, .int 1]
local macro_rules | `(tactic| walk_at "w") => `(tactic| simp (config := {failIfUnchanged := false, implicitDefEqProofs := false}) only [eq_nil, v_FORMS, v_DIFF, in_FORMS, item_FORMS, in_DIFF, item_DIFF, setPar_nil, setPar_v, setPar_o, sl_10, sl_01, zp_tt, zp_ll, freeAt, Option.isSome_some, Option.isSome_none, Option.map_some, Option.map_none, List.drop_succ_cons, List.drop_zero, len_s, ty_dic, ty_sh, ty_un, v_sh, v_un, get_sh, get_un, is_nn, is_tn, s_name_name, s_name_bool, s_name_share, s_name_lot, s_name_deed, s_name_cells, s_name_heirs, s_bool_name, s_bool_bool, s_bool_share, s_bool_lot, s_bool_deed, s_bool_cells, s_bool_heirs, s_number_name, s_number_bool, s_number_share, s_number_lot, s_number_deed, s_number_cells, s_number_heirs, s_amount_name, s_amount_bool, s_amount_share, s_amount_lot, s_amount_deed, s_amount_cells, s_amount_heirs, s_day_name, s_day_bool, s_day_share, s_day_lot, s_day_deed, s_day_cells, s_day_heirs, s_share_name, s_share_bool, s_share_share, s_share_lot, s_share_deed, s_share_cells, s_share_heirs, s_lot_name, s_lot_bool, s_lot_share, s_lot_lot, s_lot_deed, s_lot_cells, s_lot_heirs, s_deed_name, s_deed_bool, s_deed_share, s_deed_lot, s_deed_deed, s_deed_cells, s_deed_heirs, s_heirs_name, s_heirs_bool, s_heirs_share, s_heirs_lot, s_heirs_deed, s_heirs_cells, s_heirs_heirs, s_cells_name, s_cells_bool, s_cells_share, s_cells_lot, s_cells_deed, s_cells_cells, s_cells_heirs, i_name, i_bool, i_number, i_amount, i_day, i_share, i_lot, i_deed, i_heirs, i_cells, in_si, al1, al2, ↓ch_w, chS_o, chS_m, ↓chS_o, ↓chS_m, chL_l, ↓chL_l, v_mut, mvD_l, put1, put2, put3, put4, abs_i, int_i, neg_i, app_w, ins_w, ty_str, ty_lst, item_si, list_str, list_tup, tup_lst, wS_fld, onOO_o, ↓onOO_o, flI_nx, objAt_oo, Fl_t, Fl_b, putD_n, putD_b, list_sh, item_sh, in_si, in_si, sh_1_61, sh_3_2, sh_0_1, sh_m1_2, sh_1_1, sh_1_60, sl_t, is_ln, is_bn, is_bb, i_ld, i_lt, i_ll, i_lu, i_bd, i_bt, i_bb, i_bi, i_bs, sl_l, list_lst, List.length_append, ↓oP_some, ↓onB_some, ↓onS_some, ↓onNx_nx, ↓onNx_ret, ↓onNx_brk, ↓onNx_ct, ↓rdS_v, ↓rdS_ol, ↓onI_int, ↓onFn_fn, ↓onLst_l, ↓wF_ret, ↓wR_ok, ↓wR_ofO, ↓if_true, ↓if_false, ↓flF_ret, ↓flF_nx, oP_some, onB_some, onS_some, onNx_nx, onNx_ret, onNx_brk, onNx_ct, rdS_v, rdS_ol, onI_int, onFn_fn, onLst_l, wF_ret, wR_ok, wR_ofO, if_true, if_false, flF_ret, flF_nx, wR_ok, wR_no, wR_ofO, ↓wE_var, ↓wE_const, ↓wE_prim, ↓wE_slice, ↓wE_meth, ↓wE_mprim, ↓wE_tup, ↓wE_lst, ↓wE_cell, ↓wE_dic, ↓wE_and, ↓wE_or, ↓wE_not, ↓wE_if, ↓wE_chain, ↓wE_call, ↓wE_new, ↓wE_callv, onFn_fn, ↓wE_comp, ↓wE_scomp, ↓turnC_w, ↓wL_nil, ↓wL_cons, ↓wV_nil, ↓wV_cons, onI_int, ↓wP_nil, ↓wP_cons, ↓wCh_one, ↓wCh_more, ↓wIf_nil, ↓wIf_cons, ↓wI_seq, ↓wI_range, ↓wI_zip, ↓wA_peek, ↓wA_const, ↓wA_prim, ↓wA_slice, ↓wA_meth, ↓wA_mprim, ↓wA_tup, ↓wA_lst, ↓wA_cell, ↓wA_dic, ↓wA_and, ↓wA_or, ↓wA_not, ↓wA_ifE, ↓wA_chain, ↓wA_call, ↓wA_callv, ↓wA_new, ↓wA_comp, ↓wA_scomp, ↓wA_var, ↓look_nil, ↓look_cons, lookAV_d, lookAV_pk, slV_v, slV_ol, slV_oo, ↓rd_w, rdS_v, rdS_ol, ↓wS_asg, ↓wS_asgO, onLst_l, ↓wS_par, ↓wS_put, ↓wS_expr, ↓wS_ret, ↓wS_ite, ↓wS_for, ↓bodyS_w, ↓wS_while, ↓wS_pass, ↓wS_retN, ↓wS_brk, ↓wS_cont, ↓wB_nil, ↓wB_cons, flF_nx, flF_ret, onNx_nx, onNx_ret, onNx_brk, onNx_ct, onB_some, oP_some, oP_none, oP_blO, oP_notO, oP_lstO, onS_some, wF_ret, p_isi, p_eq, p_ne, p_lt, p_le, p_gt, p_ge, p_is, p_isnot, p_in, p_notin, p_item, p_len, p_all, p_any, p_add, p_sub, p_mul, p_fdiv, p_mod, p_pow, p_neg, p_abs, p_int, p_join, p_get2, p_get3, p_list, p_tuple, p_sorted, p_set, p_dict, p_attr, tru_bl, tru_non, v_non, v_bl, v_int, v_str, v_ty, v_fn, v_cls, v_tup, v_lst, v_dic, v_set, v_obj, lt_ii, le_ii, lt_ss, len_str, len_tup, len_lst, len_set, len_dic, sub_ii, add_ii, seq_str, seq_tup, seq_lst, item_ti, item_li, eq_ii, eq_ss, eq_bb, all_bls, ↓bindT_nm, ↓bindT_tup, ↓bindTs_nil, ↓bindTs_cons, List.all_cons, List.all_nil, List.set_cons_zero, List.set_cons_succ, List.getElem?_cons_zero, List.getElem?_cons_succ, List.getElem?_nil, wipeE, backE, List.foldl_cons, List.foldl_nil, Option.getD_some, List.length_cons, List.length_nil, List.length_set, Nat.reduceSub, Nat.reduceAdd, Nat.reduceLT, Nat.reduceLeDiff, List.replicate_succ, List.replicate_zero, List.map_cons, List.map_nil, List.nil_append, List.cons_append, List.append_nil, env0, decide_true, decide_false, Bool.and_true, Bool.true_and, Bool.not_true, Bool.not_false, Bool.false_eq_true, if_true, if_false, true_and, and_true, decide_eq_true_eq, Nat.zero_lt_succ, Nat.succ_lt_succ_iff, rng_w1, rng_w2, mul_w, fdiv_w, mod_w, pow_w, adds_w, addt_w, addl_w, atI_l0, atI_l1, atI_l2, atI_l3, atI_l4, nc0, nc1, nc2, nc3, nc4, nc5, nc6, nc7, Int.reduceBEq, noOwn_nil, noOwn_cons, ownF_v, ownF_n, ownF_vs])
local macro_rules | `(tactic| k_search $a) => `(tactic| simp (config := {failIfUnchanged := false, implicitDefEqProofs := false}) only [$a:term, eq_nil, v_FORMS, v_DIFF, in_FORMS, item_FORMS, in_DIFF, item_DIFF, setPar_nil, setPar_v, setPar_o, sl_10, sl_01, zp_tt, zp_ll, freeAt, Option.isSome_some, Option.isSome_none, Option.map_some, Option.map_none, List.drop_succ_cons, List.drop_zero, len_s, ty_dic, ty_sh, ty_un, v_sh, v_un, get_sh, get_un, is_nn, is_tn, s_name_name, s_name_bool, s_name_share, s_name_lot, s_name_deed, s_name_cells, s_name_heirs, s_bool_name, s_bool_bool, s_bool_share, s_bool_lot, s_bool_deed, s_bool_cells, s_bool_heirs, s_number_name, s_number_bool, s_number_share, s_number_lot, s_number_deed, s_number_cells, s_number_heirs, s_amount_name, s_amount_bool, s_amount_share, s_amount_lot, s_amount_deed, s_amount_cells, s_amount_heirs, s_day_name, s_day_bool, s_day_share, s_day_lot, s_day_deed, s_day_cells, s_day_heirs, s_share_name, s_share_bool, s_share_share, s_share_lot, s_share_deed, s_share_cells, s_share_heirs, s_lot_name, s_lot_bool, s_lot_share, s_lot_lot, s_lot_deed, s_lot_cells, s_lot_heirs, s_deed_name, s_deed_bool, s_deed_share, s_deed_lot, s_deed_deed, s_deed_cells, s_deed_heirs, s_heirs_name, s_heirs_bool, s_heirs_share, s_heirs_lot, s_heirs_deed, s_heirs_cells, s_heirs_heirs, s_cells_name, s_cells_bool, s_cells_share, s_cells_lot, s_cells_deed, s_cells_cells, s_cells_heirs, i_name, i_bool, i_number, i_amount, i_day, i_share, i_lot, i_deed, i_heirs, i_cells, in_si, al1, al2, ↓ch_w, chS_o, chS_m, ↓chS_o, ↓chS_m, chL_l, ↓chL_l, v_mut, mvD_l, put1, put2, put3, put4, abs_i, int_i, neg_i, app_w, ins_w, ty_str, ty_lst, item_si, list_str, list_tup, tup_lst, wS_fld, onOO_o, ↓onOO_o, flI_nx, objAt_oo, Fl_t, Fl_b, putD_n, putD_b, list_sh, item_sh, in_si, in_si, sh_1_61, sh_3_2, sh_0_1, sh_m1_2, sh_1_1, sh_1_60, sl_t, is_ln, is_bn, is_bb, i_ld, i_lt, i_ll, i_lu, i_bd, i_bt, i_bb, i_bi, i_bs, sl_l, list_lst, List.length_append, ↓oP_some, ↓onB_some, ↓onS_some, ↓onNx_nx, ↓onNx_ret, ↓onNx_brk, ↓onNx_ct, ↓rdS_v, ↓rdS_ol, ↓onI_int, ↓onFn_fn, ↓onLst_l, ↓wF_ret, ↓wR_ok, ↓wR_ofO, ↓if_true, ↓if_false, ↓flF_ret, ↓flF_nx, oP_some, onB_some, onS_some, onNx_nx, onNx_ret, onNx_brk, onNx_ct, rdS_v, rdS_ol, onI_int, onFn_fn, onLst_l, wF_ret, wR_ok, wR_ofO, if_true, if_false, flF_ret, flF_nx, wR_ok, wR_no, wR_ofO, ↓wE_var, ↓wE_const, ↓wE_prim, ↓wE_slice, ↓wE_meth, ↓wE_mprim, ↓wE_tup, ↓wE_lst, ↓wE_cell, ↓wE_dic, ↓wE_and, ↓wE_or, ↓wE_not, ↓wE_if, ↓wE_chain, ↓wE_call, ↓wE_new, ↓wE_callv, onFn_fn, ↓wE_comp, ↓wE_scomp, ↓turnC_w, ↓wL_nil, ↓wL_cons, ↓wV_nil, ↓wV_cons, onI_int, ↓wP_nil, ↓wP_cons, ↓wCh_one, ↓wCh_more, ↓wIf_nil, ↓wIf_cons, ↓wI_seq, ↓wI_range, ↓wI_zip, ↓wA_peek, ↓wA_const, ↓wA_prim, ↓wA_slice, ↓wA_meth, ↓wA_mprim, ↓wA_tup, ↓wA_lst, ↓wA_cell, ↓wA_dic, ↓wA_and, ↓wA_or, ↓wA_not, ↓wA_ifE, ↓wA_chain, ↓wA_call, ↓wA_callv, ↓wA_new, ↓wA_comp, ↓wA_scomp, ↓wA_var, ↓look_nil, ↓look_cons, lookAV_d, lookAV_pk, slV_v, slV_ol, slV_oo, ↓rd_w, rdS_v, rdS_ol, ↓wS_asg, ↓wS_asgO, onLst_l, ↓wS_par, ↓wS_put, ↓wS_expr, ↓wS_ret, ↓wS_ite, ↓wS_for, ↓bodyS_w, ↓wS_while, ↓wS_pass, ↓wS_retN, ↓wS_brk, ↓wS_cont, ↓wB_nil, ↓wB_cons, flF_nx, flF_ret, onNx_nx, onNx_ret, onNx_brk, onNx_ct, onB_some, oP_some, oP_none, oP_blO, oP_notO, oP_lstO, onS_some, wF_ret, p_isi, p_eq, p_ne, p_lt, p_le, p_gt, p_ge, p_is, p_isnot, p_in, p_notin, p_item, p_len, p_all, p_any, p_add, p_sub, p_mul, p_fdiv, p_mod, p_pow, p_neg, p_abs, p_int, p_join, p_get2, p_get3, p_list, p_tuple, p_sorted, p_set, p_dict, p_attr, tru_bl, tru_non, v_non, v_bl, v_int, v_str, v_ty, v_fn, v_cls, v_tup, v_lst, v_dic, v_set, v_obj, lt_ii, le_ii, lt_ss, len_str, len_tup, len_lst, len_set, len_dic, sub_ii, add_ii, seq_str, seq_tup, seq_lst, item_ti, item_li, eq_ii, eq_ss, eq_bb, all_bls, ↓bindT_nm, ↓bindT_tup, ↓bindTs_nil, ↓bindTs_cons, List.all_cons, List.all_nil, List.set_cons_zero, List.set_cons_succ, List.getElem?_cons_zero, List.getElem?_cons_succ, List.getElem?_nil, wipeE, backE, List.foldl_cons, List.foldl_nil, Option.getD_some, List.length_cons, List.length_nil, List.length_set, Nat.reduceSub, Nat.reduceAdd, Nat.reduceLT, Nat.reduceLeDiff, List.replicate_succ, List.replicate_zero, List.map_cons, List.map_nil, List.nil_append, List.cons_append, List.append_nil, env0, decide_true, decide_false, Bool.and_true, Bool.true_and, Bool.not_true, Bool.not_false, Bool.false_eq_true, if_true, if_false, true_and, and_true, decide_eq_true_eq, Nat.zero_lt_succ, Nat.succ_lt_succ_iff, rng_w1, rng_w2, mul_w, fdiv_w, mod_w, pow_w, adds_w, addt_w, addl_w, atI_l0, atI_l1, atI_l2, atI_l3, atI_l4, nc0, nc1, nc2, nc3, nc4, nc5, nc6, nc7, Int.reduceBEq, noOwn_nil, noOwn_cons, ownF_v, ownF_n, ownF_vs])
local macro_rules | `(tactic| ktr_call $a $b) => `(tactic| simp (config := {failIfUnchanged := false, implicitDefEqProofs := false}) only [$a:term, $b:term, eq_nil, v_FORMS, v_DIFF, in_FORMS, item_FORMS, in_DIFF, item_DIFF, setPar_nil, setPar_v, setPar_o, sl_10, sl_01, zp_tt, zp_ll, freeAt, Option.isSome_some, Option.isSome_none, Option.map_some, Option.map_none, List.drop_succ_cons, List.drop_zero, len_s, ty_dic, ty_sh, ty_un, v_sh, v_un, get_sh, get_un, is_nn, is_tn, s_name_name, s_name_bool, s_name_share, s_name_lot, s_name_deed, s_name_cells, s_name_heirs, s_bool_name, s_bool_bool, s_bool_share, s_bool_lot, s_bool_deed, s_bool_cells, s_bool_heirs, s_number_name, s_number_bool, s_number_share, s_number_lot, s_number_deed, s_number_cells, s_number_heirs, s_amount_name, s_amount_bool, s_amount_share, s_amount_lot, s_amount_deed, s_amount_cells, s_amount_heirs, s_day_name, s_day_bool, s_day_share, s_day_lot, s_day_deed, s_day_cells, s_day_heirs, s_share_name, s_share_bool, s_share_share, s_share_lot, s_share_deed, s_share_cells, s_share_heirs, s_lot_name, s_lot_bool, s_lot_share, s_lot_lot, s_lot_deed, s_lot_cells, s_lot_heirs, s_deed_name, s_deed_bool, s_deed_share, s_deed_lot, s_deed_deed, s_deed_cells, s_deed_heirs, s_heirs_name, s_heirs_bool, s_heirs_share, s_heirs_lot, s_heirs_deed, s_heirs_cells, s_heirs_heirs, s_cells_name, s_cells_bool, s_cells_share, s_cells_lot, s_cells_deed, s_cells_cells, s_cells_heirs, i_name, i_bool, i_number, i_amount, i_day, i_share, i_lot, i_deed, i_heirs, i_cells, in_si, al1, al2, ↓ch_w, chS_o, chS_m, ↓chS_o, ↓chS_m, chL_l, ↓chL_l, v_mut, mvD_l, put1, put2, put3, put4, abs_i, int_i, neg_i, app_w, ins_w, ty_str, ty_lst, item_si, list_str, list_tup, tup_lst, wS_fld, onOO_o, ↓onOO_o, flI_nx, objAt_oo, Fl_t, Fl_b, putD_n, putD_b, list_sh, item_sh, in_si, in_si, sh_1_61, sh_3_2, sh_0_1, sh_m1_2, sh_1_1, sh_1_60, sl_t, is_ln, is_bn, is_bb, i_ld, i_lt, i_ll, i_lu, i_bd, i_bt, i_bb, i_bi, i_bs, sl_l, list_lst, List.length_append, ↓oP_some, ↓onB_some, ↓onS_some, ↓onNx_nx, ↓onNx_ret, ↓onNx_brk, ↓onNx_ct, ↓rdS_v, ↓rdS_ol, ↓onI_int, ↓onFn_fn, ↓onLst_l, ↓wF_ret, ↓wR_ok, ↓wR_ofO, ↓if_true, ↓if_false, ↓flF_ret, ↓flF_nx, oP_some, onB_some, onS_some, onNx_nx, onNx_ret, onNx_brk, onNx_ct, rdS_v, rdS_ol, onI_int, onFn_fn, onLst_l, wF_ret, wR_ok, wR_ofO, if_true, if_false, flF_ret, flF_nx, wR_ok, wR_no, wR_ofO, ↓wE_var, ↓wE_const, ↓wE_prim, ↓wE_slice, ↓wE_meth, ↓wE_mprim, ↓wE_tup, ↓wE_lst, ↓wE_cell, ↓wE_dic, ↓wE_and, ↓wE_or, ↓wE_not, ↓wE_if, ↓wE_chain, ↓wE_call, ↓wE_new, ↓wE_callv, onFn_fn, ↓wE_comp, ↓wE_scomp, ↓turnC_w, ↓wL_nil, ↓wL_cons, ↓wV_nil, ↓wV_cons, onI_int, ↓wP_nil, ↓wP_cons, ↓wCh_one, ↓wCh_more, ↓wIf_nil, ↓wIf_cons, ↓wI_seq, ↓wI_range, ↓wI_zip, ↓wA_peek, ↓wA_const, ↓wA_prim, ↓wA_slice, ↓wA_meth, ↓wA_mprim, ↓wA_tup, ↓wA_lst, ↓wA_cell, ↓wA_dic, ↓wA_and, ↓wA_or, ↓wA_not, ↓wA_ifE, ↓wA_chain, ↓wA_call, ↓wA_callv, ↓wA_new, ↓wA_comp, ↓wA_scomp, ↓wA_var, ↓look_nil, ↓look_cons, lookAV_d, lookAV_pk, slV_v, slV_ol, slV_oo, ↓rd_w, rdS_v, rdS_ol, ↓wS_asg, ↓wS_asgO, onLst_l, ↓wS_par, ↓wS_put, ↓wS_expr, ↓wS_ret, ↓wS_ite, ↓wS_for, ↓bodyS_w, ↓wS_while, ↓wS_pass, ↓wS_retN, ↓wS_brk, ↓wS_cont, ↓wB_nil, ↓wB_cons, flF_nx, flF_ret, onNx_nx, onNx_ret, onNx_brk, onNx_ct, onB_some, oP_some, oP_none, oP_blO, oP_notO, oP_lstO, onS_some, wF_ret, p_isi, p_eq, p_ne, p_lt, p_le, p_gt, p_ge, p_is, p_isnot, p_in, p_notin, p_item, p_len, p_all, p_any, p_add, p_sub, p_mul, p_fdiv, p_mod, p_pow, p_neg, p_abs, p_int, p_join, p_get2, p_get3, p_list, p_tuple, p_sorted, p_set, p_dict, p_attr, tru_bl, tru_non, v_non, v_bl, v_int, v_str, v_ty, v_fn, v_cls, v_tup, v_lst, v_dic, v_set, v_obj, lt_ii, le_ii, lt_ss, len_str, len_tup, len_lst, len_set, len_dic, sub_ii, add_ii, seq_str, seq_tup, seq_lst, item_ti, item_li, eq_ii, eq_ss, eq_bb, all_bls, ↓bindT_nm, ↓bindT_tup, ↓bindTs_nil, ↓bindTs_cons, List.all_cons, List.all_nil, List.set_cons_zero, List.set_cons_succ, List.getElem?_cons_zero, List.getElem?_cons_succ, List.getElem?_nil, wipeE, backE, List.foldl_cons, List.foldl_nil, Option.getD_some, List.length_cons, List.length_nil, List.length_set, Nat.reduceSub, Nat.reduceAdd, Nat.reduceLT, Nat.reduceLeDiff, List.replicate_succ, List.replicate_zero, List.map_cons, List.map_nil, List.nil_append, List.cons_append, List.append_nil, env0, decide_true, decide_false, Bool.and_true, Bool.true_and, Bool.not_true, Bool.not_false, Bool.false_eq_true, if_true, if_false, true_and, and_true, decide_eq_true_eq, Nat.zero_lt_succ, Nat.succ_lt_succ_iff, rng_w1, rng_w2, mul_w, fdiv_w, mod_w, pow_w, adds_w, addt_w, addl_w, atI_l0, atI_l1, atI_l2, atI_l3, atI_l4, nc0, nc1, nc2, nc3, nc4, nc5, nc6, nc7, Int.reduceBEq, noOwn_nil, noOwn_cons, ownF_v, ownF_n, ownF_vs])
local macro_rules | `(tactic| k_whileD $a $b $c "w") => `(tactic| simp (config := {failIfUnchanged := false, implicitDefEqProofs := false}) only [$a:term, $b:term, $c:term, eq_nil, v_FORMS, v_DIFF, in_FORMS, item_FORMS, in_DIFF, item_DIFF, setPar_nil, setPar_v, setPar_o, sl_10, sl_01, zp_tt, zp_ll, freeAt, Option.isSome_some, Option.isSome_none, Option.map_some, Option.map_none, List.drop_succ_cons, List.drop_zero, len_s, ty_dic, ty_sh, ty_un, v_sh, v_un, get_sh, get_un, is_nn, is_tn, s_name_name, s_name_bool, s_name_share, s_name_lot, s_name_deed, s_name_cells, s_name_heirs, s_bool_name, s_bool_bool, s_bool_share, s_bool_lot, s_bool_deed, s_bool_cells, s_bool_heirs, s_number_name, s_number_bool, s_number_share, s_number_lot, s_number_deed, s_number_cells, s_number_heirs, s_amount_name, s_amount_bool, s_amount_share, s_amount_lot, s_amount_deed, s_amount_cells, s_amount_heirs, s_day_name, s_day_bool, s_day_share, s_day_lot, s_day_deed, s_day_cells, s_day_heirs, s_share_name, s_share_bool, s_share_share, s_share_lot, s_share_deed, s_share_cells, s_share_heirs, s_lot_name, s_lot_bool, s_lot_share, s_lot_lot, s_lot_deed, s_lot_cells, s_lot_heirs, s_deed_name, s_deed_bool, s_deed_share, s_deed_lot, s_deed_deed, s_deed_cells, s_deed_heirs, s_heirs_name, s_heirs_bool, s_heirs_share, s_heirs_lot, s_heirs_deed, s_heirs_cells, s_heirs_heirs, s_cells_name, s_cells_bool, s_cells_share, s_cells_lot, s_cells_deed, s_cells_cells, s_cells_heirs, i_name, i_bool, i_number, i_amount, i_day, i_share, i_lot, i_deed, i_heirs, i_cells, in_si, al1, al2, ↓ch_w, chS_o, chS_m, ↓chS_o, ↓chS_m, chL_l, ↓chL_l, v_mut, mvD_l, put1, put2, put3, put4, abs_i, int_i, neg_i, app_w, ins_w, ty_str, ty_lst, item_si, list_str, list_tup, tup_lst, wS_fld, onOO_o, ↓onOO_o, flI_nx, objAt_oo, Fl_t, Fl_b, putD_n, putD_b, list_sh, item_sh, in_si, in_si, sh_1_61, sh_3_2, sh_0_1, sh_m1_2, sh_1_1, sh_1_60, sl_t, is_ln, is_bn, is_bb, i_ld, i_lt, i_ll, i_lu, i_bd, i_bt, i_bb, i_bi, i_bs, sl_l, list_lst, List.length_append, ↓oP_some, ↓onB_some, ↓onS_some, ↓onNx_nx, ↓onNx_ret, ↓onNx_brk, ↓onNx_ct, ↓rdS_v, ↓rdS_ol, ↓onI_int, ↓onFn_fn, ↓onLst_l, ↓wF_ret, ↓wR_ok, ↓wR_ofO, ↓if_true, ↓if_false, ↓flF_ret, ↓flF_nx, oP_some, onB_some, onS_some, onNx_nx, onNx_ret, onNx_brk, onNx_ct, rdS_v, rdS_ol, onI_int, onFn_fn, onLst_l, wF_ret, wR_ok, wR_ofO, if_true, if_false, flF_ret, flF_nx, wR_ok, wR_no, wR_ofO, ↓wE_var, ↓wE_const, ↓wE_prim, ↓wE_slice, ↓wE_meth, ↓wE_mprim, ↓wE_tup, ↓wE_lst, ↓wE_cell, ↓wE_dic, ↓wE_and, ↓wE_or, ↓wE_not, ↓wE_if, ↓wE_chain, ↓wE_call, ↓wE_new, ↓wE_callv, onFn_fn, ↓wE_comp, ↓wE_scomp, ↓turnC_w, ↓wL_nil, ↓wL_cons, ↓wV_nil, ↓wV_cons, onI_int, ↓wP_nil, ↓wP_cons, ↓wCh_one, ↓wCh_more, ↓wIf_nil, ↓wIf_cons, ↓wI_seq, ↓wI_range, ↓wI_zip, ↓wA_peek, ↓wA_const, ↓wA_prim, ↓wA_slice, ↓wA_meth, ↓wA_mprim, ↓wA_tup, ↓wA_lst, ↓wA_cell, ↓wA_dic, ↓wA_and, ↓wA_or, ↓wA_not, ↓wA_ifE, ↓wA_chain, ↓wA_call, ↓wA_callv, ↓wA_new, ↓wA_comp, ↓wA_scomp, ↓wA_var, ↓look_nil, ↓look_cons, lookAV_d, lookAV_pk, slV_v, slV_ol, slV_oo, ↓rd_w, rdS_v, rdS_ol, ↓wS_asg, ↓wS_asgO, onLst_l, ↓wS_par, ↓wS_put, ↓wS_expr, ↓wS_ret, ↓wS_ite, ↓wS_for, ↓bodyS_w, ↓wS_while, ↓wS_pass, ↓wS_retN, ↓wS_brk, ↓wS_cont, ↓wB_nil, ↓wB_cons, flF_nx, flF_ret, onNx_nx, onNx_ret, onNx_brk, onNx_ct, onB_some, oP_some, oP_none, oP_blO, oP_notO, oP_lstO, onS_some, wF_ret, p_isi, p_eq, p_ne, p_lt, p_le, p_gt, p_ge, p_is, p_isnot, p_in, p_notin, p_item, p_len, p_all, p_any, p_add, p_sub, p_mul, p_fdiv, p_mod, p_pow, p_neg, p_abs, p_int, p_join, p_get2, p_get3, p_list, p_tuple, p_sorted, p_set, p_dict, p_attr, tru_bl, tru_non, v_non, v_bl, v_int, v_str, v_ty, v_fn, v_cls, v_tup, v_lst, v_dic, v_set, v_obj, lt_ii, le_ii, lt_ss, len_str, len_tup, len_lst, len_set, len_dic, sub_ii, add_ii, seq_str, seq_tup, seq_lst, item_ti, item_li, eq_ii, eq_ss, eq_bb, all_bls, ↓bindT_nm, ↓bindT_tup, ↓bindTs_nil, ↓bindTs_cons, List.all_cons, List.all_nil, List.set_cons_zero, List.set_cons_succ, List.getElem?_cons_zero, List.getElem?_cons_succ, List.getElem?_nil, wipeE, backE, List.foldl_cons, List.foldl_nil, Option.getD_some, List.length_cons, List.length_nil, List.length_set, Nat.reduceSub, Nat.reduceAdd, Nat.reduceLT, Nat.reduceLeDiff, List.replicate_succ, List.replicate_zero, List.map_cons, List.map_nil, List.nil_append, List.cons_append, List.append_nil, env0, decide_true, decide_false, Bool.and_true, Bool.true_and, Bool.not_true, Bool.not_false, Bool.false_eq_true, if_true, if_false, true_and, and_true, decide_eq_true_eq, Nat.zero_lt_succ, Nat.succ_lt_succ_iff, rng_w1, rng_w2, mul_w, fdiv_w, mod_w, pow_w, adds_w, addt_w, addl_w, atI_l0, atI_l1, atI_l2, atI_l3, atI_l4, nc0, nc1, nc2, nc3, nc4, nc5, nc6, nc7, Int.reduceBEq, noOwn_nil, noOwn_cons, ownF_v, ownF_n, ownF_vs])
section
variable {n : Nat} {S : Sto}
theorem same_b {b : Bool} : G (n + 1) (.fn "_law_same") [.bl b, .bl b] S = .ret (.bl true) S := by
  rw [wF_eq, G_fn (c := c__law_same) rfl rfl rfl (by decide)]
  simp only [c__law_same]
  walk_at "w"
  cases b <;> simp
theorem same_l {bs : List Bool} (h : bs.length ≤ 20) : G (n + 2) (.fn "_law_same") [.lst (bs.map .bl), .lst (bs.map .bl)] S = .ret (.bl true) S := by
  rw [wF_eq, G_fn (c := c__law_same) rfl rfl rfl (by decide)]
  simp only [c__law_same]
  have e1 : (!true == true) = false := rfl
  have e2 : (!false == false) = false := rfl
  k_whileD e1 e2 (beq_self_eq_true (((bs.map D.bl).length : Nat) : Int)) "w"
  rw [zip_map]
  refine comp_map (fun p : Bool × Bool => .tup [.bl p.1, .bl p.2]) (fun _ => .bl true) (bs.zip bs) ?_ (fun p m => ?_) ?_
  · rw [List.length_zip, sizeLine_eq]; omega
  · have : p.1 = p.2 := by
      obtain ⟨i, hi, e⟩ := List.getElem_of_mem m
      rw [List.getElem_zip] at e
      rw [← e]
    obtain ⟨p1, p2⟩ := p
    simp only at this
    subst this
    k_search same_b
  · rw [all_bls]
    walk_at "w"
    simp
theorem l_open {cs : List Int} (h : cs.length ≤ 1000) : wF (G (n + 1) (.fn "_law_open") [.lst (cs.map .int)] []) fun d S' => d = .mut 0 ∧ Bag S' := by
  rw [G_fn (c := c__law_open) rfl rfl rfl (by decide)]
  simp only [c__law_open]
  walk_at "w"
  refine ⟨by decide, by decide, ?_⟩
  rw [cut_map]
  refine loopS_inv (fun ds ρ S => ∃ (m : Int) (o : Option D), ρ = [some (.v (.lst (cs.map .int))), some (.v (.int m)), vs o] ∧ 0 ≤ m ∧ m < 2147483648 ∧ (∀ d ∈ ds, ∃ i, d = .int i) ∧ S = []) ?_ ?_ _ _ _ ⟨12030, none, rfl, by decide, by decide, ?_, rfl⟩
  · rintro ρ S ⟨m, o, rfl, m0, m1, _, rfl⟩
    walk_at "w"
    refine ⟨by decide, by decide, ?_⟩
    rw [cut_map]
    exact bag_of (by omega) (by omega) (by omega) m0 m1
  · rintro d r ρ S ⟨m, o, rfl, m0, m1, h3, rfl⟩
    obtain ⟨i, rfl⟩ := h3 d List.mem_cons_self
    walk_at "w"
    have e := dr_mod (x := m * 52391 + i % 1000313 * 881 + 41)
    exact ⟨.inr (by decide), by decide, .inr (by decide), by decide, _, some (.int i), rfl, e.1, e.2, fun d m => h3 d (List.mem_cons_of_mem _ m)⟩
  · intro d m
    obtain ⟨i, _, rfl⟩ := List.mem_map.mp m
    exact ⟨i, rfl⟩
theorem corr_w {w : Str} {items : List D} (h : isDeed (.tup (.str w :: items)) = true) : isCorr (.tup (.str w :: items)) = (("strike" : Str) == w || ("instead" : Str) == w) := by
  rw [si_beq]
  cases e : isCorr (.tup (.str w :: items)) with
  | true =>
    obtain ⟨v, l, q, z⟩ := corr_is e
    cases q
    rcases z with rfl | rfl <;> decide +kernel
  | false =>
    unfold isDeed at h
    rw [e, Bool.or_false] at h
    obtain ⟨v, l, q, h1, h2⟩ := plain_is h
    cases q
    rw [decide_eq_false h1, decide_eq_false h2]
    rfl
theorem same2 {a b : Bool} : G (n + 2) (.fn "_law_same") [.lst [.bl a, .bl b], .lst [.bl a, .bl b]] S = .ret (.bl true) S := same_l (bs := [a, b]) (by simp)
theorem same3 {a b c : Bool} : G (n + 2) (.fn "_law_same") [.lst [.bl a, .bl b, .bl c], .lst [.bl a, .bl b, .bl c]] S = .ret (.bl true) S := same_l (bs := [a, b, c]) (by simp)
theorem same4 {a b c d : Bool} : G (n + 2) (.fn "_law_same") [.lst [.bl a, .bl b, .bl c, .bl d], .lst [.bl a, .bl b, .bl c, .bl d]] S = .ret (.bl true) S := same_l (bs := [a, b, c, d]) (by simp)
theorem l_law {cs : List Int} (h : cs.length ≤ 1000) : wF (G (n + 20) (.fn "law") [.lst (cs.map .int)] []) fun d S' => d = .bl true := by
  rw [G_fn (c := c_law) rfl rfl rfl (by decide)]
  simp only [c_law]
  walk_at "w"
  refine wF_mono (l_open h) ?_
  rintro d S ⟨rfl, hS⟩
  walk_at "w"
  refine ⟨by decide, ?_⟩
  refine loopS_inv (fun ds ρ S => ∃ (o2 o5 o6 o7 o8 o9 o10 : Option D), ρ = [some (.v (.lst (cs.map .int))), some (.v (.mut 0)), vs o2, none, none, vs o5, vs o6, vs o7, vs o8, vs o9, vs o10, none] ∧ Bag S) ?_ ?_ _ _ _ ⟨none, none, none, none, none, none, none, rfl, hS⟩
  · rintro ρ S ⟨o2, o5, o6, o7, o8, o9, o10, rfl, hS⟩
    walk_at "w"
    refine comp_map (fun c => D.str ⟨#[c]⟩) (fun c => .tup [.str ⟨#[c]⟩, .int 1]) _ (ne_len (a := 5) (by decide +kernel) (by omega)) (fun c _ => ?_) ?_
    · walk_at "w"
    · have f1 : ∀ S, G (n + 19) (.fn "is_deed") [.tup [.str "heirs", .str "a", .tup five]] S = .ret (.bl false) S := fun S => (g_deed (k := 5) (by decide +kernel)).trans (by rw [show isDeed (.tup [.str "heirs", .str "a", .tup five]) = false from by decide +kernel])
      have f2 : ∀ S, G (n + 19) (.fn "is_deed") [.tup [.str "heirs", .str "a", .tup (cutL five none (some 4))]] S = .ret (.bl true) S := fun S => (g_deed (k := 5) (by decide +kernel)).trans (by rw [show isDeed (.tup [.str "heirs", .str "a", .tup (cutL five none (some 4))]) = true from by decide +kernel])
      have f3 : ∀ S, G (n + 19) (.fn "is_correction") [.tup [.str "instead", .int 1, .tup [.str "heirs", .str "a", .tup five]]] S = .ret (.bl false) S := fun S => (g_corr (k := 5) (by decide +kernel)).trans (by rw [show isCorr (.tup [.str "instead", .int 1, .tup [.str "heirs", .str "a", .tup five]]) = false from by decide +kernel])
      have f4 : ∀ S, G (n + 19) (.fn "is_correction") [.tup [.str "instead", .int 1, .tup [.str "heirs", .str "a", .tup (cutL five none (some 4))]]] S = .ret (.bl true) S := fun S => (g_corr (k := 5) (by decide +kernel)).trans (by rw [show isCorr (.tup [.str "instead", .int 1, .tup [.str "heirs", .str "a", .tup (cutL five none (some 4))]]) = true from by decide +kernel])
      have f5 : ∀ S, G (n + 19) (.fn "is_deed") [.non] S = .ret (.bl false) S := fun S => g_deed (k := 0) rfl
      have f6 : ∀ S, G (n + 19) (.fn "is_correction") [.tup [.str "instead", .int 1, .tup [.str "instead", .int 1, .tup [.str "void", .int 1]]]] S = .ret (.bl false) S := fun S => (g_corr (k := 5) (by decide +kernel)).trans (by rw [show isCorr (.tup [.str "instead", .int 1, .tup [.str "instead", .int 1, .tup [.str "void", .int 1]]]) = false from by decide +kernel])
      rw [show (List.map (fun c => D.tup [D.str { cps := #[c] }, D.int 1]) (Str.ofString "bcdef").cps.toList) = five from rfl]
      k_whileD f1 f2 f3 "w"
      k_whileD f4 same4 f5 "w"
      k_whileD f6 same4 f5 "w"
      exact ⟨by decide, by decide, by decide, by decide⟩
  · rintro d r ρ S ⟨o2, o5, o6, o7, o8, o9, o10, rfl, hS⟩
    walk_at "w"
    refine wF_mono (sd_wide hS) ?_
    rintro act S' ⟨ha, hg, hS⟩
    obtain ⟨w, items, rfl⟩ := deed_is ha
    ktr_call (g_deed hg) (g_corr hg)
    rw [ha, corr_w ha]
    k_search same2
    refine ⟨by decide, ?_⟩
    refine loopS_inv (fun ds ρ S => ∃ (o6 o8 o9 o10 : Option D), ρ = [some (.v (.lst (cs.map .int))), some (.v (.mut 0)), some (.v d), none, none, some (.v (.tup (.str w :: items))), vs o6, vs o7, vs o8, vs o9, vs o10, none] ∧ Bag S) ?_ ?_ _ _ _ ⟨o6, o8, o9, o10, rfl, hS⟩
    · rintro ρ S ⟨o6, o8, o9, o10, rfl, hS⟩
      walk_at "w"
      refine wF_mono (l_odd hS) ?_
      rintro x S' ⟨hx, hS⟩
      have hg3 := odd_gd hx
      have ld : ∀ S, G (n + 19) (.fn "_law_is_deed") [x] S = .ret (.bl (isDeed x)) S := fun S => l_deed (n := n + 10) (k := 3) hg3
      have hx2 : isCorr x = (isDeed x && !isVoid x) := by
        unfold oddP at hx
        simp only [Bool.and_eq_true, beq_iff_eq] at hx
        exact hx.2
      k_whileD (g_deed hg3) (g_corr hg3) ld "w"
      cases e : isDeed x with
      | false =>
        rw [e, Bool.false_and] at hx2
        rw [hx2]
        k_search same2
        exact ⟨some d, some (.tup (.str w :: items)), o6, some x, o8, o9, o10, rfl, hS⟩
      | true =>
        rw [e, Bool.true_and] at hx2
        obtain ⟨v, l, rfl⟩ := deed_is e
        rw [hx2]
        have hv : isVoid (.tup (.str v :: l)) = (v == ("void" : Str)) := rfl
        rw [hv]
        k_search same2
        exact ⟨some d, some (.tup (.str w :: items)), o6, some (.tup (.str v :: l)), o8, o9, o10, rfl, hS⟩
    · rintro d' r' ρ S ⟨o6, o8, o9, o10, rfl, hS⟩
      walk_at "w"
      refine wF_mono (l_bent (n := n + 13) ha hg hS) ?_
      rintro x S' ⟨hx, hS⟩
      have ld : ∀ S, G (n + 19) (.fn "_law_is_deed") [x] S = .ret (.bl (isDeed x)) S := fun S => l_deed (n := n + 6) (k := 5) hx
      k_whileD (g_deed hx) (g_corr hx) ld "w"
      cases e : isDeed x with
      | false =>
        have hx2 : isCorr x = false := by
          unfold isDeed at e
          rw [Bool.or_eq_false_iff] at e
          exact e.2
        rw [hx2]
        k_search same3
        exact ⟨some d', some x, some (.bl false), some (.bl false), rfl, hS⟩
      | true =>
        obtain ⟨v, l, rfl⟩ := deed_is e
        rw [corr_w e]
        k_search same3
        exact ⟨some d', some (.tup (.str v :: l)), some (.bl true), some (.bl _), rfl, hS⟩
end
end R.M
end
set_option Elab.async false
set_option linter.all false
set_option maxRecDepth 100000
set_option maxHeartbeats 1000000
namespace R
open PySem PySem.Spec PyProof.Rows L2
section
variable {K : PySem.W.Frag} {w : World}
theorem rep_ints {M : Addr → Prop} {H : Hp} : ∀ ns : List Int, Reps K w [] M H (ns.map D.int) (ns.map V.int)
  | [] => rfl
  | n :: r => .cons (show Rep K w [] M H (.int n) (V.int n) from rfl) (rep_ints r)
theorem start_law {H : Hp} {a : Addr} {ns : List Int} (hS : SqL K H a (ns.map V.int)) {f : List D → Sto → FRes} (hf : M.wF (f [.lst (ns.map .int)] []) fun d _ => d = .bl true) : spD K w 1 f [.ref a] H (fun v _ => v = .bl true) fun _ _ _ => False := by
  refine ⟨rfl, fun _ => False, [], [], fun _ => False, fun _ => False, [.lst (ns.map .int)], ?_, fun _ h => h.elim, ?_, ?_⟩
  · exact { hot := fun _ h => h.elim, sub := fun _ h => (nomatch h), nd := List.nodup_nil, pre := List.prefix_refl _, newι := fun _ h => (nomatch h), frame := fun b o e _ => ⟨e, Iff.rfl⟩, exH := fun _ h => h.elim, lenS := rfl, cell := fun l c b e _ => by simp at e }
  · exact .cons ⟨a, ns.map V.int, rfl, hS.imp (fun r => ⟨r, fun h => h⟩) id, rep_ints ns⟩ .nil
  · cases e : f [.lst (ns.map .int)] [] with
    | ret d S =>
      rw [e] at hf
      have hd : d = .bl true := hf
      subst hd
      intro M' ι' H' v _ _ _ hr
      exact hr
    | exc x S => rw [e] at hf; exact hf.elim
    | no => rw [e] at hf; exact hf.elim
end
def N_law : List Str := ["_law_script", "_law_bag", "_law_turn", "_law_five", "_law_found", "_law_act", "_law_k", "_law_odd_here", "_law_other", "_law_due", "_law_fixed", "_law_sign"]
theorem isGl_eq {K : PySem.W.Frag} {x : Str} {a b : Addr} (h : IsGl K x a) (k : IsGl K x b) : a = b := by
  unfold IsGl at h k
  rw [h] at k
  cases k
  rfl
theorem fl_ok (w : Params) : ∀ (c f : Str) (C : Addr), M.Fl80 c f = true → IsGl (KK w) c C → NoAttr (KK w) C f := by
  intro c f C h g
  unfold M.Fl80 at h
  simp only [Bool.and_eq_true, Bool.or_eq_true, decide_eq_true_eq] at h
  obtain ⟨rfl, h⟩ := h
  obtain ⟨g2, _, h3⟩ := chkCls_ok (sh_c w)
  rw [isGl_eq g g2]
  rcases h with rfl | rfl
  · exact h3 _ (by simp)
  · exact h3 _ (by simp)
theorem all_lawG {K : PySem.W.Frag} {P : Program} {w : World} {mg : Str → Option Value} {fa : Addr} {h : Heap} (X : K.In h) (g : h.Ns mainGlobals mg) (e : mg "law" = some (.ref fa)) (hc : chkAll K "law" ["_law_script"] N_law = true) (he : cfFd k80G ["_law_script"] N_law none (fdD K "law") = c_law)
    (hb : ∀ u : Value, bindArgs (fdD K "law") ⟨[u], []⟩ = pure [(("_law_script" : Str), u)]) (GG : (∀ x v, PySem.W.nsIn K mainGlobals x = some (some v) → mg x = some v) → (∀ x, PySem.W.nsIn K mainGlobals x = some none → mg x = none) → GlF K w mg k80G ∧ (∀ p ∈ k80G.pats, PatF K w mg k80G tab80 p) ∧ (∀ p ∈ k80G.cpats, MkF K w mg k80G tab80 p)) (hF : ∀ c f C, M.Fl80 c f = true → IsGl K c C → NoAttr K C f) :
    ∃ fd : FuncData, (∀ (s : Shared) (u : Value), BindsTo s fd ⟨[u], []⟩ [("_law_script", u)]) ∧ ∀ base : Heap, K.In base → base.Ns mainGlobals mg → FnOk P w K mg base (L2.CX P w) 40 fa fd ["_law_script"] (spD K w 1 (evF 70 M.Fl80 (evG 70 M.Fl80 tab80 19) c_law)) := by
  obtain ⟨h1, h2, h3⟩ := chkAll_ok hc he
  have ea : fa = adAt K "law" := by
    have := (PySem.W.mg_of X g h1).symm.trans e
    injection this with this
    injection this with this
    exact this.symm
  subst ea
  obtain ⟨G1, G2, G3⟩ := GG (fun x v e => PySem.W.mg_of X g e) (fun x e => PySem.W.mg_none_of X g e)
  refine ⟨fdD K "law", fun s u => .of_eq (hb u), fun base _ _ => ?_⟩
  obtain ⟨A, B⟩ := all_ok (P := P) (base := base) (L := 70) G1 hF G2 G3 19
  exact fnD (L := 70) (Fl := M.Fl80) G1 hF A B h3
theorem GG_ok (w : World) (mg : Str → Option Value) (hmg : ∀ x v, PySem.W.nsIn (KK w.params) mainGlobals x = some (some v) → mg x = some v) (hno : ∀ x, PySem.W.nsIn (KK w.params) mainGlobals x = some none → mg x = none) : GlF (KK w.params) w mg k80G ∧ (∀ p ∈ k80G.pats, PatF (KK w.params) w mg k80G tab80 p) ∧ (∀ p ∈ k80G.cpats, MkF (KK w.params) w mg k80G tab80 p) :=
  ⟨gl80 hmg hno, pats80 hmg, cpats80 hmg⟩
theorem all_law (l : Program) (w : World) (mg : Str → Option Value) (fa : Addr) (h : Heap) (X : (KK w.params).In h) (g : h.Ns mainGlobals mg) (e : mg "law" = some (.ref fa)) :
    ∃ fd : FuncData, (∀ (s : Shared) (u : Value), BindsTo s fd ⟨[u], []⟩ [("_law_script", u)]) ∧ ∀ base : Heap, (KK w.params).In base → base.Ns mainGlobals mg → FnOk l w (KK w.params) mg base (L2.CX l w) 40 fa fd ["_law_script"] (spD (KK w.params) w 1 (evF 70 M.Fl80 (evG 70 M.Fl80 tab80 19) c_law)) :=
  @all_lawG (KK w.params) l w mg fa h X g e (k_law w.params) (e_law w.params) (b_law_1 w.params) (GG_ok w mg) (fl_ok w.params)
theorem law_ends (ns : List Int) (h : ns.length ≤ 63) : M.wF (evF 70 M.Fl80 (evG 70 M.Fl80 tab80 19) c_law [.lst (ns.map .int)] []) fun d _ => d = .bl true := by
  have := M.l_law (n := 0) (cs := ns) (by omega)
  rw [show 0 + 20 = 19 + 1 from rfl, M.G_s (c := c_law) (by kernel_rfl)] at this
  unfold M.G at this
  exact this
end R
open PySem PySem.W PyProof.Rows
theorem PySem.Challenge.cw_deedranks_k80_deeds_judged_holds : PySem.Challenge.rw_deedranks_k80_deeds_judged.Holds :=
  k80head (by
    refine L2.walk_of (l := PySem.Challenge.rw_deedranks_k80_deeds_judged) (n := 63) (k := 40) (x := "_law_script") (CX := fun w => L2.CX PySem.Challenge.rw_deedranks_k80_deeds_judged.prog w) (sp := fun w => R.spD (R.KK w.params) w 1 (R.evF 70 R.M.Fl80 (R.evG 70 R.M.Fl80 R.tab80 19) R.c_law)) rfl (by decide) rfl ⟨rfl, by decide, by decide⟩ (fun w h Y => PySem.W.kIn_of Y) ?F (fun w H a ns hl _ hS => R.start_law hS (R.law_ends ns hl)) (fun w H s e s' h => R.cx0_ok _ _ _ _ _ h)
    case F =>
      intro w mg fa h KX G hmg
      exact R.all_law _ w mg fa h KX G hmg)
