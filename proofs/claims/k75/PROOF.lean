import PyProof.Rows.All
import Wide.All
import OpenK.AllK
import Wide.FinOn
import HandS.ForMost
import HandS.Wide
import HandS.WideBits
import HandS.Gcd
import HandS.Deep
import HandS.IsInst
import KE.KeyNested
import HandS.Lambda
import HandS.TupAny
import HandS.Zip
import HandS.Rev
import HandS.Comp
import HandS.Conv
import HandS.Iter
import HandS.Text
import KE.SortData
import PyProof.StrOps2
import PyProof.Draws
import PyProof.EnumMake
import KE.SortKeyHeap
import HandS.SortKw
import KE.KSortTup
import HandS.Exc
import HandS.TupMul
import HandS.DictComp
import KE.DataCmp
import HandS.JoinGen
import KE.KDictCopyH
import HandS.EndTab
import HandS.EndOwn
import HandS.SetFor
import HandS.Strs
import HandS.Star
import HandS.Dict
import HandS.TupLen
import KE.DatumOrd
import PyProof.Rows.Tup
import HandS.TupSets
import PySem.Challenge.RW_doubtbook_k75_unified_terms
set_option Elab.async false
set_option linter.all false
set_option maxRecDepth 100000
/-! DL: readings over deep values (D): tuples and frozen lists are plain data, the heap holds only what is still being changed. -/
namespace DL
open PySem PySem.Spec PyProof.Rows L2

inductive D where
  | non
  | bl (b : Bool)
  | int (i : Int)
  | str (x : Str)
  | tup (xs : List D)
  | lst (xs : List D)
  | dct (kvs : List (D × D))
  | ref (a : Addr)
  | ty (n : String)
instance : Inhabited D := ⟨.non⟩
/-- what a mutable address holds -/
inductive DO where
  | lst (xs : List D)
  | dct (w : World) (kvs : List (D × D))
  /-- a table of code objects, all of the name q -/
  | tab (q : Str)
  /-- a dict whose keys are ints and texts -/
  | dk (kvs : List (D × D))
abbrev SL := L2.St
abbrev DSt := List (Option D)
abbrev DM := Addr → Option DO
def mput (M : DM) (a : Addr) (o : DO) : DM := fun b => if b = a then some o else M b
def mdel (M : DM) (a : Addr) : DM := fun b => if b = a then none else M b
theorem mput_same {M : DM} {a : Addr} {o : DO} : mput M a o a = some o := by
  unfold mput
  simp
theorem mput_ne {M : DM} {a b : Addr} {o : DO} (h : b ≠ a) : mput M a o b = M b := by
  unfold mput
  simp [h]
theorem mput_mput {M : DM} {a : Addr} {o o' : DO} : mput (mput M a o) a o' = mput M a o' := by
  funext b
  unfold mput
  split <;> rfl
theorem mdel_mput {M : DM} {a : Addr} {o : DO} (h : M a = none) : mdel (mput M a o) a = M := by
  funext b
  unfold mdel mput
  split
  · next e => rw [e, h]
  · rfl
theorem mput_comm {M : DM} {a b : Addr} {o o' : DO} (h : a ≠ b) : mput (mput M a o) b o' = mput (mput M b o') a o := by
  funext c
  unfold mput
  by_cases h1 : c = a
  · have h2 : ¬ c = b := fun z => h (h1.symm.trans z)
    simp only [if_pos h1, if_neg h2]
  · simp only [if_neg h1]
/-- M is part of N -/
def MLe (M N : DM) : Prop := ∀ a o, M a = some o → N a = some o
theorem MLe.refl (M : DM) : MLe M M := fun _ _ h => h
theorem MLe.put {M N : DM} {a : Addr} {o : DO} (l : MLe M N) (h : M a = none) : MLe M (mput N a o) := fun b p e => by
  have : b ≠ a := fun z => by
    rw [z, h] at e
    cases e
  rw [mput_ne this]
  exact l b p e
theorem MLe.both {M N : DM} {a : Addr} {o : DO} (l : MLe M N) : MLe (mput M a o) (mput N a o) := fun b p e => by
  by_cases h : b = a
  · subst h
    rw [mput_same] at e ⊢
    exact e
  · rw [mput_ne h] at e ⊢
    exact l b p e

/-- a list that nobody will change -/
def FrzL (K : PySem.W.Frag) (H : Hp) (a : Addr) (vs : List V) : Prop :=
  (∃ o, H a = some (.frz o (.lst vs))) ∨
  ∃ (o : Obj) (its : Array Value) (n : Nat), K.lookup a = some o ∧ o.cls = .type "list" ∧ o.dict = none ∧
    o.data = .seq its n ∧ its.size ≤ sizeLine ∧ Vals vs its.toList
theorem FrzL.seq {K : PySem.W.Frag} {H : Hp} {a : Addr} {vs : List V} (h : FrzL K H a vs) : SqL K H a vs := by
  rcases h with ⟨o, h⟩ | h
  · exact .inl (.inr ⟨o, h⟩)
  · exact .inr h

/-- tuples and frozen things stay -/
structure Grow (H H' : Hp) : Prop where
  tups : ∀ b xs, H b = some (.tup xs) → H' b = some (.tup xs)
  frzs : ∀ b o u, H b = some (.frz o u) → H' b = some (.frz o u)
  cods : ∀ b q, H b = some (LamX.CodeO b q) → H' b = some (LamX.CodeO b q)
theorem Grow.refl (H : Hp) : Grow H H := ⟨fun _ _ h => h, fun _ _ _ h => h, fun _ _ h => h⟩
theorem Grow.trans {H H1 H2 : Hp} (a : Grow H H1) (b : Grow H1 H2) : Grow H H2 :=
  ⟨fun c xs h => b.tups c xs (a.tups c xs h), fun c o u h => b.frzs c o u (a.frzs c o u h), fun c q h => b.cods c q (a.cods c q h)⟩
theorem Grow.new {H : Hp} {p : Addr} {o : HO} (h : H p = none) : Grow H (upd H p o) :=
  ⟨fun b xs e => by rw [upd_ne (ne_of_none e h)]; exact e, fun b q u e => by rw [upd_ne (ne_of_none e h)]; exact e, fun b q e => by rw [upd_ne (ne_of_none e h)]; exact e⟩
theorem Grow.put {H : Hp} {p : Addr} {vs : List V} {o : HO} (h : H p = some (.lst vs)) : Grow H (upd H p o) :=
  ⟨fun b xs e => by rw [upd_ne (ne_of e h (by intro z; cases z))]; exact e,
   fun b q u e => by rw [upd_ne (ne_of e h (by intro z; cases z))]; exact e, fun b q e => by rw [upd_ne (ne_of e h (by intro z; cases z))]; exact e⟩
theorem FrzL.grow {K : PySem.W.Frag} {H H' : Hp} {a : Addr} {vs : List V} (h : FrzL K H a vs) (g : Grow H H') : FrzL K H' a vs := by
  rcases h with ⟨o, h⟩ | h
  · exact .inl ⟨o, g.frzs _ _ _ h⟩
  · exact .inr h
theorem sqT_grow {K : PySem.W.Frag} {H H' : Hp} {a : Addr} {vs : List V} (h : SqT K H a vs) (g : Grow H H') : SqT K H' a vs := by
  rcases h with (h | ⟨o, h⟩) | h
  · exact .inl (.inl (g.tups _ _ h))
  · exact .inl (.inr ⟨o, g.frzs _ _ _ h⟩)
  · exact .inr h

def kD : Key → D
  | .inl i => .int i
  | .inr x => .str x
mutual
inductive Rep (K : PySem.W.Frag) (H : Hp) : D → V → Prop
  | non : Rep K H .non .non
  | bl (b : Bool) : Rep K H (.bl b) (.bl b)
  | int (i : Int) : Rep K H (.int i) (.int i)
  | str (x : Str) : Rep K H (.str x) (.str x)
  | tup {xs : List D} {a : Addr} {vs : List V} : SqT K H a vs → vs.length ≤ sizeLine → RepL K H xs vs → Rep K H (.tup xs) (.ref a)
  | lst {xs : List D} {a : Addr} {vs : List V} : FrzL K H a vs → vs.length ≤ sizeLine → RepL K H xs vs → Rep K H (.lst xs) (.ref a)
  | ref (a : Addr) : Rep K H (.ref a) (.ref a)
  | ty (n : String) : Rep K H (.ty n) (.ty n)
  | dct {kvs : List (D × D)} {a : Addr} {o : Obj} {es : List (Key × V)} : H a = some (.frz o (.dK es)) → es.length ≤ sizeLine → RepK K H kvs es → Rep K H (.dct kvs) (.ref a)
inductive RepL (K : PySem.W.Frag) (H : Hp) : List D → List V → Prop
  | nil : RepL K H [] []
  | cons {d : D} {v : V} {ds : List D} {vs : List V} : Rep K H d v → RepL K H ds vs → RepL K H (d :: ds) (v :: vs)
/-- the pairs of a dict whose keys are ints and texts -/
inductive RepK (K : PySem.W.Frag) (H : Hp) : List (D × D) → List (Key × V) → Prop
  | nil : RepK K H [] []
  | cons {k : Key} {d : D} {v : V} {kvs : List (D × D)} {es : List (Key × V)} : Rep K H d v → RepK K H kvs es → RepK K H ((kD k, d) :: kvs) ((k, v) :: es)
end
section
variable {K : PySem.W.Frag} {H H' : Hp}
mutual
theorem Rep.grow {d : D} {v : V} (r : Rep K H d v) (g : Grow H H') : Rep K H' d v := match r with
  | .non => .non
  | .bl b => .bl b
  | .int i => .int i
  | .str x => .str x
  | .tup h z l => .tup (sqT_grow h g) z (l.grow g)
  | .lst h z l => .lst (h.grow g) z (l.grow g)
  | .ref a => .ref a
  | .ty n => .ty n
  | .dct h z l => .dct (g.frzs _ _ _ h) z (l.grow g)
theorem RepL.grow {ds : List D} {vs : List V} (r : RepL K H ds vs) (g : Grow H H') : RepL K H' ds vs := match r with
  | .nil => .nil
  | .cons h l => .cons (h.grow g) (l.grow g)
theorem RepK.grow {kvs : List (D × D)} {es : List (Key × V)} (r : RepK K H kvs es) (g : Grow H H') : RepK K H' kvs es := match r with
  | .nil => .nil
  | .cons h l => .cons (h.grow g) (l.grow g)
end
theorem RepL.length : ∀ {ds : List D} {vs : List V}, RepL K H ds vs → ds.length = vs.length
  | _, _, .nil => rfl
  | _, _, .cons _ l => congrArg (· + 1) l.length
theorem RepL.get : ∀ {ds : List D} {vs : List V} {i : Nat} {d : D}, RepL K H ds vs → ds[i]? = some d → ∃ v, vs[i]? = some v ∧ Rep K H d v
  | _, _, _, _, .nil, e => by simp at e
  | _, _, 0, _, .cons h _, e => by
    simp at e
    subst e
    exact ⟨_, rfl, h⟩
  | _, _, i + 1, d, .cons _ l, e => by
    obtain ⟨v, h1, h2⟩ := RepL.get (i := i) (d := d) l (by simpa using e)
    exact ⟨v, by simpa using h1, h2⟩
theorem RepL.get' : ∀ {ds : List D} {vs : List V} {i : Nat} {v : V}, RepL K H ds vs → vs[i]? = some v → ∃ d, ds[i]? = some d ∧ Rep K H d v
  | _, _, _, _, .nil, e => by simp at e
  | _, _, 0, _, .cons h _, e => by
    simp at e
    subst e
    exact ⟨_, rfl, h⟩
  | _, _, i + 1, d, .cons _ l, e => by
    obtain ⟨v, h1, h2⟩ := RepL.get' (i := i) (v := d) l (by simpa using e)
    exact ⟨v, by simpa using h1, h2⟩
theorem RepL.append : ∀ {ds es : List D} {vs ws : List V}, RepL K H ds vs → RepL K H es ws → RepL K H (ds ++ es) (vs ++ ws)
  | _, _, _, _, .nil, m => m
  | _, _, _, _, .cons h l, m => .cons h (l.append m)
theorem RepL.one {d : D} {v : V} (h : Rep K H d v) : RepL K H [d] [v] := .cons h .nil
theorem RepL.take : ∀ (n : Nat) {ds : List D} {vs : List V}, RepL K H ds vs → RepL K H (ds.take n) (vs.take n)
  | 0, _, _, _ => .nil
  | _ + 1, _, _, .nil => .nil
  | n + 1, _, _, .cons h l => .cons h (RepL.take n l)
theorem RepL.drop : ∀ (n : Nat) {ds : List D} {vs : List V}, RepL K H ds vs → RepL K H (ds.drop n) (vs.drop n)
  | 0, _, _, r => r
  | _ + 1, _, _, .nil => .nil
  | n + 1, _, _, .cons _ l => RepL.drop n l
theorem RepL.reverse : ∀ {ds : List D} {vs : List V}, RepL K H ds vs → RepL K H ds.reverse vs.reverse
  | _, _, .nil => .nil
  | _, _, .cons h l => by
    rw [List.reverse_cons, List.reverse_cons]
    exact l.reverse.append (.one h)
theorem RepL.dropLast {ds : List D} {vs : List V} (r : RepL K H ds vs) : RepL K H ds.dropLast vs.dropLast := by
  rw [List.dropLast_eq_take, List.dropLast_eq_take, r.length]
  exact r.take _
theorem RepL.set : ∀ {ds : List D} {vs : List V} (i : Nat) {d : D} {v : V}, RepL K H ds vs → Rep K H d v → RepL K H (ds.set i d) (vs.set i v)
  | _, _, _, _, _, .nil, _ => .nil
  | _, _, 0, _, _, .cons _ l, r => .cons r l
  | _, _, i + 1, _, _, .cons h l, r => .cons h (RepL.set i l r)
theorem RepL.eraseIdx : ∀ {ds : List D} {vs : List V} (i : Nat), RepL K H ds vs → RepL K H (ds.eraseIdx i) (vs.eraseIdx i)
  | _, _, _, .nil => .nil
  | _, _, 0, .cons _ l => l
  | _, _, i + 1, .cons h l => .cons h (RepL.eraseIdx i l)
theorem repL_ints : ∀ ns : List Int, RepL K H (ns.map D.int) (ns.map V.int)
  | [] => .nil
  | n :: ns => .cons (.int n) (repL_ints ns)
end

/-! ### dicts: the keys are tuples of whole numbers, texts, None and such tuples -/
mutual
def nk : D → NestedKey
  | .int i => .num i
  | .str x => .text x
  | .tup xs => .tup (nks xs)
  | .non => .none
  | .bl _ => .none
  | .lst _ => .none
  | .dct _ => .none
  | .ref _ => .none
  | .ty _ => .none
def nks : List D → List NestedKey
  | [] => []
  | x :: xs => nk x :: nks xs
end
mutual
/-- a key, or a part of one -/
def kOk : D → Bool
  | .int _ => true
  | .str _ => true
  | .tup xs => kOks xs
  | .non => true
  | .bl _ => false
  | .lst _ => false
  | .dct _ => false
  | .ref _ => false
  | .ty _ => false
def kOks : List D → Bool
  | [] => true
  | x :: xs => kOk x && kOks xs
end
/-- the dict at a -/
def DictO (w : World) (a : Addr) (es : List (NestedKey × Addr × V)) : HO := .ext fun h => ∃ xs : List (NestedKey × Addr × Value), Paired (fun p q => p.1 = q.1 ∧ p.2.1 = q.2.1 ∧ RelV p.2.2 q.2.2) es xs ∧
  (∃ o ents ep, h.get? a = some o ∧ o.ExactDict ∧ o.data = .dict ents ep ∧ ents.toList = xs.map fun x => ⟨x.1.hash w, .ref x.2.1, x.2.2⟩) ∧ (xs.map (·.1)).Nodup ∧ (a == sysModules) = false
inductive RepKV (K : PySem.W.Frag) (H : Hp) : List (D × D) → List (NestedKey × Addr × V) → Prop
  | nil : RepKV K H [] []
  | cons {k v : D} {b : Addr} {y : V} {kvs : List (D × D)} {es : List (NestedKey × Addr × V)} : Rep K H k (.ref b) → kOk k = true → (nk k).depth ≤ 8 → Rep K H v y → RepKV K H kvs es → RepKV K H ((k, v) :: kvs) ((nk k, b, y) :: es)
theorem RepKV.grow {K : PySem.W.Frag} {H H' : Hp} (g : Grow H H') : ∀ {kvs : List (D × D)} {es : List (NestedKey × Addr × V)}, RepKV K H kvs es → RepKV K H' kvs es
  | _, _, .nil => .nil
  | _, _, .cons a b c d e => .cons (a.grow g) b c (d.grow g) (RepKV.grow g e)
def RepO (K : PySem.W.Frag) (H : Hp) (a : Addr) : DO → Prop
  | .lst ds => ∃ vs, H a = some (.lst vs) ∧ vs.length ≤ sizeLine ∧ RepL K H ds vs
  | .dct w kvs => ∃ es, H a = some (DictO w a es) ∧ es.length ≤ sizeLine ∧ RepKV K H kvs es
  | .tab q => LamX.TabS H a q
  | .dk kvs => ∃ es, H a = some (.dK es) ∧ es.length ≤ sizeLine ∧ RepK K H kvs es
theorem tab_stay {H H' : Hp} {a : Addr} {q : Str} (h : LamX.TabS H a q) (e : H' a = H a) (g : Grow H H') : LamX.TabS H' a q := by
  obtain ⟨ps, h1, h2, h3⟩ := h
  refine ⟨ps, e.trans h1, h2, fun pos cv hc => ?_⟩
  obtain ⟨c, e1, e2⟩ := h3 pos cv hc
  exact ⟨c, e1, g.cods _ _ e2⟩
theorem RepO.stay {K : PySem.W.Frag} {H H' : Hp} {a : Addr} {o : DO} (h : RepO K H a o) (e : H' a = H a) (g : Grow H H') : RepO K H' a o := by
  cases o with
  | lst ds =>
    obtain ⟨vs, h1, z, l⟩ := h
    exact ⟨vs, e.trans h1, z, l.grow g⟩
  | dct w kvs =>
    obtain ⟨es, h1, z, l⟩ := h
    exact ⟨es, e.trans h1, z, l.grow g⟩
  | tab q => exact tab_stay h e g
  | dk kvs =>
    obtain ⟨es, h1, z, l⟩ := h
    exact ⟨es, e.trans h1, z, l.grow g⟩
/-- the mutable part is borne -/
def RM (K : PySem.W.Frag) (H : Hp) (M : DM) : Prop := ∀ a o, M a = some o → RepO K H a o
structure R (K : PySem.W.Frag) (m : DSt) (M : DM) (σ : SL) (H : Hp) : Prop where
  len : m.length = σ.length
  slot : ∀ (i : Nat) (d : D), m[i]? = some (some d) → ∃ v, σ[i]? = some (some v) ∧ Rep K H d v
  mem : RM K H M
section
variable {K : PySem.W.Frag} {H H' : Hp} {M N : DM} {m : DSt} {σ : SL} {a : Addr}
theorem RM.le (h : RM K H N) (l : MLe M N) : RM K H M := fun a o e => h a o (l a o e)
theorem RepO.some {o : DO} (h : RepO K H a o) : H a ≠ none := by
  cases o with
  | lst ds =>
    obtain ⟨vs, e, _, _⟩ := h
    rw [e]
    intro z
    cases z
  | dct w kvs =>
    obtain ⟨es, e, _⟩ := h
    rw [e]
    intro z
    cases z
  | tab q =>
    obtain ⟨ps, e, _⟩ := h
    rw [e]
    intro z
    cases z
  | dk kvs =>
    obtain ⟨es, e, _⟩ := h
    rw [e]
    intro z
    cases z
theorem RM.free (h : RM K H M) (e : H a = none) : M a = none := by
  cases q : M a with
  | none => rfl
  | some o => exact absurd e (h a o q).some
theorem RM.lst (h : RM K H M) {ds : List D} (e : M a = some (.lst ds)) : ∃ vs, H a = some (.lst vs) ∧ vs.length ≤ sizeLine ∧ RepL K H ds vs := h a _ e
theorem R.grow (r : R K m M σ H) (g : Grow H H') (h : RM K H' N) : R K m N σ H' :=
  ⟨r.len, fun i d e => let ⟨v, h1, h2⟩ := r.slot i d e; ⟨v, h1, h2.grow g⟩, h⟩
/-- an untracked thing has come -/
theorem RM.new {p : Addr} {o : HO} (h : RM K H M) (hp : H p = none) : RM K (upd H p o) M := fun a q e => by
  have ha := h a q e
  have ne : a ≠ p := fun z => ha.some (z ▸ hp)
  cases q with
  | lst ds =>
    exact ha.stay (upd_ne ne) (.new hp)
  | dct w kvs => exact ha.stay (upd_ne ne) (.new hp)
  | tab q => exact ha.stay (upd_ne ne) (.new hp)
  | dk kvs => exact ha.stay (upd_ne ne) (.new hp)
theorem RM.newLst {p : Addr} {ds : List D} {vs : List V} (h : RM K H M) (hp : H p = none) (hz : vs.length ≤ sizeLine) (l : RepL K H ds vs) : RM K (upd H p (.lst vs)) (mput M p (.lst ds)) := fun a q e => by
  by_cases ha : a = p
  · subst ha
    rw [mput_same] at e
    cases e
    exact ⟨vs, upd_same, hz, l.grow (.new hp)⟩
  · rw [mput_ne ha] at e
    exact h.new hp a q e
theorem RM.putLst {p : Addr} {ds : List D} {vs vs0 : List V} (h : RM K H M) (hp : H p = some (.lst vs0)) (hz : vs.length ≤ sizeLine) (l : RepL K H ds vs) : RM K (upd H p (.lst vs)) (mput M p (.lst ds)) := fun a q e => by
  by_cases ha : a = p
  · subst ha
    rw [mput_same] at e
    cases e
    exact ⟨vs, upd_same, hz, l.grow (.put hp)⟩
  · rw [mput_ne ha] at e
    have z := h a q e
    cases q with
    | lst es => exact z.stay (upd_ne ha) (.put hp)
    | dct w kvs => exact z.stay (upd_ne ha) (.put hp)
    | tab q => exact z.stay (upd_ne ha) (.put hp)
    | dk kvs => exact z.stay (upd_ne ha) (.put hp)
/-- a list is frozen: it leaves the mutable part -/
theorem RM.frz {p : Addr} {vs : List V} {o : Obj} (h : RM K H M) (hp : H p = some (.lst vs)) : RM K (upd H p (.frz o (.lst vs))) (mdel M p) := fun a q e => by
  have ha : a ≠ p := fun z => by
    subst z
    unfold mdel at e
    simp at e
  have e' : M a = some q := by
    unfold mdel at e
    rw [if_neg ha] at e
    exact e
  have z := h a q e'
  cases q with
  | lst es => exact z.stay (upd_ne ha) (.put hp)
  | dct w kvs => exact z.stay (upd_ne ha) (.put hp)
  | tab q => exact z.stay (upd_ne ha) (.put hp)
  | dk kvs => exact z.stay (upd_ne ha) (.put hp)
theorem R.set {i : Nat} {d : D} {v : V} (r : R K m M σ H) (h : Rep K H d v) : R K (m.set i (some d)) M (σ.set i (some v)) H := by
  refine ⟨by rw [List.length_set, List.length_set]; exact r.len, fun j e q => ?_, r.mem⟩
  by_cases hj : i = j
  · subst hj
    by_cases hi : i < m.length
    · rw [List.getElem?_set_self hi] at q
      cases q
      exact ⟨v, List.getElem?_set_self (by rw [← r.len]; exact hi), h⟩
    · rw [List.getElem?_eq_none (by rw [List.length_set]; omega)] at q
      cases q
  · rw [List.getElem?_set_ne hj] at q ⊢
    exact r.slot j e q
end

/-! ### the judgements -/
abbrev DVK := D → DM → Prop
abbrev DTE := DSt → DM → DVK → Prop
abbrev DTT := DSt → DM → (Bool → DM → Prop) → Prop
abbrev DTA := DSt → DM → (List D → DM → Prop) → Prop
structure DEnds where
  nx : DSt → DM → Prop
  rt : DVK
  bk : DSt → DM → Prop := fun _ _ => False
  ct : DSt → DM → Prop := fun _ _ => False
abbrev DTS := DEnds → DSt → DM → Prop
abbrev DR2 := D → D → DM → DVK → Prop
def upE (K : PySem.W.Frag) (t : DTE) : TE := fun σ H Q => ∃ m M Q', R K m M σ H ∧ t m M Q' ∧
  ∀ d v M' H', Grow H H' → Rep K H' d v → RM K H' M' → Q' d M' → Q v H'
def upT (K : PySem.W.Frag) (t : DTT) : TT := fun σ H Q => ∃ m M Q', R K m M σ H ∧ t m M Q' ∧
  ∀ b M' H', Grow H H' → RM K H' M' → Q' b M' → Q b H'
def upA (K : PySem.W.Frag) (t : DTA) : TA := fun σ H Q => ∃ m M Q', R K m M σ H ∧ t m M Q' ∧
  ∀ ds vs M' H', Grow H H' → RepL K H' ds vs → RM K H' M' → Q' ds M' → Q vs H'
structure EndsOk (K : PySem.W.Frag) (H : Hp) (D' : DEnds) (D : Ends) : Prop where
  nx : ∀ m M σ H', Grow H H' → R K m M σ H' → D'.nx m M → D.nx σ H'
  bk : ∀ m M σ H', Grow H H' → R K m M σ H' → D'.bk m M → D.bk σ H'
  ct : ∀ m M σ H', Grow H H' → R K m M σ H' → D'.ct m M → D.ct σ H'
  rt : ∀ d v M H', Grow H H' → Rep K H' d v → RM K H' M → D'.rt d M → D.rt v H'
def upS (K : PySem.W.Frag) (t : DTS) : TS := fun D σ H => ∃ m M D', R K m M σ H ∧ t D' m M ∧ EndsOk K H D' D
def upR2 (K : PySem.W.Frag) (r : DR2) : R2 := fun x y H Q => ∃ d e M Q', Rep K H d x ∧ Rep K H e y ∧ RM K H M ∧ r d e M Q' ∧
  ∀ z v M' H', Grow H H' → Rep K H' z v → RM K H' M' → Q' z M' → Q v H'
theorem EndsOk.grow {K : PySem.W.Frag} {H H' : Hp} {D' : DEnds} {D : Ends} (h : EndsOk K H D' D) (g : Grow H H') : EndsOk K H' D' D :=
  ⟨fun m M σ H2 g2 => h.nx m M σ H2 (g.trans g2), fun m M σ H2 g2 => h.bk m M σ H2 (g.trans g2),
   fun m M σ H2 g2 => h.ct m M σ H2 (g.trans g2), fun d v M H2 g2 => h.rt d v M H2 (g.trans g2)⟩
section
variable {X : Cx} {e a b c : Expr} {es : List Expr} {pos : Pos}
abbrev DE (X : Cx) (e : Expr) (t : DTE) : Prop := PE X e (upE X.K t)
abbrev DT (X : Cx) (e : Expr) (t : DTT) : Prop := PT X e (upT X.K t)
abbrev DA (X : Cx) (es : List Expr) (t : DTA) : Prop := PA X es (upA X.K t)
abbrev DS (X : Cx) (s : Stmt) (t : DTS) : Prop := PS X s (upS X.K t)
abbrev DSs (X : Cx) (s : List Stmt) (t : DTS) : Prop := PSs X s (upS X.K t)
abbrev DOp (X : Cx) (f : Value → Value → Sem Value) (r : DR2) : Prop := OpR X f (upR2 X.K r)
theorem imE {t t' : TE} (h : PE X e t) (i : ∀ σ H Q, t' σ H Q → t σ H Q) : PE X e t' := ⟨fun pins s σ H Q I q => h.run pins s σ H Q I (i σ H Q q)⟩
theorem imT {t t' : TT} (h : PT X e t) (i : ∀ σ H Q, t' σ H Q → t σ H Q) : PT X e t' := ⟨fun pins s σ H Q I q => h.run pins s σ H Q I (i σ H Q q)⟩
theorem imW {t t' : TT} (h : PW X e t) (i : ∀ σ H Q, t' σ H Q → t σ H Q) : PW X e t' := ⟨fun wh pins s σ H Q I q => h.run wh pins s σ H Q I (i σ H Q q)⟩
theorem imA {t t' : TA} (h : PA X es t) (i : ∀ σ H Q, t' σ H Q → t σ H Q) : PA X es t' := ⟨fun p pins s σ H Q I q => h.run p pins s σ H Q I (i σ H Q q)⟩
theorem imS {s : Stmt} {t t' : TS} (h : PS X s t) (i : ∀ D σ H, t' D σ H → t D σ H) : PS X s t' := ⟨fun pins s σ H D I q => h.run pins s σ H D I (i D σ H q)⟩
theorem imSs {s : List Stmt} {t t' : TS} (h : PSs X s t) (i : ∀ D σ H, t' D σ H → t D σ H) : PSs X s t' := ⟨fun pins s σ H D I q => h.run pins s σ H D I (i D σ H q)⟩

/-! ### names, constants -/
def dVar (i : Nat) : DTE := fun m M Q => ∃ d, m[i]? = some (some d) ∧ Q d M
def dC (d : D) : DTE := fun _ M Q => Q d M
theorem d_v (i : Nat) {x : Str} (hN : X.N[i]? = some x := by rfl)
    (hv : Vis X.env.scope x := by first | exact Or.inl rfl | exact Or.inr (Or.inl rfl) | exact Or.inr (Or.inr rfl))
    (hd : (x == ("__debug__" : Str)) = false := by decide) (hc : (x == ("__classdict__" : Str)) = false := by decide) : DE X (.Name x pos) (dVar i) :=
  imE (pe_var hN hv hd hc) fun σ H Q ⟨m, M, Q', r, ⟨d, hd, q⟩, k⟩ => by
    obtain ⟨v, hv, rp⟩ := r.slot i d hd
    exact ⟨v, hv, k d v M H (.refl H) rp r.mem q⟩
theorem d_c {v : V} {d : D} (h : PE X e (tC v)) (hr : ∀ K H, Rep K H d v) : DE X e (dC d) :=
  imE h fun σ H Q ⟨m, M, Q', r, q, k⟩ => k d v M H (.refl H) (hr _ _) r.mem q
theorem d_int {i : Int} {j : Nat} : DE X (.Constant (.int i) j pos) (dC (.int i)) := d_c pe_int fun _ _ => .int i
theorem d_bl {i : Bool} {j : Nat} : DE X (.Constant (.bool i) j pos) (dC (.bl i)) := d_c pe_bl fun _ _ => .bl i
theorem d_non {j : Nat} : DE X (.Constant .none j pos) (dC .non) := d_c pe_non fun _ _ => .non
theorem d_str {x : Str} {j : Nat} : DE X (.Constant (.str x) j pos) (dC (.str x)) := d_c pe_str fun _ _ => .str x

/-! ### operators -/
def dOp (r : DR2) (ta tb : DTE) : DTE := fun m M Q => ta m M fun x M1 => tb m M1 fun y M2 => r x y M2 Q
variable {ta tb tc : DTE} {r : DR2}
theorem up_op {σ : SL} {H : Hp} {Q : VK} (h : upE X.K (dOp r ta tb) σ H Q) : tOp (upR2 X.K r) (upE X.K ta) (upE X.K tb) σ H Q := by
  obtain ⟨m, M, Q', rr, q, k⟩ := h
  refine ⟨m, M, _, rr, q, fun d v M1 H1 g1 r1 m1 q1 => ?_⟩
  refine ⟨m, M1, _, rr.grow g1 m1, q1, fun d2 v2 M2 H2 g2 r2 m2 q2 => ?_⟩
  exact ⟨d, d2, M2, Q', r1.grow g2, r2, m2, q2, fun z v3 M3 H3 g3 => k z v3 M3 H3 ((g1.trans g2).trans g3)⟩
theorem d_op {op : Operator} (ho : DOp X (binaryOp op) r) (ha : DE X a ta) (hb : DE X b tb) : DE X (.BinOp a op b pos) (dOp r ta tb) :=
  imE (pe_op ho ha hb) fun σ H Q h => up_op (σ := σ) (H := H) (Q := Q) h
theorem d_cmp {op : CmpOp} (ho : DOp X (compareOp op) r) (ha : DE X a ta) (hb : DE X b tb) (hm : behindInMarks op b = false) : DE X (.Compare a [op] [b] pos) (dOp r ta tb) :=
  imE (pe_cmpR ho ha hb hm) fun σ H Q h => up_op (σ := σ) (H := H) (Q := Q) h
/-- two ints -/
def dI (C : Int → Int → Prop) (g : Int → Int → D) : DR2 := fun x y M Q => ∃ i j, x = .int i ∧ y = .int j ∧ C i j ∧ Q (g i j) M
theorem dop_I {f : Value → Value → Sem Value} {C : Int → Int → Prop} {g : Int → Int → V} {g' : Int → Int → D} (h : OpR X f (rI C g)) (hg : ∀ i j K H, Rep K H (g' i j) (g i j)) : DOp X f (dI C g') := by
  intro pins s σ H x y v u Q I rx ry q
  obtain ⟨d, e, M, Q', r1, r2, m, ⟨i, j, e1, e2, hc, q⟩, k⟩ := q
  subst e1
  subst e2
  cases r1
  cases r2
  exact h pins s σ H _ _ v u Q I rx ry ⟨i, j, rfl, rfl, hc, k _ _ M H (.refl H) (hg i j _ _) m q⟩
def dI0 (g : Int → Int → D) : DR2 := fun x y M Q => ∃ i j, x = .int i ∧ y = .int j ∧ Q (g i j) M
theorem dop_I0 {f : Value → Value → Sem Value} {g : Int → Int → V} {g' : Int → Int → D} (h : OpR X f (rI0 g)) (hg : ∀ i j K H, Rep K H (g' i j) (g i j)) : DOp X f (dI0 g') := by
  intro pins s σ H x y v u Q I rx ry q
  obtain ⟨d, e, M, Q', r1, r2, m, ⟨i, j, e1, e2, q⟩, k⟩ := q
  subst e1
  subst e2
  cases r1
  cases r2
  exact h pins s σ H _ _ v u Q I rx ry ⟨i, j, rfl, rfl, k _ _ M H (.refl H) (hg i j _ _) m q⟩
theorem DOp.or {f : Value → Value → Sem Value} {r r' : DR2} (h : DOp X f r) (h' : DOp X f r') : DOp X f (fun x y M Q => r x y M Q ∨ r' x y M Q) := by
  intro pins s σ H x y v u Q I rx ry q
  obtain ⟨d, e, M, Q', r1, r2, m, q | q, k⟩ := q
  · exact h pins s σ H _ _ v u Q I rx ry ⟨d, e, M, Q', r1, r2, m, q, k⟩
  · exact h' pins s σ H _ _ v u Q I rx ry ⟨d, e, M, Q', r1, r2, m, q, k⟩
abbrev dAddI : DR2 := dI0 fun i j => .int (i + j)
abbrev dSubI : DR2 := dI0 fun i j => .int (i - j)
/-- one side below 2^64, or both of known sizes -/
def CMulA (i j : Int) : Prop := (-18446744073709551616 < i ∧ i < 18446744073709551616) ∨ (-18446744073709551616 < j ∧ j < 18446744073709551616) ∨ CMulW i j
def CDivA (i j : Int) : Prop := (0 < j ∧ j < 1073741824) ∨ CDivW i j
def CPowA (i j : Int) : Prop := (0 ≤ j ∧ j ≤ 1000000) ∧ -9223372036854775808 < i ∧ i < 9223372036854775808
abbrev dMulI : DR2 := dI CMulA fun i j => .int (i * j)
abbrev dDivI : DR2 := dI CDivA fun i j => .int (i / j)
abbrev dModI : DR2 := dI (fun _ j => 0 < j) fun i j => .int (i % j)
abbrev dPowI : DR2 := dI CPowA fun i j => .int (i ^ j.toNat)
abbrev dLtI : DR2 := dI0 fun i j => .bl (decide (i < j))
abbrev dLeI : DR2 := dI0 fun i j => .bl (decide (i ≤ j))
abbrev dGtI : DR2 := dI0 fun i j => .bl (decide (j < i))
abbrev dGeI : DR2 := dI0 fun i j => .bl (decide (j ≤ i))
theorem o_add : DOp X (binaryOp .Add) dAddI := dop_I0 op_add fun _ _ _ _ => .int _
theorem o_sub : DOp X (binaryOp .Sub) dSubI := dop_I0 op_sub fun _ _ _ _ => .int _
theorem opr_or {f : Value → Value → Sem Value} {C C' C2 : Int → Int → Prop} {g : Int → Int → V} (h : OpR X f (rI C g)) (h' : OpR X f (rI C' g)) (hc : ∀ i j, C2 i j → C i j ∨ C' i j) : OpR X f (rI C2 g) := by
  intro pins s σ H x y v u Q I rx ry ⟨i, j, e1, e2, c, q⟩
  rcases hc i j c with c | c
  · exact h pins s σ H x y v u Q I rx ry ⟨i, j, e1, e2, c, q⟩
  · exact h' pins s σ H x y v u Q I rx ry ⟨i, j, e1, e2, c, q⟩
theorem o_mul : DOp X (binaryOp .Mult) dMulI := dop_I (opr_or op_mul op_mulW fun i j c => by
  rcases c with c | c | c
  · exact .inl (.inl ⟨by omega, by omega⟩)
  · exact .inl (.inr ⟨by omega, by omega⟩)
  · exact .inr c) fun _ _ _ _ => .int _
theorem o_div : DOp X (binaryOp .FloorDiv) dDivI := dop_I (opr_or op_fdiv op_fdivW fun _ _ c => c) fun _ _ _ _ => .int _
theorem o_mod : DOp X (binaryOp .Mod) dModI := dop_I op_mod fun _ _ _ _ => .int _
theorem o_pow : DOp X (binaryOp .Pow) dPowI := dop_I (opr_or op_pow op_pow fun i j c => .inl ⟨c.1.1, c.1.2, by have := c.2; omega⟩) fun _ _ _ _ => .int _
theorem o_lt : DOp X (compareOp .Lt) dLtI := dop_I0 op_lt fun _ _ _ _ => .bl _
theorem o_le : DOp X (compareOp .LtE) dLeI := dop_I0 op_le fun _ _ _ _ => .bl _
theorem o_gt : DOp X (compareOp .Gt) dGtI := dop_I0 op_gt fun _ _ _ _ => .bl _
theorem o_ge : DOp X (compareOp .GtE) dGeI := dop_I0 op_ge fun _ _ _ _ => .bl _
end
end DL
namespace DL
open PySem PySem.Spec PyProof.Rows L2
section
variable {X : Cx} {e a b c : Expr} {es : List Expr} {pos : Pos} {te ta tb tc : DTE} {t : DTA}

/-! ### argument lists, displays -/
def dNil : DTA := fun _ M Q => Q [] M
def dCons (te : DTE) (tr : DTA) : DTA := fun m M Q => te m M fun d M1 => tr m M1 fun ds M2 => Q (d :: ds) M2
theorem da_nil : DA X [] dNil := imA pa_nil fun σ H Q ⟨m, M, Q', r, q, k⟩ => k [] [] M H (.refl H) .nil r.mem q
theorem da_cons (ha : DE X e te) (hr : DA X es t) (hs : starEach (e :: es) X.env = (false, eval e X.env) :: starEach es X.env := by rfl) : DA X (e :: es) (dCons te t) :=
  imA (pa_cons ha hr hs) fun σ H Q ⟨m, M, Q', r, q, k⟩ => by
    refine ⟨m, M, _, r, q, fun d v M1 H1 g1 r1 m1 q1 => ?_⟩
    refine ⟨m, M1, _, r.grow g1 m1, q1, fun ds vs M2 H2 g2 r2 m2 q2 => ?_⟩
    exact k _ _ M2 H2 (g1.trans g2) (.cons (r1.grow g2) r2) m2 q2
def dTup (t : DTA) : DTE := fun m M Q => t m M fun ds M1 => ds.length ≤ sizeLine ∧ Q (.tup ds) M1
/-- a list that will be changed -/
def dLst (t : DTA) : DTE := fun m M Q => t m M fun ds M1 => ds.length ≤ sizeLine ∧ ∀ p, M1 p = none → Q (.ref p) (mput M1 p (.lst ds))
/-- a list that stays as it is -/
def dLstF (t : DTA) : DTE := fun m M Q => t m M fun ds M1 => ds.length ≤ sizeLine ∧ Q (.lst ds) M1
theorem d_tup {x1} (h : DA X es t) : DE X (.Tuple es x1 pos) (dTup t) :=
  imE (pe_tup h) fun σ H Q ⟨m, M, Q', r, q, k⟩ => by
    refine ⟨m, M, _, r, q, fun ds vs M1 H1 g1 r1 m1 ⟨z, q1⟩ => ⟨by rw [← r1.length]; exact z, fun p np => ?_⟩⟩
    exact k _ _ M1 _ (g1.trans (.new np)) (.tup (.of upd_same) (by rw [← r1.length]; exact z) (r1.grow (.new np))) (m1.new np) q1
theorem d_lst (h : DA X es t) : DE X (.List es pos) (dLst t) :=
  imE (pe_lst h) fun σ H Q ⟨m, M, Q', r, q, k⟩ => by
    refine ⟨m, M, _, r, q, fun ds vs M1 H1 g1 r1 m1 ⟨z, q1⟩ => ⟨by rw [← r1.length]; exact z, fun p np => ?_⟩⟩
    exact k _ _ _ _ (g1.trans (.new np)) (.ref p) (m1.newLst np (by rw [← r1.length]; exact z) r1) (q1 p (m1.free np))

/-! ### a list is frozen -/
theorem inv_frz {pins : List (Addr × Obj)} {σ : SL} {H : Hp} {s : Shared} {p : Addr} {vs : List V} (I : Inv X pins σ H s) (h : H p = some (.lst vs)) : ∃ o, Inv X pins σ (upd H p (.frz o (.lst vs))) s := by
  obtain ⟨z, its, n, rv, ho⟩ := I.hok p _ h
  have nt : ∀ b o, H b = some o → (∀ ws, o ≠ .lst ws) → b ≠ p := fun b o e d => ne_of e h (d vs)
  refine ⟨{ cls := Value.type "list", data := Data.seq its.toArray n }, I.step (H' := upd H p (.frz { cls := Value.type "list", data := Data.seq its.toArray n } (.lst vs))) (g' := s.gens) (t' := s.toks) (d' := s.drawn) (h' := s.heap) (ch := []) (fun _ y => nomatch y) (fun _ _ _ _ _ q _ => q) (fun _ q _ _ _ y _ => ⟨q.slots, y⟩) (fun b _ _ _ n => ?_)
    (fun _ q _ y => ⟨q, y⟩) (fun b ws y => ?_) (fun b q u y => ?_) (fun b q y => ⟨#[], ?_⟩) (fun _ y => y) (fun b q y => ?_) I.bare⟩
  · rw [upd_ne (fun w => by rw [w, h] at n; cases n)]
    exact n
  · rw [upd_ne (nt b _ y fun _ w => nomatch w)]
    exact y
  · rw [upd_ne (nt b _ y fun _ w => nomatch w)]
    exact y
  · rw [upd_ne (nt b _ y fun _ w => nomatch w), y]
    simp
  · by_cases e : b = p
    · subst e
      rw [upd_same] at y
      cases y
      exact ⟨ho, z, its, n, rv, ho⟩
    · rw [upd_ne e] at y
      refine (I.hok b q y).stay (fun _ _ _ w => w) (fun c w => ?_) fun c ws w => ?_
      · rw [upd_ne (nt c _ w fun _ w => nomatch w)]
        exact w
      · rw [upd_ne (nt c _ w fun _ w => nomatch w)]
        exact w
def tFz (t : TE) : TE := fun σ H Q => t σ H fun v H1 => ∃ p vs, v = .ref p ∧ H1 p = some (.lst vs) ∧ ∀ o, Q v (upd H1 p (.frz o (.lst vs)))
theorem pe_fz {t : TE} (h : PE X e t) : PE X e (tFz t) := by
  refine ⟨fun pins s σ H Q I q => thn (h.run pins s σ H _ I q) fun u s1 ⟨v, H1, I1, r1, p, vs, e1, e2, q1⟩ => ?_⟩
  obtain ⟨o, I2⟩ := inv_frz I1 e2
  exact ⟨v, _, I2, r1, q1 o⟩
/-- the list that comes is frozen: it leaves the mutable part -/
def dFz (t : DTE) : DTE := fun m M Q => t m M fun d M1 => ∃ p ds, d = .ref p ∧ M1 p = some (.lst ds) ∧ Q (.lst ds) (mdel M1 p)
theorem d_fz (h : DE X e te) : DE X e (dFz te) :=
  imE (pe_fz h) fun σ H Q ⟨m, M, Q', r, q, k⟩ => by
    refine ⟨m, M, _, r, q, fun d v M1 H1 g1 r1 m1 ⟨p, ds, e1, e2, q1⟩ => ?_⟩
    subst e1
    cases r1
    obtain ⟨vs, h1, z, l⟩ := m1.lst e2
    refine ⟨p, vs, rfl, h1, fun o => k _ _ _ _ (g1.trans (.put h1)) (.lst (.inl ⟨o, upd_same⟩) z (l.grow (.put h1))) (m1.frz h1) q1⟩
theorem d_lstF (h : DA X es t) : DE X (.List es pos) (dLstF t) :=
  imE (pe_fz (pe_lst h)) fun σ H Q ⟨m, M, Q', r, q, k⟩ => by
    refine ⟨m, M, _, r, q, fun ds vs M1 H1 g1 r1 m1 ⟨z, q1⟩ => ⟨by rw [← r1.length]; exact z, fun p np => ⟨p, vs, rfl, upd_same, fun o => ?_⟩⟩⟩
    rw [upd_upd]
    exact k _ _ _ _ (g1.trans (.new np)) (.lst (.inl ⟨o, upd_same⟩) (by rw [← r1.length]; exact z) (r1.grow (.new np))) (m1.new np) q1

/-! ### tests -/
def dTst (t : DTE) : DTT := fun m M Q => t m M fun d M1 => ∃ k, d = .bl k ∧ Q k M1
theorem up_tst {σ : SL} {H : Hp} {Q : Bool → Hp → Prop} (h : upT X.K (dTst te) σ H Q) : tTest (upE X.K te) σ H Q := by
  obtain ⟨m, M, Q', r, q, k⟩ := h
  refine ⟨m, M, _, r, q, fun d v M1 H1 g1 r1 m1 ⟨y, e1, q1⟩ => ?_⟩
  subst e1
  cases r1
  exact ⟨y, rfl, k y M1 H1 g1 m1 q1⟩
theorem dt_cmp {op : CmpOp} {r : DR2} (ho : DOp X (compareOp op) r) (ha : DE X a ta) (hb : DE X b tb) (hm : behindInMarks op b = false) : DT X (.Compare a [op] [b] pos) (dTst (dOp r ta tb)) :=
  imT (pt_cmpR ho ha hb hm) fun σ H Q h => by
    obtain ⟨m, M, Q', r, q, k⟩ := h
    refine up_op (σ := σ) (H := H) ⟨m, M, _, r, q, fun d v M1 H1 g1 r1 m1 ⟨y, e1, q1⟩ => ?_⟩
    subst e1
    cases r1
    exact ⟨y, rfl, k y M1 H1 g1 m1 q1⟩
theorem dt_val (h : DE X e te) (he : ∀ whole, isTrue e X.env whole = (do let v ← whole; standAt e.pos; holding [v] (truthy v)) := by intro _; rfl) : DT X e (dTst te) :=
  imT (pt_val h he) fun σ H Q h => up_tst (σ := σ) (H := H) (Q := Q) h
variable {pa pb : DTT} {rest : List Expr}
abbrev DW (X : Cx) (e : Expr) (t : DTT) : Prop := PW X e (upT X.K t)
def dAnd (t u : DTT) : DTT := fun m M Q => t m M fun k M1 => if k = true then u m M1 Q else Q false M1
def dOr (t u : DTT) : DTT := fun m M Q => t m M fun k M1 => if k = true then Q true M1 else u m M1 Q
def dNot (t : DTT) : DTT := fun m M Q => t m M fun k M1 => Q (!k) M1
theorem dw_and1 (ha : DT X a pa) : DW X (.BoolOp .And [a] pos) pa := pw_and1 ha
theorem dw_or1 (ha : DT X a pa) : DW X (.BoolOp .Or [a] pos) pa := pw_or1 ha
theorem dw_and (ha : DT X a pa) (hb : DW X (.BoolOp .And (b :: rest) pos) pb) : DW X (.BoolOp .And (a :: b :: rest) pos) (dAnd pa pb) :=
  imW (pw_and ha hb) fun σ H Q ⟨m, M, Q', r, q, k⟩ => by
    refine ⟨m, M, _, r, q, fun y M1 H1 g1 m1 q1 => ?_⟩
    cases y with
    | true => exact ⟨m, M1, Q', r.grow g1 m1, q1, fun z M2 H2 g2 => k z M2 H2 (g1.trans g2)⟩
    | false => exact k _ M1 H1 g1 m1 q1
theorem dw_or (ha : DT X a pa) (hb : DW X (.BoolOp .Or (b :: rest) pos) pb) : DW X (.BoolOp .Or (a :: b :: rest) pos) (dOr pa pb) :=
  imW (pw_or ha hb) fun σ H Q ⟨m, M, Q', r, q, k⟩ => by
    refine ⟨m, M, _, r, q, fun y M1 H1 g1 m1 q1 => ?_⟩
    cases y with
    | false => exact ⟨m, M1, Q', r.grow g1 m1, q1, fun z M2 H2 g2 => k z M2 H2 (g1.trans g2)⟩
    | true => exact k _ M1 H1 g1 m1 q1
theorem dt_w (h : DW X e pa) : DT X e pa := PW.pt h
theorem dt_not (ha : DT X a pa) : DT X (.UnaryOp .Not a pos) (dNot pa) :=
  imT (pt_not ha) fun σ H Q ⟨m, M, Q', r, q, k⟩ => ⟨m, M, _, r, q, fun y M1 H1 g1 m1 q1 => k _ M1 H1 g1 m1 q1⟩
/-- .. as values -/
def dAndV (t u : DTE) : DTE := fun m M Q => t m M fun d M1 => ∃ k, d = .bl k ∧ if k = true then u m M1 Q else Q (.bl false) M1
def dOrV (t u : DTE) : DTE := fun m M Q => t m M fun d M1 => ∃ k, d = .bl k ∧ if k = true then Q (.bl true) M1 else u m M1 Q
def dNotV (t : DTE) : DTE := fun m M Q => t m M fun d M1 => ∃ k, d = .bl k ∧ Q (.bl (!k)) M1
theorem d_one {op : BoolOp} (h : DE X a ta) : DE X (.BoolOp op [a] pos) ta := pe_one h
theorem d_and (ha : DE X a ta) (hb : DE X (.BoolOp .And (b :: rest) pos) tb) : DE X (.BoolOp .And (a :: b :: rest) pos) (dAndV ta tb) :=
  imE (pe_and ha hb) fun σ H Q ⟨m, M, Q', r, q, k⟩ => by
    refine ⟨m, M, _, r, q, fun d v M1 H1 g1 r1 m1 ⟨y, e1, q1⟩ => ?_⟩
    subst e1
    cases r1
    refine ⟨y, rfl, ?_⟩
    cases y with
    | true => exact ⟨m, M1, Q', r.grow g1 m1, q1, fun z w M2 H2 g2 => k z w M2 H2 (g1.trans g2)⟩
    | false => exact k _ _ M1 H1 g1 (.bl _) m1 q1
theorem d_or (ha : DE X a ta) (hb : DE X (.BoolOp .Or (b :: rest) pos) tb) : DE X (.BoolOp .Or (a :: b :: rest) pos) (dOrV ta tb) :=
  imE (pe_or ha hb) fun σ H Q ⟨m, M, Q', r, q, k⟩ => by
    refine ⟨m, M, _, r, q, fun d v M1 H1 g1 r1 m1 ⟨y, e1, q1⟩ => ?_⟩
    subst e1
    cases r1
    refine ⟨y, rfl, ?_⟩
    cases y with
    | false => exact ⟨m, M1, Q', r.grow g1 m1, q1, fun z w M2 H2 g2 => k z w M2 H2 (g1.trans g2)⟩
    | true => exact k _ _ M1 H1 g1 (.bl _) m1 q1
theorem d_not (ha : DE X a ta) : DE X (.UnaryOp .Not a pos) (dNotV ta) :=
  imE (pe_not ha) fun σ H Q ⟨m, M, Q', r, q, k⟩ => by
    refine ⟨m, M, _, r, q, fun d v M1 H1 g1 r1 m1 ⟨y, e1, q1⟩ => ?_⟩
    subst e1
    cases r1
    exact ⟨y, rfl, k _ _ M1 H1 g1 (.bl _) m1 q1⟩
def dIfE (t : DTT) (u v : DTE) : DTE := fun m M Q => t m M fun k M1 => if k = true then u m M1 Q else v m M1 Q
theorem d_ifE (hc : DT X c pa) (ha : DE X a ta) (hb : DE X b tb) : DE X (.IfExp c a b pos) (dIfE pa ta tb) :=
  imE (pe_ifExp hc ha hb) fun σ H Q ⟨m, M, Q', r, q, k⟩ => by
    refine ⟨m, M, _, r, q, fun y M1 H1 g1 m1 q1 => ?_⟩
    cases y with
    | true => exact ⟨m, M1, Q', r.grow g1 m1, q1, fun z w M2 H2 g2 => k z w M2 H2 (g1.trans g2)⟩
    | false => exact ⟨m, M1, Q', r.grow g1 m1, q1, fun z w M2 H2 g2 => k z w M2 H2 (g1.trans g2)⟩
end

/-! ### statements -/
section
variable {X : Cx} {e : Expr} {pos : Pos} {st : Stmt} {rest : List Stmt} {t u : DTS} {te : DTE}
def dNext : DTS := fun D m M => D.nx m M
def dSeq (t u : DTS) : DTS := fun D m M => t { D with nx := u D } m M
theorem ds_nil : DSs X [] dNext := imSs pss_nil fun D σ H ⟨m, M, D', r, q, k⟩ => k.nx m M σ H (.refl H) r q
theorem ds_cons (h1 : DS X st t) (h2 : DSs X rest u) : DSs X (st :: rest) (dSeq t u) :=
  imSs (pss_cons h1 h2) fun D σ H ⟨m, M, D', r, q, k⟩ => by
    refine ⟨m, M, { D' with nx := u D' }, r, q, ⟨fun m1 M1 σ1 H1 g1 r1 q1 => ?_, k.bk, k.ct, k.rt⟩⟩
    exact ⟨m1, M1, D', r1, q1, k.grow g1⟩
theorem ds_one (h1 : DS X st t) : DSs X [st] t := pss_one h1
def dBreak : DTS := fun D m M => D.bk m M
def dCont : DTS := fun D m M => D.ct m M
theorem ds_pass : DS X (.Pass pos) dNext := imS ps_pass fun D σ H ⟨m, M, D', r, q, k⟩ => k.nx m M σ H (.refl H) r q
theorem ds_break : DS X (.Break pos) dBreak := imS ps_break fun D σ H ⟨m, M, D', r, q, k⟩ => k.bk m M σ H (.refl H) r q
theorem ds_cont : DS X (.Continue pos) dCont := imS ps_continue fun D σ H ⟨m, M, D', r, q, k⟩ => k.ct m M σ H (.refl H) r q
def dDrop (te : DTE) : DTS := fun D m M => te m M fun _ M1 => D.nx m M1
theorem ds_expr (he : DE X e te) (hs : swapsWith e none pos.line X.env = pure false := by rfl) : DS X (.Expr e pos) (dDrop te) :=
  imS (ps_expr he hs) fun D σ H ⟨m, M, D', r, q, k⟩ => ⟨m, M, _, r, q, fun d v M1 H1 g1 r1 m1 q1 => k.nx m M1 σ H1 g1 (r.grow g1 m1) q1⟩
def dRet (te : DTE) : DTS := fun D m M => te m M D.rt
theorem ds_ret (he : DE X e te) : DS X (.Return (some e) pos) (dRet te) :=
  imS (ps_ret he) fun D σ H ⟨m, M, D', r, q, k⟩ => ⟨m, M, _, r, q, fun d v M1 H1 g1 r1 m1 q1 => k.rt d v M1 H1 g1 r1 m1 q1⟩
def dRetN : DTS := fun D _ M => D.rt .non M
theorem ds_retN : DS X (.Return none pos) dRetN :=
  imS ps_retN fun D σ H ⟨m, M, D', r, q, k⟩ => k.rt _ _ M H (.refl H) .non r.mem q
def dIf (p : DTT) (t u : DTS) : DTS := fun D m M => p m M fun k M1 => if k = true then t D m M1 else u D m M1
theorem ds_if {c : Expr} {x y : List Stmt} {p : DTT} (hc : DT X c p) (ha : DSs X x t) (hb : DSs X y u) : DS X (.If c x y pos) (dIf p t u) :=
  imS (ps_if hc ha hb) fun D σ H ⟨m, M, D', r, q, k⟩ => by
    refine ⟨m, M, _, r, q, fun z M1 H1 g1 m1 q1 => ?_⟩
    cases z with
    | true => exact ⟨m, M1, D', r.grow g1 m1, q1, k.grow g1⟩
    | false => exact ⟨m, M1, D', r.grow g1 m1, q1, k.grow g1⟩
def dNever : DTS := fun _ _ _ => False
theorem ds_never : DS X st dNever := ⟨fun _ _ _ _ _ _ ⟨_, _, _, _, q, _⟩ => q.elim⟩
theorem dss_never {sts : List Stmt} : DSs X sts dNever := ⟨fun _ _ _ _ _ _ ⟨_, _, _, _, q, _⟩ => q.elim⟩
/-- slot i's list is frozen ahead of a statement -/
def dFzS (i : Nat) (t : DTS) : DTS := fun D m M => ∃ p ds, m[i]? = some (some (.ref p)) ∧ M p = some (.lst ds) ∧ t D (m.set i (some (.lst ds))) (mdel M p)
theorem ds_fz (i : Nat) (h : DS X st t) : DS X st (dFzS i t) := by
  refine ⟨fun pins s σ H D I ⟨m, M, D', r, ⟨p, ds, e1, e2, q⟩, k⟩ => ?_⟩
  obtain ⟨v, h1, h2⟩ := r.slot i _ e1
  cases h2
  obtain ⟨vs, h3, z, l⟩ := r.mem.lst e2
  obtain ⟨o, I2⟩ := inv_frz I h3
  refine h.run pins s σ _ D I2 ⟨_, _, D', ?_, q, k.grow (.put h3)⟩
  have hi : i < m.length := (List.getElem?_eq_some_iff.mp e1).1
  refine ⟨by rw [List.length_set]; exact r.len, fun j d q1 => ?_, r.mem.frz h3⟩
  by_cases hj : i = j
  · subst hj
    rw [List.getElem?_set_self hi] at q1
    cases q1
    exact ⟨_, h1, .lst (.inl ⟨o, upd_same⟩) z (l.grow (.put h3))⟩
  · rw [List.getElem?_set_ne hj] at q1
    obtain ⟨w, h5, h6⟩ := r.slot j d q1
    exact ⟨w, h5, h6.grow (.put h3)⟩

/-! ### targets: ws are the slots that are written -/
abbrev DTG := D → DSt → DM → (DSt → DM → Prop) → Prop
abbrev DTGs := List D → DSt → DM → (DSt → DM → Prop) → Prop
def Off (ws : List Nat) (σ σ' : SL) : Prop := σ'.length = σ.length ∧ ∀ i, i ∉ ws → σ'[i]? = σ[i]?
def upG (K : PySem.W.Frag) (ws : List Nat) (t : DTG) : TG := fun v σ H Q => ∃ d m M Q', Rep K H d v ∧ R K m M σ H ∧ t d m M Q' ∧
  ∀ m' M' σ' H', Grow H H' → R K m' M' σ' H' → Off ws σ σ' → Q' m' M' → Q σ' H'
def upGs (K : PySem.W.Frag) (ws : List Nat) (t : DTGs) : TGs := fun vs σ H Q => ∃ ds m M Q', RepL K H ds vs ∧ R K m M σ H ∧ t ds m M Q' ∧
  ∀ m' M' σ' H', Grow H H' → R K m' M' σ' H' → Off ws σ σ' → Q' m' M' → Q σ' H'
abbrev DG (X : Cx) (ws : List Nat) (tg : Expr) (t : DTG) : Prop := PG X tg (upG X.K ws t)
abbrev DGs (X : Cx) (ws : List Nat) (tgs : List Expr) (t : DTGs) : Prop := PGs X tgs (upGs X.K ws t)
theorem imG {tg : Expr} {t t' : TG} (h : PG X tg t) (i : ∀ v σ H Q, t' v σ H Q → t v σ H Q) : PG X tg t' := ⟨fun pins s σ H v u Q I r q => h.run pins s σ H v u Q I r (i v σ H Q q)⟩
theorem imGs {tg : List Expr} {t t' : TGs} (h : PGs X tg t) (i : ∀ v σ H Q, t' v σ H Q → t v σ H Q) : PGs X tg t' := ⟨fun pins s σ H v u Q I r q => h.run pins s σ H v u Q I r (i v σ H Q q)⟩
def dgName (i : Nat) : DTG := fun d m M Q => Q (m.set i (some d)) M
theorem Off.refl (ws : List Nat) (σ : SL) : Off ws σ σ := ⟨rfl, fun _ _ => rfl⟩
theorem Off.set {i : Nat} {σ : SL} {v : V} : Off [i] σ (σ.set i (some v)) := ⟨List.length_set, fun j h => by
  have : i ≠ j := fun z => h (by simp [z])
  exact List.getElem?_set_ne this⟩
theorem Off.trans {ws us : List Nat} {σ σ1 σ2 : SL} (h : Off ws σ σ1) (k : Off us σ1 σ2) : Off (ws ++ us) σ σ2 :=
  ⟨k.1.trans h.1, fun i hi => (k.2 i fun z => hi (List.mem_append_right _ z)).trans (h.2 i fun z => hi (List.mem_append_left _ z))⟩
theorem dg_name {i : Nat} {x : Str} (hN : X.N.Nodup) (hi : X.N[i]? = some x) (hx : Loc X.env.scope x) (hf : X.fn x = true ∨ X.env.scope.names.lookup x = some .local := by first | exact .inl rfl | exact .inr rfl | assumption) :
    DG X [i] (.Name x pos) (dgName i) :=
  imG (pg_name hN hi hx hf) fun v σ H Q ⟨d, m, M, Q', rd, r, q, k⟩ => k _ _ _ H (.refl H) (r.set rd) .set q
def dgNil : DTGs := fun ds m M Q => ds = [] ∧ Q m M
def dgCons (t : DTG) (u : DTGs) : DTGs := fun ds m M Q => ∃ d r, ds = d :: r ∧ t d m M fun m1 M1 => u r m1 M1 Q
theorem dgs_nil : DGs X [] [] dgNil := imGs pgs_nil fun v σ H Q ⟨ds, m, M, Q', rd, r, ⟨e, q⟩, k⟩ => by
  subst e
  cases rd
  exact ⟨rfl, k _ _ _ H (.refl H) r (.refl _ _) q⟩
theorem dgs_cons {es : List Expr} {ws us : List Nat} {t : DTG} {u : DTGs} (h1 : DG X ws e t) (h2 : DGs X us es u)
    (hs : (assignEach (e :: es) X.env).map (·.2) = assign e X.env :: (assignEach es X.env).map (·.2) := by rfl) : DGs X (ws ++ us) (e :: es) (dgCons t u) :=
  imGs (pgs_cons h1 h2 hs) fun v σ H Q ⟨ds, m, M, Q', rd, r, ⟨d, dr, e, q⟩, k⟩ => by
    subst e
    cases rd with
    | cons r1 rl =>
      refine ⟨_, _, rfl, _, m, M, _, r1, r, q, fun m1 M1 σ1 H1 g1 rr o1 q1 => ?_⟩
      exact ⟨_, m1, M1, _, rl.grow g1, rr, q1, fun m2 M2 σ2 H2 g2 r2 o2 q2 => k m2 M2 σ2 H2 (g1.trans g2) r2 (o1.trans o2) q2⟩
def dgTup (n : Nat) (t : DTGs) : DTG := fun d m M Q => ∃ ds, d = .tup ds ∧ ds.length = n ∧ t ds m M Q
theorem dg_tup {es : List Expr} {k n : Nat} {ws : List Nat} {t : DTGs} (hc : X.calm = true) (h : DGs X ws es t)
    (hn : (assignEach es X.env).length = n := by rfl) (hst : (assignEach es X.env).findIdx? (·.1) = none := by rfl) : DG X ws (.Tuple es k pos) (dgTup n t) :=
  imG (pg_tup hc h hn hst) fun v σ H Q ⟨d, m, M, Q', rd, r, ⟨ds, e, hl, q⟩, k⟩ => by
    subst e
    cases rd with
    | tup hs _ hl2 => exact ⟨_, _, rfl, hs, by rw [← hl2.length]; exact hl, ds, m, M, Q', hl2, r, q, k⟩
def dAsg (te : DTE) (g : DTG) : DTS := fun D m M => te m M fun d M1 => g d m M1 D.nx
theorem ds_asg {tg : Expr} {ws : List Nat} {g : DTG} (he : DE X e te) (hg : DG X ws tg g) (hs : swapsWithSole [tg] e pos.line X.env = pure false := by rfl) (hw : swappedStores [tg] e X.env = pure none := by rfl)
    (h1 : (assignEach [tg] X.env).map (·.2) = [assign tg X.env] := by rfl) : DS X (.Assign [tg] e pos) (dAsg te g) :=
  imS (ps_asg he hg hs hw h1) fun D σ H ⟨m, M, D', r, q, k⟩ => by
    refine ⟨m, M, _, r, q, fun d v M1 H1 g1 r1 m1 q1 => ?_⟩
    exact ⟨d, m, M1, _, r1, r.grow g1 m1, q1, fun m2 M2 σ2 H2 g2 r2 _ q2 => k.nx m2 M2 σ2 H2 (g1.trans g2) r2 q2⟩
def dSet (i : Nat) (te : DTE) : DTS := fun D m M => te m M fun d M1 => D.nx (m.set i (some d)) M1
theorem ds_set {i : Nat} {x : Str} {pos' : Pos} (hN : X.N.Nodup) (hi : X.N[i]? = some x) (hx : Loc X.env.scope x) (he : DE X e te) (hs : swapsWith e (some (.Name x pos')) pos.line X.env = pure false := by rfl)
    (hf : X.fn x = true ∨ X.env.scope.names.lookup x = some .local := by first | exact .inl rfl | exact .inr rfl | assumption) : DS X (.Assign [.Name x pos'] e pos) (dSet i te) :=
  imS (ps_set hN hi hx he hs hf) fun D σ H ⟨m, M, D', r, q, k⟩ =>
    ⟨m, M, _, r, q, fun d v M1 H1 g1 r1 m1 q1 => k.nx _ M1 _ H1 g1 ((r.grow g1 m1).set r1) q1⟩
end

/-! ### what is walked -/
abbrev Src := List D × Option Addr
abbrev DTI := DSt → DM → (Src → DM → Prop) → Prop
def SrcOk (K : PySem.W.Frag) (src : Src) (H0 H : Hp) : Prop := Grow H0 H ∧ ∀ a, src.2 = some a → ∃ vs, H a = some (.lst vs) ∧ RepL K H src.1 vs
structure Stream (K : PySem.W.Frag) (J : It) (src : Src) (H0 : Hp) : Prop where
  small : src.1.length ≤ sizeLine
  go : ∀ i H, SrcOk K src H0 H → i < src.1.length → J.go i H
  yld : ∀ i H x H', SrcOk K src H0 H → i < src.1.length → J.yld i H x H' → Grow H H' ∧ (∀ M, RM K H M → RM K H' M) ∧ ∃ d, src.1[i]? = some d ∧ Rep K H' d x
  stop : ∀ H, SrcOk K src H0 H → J.stop src.1.length H
def upI (K : PySem.W.Frag) (t : DTI) : TI := fun σ H Rr => ∃ m M Q', R K m M σ H ∧ t m M Q' ∧
  ∀ src M' H' J, Grow H H' → RM K H' M' → Q' src M' → Stream K J src H' → Rr J H'
abbrev DI (X : Cx) (tg iter : Expr) (t : DTI) : Prop := PI X tg iter (upI X.K t)
theorem imI {X : Cx} {tg iter : Expr} {t t' : TI} (h : PI X tg iter t) (i : ∀ σ H Q, t' σ H Q → t σ H Q) : PI X tg iter t' := ⟨fun pins s σ H Q I q => h.run pins s σ H Q I (i σ H Q q)⟩
/-- the walked list is as it was -/
def SrcV (src : Src) (M : DM) : Prop := ∀ a, src.2 = some a → M a = some (.lst src.1)
theorem SrcV.ok {K : PySem.W.Frag} {src : Src} {H0 H : Hp} {M : DM} (h : SrcV src M) (g : Grow H0 H) (r : RM K H M) : SrcOk K src H0 H :=
  ⟨g, fun a e => let ⟨vs, h1, _, h2⟩ := r.lst (h a e); ⟨vs, h1, h2⟩⟩
/-- something is forgotten of the mutable part -/
def fg (P : DSt → DM → Prop) : DSt → DM → Prop := fun m M => ∃ M0, MLe M0 M ∧ P m M0
theorem fg_of {P : DSt → DM → Prop} {m : DSt} {M : DM} (h : P m M) : fg P m M := ⟨M, .refl M, h⟩
def dForGo (src : Src) (g : DTG) (tb : DTS) (Z : DEnds) : List D → DSt → DM → Prop
  | [], m, M => SrcV src M ∧ Z.nx m M
  | d :: ds, m, M => SrcV src M ∧ g d m M fun m1 M1 => tb { Z with nx := fg (dForGo src g tb Z ds), ct := fg (dForGo src g tb Z ds), bk := Z.nx } m1 M1
def dFor (t : DTI) (g : DTG) (tb : DTS) : DTS := fun D m M => t m M fun src M1 => src.1.length ≤ sizeLine → dForGo src g tb D src.1 m M1
section
variable {X : Cx} {tg iter : Expr} {pos : Pos} {t : DTI} {g : DTG} {tb : DTS} {ws : List Nat}
theorem R.le {K : PySem.W.Frag} {m : DSt} {M M0 : DM} {σ : SL} {H : Hp} (r : R K m M σ H) (l : MLe M0 M) : R K m M0 σ H := ⟨r.len, r.slot, r.mem.le l⟩
theorem ds_for {body : List Stmt} (hp : PassesOwn (model X.prog X.w) X.A X.env X.xe) (hc : X.calm = true) (hi : DI X tg iter t) (hg : DG X ws tg g) (hb : DSs X body tb)
    (hs : ∀ x, foldedSetIterable iter X.env x = pure x := by intro _; rfl) : DS X (.For tg iter body [] pos) (dFor t g tb) :=
  imS (ps_for hp hc hi hg hb hs) fun D σ H ⟨m, M, D', r, q, k⟩ => by
    refine ⟨m, M, _, r, q, fun src M1 H1 J g1 m1 q1 st => ?_⟩
    refine ⟨fun i n σ H2 => i + n = src.1.length ∧ Grow H1 H2 ∧ ∃ m M, R X.K m M σ H2 ∧ dForGo src g tb D' (src.1.drop i) m M, ⟨src.1.length, by omega, .refl _, m, M1, r.grow g1 m1, q1 st.small⟩, ?_⟩
    rintro i n σ2 H2 ⟨hl, g2, m2, M2, r2, q2⟩
    by_cases hlt : i < src.1.length
    · have hd : src.1.drop i = src.1[i] :: src.1.drop (i + 1) := List.drop_eq_getElem_cons hlt
      rw [hd] at q2
      obtain ⟨sv, q2⟩ := q2
      have so := sv.ok g2 r2.mem
      refine .inr ⟨st.go i H2 so hlt, fun σ' H' => Grow H1 H' ∧ ∃ m M, R X.K m M σ' H' ∧ dForGo src g tb D' (src.1.drop (i + 1)) m M, fun σ' H' ⟨g3, m3, M3, r3, q3⟩ => ⟨n - 1, by omega, by omega, g3, m3, M3, r3, q3⟩, fun x H' y => ?_⟩
      obtain ⟨g3, k3, d, e3, rd⟩ := st.yld i H2 x H' so hlt y
      have ed : d = src.1[i] := by
        rw [List.getElem?_eq_getElem hlt] at e3
        exact (Option.some.inj e3).symm
      subst ed
      refine ⟨_, m2, M2, _, rd, r2.grow g3 (k3 _ r2.mem), q2, fun m4 M4 σ4 H4 g4 r4 _ q4 => ?_⟩
      have g04 : Grow H1 H4 := (g2.trans g3).trans g4
      refine ⟨m4, M4, _, r4, q4, ⟨fun m5 M5 σ5 H5 g5 r5 ⟨M6, l6, q6⟩ => ⟨g04.trans g5, m5, M6, r5.le l6, q6⟩, fun m5 M5 σ5 H5 g5 r5 q5 => k.nx m5 M5 σ5 H5 ((g1.trans g04).trans g5) r5 q5,
        fun m5 M5 σ5 H5 g5 r5 ⟨M6, l6, q6⟩ => ⟨g04.trans g5, m5, M6, r5.le l6, q6⟩, fun d v M5 H5 g5 => k.rt d v M5 H5 ((g1.trans g04).trans g5)⟩⟩
    · have e : i = src.1.length := by omega
      subst e
      rw [List.drop_length] at q2
      obtain ⟨sv, q2⟩ := q2
      exact .inl ⟨st.stop H2 (sv.ok g2 r2.mem), k.nx m2 M2 σ2 H2 (g1.trans g2) r2 q2⟩
def dWhile (c : DTT) (tb : DTS) : DTS := fun D m M => ∃ W : Nat → DSt → DM → Prop, (∃ n, W n m M) ∧ ∀ n m M, W n m M → c m M fun k M1 =>
  if k = true then tb { D with nx := fg fun m' M' => ∃ n', n' < n ∧ W n' m' M', ct := fg fun m' M' => ∃ n', n' < n ∧ W n' m' M', bk := D.nx } m M1 else D.nx m M1
theorem ds_while {c : Expr} {body : List Stmt} {tc : DTT} (hp : PassesOwn (model X.prog X.w) X.A X.env X.xe) (hc : DT X c tc) (hb : DSs X body tb) : DS X (.While c body [] pos) (dWhile tc tb) :=
  imS (ps_while hp hc hb) fun D σ H ⟨m, M, D', r, ⟨W, ⟨n0, w0⟩, turn⟩, k⟩ => by
    refine ⟨fun n σ H1 => Grow H H1 ∧ ∃ m M, R X.K m M σ H1 ∧ W n m M, ⟨n0, .refl _, m, M, r, w0⟩, ?_⟩
    rintro n σ1 H1 ⟨g1, m1, M1, r1, w1⟩
    refine ⟨m1, M1, _, r1, turn n m1 M1 w1, fun y M2 H2 g2 m2 q2 => ?_⟩
    have r2 := r1.grow g2 m2
    cases y with
    | true =>
      refine ⟨fun σ' H' => ∃ n', n' < n ∧ Grow H H' ∧ ∃ m M, R X.K m M σ' H' ∧ W n' m M, fun σ' H' ⟨n', hn, y⟩ => ⟨n', hn, y⟩, ?_⟩
      refine ⟨m1, M2, _, r2, q2, ⟨fun m5 M5 σ5 H5 g5 r5 ⟨M6, l6, n', hn, q6⟩ => ⟨n', hn, (g1.trans g2).trans g5, m5, M6, r5.le l6, q6⟩, fun m5 M5 σ5 H5 g5 r5 q5 => k.nx m5 M5 σ5 H5 ((g1.trans g2).trans g5) r5 q5,
        fun m5 M5 σ5 H5 g5 r5 ⟨M6, l6, n', hn, q6⟩ => ⟨n', hn, (g1.trans g2).trans g5, m5, M6, r5.le l6, q6⟩, fun d v M5 H5 g5 => k.rt d v M5 H5 ((g1.trans g2).trans g5)⟩⟩
    | false => exact k.nx m1 M2 σ1 H2 (g1.trans g2) r2 q2
end
end DL
namespace DL
open PySem PySem.Spec PyProof.Rows L2

/-! ### items of a value -/
def dItems : D → DM → Option (List D)
  | .tup xs, _ => some xs
  | .lst xs, _ => some xs
  | .ref a, M => match M a with
    | some (.lst xs) => some xs
    | _ => none
  | _, _ => none
def dAt : D → Option Addr
  | .ref a => some a
  | _ => none
@[simp] theorem dItems_tup {xs : List D} {M : DM} : dItems (.tup xs) M = some xs := rfl
@[simp] theorem dItems_lst {xs : List D} {M : DM} : dItems (.lst xs) M = some xs := rfl
theorem dItems_ref {xs : List D} {M : DM} {a : Addr} (h : M a = some (.lst xs)) : dItems (.ref a) M = some xs := by
  simp [dItems, h]
theorem items_of {K : PySem.W.Frag} {H : Hp} {M : DM} {d : D} {v : V} {xs : List D} (r : Rep K H d v) (m : RM K H M) (e : dItems d M = some xs) :
    ∃ a vs, v = .ref a ∧ vs.length ≤ sizeLine ∧ RepL K H xs vs ∧ ((SqL K H a vs ∧ (∀ p, d = .ref p → p = a ∧ H a = some (.lst vs)) ∧ ((∃ p, d = .ref p) ∨ FrzL K H a vs)) ∨ (SqT K H a vs ∧ d = .tup xs)) := by
  cases r with
  | tup h z l =>
    cases e
    exact ⟨_, _, rfl, z, l, .inr ⟨h, rfl⟩⟩
  | lst h z l =>
    cases e
    exact ⟨_, _, rfl, z, l, .inl ⟨h.seq, (fun p q => nomatch q), .inr h⟩⟩
  | ref a =>
    have e' : (match M a with | some (.lst xs) => some xs | _ => none) = some xs := e
    cases q : M a with
    | none => rw [q] at e'; cases e'
    | some o =>
      rw [q] at e'
      cases o with
      | lst ys =>
        cases e'
        obtain ⟨vs, h1, z, l⟩ := m.lst q
        exact ⟨a, vs, rfl, z, l, .inl ⟨.of h1, fun p q => by cases q; exact ⟨rfl, h1⟩, .inl ⟨a, rfl⟩⟩⟩
      | dct _ _ => cases e'
      | tab _ => cases e'
      | dk _ => cases e'
  | _ => cases e

/-! ### what a list or tuple gives to a loop -/
section
variable {X : Cx} {tg l : Expr} {te : DTE} {pos p : Pos}
def iSeq (K : PySem.W.Frag) (tl : TE) : TI := fun σ H Rr => tl σ H fun x H1 => ∃ a, x = .ref a ∧ (((∃ xs, SqL K H1 a xs) ∧ Rr (Itl K a) H1) ∨ ((∃ xs, SqT K H1 a xs) ∧ Rr (Itt K a) H1))
theorem pi_seq {tl : TE} (hl : PE X l tl) : PI X tg l (iSeq X.K tl) := by
  refine ⟨fun pins s σ H Rr I h => thn (hl.run pins s σ H _ I h) fun v s1 ⟨x, H1, I1, r1, a, e, q⟩ => ?_⟩
  subst e
  cases r1
  have fp : ∀ b ∈ [s1.heap.objs.size], FpOk X pins H1 b := fun b hb => by
    have e : b = s1.heap.objs.size := by simpa using hb
    subst e
    exact I1.fpOk (Nat.le_refl _) (I1.hok.fresh (Nat.le_refl _))
  rcases q with ⟨⟨xs, hq⟩, q⟩ | ⟨⟨xs, hq⟩, q⟩
  · obtain ⟨its, _, pl, _⟩ := I1.list hq
    exact wpAny_pyIter_list pl.isList ⟨_, [s1.heap.objs.size], _, _, H1, rfl, I1.kept (t' := s1.toks) fun b o e => Heap.get?_push_of_some _ e,
      turn_list a _, ⟨_, Heap.get?_push_size _ rfl, rfl, rfl⟩, fp, q⟩
  · obtain ⟨its, _, pt, _⟩ := I1.tuple hq
    exact wpAny_pyIter_tuple (show s1.heap.IsTuple a its.toArray from pt) ⟨_, [s1.heap.objs.size], _, _, H1, rfl, I1.kept (t' := s1.toks) fun b o e => Heap.get?_push_of_some _ e,
      turn_tuple a _, ⟨_, Heap.get?_push_size _ rfl, rfl, rfl⟩, fp, q⟩
theorem sqL_inj {K : PySem.W.Frag} {H : Hp} {a : Addr} {vs : List V} (h : H a = some (.lst vs)) : SqL K H a vs := .of h
def diSeq (te : DTE) : DTI := fun m M Q => te m M fun d M1 => ∃ xs, dItems d M1 = some xs ∧ Q (xs, dAt d) M1
theorem stream_list {K : PySem.W.Frag} {H0 : Hp} {xs : List D} {at' : Option Addr} {a : Addr} {vs : List V} (z : vs.length ≤ sizeLine) (l : RepL K H0 xs vs)
    (hs : ∀ H, SrcOk K (xs, at') H0 H → ∃ ws, SqL K H a ws ∧ RepL K H xs ws) : Stream K (Itl K a) (xs, at') H0 := by
  refine ⟨by rw [show (xs, at').1 = xs from rfl, l.length]; exact z, fun i H ok hi => ?_, fun i H x H' ok hi y => ?_, fun H ok => ?_⟩
  · obtain ⟨ws, h1, h2⟩ := hs H ok
    obtain ⟨w, e, _⟩ := h2.get (List.getElem?_eq_getElem hi)
    exact ⟨ws, w, h1, e⟩
  · obtain ⟨ws, h1, h2⟩ := hs H ok
    obtain ⟨e1, e2⟩ := y
    subst e1
    obtain ⟨d, e3, rd⟩ := h2.get' (e2 ws h1)
    exact ⟨.refl _, fun _ q => q, d, e3, rd⟩
  · obtain ⟨ws, h1, h2⟩ := hs H ok
    exact ⟨ws, h1, by rw [← h2.length]; exact Nat.le_refl _⟩
theorem stream_tup {K : PySem.W.Frag} {H0 : Hp} {xs : List D} {at' : Option Addr} {a : Addr} {vs : List V} (z : vs.length ≤ sizeLine) (l : RepL K H0 xs vs) (h : SqT K H0 a vs) : Stream K (Itt K a) (xs, at') H0 := by
  refine ⟨by rw [show (xs, at').1 = xs from rfl, l.length]; exact z, fun i H ok hi => ?_, fun i H x H' ok hi y => ?_, fun H ok => ?_⟩
  · obtain ⟨w, e, _⟩ := l.get (List.getElem?_eq_getElem hi)
    exact ⟨vs, w, sqT_grow h ok.1, e⟩
  · obtain ⟨e1, e2⟩ := y
    subst e1
    obtain ⟨d, e3, rd⟩ := l.get' (e2 vs (sqT_grow h ok.1))
    exact ⟨.refl _, fun _ q => q, d, e3, rd.grow ok.1⟩
  · exact ⟨vs, sqT_grow h ok.1, by rw [← l.length]; exact Nat.le_refl _⟩
theorem di_seq (h : DE X l te) : DI X tg l (diSeq te) :=
  imI (pi_seq h) fun σ H Q ⟨m, M, Q', r, q, k⟩ => by
    refine ⟨m, M, _, r, q, fun d v M1 H1 g1 r1 m1 ⟨xs, e, q1⟩ => ?_⟩
    obtain ⟨a, vs, rfl, z, l, ⟨h1, h2, h3⟩ | ⟨h1, h2⟩⟩ := items_of r1 m1 e
    · refine ⟨a, rfl, .inl ⟨⟨vs, h1⟩, k _ M1 H1 _ g1 m1 q1 (stream_list z l fun H2 ok => ?_)⟩⟩
      rcases h3 with ⟨p, hp⟩ | h3
      · subst hp
        obtain ⟨e1, _⟩ := h2 p rfl
        subst e1
        obtain ⟨ws, h5, h6⟩ := ok.2 p rfl
        exact ⟨ws, .of h5, h6⟩
      · exact ⟨vs, (h3.grow ok.1).seq, l.grow ok.1⟩
    · exact ⟨a, rfl, .inr ⟨⟨vs, h1⟩, k _ M1 H1 _ g1 m1 q1 (stream_tup z l h1)⟩⟩
def rangeD (lo : Int) (n : Nat) : List D := (List.range n).map fun i => D.int (lo + (i : Nat))
theorem stream_range {K : PySem.W.Frag} {H0 : Hp} {lo : Int} {n : Nat} (hz : n ≤ sizeLine) : Stream K (Itr lo n) (rangeD lo n, none) H0 := by
  have hl : (rangeD lo n).length = n := by simp [rangeD]
  refine ⟨by rw [show (rangeD lo n, (none : Option Addr)).1 = rangeD lo n from rfl, hl]; exact hz, fun i H ok hi => ?_, fun i H x H' ok hi y => ?_, fun H ok => ?_⟩
  · exact (by rw [← hl]; exact hi : i < n)
  · obtain ⟨e1, e2⟩ := y
    subst e1
    subst e2
    have hi' : i < n := by rw [← hl]; exact hi
    exact ⟨.refl _, fun _ q => q, .int (lo + (i : Nat)), by simp [rangeD, hi'], .int _⟩
  · show n ≤ (rangeD lo n).length
    omega
def diRng1 (t : DTA) : DTI := fun m M Q => t m M fun ds M1 => ∃ j : Int, ds = [.int j] ∧ j ≤ 16777216 ∧ -1000000000 ≤ j ∧ Q (rangeD 0 j.toNat, none) M1
def diRng2 (t : DTA) : DTI := fun m M Q => t m M fun ds M1 => ∃ i j : Int, ds = [.int i, .int j] ∧ (-1000000000 ≤ i ∧ i ≤ 1000000000 ∧ -1000000000 ≤ j ∧ j ≤ 1000000000) ∧ j - i ≤ 16777216 ∧ Q (rangeD i (j - i).toNat, none) M1
theorem repL_one {K : PySem.W.Frag} {H : Hp} {d : D} {vs : List V} (h : RepL K H [d] vs) : ∃ v, vs = [v] ∧ Rep K H d v := by
  cases h with
  | cons a b =>
    cases b
    exact ⟨_, rfl, a⟩
theorem repL_two {K : PySem.W.Frag} {H : Hp} {d e : D} {vs : List V} (h : RepL K H [d, e] vs) : ∃ v w, vs = [v, w] ∧ Rep K H d v ∧ Rep K H e w := by
  cases h with
  | cons a b =>
    obtain ⟨w, e, r⟩ := repL_one b
    subst e
    exact ⟨_, w, rfl, a, r⟩
theorem di_range1 {a : Expr} {t : DTA} (hg : Gl X "range") (hm : X.mg "range" = none) (ha : DA X [a] t) (hs : starEach [a] X.env = [(false, eval a X.env)] := by rfl) : DI X tg (.Call (.Name "range" p) [a] [] pos) (diRng1 t) :=
  imI (pi_range1 hg hm ha hs) fun σ H Q ⟨m, M, Q', r, q, k⟩ => by
    refine ⟨m, M, _, r, q, fun ds vs M1 H1 g1 r1 m1 ⟨j, e, h1, h2, q1⟩ => ?_⟩
    subst e
    obtain ⟨v, e, rv⟩ := repL_one r1
    subst e
    cases rv
    have hsl := sizeLine_eq
    exact ⟨j, rfl, by omega, by omega, k _ M1 H1 _ g1 m1 q1 (stream_range (by omega))⟩
theorem di_range2 {a b : Expr} {t : DTA} (hg : Gl X "range") (hm : X.mg "range" = none) (ha : DA X [a, b] t) (hs : starEach [a, b] X.env = [(false, eval a X.env), (false, eval b X.env)] := by rfl) (hs2 : starEach [b] X.env = [(false, eval b X.env)] := by rfl) :
    DI X tg (.Call (.Name "range" p) [a, b] [] pos) (diRng2 t) :=
  imI (pi_range2 hg hm ha hs hs2) fun σ H Q ⟨m, M, Q', r, q, k⟩ => by
    refine ⟨m, M, _, r, q, fun ds vs M1 H1 g1 r1 m1 ⟨i, j, e, ⟨h1, h2, h3, h4⟩, h5, q1⟩ => ?_⟩
    subst e
    obtain ⟨v, w, e, rv, rw'⟩ := repL_two r1
    subst e
    cases rv
    cases rw'
    have hsl := sizeLine_eq
    exact ⟨i, j, rfl, ⟨by omega, by omega, by omega, by omega⟩, k _ M1 H1 _ g1 m1 q1 (stream_range (by omega))⟩
end

/-! ### comprehensions -/
def dwipe (m : DSt) : List Nat → DSt
  | [] => m
  | v :: vs => (dwipe m vs).set v none
theorem wipe_get (σ : SL) : ∀ (vs : List Nat) (i : Nat), (wipe σ vs)[i]? = if i ∈ vs then (if i < σ.length then some none else none) else σ[i]?
  | [], i => by simp [wipe]
  | v :: vs, i => by
    unfold wipe
    by_cases h : v = i
    · subst h
      by_cases hl : v < σ.length
      · rw [List.getElem?_set_self (by rw [wipe_length]; exact hl)]
        simp [hl]
      · rw [List.getElem?_eq_none (by rw [List.length_set, wipe_length]; omega)]
        simp [hl]
    · rw [List.getElem?_set_ne h, wipe_get σ vs i]
      have : ¬ i = v := fun z => h z.symm
      simp [this]
theorem dwipe_len (m : DSt) : ∀ vs : List Nat, (dwipe m vs).length = m.length
  | [] => rfl
  | v :: vs => by
    unfold dwipe
    rw [List.length_set, dwipe_len m vs]
theorem dwipe_some {m : DSt} {i : Nat} {d : D} : ∀ {vs : List Nat}, (dwipe m vs)[i]? = some (some d) → m[i]? = some (some d) ∧ i ∉ vs
  | [], h => ⟨h, by simp⟩
  | v :: vs, h => by
    unfold dwipe at h
    by_cases hv : v = i
    · subst hv
      by_cases hl : v < (dwipe m vs).length
      · rw [List.getElem?_set_self hl] at h
        cases h
      · rw [List.getElem?_eq_none (by rw [List.length_set]; omega)] at h
        cases h
    · rw [List.getElem?_set_ne hv] at h
      obtain ⟨h1, h2⟩ := dwipe_some h
      have : ¬ i = v := fun z => hv z.symm
      exact ⟨h1, by simp [this, h2]⟩
theorem R.wipe {K : PySem.W.Frag} {m : DSt} {M : DM} {σ : SL} {H : Hp} (r : R K m M σ H) (vs : List Nat) : R K (dwipe m vs) M (wipe σ vs) H := by
  refine ⟨by rw [dwipe_len, wipe_length]; exact r.len, fun i d e => ?_, r.mem⟩
  obtain ⟨h1, h2⟩ := dwipe_some e
  obtain ⟨v, h3, h4⟩ := r.slot i d h1
  exact ⟨v, by rw [wipe_get, if_neg h2]; exact h3, h4⟩
theorem wipe_off {ws vs : List Nat} {σ σ' : SL} (o : Off ws (wipe σ vs) σ') (hs : ∀ i ∈ ws, i ∈ vs) : wipe σ' vs = wipe σ vs := by
  apply List.ext_getElem?
  intro i
  have hl : σ'.length = σ.length := by rw [o.1, wipe_length]
  rw [wipe_get, wipe_get, hl]
  by_cases h : i ∈ vs
  · rw [if_pos h, if_pos h]
  · rw [if_neg h, if_neg h, o.2 i fun z => h (hs i z), wipe_get, if_neg h]
def dLcGo (src : Src) (g : DTG) (tt : DTT) (te : DTE) (m0 : DSt) (p : Addr) (Qd : List D → DM → Prop) : List D → List D → DM → Prop
  | [], acc, M => SrcV src M ∧ Qd acc M
  | d :: ds, acc, M => SrcV src M ∧ g d m0 M fun m1 M1 => tt m1 M1 fun b M2 =>
      if b = true then te m1 M2 fun y M3 => M3 p = some (.lst acc) ∧ dLcGo src g tt te m0 p Qd ds (acc ++ [y]) (mput M3 p (.lst (acc ++ [y])))
      else M2 p = some (.lst acc) ∧ dLcGo src g tt te m0 p Qd ds acc M2
/-- [e for ..]: a list that will be changed, one that stays -/
def dLc (t : DTI) (g : DTG) (tt : DTT) (te : DTE) (vs : List Nat) : DTE := fun m M Q => t m M fun src M1 => src.1.length ≤ sizeLine → ∀ p, M1 p = none → dLcGo src g tt te (dwipe m vs) p (fun _ M2 => Q (.ref p) M2) src.1 [] (mput M1 p (.lst []))
def dLcF (t : DTI) (g : DTG) (tt : DTT) (te : DTE) (vs : List Nat) : DTE := fun m M Q => t m M fun src M1 => src.1.length ≤ sizeLine → ∀ p, M1 p = none → dLcGo src g tt te (dwipe m vs) p (fun acc M2 => Q (.lst acc) (mdel M2 p)) src.1 [] (mput M1 p (.lst []))
abbrev dYes : DTT := fun _ M Q => Q true M
section
variable {X : Cx} {elt tg iter : Expr} {ifs : List Expr} {scope : Scope} {own : List (Str × Nat)} {pos : Pos} {t : DTI} {g : DTG} {tt : DTT} {te : DTE} {ws : List Nat}
abbrev DPTs (X : Cx) (ifs : List Expr) (t : DTT) : Prop := PTs X ifs (upT X.K t)
theorem dts_nil : DPTs X [] dYes := ⟨fun pins s σ H Q I h => pts_nil.run pins s σ H Q I (by
  obtain ⟨m, M, Q', r, q, k⟩ := h
  exact k true M H (.refl H) r.mem q)⟩
theorem dts_one {c : Expr} {t : DTT} (h : DT X c t) : DPTs X [c] t := pts_one h
theorem lc_up {K : PySem.W.Frag} {vs : List Nat} (hsub : ∀ i ∈ ws, i ∈ vs) {σ : SL} {H : Hp} {Q : VK} {Qf : Addr → List D → DM → Prop}
    (fin : ∀ p acc ws M2 H2, Grow H H2 → RM K H2 M2 → H2 p = some (.lst ws) → ws.length ≤ sizeLine → RepL K H2 acc ws → M2 p = some (.lst acc) → Qf p acc M2 → Q (.ref p) H2)
    (m : DSt) (M : DM) (r : R K m M σ H) (q : t m M fun src M1 => src.1.length ≤ sizeLine → ∀ p, M1 p = none → dLcGo src g tt te (dwipe m vs) p (Qf p) src.1 [] (mput M1 p (.lst []))) :
    tLc (upI K t) (upG K ws g) (upT K tt) (upE K te) vs σ H Q := by
  refine ⟨m, M, _, r, q, fun src M1 H1 J g1 m1 q1 st p np => ?_⟩
  have q2 := q1 st.small p (m1.free np)
  have g2 : Grow H1 (upd H1 p (.lst [])) := .new np
  refine ⟨fun i n H2 => i + n = src.1.length ∧ Grow H1 H2 ∧ ∃ acc M2, acc.length ≤ i ∧ M2 p = some (.lst acc) ∧ RM K H2 M2 ∧ dLcGo src g tt te (dwipe m vs) p (Qf p) (src.1.drop i) acc M2,
    ⟨src.1.length, by omega, g2, [], _, Nat.le_refl _, mput_same, m1.newLst np (Nat.zero_le _) .nil, q2⟩, ?_⟩
  rintro i n H2 ⟨hl, g3, acc, M2, ha, hp, m2, q3⟩
  have r2 : R K (dwipe m vs) M2 (wipe σ vs) H2 := (r.wipe vs).grow (g1.trans g3) m2
  by_cases hlt : i < src.1.length
  · rw [List.drop_eq_getElem_cons hlt] at q3
    obtain ⟨sv, q3⟩ := q3
    have so := sv.ok g3 m2
    refine .inr ⟨st.go i H2 so hlt, fun H3 => Grow H1 H3 ∧ ∃ acc M2, acc.length ≤ i + 1 ∧ M2 p = some (.lst acc) ∧ RM K H3 M2 ∧ dLcGo src g tt te (dwipe m vs) p (Qf p) (src.1.drop (i + 1)) acc M2,
      fun H3 ⟨g4, z⟩ => ⟨n - 1, by omega, by omega, g4, z⟩, fun x H3 y => ?_⟩
    obtain ⟨g4, k4, d, e4, rd⟩ := st.yld i H2 x H3 so hlt y
    have ed : d = src.1[i] := by
      rw [List.getElem?_eq_getElem hlt] at e4
      exact (Option.some.inj e4).symm
    subst ed
    refine ⟨_, _, M2, _, rd, r2.grow g4 (k4 _ m2), q3, fun m5 M5 σ5 H5 g5 r5 o5 q5 => ⟨wipe_off o5 hsub, ?_⟩⟩
    refine ⟨m5, M5, _, r5, q5, fun b M6 H6 g6 m6 q6 => ?_⟩
    have g06 : Grow H1 H6 := ((g3.trans g4).trans g5).trans g6
    cases b with
    | true =>
      refine ⟨m5, M6, _, r5.grow g6 m6, q6, fun y v M7 H7 g7 rv m7 ⟨e7, q7⟩ => ?_⟩
      obtain ⟨us, h8, z8, l8⟩ := m7.lst e7
      have hsz : us.length < sizeLine := by
        rw [← l8.length]
        exact Nat.lt_of_le_of_lt ha (Nat.lt_of_lt_of_le hlt st.small)
      refine ⟨us, h8, hsz, (g06.trans g7).trans (.put h8), acc ++ [y], _, by rw [List.length_append]; simp; omega, mput_same, m7.putLst h8 (by rw [List.length_append]; exact hsz) (l8.append (.one rv)), q7⟩
    | false =>
      have q6' : M6 p = some (.lst acc) ∧ dLcGo src g tt te (dwipe m vs) p (Qf p) (src.1.drop (i + 1)) acc M6 := q6
      exact ⟨g06, acc, M6, by omega, q6'.1, m6, q6'.2⟩
  · have e : i = src.1.length := by omega
    subst e
    rw [List.drop_length] at q3
    obtain ⟨us, h8, z8, l8⟩ := m2.lst hp
    exact .inl ⟨st.stop H2 (q3.1.ok g3 m2), fin p acc us M2 H2 (g1.trans g3) m2 h8 z8 l8 hp q3.2⟩
theorem d_lc (hc : X.calm = true) (hN : X.N.Nodup) (hi : DI X tg iter t) (ok : BlkOk X.N X.env.scope scope own) (hsub : ∀ i ∈ ws, i ∈ own.map (·.2))
    (hg : ∀ (s : Shared) (H : Hp) (C : Addr) (cl : List (Str × Addr)) (fp : List Addr), DG (X.blk s H scope (compEnvC scope cl C X.env) fp) ws tg g)
    (ht : ∀ (s : Shared) (H : Hp) (C : Addr) (cl : List (Str × Addr)) (fp : List Addr), DPTs (X.blk s H scope (compEnvC scope cl C X.env) fp) ifs tt)
    (he : ∀ (s : Shared) (H : Hp) (C : Addr) (cl : List (Str × Addr)) (fp : List Addr), DE (X.blk s H scope (compEnvC scope cl C X.env) fp) elt te)
    (hs : ∀ x, foldedSetIterable iter X.env x = pure x := by intro _; rfl) : DE X (.ListComp elt [⟨tg, iter, ifs, 0⟩] scope pos) (dLc t g tt te (own.map (·.2))) :=
  imE (pe_lc hc hN hi ok hg ht he hs) fun σ H Q ⟨m, M, Q', r, q, k⟩ =>
    lc_up (Qf := fun p _ M2 => Q' (.ref p) M2) hsub (fun p acc ws M2 H2 g2 m2 _ _ _ _ q2 => k _ _ M2 H2 g2 (.ref p) m2 q2) m M r q
theorem d_lcF (hc : X.calm = true) (hN : X.N.Nodup) (hi : DI X tg iter t) (ok : BlkOk X.N X.env.scope scope own) (hsub : ∀ i ∈ ws, i ∈ own.map (·.2))
    (hg : ∀ (s : Shared) (H : Hp) (C : Addr) (cl : List (Str × Addr)) (fp : List Addr), DG (X.blk s H scope (compEnvC scope cl C X.env) fp) ws tg g)
    (ht : ∀ (s : Shared) (H : Hp) (C : Addr) (cl : List (Str × Addr)) (fp : List Addr), DPTs (X.blk s H scope (compEnvC scope cl C X.env) fp) ifs tt)
    (he : ∀ (s : Shared) (H : Hp) (C : Addr) (cl : List (Str × Addr)) (fp : List Addr), DE (X.blk s H scope (compEnvC scope cl C X.env) fp) elt te)
    (hs : ∀ x, foldedSetIterable iter X.env x = pure x := by intro _; rfl) : DE X (.ListComp elt [⟨tg, iter, ifs, 0⟩] scope pos) (dLcF t g tt te (own.map (·.2))) :=
  imE (pe_fz (pe_lc hc hN hi ok hg ht he hs)) fun σ H Q ⟨m, M, Q', r, q, k⟩ =>
    lc_up (Qf := fun p acc M2 => Q' (.lst acc) (mdel M2 p)) hsub (fun p acc ws M2 H2 g2 m2 h8 z8 l8 _ q2 =>
      ⟨p, ws, rfl, h8, fun o => k _ _ _ _ (g2.trans (.put h8)) (.lst (.inl ⟨o, upd_same⟩) z8 (l8.grow (.put h8))) (m2.frz h8) q2⟩) m M r q
end

/-! ### defs -/
abbrev DSp := List D → DM → DVK → Prop
def upSp (K : PySem.W.Frag) (dsp : DSp) : Sp := fun vs H Q _ => ∃ ds M Q', RepL K H ds vs ∧ RM K H M ∧ dsp ds M Q' ∧
  ∀ d v M' H', Grow H H' → Rep K H' d v → RM K H' M' → Q' d M' → Q v H'
/-- the def x keeps the promise dsp -/
structure Cal (P : Program) (w : World) (K : PySem.W.Frag) (mg : Str → Option Value) (base : Heap) (k : Nat) (x : Str) (ps : List Str) (dsp : DSp) : Prop where
  ex : ∃ f fd, FnOk P w K mg base CX0 k f fd ps (upSp K dsp) ∧ mg x = some (.ref f) ∧ PySem.W.keepIn K (.ref f) = true ∧ Binds K fd ps []
/-- the def x as the top has left it -/
structure Def (K : PySem.W.Frag) (mg : Str → Option Value) (x : Str) (st : Stmt) (ps : List Str) : Prop where
  ex : ∃ f fd, Fun K x x st f fd ∧ mg x = some (.ref f) ∧ Binds K fd ps []
def dCall (dsp : DSp) (t : DTA) : DTE := fun m M Q => t m M fun ds M1 => dsp ds M1 Q
def ret (Q : DVK) : DVK := fun d M => ∃ M0, MLe M0 M ∧ Q d M0
theorem ret_of {Q : DVK} {d : D} {M : DM} (h : Q d M) : ret Q d M := ⟨M, .refl M, h⟩
theorem ret_le {Q : DVK} {d : D} {M M0 : DM} (l : MLe M0 M) (h : Q d M0) : ret Q d M := ⟨M0, l, h⟩
def dstart (N : List Str) (ds : List D) : DSt := ds.map some ++ List.replicate (N.length - ds.length) none
def dEnds (Q : DVK) : DEnds := { nx := fun _ M => ret Q .non M, rt := ret Q }
section
variable {P : Program} {w : World} {K : PySem.W.Frag} {mg : Str → Option Value} {base : Heap} {k j : Nat} {x : Str} {ps N : List Str} {dsp : DSp} {st : Stmt}
abbrev Ctx (P : Program) (w : World) (K : PySem.W.Frag) (mg : Str → Option Value) (base : Heap) (N : List Str) (x : Str) (st : Stmt) (f : Addr) (cdv : Value) (A : Around) (outer : List Env) (s : Shared) (H : Hp) (E : XK) : Cx :=
  (cxOf CX0 P w K mg base N x (defScope st) f cdv A outer s H E).nox
theorem start_slot {H : Hp} {ds : List D} {vs : List V} {n i : Nat} {d : D} (l : RepL K H ds vs) (e : (ds.map some ++ List.replicate (n - ds.length) none)[i]? = some (some d)) :
    ∃ v, (vs.map some ++ List.replicate (n - vs.length) none)[i]? = some (some v) ∧ Rep K H d v := by
  have hl := l.length
  by_cases hi : i < ds.length
  · rw [List.getElem?_append_left (by simpa using hi)] at e
    rw [List.getElem?_append_left (by simpa [← hl] using hi)]
    rw [List.getElem?_map] at e ⊢
    cases q : ds[i]? with
    | none => rw [q] at e; cases e
    | some d' =>
      rw [q] at e
      cases e
      obtain ⟨v, h1, h2⟩ := l.get q
      exact ⟨v, by rw [h1]; rfl, h2⟩
  · rw [List.getElem?_append_right (by simpa using hi), List.getElem?_replicate] at e
    split at e <;> cases e
/-- THE RULE for a def -/
theorem Def.cal (F : Def K mg x st ps) (S : FnScope N ps (defScope st)) (len : ∀ ds M Q, dsp ds M Q → ds.length = ps.length) {t : DTS}
    (body : ∀ (f : Addr) (cdv : Value) (A : Around) (outer : List Env) (s : Shared) (H : Hp) (E : XK), Room k (A.deeper (envOfC x (defScope st) s.heap.objs.size f cdv)) → DSs (Ctx P w K mg base N x st f cdv A outer s H E) (defBody st) t)
    (rd : ∀ ds M Q, dsp ds M Q → t (dEnds Q) (dstart N ds) M) : Cal P w K mg base (k + 1) x ps dsp := by
  obtain ⟨f, fd, F, hm, hb⟩ := F.ex
  refine ⟨f, fd, F.ok S (fun vs H Q E ⟨ds, M, Q', l, _, q, _⟩ => by rw [← l.length]; exact len ds M Q' q) (fun cdv A outer s H vs Q E hr ⟨ds, M, Q', l, m, q, kk⟩ => ?_), hm, F.kp, hb⟩
  refine ⟨_, body f cdv A outer s H E hr, dstart N ds, M, dEnds Q', ⟨?_, fun i d e => start_slot l e, m⟩, rd ds M Q' q,
    ⟨fun m1 M1 σ1 H1 g1 r1 ⟨M0, le, q1⟩ => kk _ _ M0 H1 g1 .non (r1.mem.le le) q1, fun _ _ _ _ _ _ z => z.elim, fun _ _ _ _ _ _ z => z.elim, fun d v M1 H1 g1 r1 m1 ⟨M0, le, q1⟩ => kk d v M0 H1 g1 r1 (m1.le le) q1⟩⟩
  simp [dstart, L2.start, l.length]
theorem Cal.mono (C : Cal P w K mg base j x ps dsp) (h : j ≤ k) : Cal P w K mg base k x ps dsp :=
  let ⟨f, fd, F, a, b, c⟩ := C.ex; ⟨f, fd, F.mono h, a, b, c⟩
/-- a weaker promise -/
theorem Cal.imp {dsp' : DSp} (C : Cal P w K mg base k x ps dsp) (h : ∀ ds M Q, dsp' ds M Q → dsp ds M Q) : Cal P w K mg base k x ps dsp' :=
  let ⟨f, fd, F, a, b, c⟩ := C.ex; ⟨f, fd, F.imp fun vs H Q E ⟨ds, M, Q', l, m, q, kk⟩ => ⟨ds, M, Q', l, m, h ds M Q' q, kk⟩, a, b, c⟩
end
section
variable {X : Cx} {k : Nat} {x : Str} {ps : List Str} {dsp : DSp} {e : Expr} {es : List Expr} {p pos : Pos} {t : DTA}
theorem call_up {σ : SL} {H : Hp} {Q : VK} (h : upE X.K (dCall dsp t) σ H Q) : tCall (upSp X.K dsp) [] E0 (upA X.K t) σ H Q := by
  obtain ⟨m, M, Q', r, q, kk⟩ := h
  refine ⟨m, M, _, r, q, fun ds vs M1 H1 g1 l1 m1 q1 => ?_⟩
  exact ⟨ds, M1, Q', by rw [List.append_nil]; exact l1, m1, q1, fun d v M2 H2 g2 => kk d v M2 H2 (g1.trans g2)⟩
theorem d_call (C : Cal X.prog X.w X.K X.mg X.base k x ps dsp) (hr : Room k X.A) (hg : Gl X x) (ha : DA X (e :: es) t) (hdb : (x == ("__debug__" : Str)) = false := by decide)
    (he : starEach (e :: es) X.env = (false, eval e X.env) :: starEach es X.env := by rfl) (hpl : (backTo pos (starEach es X.env)).any (·.1) = false := by rfl) : DE X (.Call (.Name x p) (e :: es) [] pos) (dCall dsp t) := by
  obtain ⟨f, fd, F, hm, hk, hb⟩ := C.ex
  exact imE (pe_call F hr hg hm hk hb .nil pass0 ha hdb he hpl) fun σ H Q h => call_up (σ := σ) (H := H) (Q := Q) h
theorem d_call0 (C : Cal X.prog X.w X.K X.mg X.base k x ps dsp) (hr : Room k X.A) (hg : Gl X x) (hdb : (x == ("__debug__" : Str)) = false := by decide) : DE X (.Call (.Name x p) [] [] pos) (dCall dsp dNil) := by
  obtain ⟨f, fd, F, hm, hk, hb⟩ := C.ex
  refine imE (pe_call0 F hr hg hm hk hb .nil pass0 hdb) fun σ H Q ⟨m, M, Q', r, q, kk⟩ => ?_
  exact ⟨[], M, Q', .nil, r.mem, q, kk⟩

/-! ### built-ins -/
abbrev DCR := List D → DM → DVK → Prop
def upC (K : PySem.W.Frag) (dr : DCR) : List V → Hp → VK → Prop := fun vs H Q => ∃ ds M Q', RepL K H ds vs ∧ RM K H M ∧ dr ds M Q' ∧
  ∀ d v M' H', Grow H H' → Rep K H' d v → RM K H' M' → Q' d M' → Q v H'
abbrev DCall (X : Cx) (f : Value) (dr : DCR) : Prop := CallR X f (upC X.K dr)
def dCB (dr : DCR) (t : DTA) : DTE := fun m M Q => t m M fun ds M1 => dr ds M1 Q
theorem cb_up {dr : DCR} {σ : SL} {H : Hp} {Q : VK} (h : upE X.K (dCB dr t) σ H Q) : tCB (upC X.K dr) (upA X.K t) σ H Q := by
  obtain ⟨m, M, Q', r, q, kk⟩ := h
  exact ⟨m, M, _, r, q, fun ds vs M1 H1 g1 l1 m1 q1 => ⟨ds, M1, Q', l1, m1, q1, fun d v M2 H2 g2 => kk d v M2 H2 (g1.trans g2)⟩⟩
theorem d_cb {id : String} {dr : DCR} (hc : DCall X (.builtin id) dr) (hg : Gl X x) (hm : X.mg x = none) (hv : bootBuiltins x = some (.builtin id)) (ha : DA X (e :: es) t) (hn : x ≠ "__name__" := by decide) (hdb : (x == ("__debug__" : Str)) = false := by decide)
    (he : starEach (e :: es) X.env = (false, eval e X.env) :: starEach es X.env := by rfl) (hpl : (backTo pos (starEach es X.env)).any (·.1) = false := by rfl) : DE X (.Call (.Name x p) (e :: es) [] pos) (dCB dr t) :=
  imE (pe_callB hc hg hm hv ha hn hdb he hpl) fun σ H Q h => cb_up (σ := σ) (H := H) (Q := Q) h
theorem d_ct {T : String} {dr : DCR} (hc : DCall X (.type T) dr) (hg : Gl X x) (hm : X.mg x = none) (hv : bootBuiltins x = some (.type T)) (ha : DA X (e :: es) t) (hn : x ≠ "__name__" := by decide) (hdb : (x == ("__debug__" : Str)) = false := by decide)
    (he : starEach (e :: es) X.env = (false, eval e X.env) :: starEach es X.env := by rfl) (hpl : (backTo pos (starEach es X.env)).any (·.1) = false := by rfl) : DE X (.Call (.Name x p) (e :: es) [] pos) (dCB dr t) :=
  imE (pe_callTy hc hg hm hv ha hn hdb he hpl) fun σ H Q h => cb_up (σ := σ) (H := H) (Q := Q) h
/-- a built-in function that a name of the module holds -/
theorem d_cm {id : String} {dr : DCR} (hc : DCall X (.builtin id) dr) (hg : Gl X x) (hm : X.mg x = some (.builtin id)) (ha : DA X (e :: es) t) (hdb : (x == ("__debug__" : Str)) = false := by decide)
    (he : starEach (e :: es) X.env = (false, eval e X.env) :: starEach es X.env := by rfl) (hpl : (backTo pos (starEach es X.env)).any (·.1) = false := by rfl) : DE X (.Call (.Name x p) (e :: es) [] pos) (dCB dr t) :=
  imE (pe_callBfun hc hg hm ha hdb he hpl) fun σ H Q h => cb_up (σ := σ) (H := H) (Q := Q) h
end
end DL
namespace DL
open PySem PySem.Spec PyProof.Rows L2

/-! ### data: what == reads -/
mutual
def D.py : D → PyData
  | .non => .none
  | .bl b => .bool b
  | .int i => .int i
  | .str x => .str x
  | .tup xs => .tuple (D.pys xs)
  | .lst xs => .list (D.pys xs)
  | .dct _ => .none
  | .ref _ => .none
  | .ty _ => .none
def D.pys : List D → List PyData
  | [] => []
  | x :: xs => D.py x :: D.pys xs
end
/-- plain data, at most n deep -/
def dOk : Nat → D → Bool
  | _, .non => true
  | _, .bl _ => true
  | _, .int _ => true
  | _, .str x => PyData.strOk x
  | n + 1, .tup xs => xs.all (dOk n)
  | n + 1, .lst xs => xs.all (dOk n)
  | _, _ => false
def D.eqv (x y : D) : Bool := PyData.eqv x.py y.py
theorem pys_len : ∀ xs : List D, (D.pys xs).length = xs.length
  | [] => rfl
  | _ :: xs => congrArg (· + 1) (pys_len xs)
theorem pys_map : ∀ xs : List D, D.pys xs = xs.map D.py
  | [] => by simp [D.pys]
  | x :: xs => by simp [D.pys, pys_map xs]
theorem lay_all : ∀ {n : Nat} {xs : List D}, (∀ x ∈ xs, x.py.canLay0 = true ∧ x.py.depth ≤ n) → PyData.canLayAll0 (D.pys xs) = true ∧ PyData.depthAll (D.pys xs) ≤ n
  | n, [], _ => by simp [D.pys, PyData.canLayAll0, PyData.depthAll]
  | n, x :: xs, h => by
    obtain ⟨h1, h2⟩ := h x (by simp)
    obtain ⟨h3, h4⟩ := lay_all (n := n) (xs := xs) fun y hy => h y (by simp [hy])
    simp only [D.pys, PyData.canLayAll0, PyData.depthAll, h1, h3, Bool.and_self, true_and]
    omega
theorem dOk_lay : ∀ (n : Nat) (d : D), dOk n d = true → d.py.canLay0 = true ∧ d.py.depth ≤ n
  | n, .non, _ => by simp [D.py, PyData.canLay0, PyData.depth]
  | n, .bl _, _ => by simp [D.py, PyData.canLay0, PyData.depth]
  | n, .int _, _ => by simp [D.py, PyData.canLay0, PyData.depth]
  | n, .str x, h => by
    have h' : PyData.strOk x = true := by
      cases n <;> exact h
    simp [D.py, PyData.canLay0, PyData.depth, h']
  | 0, .tup xs, h => by cases h
  | 0, .lst xs, h => by cases h
  | n + 1, .tup xs, h => by
    have h' : xs.all (dOk n) = true := h
    have z := lay_all (n := n) (xs := xs) fun x hx => dOk_lay n x (List.all_eq_true.mp h' x hx)
    simp only [D.py, PyData.canLay0, PyData.depth]
    exact ⟨z.1, Nat.succ_le_succ z.2⟩
  | n + 1, .lst xs, h => by
    have h' : xs.all (dOk n) = true := h
    have z := lay_all (n := n) (xs := xs) fun x hx => dOk_lay n x (List.all_eq_true.mp h' x hx)
    simp only [D.py, PyData.canLay0, PyData.depth]
    exact ⟨z.1, Nat.succ_le_succ z.2⟩
  | n, .dct _, h => by cases n <;> cases h
  | n, .ref _, h => by cases n <;> cases h
  | n, .ty _, h => by cases n <;> cases h
theorem dOk_shaped {n : Nat} {d : D} (h : dOk n d = true) (hn : n ≤ 64) : SeqAt.shaped d.py = true := by
  obtain ⟨h1, h2⟩ := dOk_lay n d h
  unfold SeqAt.shaped
  rw [h1, Bool.true_and]
  exact decide_eq_true (Nat.le_trans h2 hn)
theorem dOk_mono : ∀ {n m : Nat} {d : D}, dOk n d = true → n ≤ m → dOk m d = true
  | _, m, .non, _, _ => by cases m <;> rfl
  | _, m, .bl _, _, _ => by cases m <;> rfl
  | _, m, .int _, _, _ => by cases m <;> rfl
  | n, m, .str x, h, _ => by
    have h' : PyData.strOk x = true := by cases n <;> exact h
    cases m <;> exact h'
  | 0, _, .tup _, h, _ => by cases h
  | 0, _, .lst _, h, _ => by cases h
  | n + 1, 0, .tup xs, h, l => by omega
  | n + 1, 0, .lst xs, h, l => by omega
  | n + 1, m + 1, .tup xs, h, l => by
    have h' : xs.all (dOk n) = true := h
    show xs.all (dOk m) = true
    exact List.all_eq_true.mpr fun x hx => dOk_mono (List.all_eq_true.mp h' x hx) (Nat.le_of_succ_le_succ l)
  | n + 1, m + 1, .lst xs, h, l => by
    have h' : xs.all (dOk n) = true := h
    show xs.all (dOk m) = true
    exact List.all_eq_true.mpr fun x hx => dOk_mono (List.all_eq_true.mp h' x hx) (Nat.le_of_succ_le_succ l)
  | n, _, .dct _, h, _ => by cases n <;> cases h
  | n, _, .ref _, h, _ => by cases n <;> cases h
  | n, _, .ty _, h, _ => by cases n <;> cases h
section
variable {K : PySem.W.Frag} {H : Hp}
mutual
theorem Rep.dp : ∀ {n : Nat} {d : D} {v : V}, Rep K H d v → dOk n d = true → Dp K H v d.py
  | _, _, _, .non, _ => .non
  | _, _, _, .bl b, _ => .bl b
  | _, _, _, .int i, _ => .int i
  | _, _, _, .str x, _ => .str x
  | 0, _, _, .tup _ _ _, h => by cases h
  | 0, _, _, .lst _ _ _, h => by cases h
  | n + 1, _, _, .tup hs _ l, h => .tup hs (RepL.dp (n := n) l h)
  | n + 1, _, _, .lst hs _ l, h => .lst hs.seq (RepL.dp (n := n) l h)
  | n, _, _, .ref _, h => by cases n <;> cases h
  | n, _, _, .ty _, h => by cases n <;> cases h
  | n, _, _, .dct _ _ _, h => by cases n <;> cases h
theorem RepL.dp : ∀ {n : Nat} {ds : List D} {vs : List V}, RepL K H ds vs → ds.all (dOk n) = true → DpAll K H vs (D.pys ds)
  | _, _, _, .nil, _ => .nil
  | n, _, _, .cons r l, h => by
    rw [List.all_cons, Bool.and_eq_true] at h
    exact .cons (Rep.dp (n := n) r h.1) (RepL.dp (n := n) l h.2)
end
end
/-- == is identity where no truth value stands -/
def nobl : D → Bool
  | .bl _ => false
  | .tup xs => nobls xs
  | .lst xs => nobls xs
  | _ => true
where nobls : List D → Bool
  | [] => true
  | x :: xs => nobl x && nobls xs

/-! ### operators on data -/
section
variable {X : Cx}
def dEq : DR2 := fun x y M Q => (dOk 64 x = true ∧ dOk 64 y = true) ∧ Q (.bl (D.eqv x y)) M
def dNe : DR2 := fun x y M Q => (dOk 64 x = true ∧ dOk 64 y = true) ∧ Q (.bl (!D.eqv x y)) M
theorem o_eq (hu : X.A.units + 64 < cLine) : DOp X (compareOp .Eq) dEq := by
  intro pins s σ H x y v u Q I rx ry ⟨d, e, M, Q', r1, r2, m, ⟨⟨h1, h2⟩, q⟩, k⟩
  exact op_eqD hu pins s σ H x y v u Q I rx ry ⟨_, _, r1.dp h1, r2.dp h2, dOk_shaped h1 (Nat.le_refl _), dOk_shaped h2 (Nat.le_refl _), k _ _ M H (.refl H) (.bl _) m q⟩
theorem o_ne (hu : X.A.units + 64 < cLine) : DOp X (compareOp .NotEq) dNe := by
  intro pins s σ H x y v u Q I rx ry ⟨d, e, M, Q', r1, r2, m, ⟨⟨h1, h2⟩, q⟩, k⟩
  exact op_neD hu pins s σ H x y v u Q I rx ry ⟨_, _, r1.dp h1, r2.dp h2, dOk_shaped h1 (Nat.le_refl _), dOk_shaped h2 (Nat.le_refl _), k _ _ M H (.refl H) (.bl _) m q⟩
def D.isN : D → Bool
  | .non => true
  | _ => false
theorem Rep.isN {K : PySem.W.Frag} {H : Hp} {d : D} {v : V} (r : Rep K H d v) : decide (v = .non) = d.isN := by
  cases r <;> simp [D.isN]
def dIs : DR2 := fun x y M Q => y = .non ∧ Q (.bl x.isN) M
def dIsNot : DR2 := fun x y M Q => y = .non ∧ Q (.bl (!x.isN)) M
theorem o_is : DOp X (compareOp .Is) dIs := by
  intro pins s σ H x y v u Q I rx ry ⟨d, e, M, Q', r1, r2, m, ⟨h1, q⟩, k⟩
  subst h1
  cases r2
  exact op_isN pins s σ H x _ v u Q I rx ry ⟨rfl, by rw [r1.isN]; exact k _ _ M H (.refl H) (.bl _) m q⟩
theorem o_isnot : DOp X (compareOp .IsNot) dIsNot := by
  intro pins s σ H x y v u Q I rx ry ⟨d, e, M, Q', r1, r2, m, ⟨h1, q⟩, k⟩
  subst h1
  cases r2
  exact op_notN pins s σ H x _ v u Q I rx ry ⟨rfl, by rw [r1.isN]; exact k _ _ M H (.refl H) (.bl _) m q⟩
/-- x in a list or tuple of data -/
def dIn : DR2 := fun x y M Q => ∃ ys, dItems y M = some ys ∧ (dOk 63 x = true ∧ ys.all (dOk 63) = true) ∧ Q (.bl (ys.any fun z => D.eqv z x)) M
def dNotIn : DR2 := fun x y M Q => ∃ ys, dItems y M = some ys ∧ (dOk 63 x = true ∧ ys.all (dOk 63) = true) ∧ Q (.bl (!ys.any fun z => D.eqv z x)) M
theorem any_pys (x : D) : ∀ ys : List D, (D.pys ys).any (fun z => PyData.eqv z x.py) = ys.any fun z => D.eqv z x
  | [] => rfl
  | y :: ys => by
    rw [D.pys, List.any_cons, List.any_cons, any_pys x ys]
    rfl
theorem o_in (hu : X.A.units + 65 < cLine) : DOp X (compareOp .In) dIn := by
  intro pins s σ H x y v u Q I rx ry ⟨d, e, M, Q', r1, r2, m, ⟨ys, h1, ⟨h2, h3⟩, q⟩, k⟩
  have hs : SeqAt.shaped (PyData.list (D.pys ys)) = true := dOk_shaped (n := 64) (d := .lst ys) h3 (Nat.le_refl _)
  have hst : SeqAt.shaped (PyData.tuple (D.pys ys)) = true := dOk_shaped (n := 64) (d := .tup ys) h3 (Nat.le_refl _)
  have hx := dOk_shaped h2 (by decide)
  have fin := k _ _ M H (.refl H) (.bl _) m q
  rw [← any_pys] at fin
  obtain ⟨a, vs, rfl, z, l, ⟨h4, _⟩ | ⟨h4, _⟩⟩ := items_of r2 m h1
  · exact op_inD hu pins s σ H x _ v u Q I rx ry ⟨_, _, r1.dp h2, .lst h4 (l.dp h3), hx, hs, fin⟩
  · obtain ⟨as, q1⟩ := Dp.reads I _ x v (r1.dp h2) rx
    obtain ⟨bs, q2⟩ := Dp.reads I (.tuple (D.pys ys)) _ u (.tup h4 (l.dp h3)) ry
    exact SeqAt.in_tuple_reads q2 q1 (SeqAt.canLay_of_shaped hst) (SeqAt.canLay_of_shaped hx) (room_in_shaped hx hu) ⟨.bl _, H, I, rfl, fin⟩
theorem o_notin (hu : X.A.units + 65 < cLine) : DOp X (compareOp .NotIn) dNotIn := by
  intro pins s σ H x y v u Q I rx ry ⟨d, e, M, Q', r1, r2, m, ⟨ys, h1, ⟨h2, h3⟩, q⟩, k⟩
  have hs : SeqAt.shaped (PyData.list (D.pys ys)) = true := dOk_shaped (n := 64) (d := .lst ys) h3 (Nat.le_refl _)
  have hst : SeqAt.shaped (PyData.tuple (D.pys ys)) = true := dOk_shaped (n := 64) (d := .tup ys) h3 (Nat.le_refl _)
  have hx := dOk_shaped h2 (by decide)
  have fin := k _ _ M H (.refl H) (.bl _) m q
  rw [← any_pys] at fin
  obtain ⟨a, vs, rfl, z, l, ⟨h4, _⟩ | ⟨h4, _⟩⟩ := items_of r2 m h1
  · exact op_notInD hu pins s σ H x _ v u Q I rx ry ⟨_, _, r1.dp h2, .lst h4 (l.dp h3), hx, hs, fin⟩
  · obtain ⟨as, q1⟩ := Dp.reads I _ x v (r1.dp h2) rx
    obtain ⟨bs, q2⟩ := Dp.reads I (.tuple (D.pys ys)) _ u (.tup h4 (l.dp h3)) ry
    exact SeqAt.notIn_tuple_reads q2 q1 (SeqAt.canLay_of_shaped hst) (SeqAt.canLay_of_shaped hx) (room_in_shaped hx hu) ⟨.bl _, H, I, rfl, fin⟩
/-- xs[i] -/
def dIx : DR2 := fun x y M Q => ∃ xs i d, dItems x M = some xs ∧ y = .int i ∧ atI xs i = some d ∧ Q d M
theorem atI_rep {K : PySem.W.Frag} {H : Hp} {ds : List D} {vs : List V} {i : Int} {d : D} (l : RepL K H ds vs) (h : atI ds i = some d) : ∃ v, atI vs i = some v ∧ Rep K H d v := by
  unfold atI at h ⊢
  rw [← l.length]
  cases q : ixN ds.length i with
  | none => rw [q] at h; cases h
  | some j =>
    rw [q] at h
    exact l.get h
theorem x_ix : IxR X (upR2 X.K dIx) := by
  intro value slice pins s σ H x y v u Q I rx ry ⟨d, e, M, Q', r1, r2, m, ⟨xs, i, z, h1, h2, h3, q⟩, k⟩ hop
  subst h2
  cases r2
  obtain ⟨a, vs, rfl, zz, l, h⟩ := items_of r1 m h1
  obtain ⟨w, h4, h5⟩ := atI_rep l h3
  have fin := k _ _ M H (.refl H) h5 m q
  rcases h with ⟨h6, _⟩ | ⟨h6, _⟩
  · exact ix_list value slice pins s σ H _ _ v u Q I rx ry ⟨a, vs, i, w, rfl, rfl, h6, h4, fin⟩ hop
  · exact ix_tup value slice pins s σ H _ _ v u Q I rx ry ⟨a, vs, i, w, rfl, rfl, h6, h4, fin⟩ hop
theorem d_ix {r : DR2} {a b : Expr} {ta tb : DTE} {pos : Pos} (hr : IxR X (upR2 X.K r)) (ha : DE X a ta) (hb : DE X b tb) (hs : PlainIx b) : DE X (.Subscript a b pos) (dOp r ta tb) :=
  imE (pe_ix hr ha hb hs) fun σ H Q h => up_op (σ := σ) (H := H) (Q := Q) h
/-- -x -/
def dUn (r : D → DM → DVK → Prop) (ta : DTE) : DTE := fun m M Q => ta m M fun x M1 => r x M1 Q
def dNegI : D → DM → DVK → Prop := fun x M Q => ∃ i, x = .int i ∧ Q (.int (-i)) M
theorem d_neg {a : Expr} {ta : DTE} {pos : Pos} (ha : DE X a ta) : DE X (.UnaryOp .USub a pos) (dUn dNegI ta) :=
  imE (pe_un un_neg ha) fun σ H Q ⟨m, M, Q', r, q, k⟩ => by
    refine ⟨m, M, _, r, q, fun d v M1 H1 g1 r1 m1 ⟨i, e, q1⟩ => ?_⟩
    subst e
    cases r1
    exact ⟨i, rfl, k _ _ M1 H1 g1 (.int _) m1 q1⟩

/-! ### built-ins -/
def dLenOf : D → DM → Option Nat
  | .tup xs, _ => some xs.length
  | .lst xs, _ => some xs.length
  | .ref a, M => match M a with
    | some (.lst xs) => some xs.length
    | _ => none
  | .str z, _ => if z.length ≤ sizeLine then some z.length else none
  | _, _ => none
theorem dLenOf_ref {xs : List D} {M : DM} {a : Addr} (h : M a = some (.lst xs)) : dLenOf (.ref a) M = some xs.length := by
  simp [dLenOf, h]
def rLen : DCR := fun ds M Q => ∃ d n, ds = [d] ∧ dLenOf d M = some n ∧ Q (.int n) M
theorem len_items {d : D} {M : DM} {xs : List D} (h : dItems d M = some xs) : dLenOf d M = some xs.length := by
  cases d with
  | tup ys => cases h; rfl
  | lst ys => cases h; rfl
  | ref a =>
    have h' : (match M a with | some (.lst xs) => some xs | _ => none) = some xs := h
    show (match M a with | some (.lst xs) => some xs.length | _ => none) = some xs.length
    cases q : M a with
    | none => rw [q] at h'; cases h'
    | some o =>
      rw [q] at h'
      cases o with
      | lst ys => cases h'; rfl
      | dct _ _ => cases h'
      | tab _ => cases h'
      | dk _ => cases h'
  | _ => cases h
theorem c_len : DCall X (.builtin "len") rLen := by
  intro pins s σ H vs us Q I r ⟨ds, M, Q', l, m, ⟨d, n, e, h, q⟩, k⟩
  subst e
  obtain ⟨v, e, rv⟩ := repL_one l
  subst e
  have fin := k _ _ M H (.refl H) (.int _) m q
  cases hs : dItems d M with
  | some xs =>
    have e := len_items hs
    rw [h] at e
    cases e
    obtain ⟨a, ws, rfl, z, l, ⟨h4, _⟩ | ⟨h4, _⟩⟩ := items_of rv m hs
    · exact call_len_seq pins s σ H _ us Q I r ⟨a, ws, rfl, .inl h4, by rw [← l.length]; exact fin⟩
    · exact call_len_seq pins s σ H _ us Q I r ⟨a, ws, rfl, .inr h4, by rw [← l.length]; exact fin⟩
  | none =>
    cases rv with
    | str z =>
      by_cases hz : z.length ≤ sizeLine
      · have e : some z.length = some n := by
          rw [← h]
          simp [dLenOf, hz]
        cases e
        exact call_len_str pins s σ H _ us Q I r ⟨z, rfl, hz, fin⟩
      · simp [dLenOf, hz] at h
    | tup => cases hs
    | lst => cases hs
    | ref a =>
      have hs' : (match M a with | some (.lst xs) => some xs | _ => none) = none := hs
      have h' : (match M a with | some (.lst xs) => some xs.length | _ => none) = some n := h
      cases q : M a with
      | none => rw [q] at h'; cases h'
      | some o =>
        rw [q] at h' hs'
        cases o with
        | lst ys => cases hs'
        | dct _ _ => cases h'
        | tab _ => cases h'
        | dk _ => cases h'
    | _ => cases h
/-- .. with what is known of a list's length -/
def rLenB : DCR := fun ds M Q => ∃ d xs, ds = [d] ∧ dItems d M = some xs ∧ (xs.length ≤ 16777216 → Q (.int xs.length) M)
theorem c_lenB : DCall X (.builtin "len") rLenB := by
  intro pins s σ H vs us Q I r ⟨ds, M, Q', l, m, ⟨d, xs, e, h, q⟩, k⟩
  subst e
  obtain ⟨v, e, rv⟩ := repL_one l
  subst e
  obtain ⟨a, ws, _, z, l2, _⟩ := items_of rv m h
  have hz : xs.length ≤ 16777216 := by
    rw [l2.length]
    rw [sizeLine_eq] at z
    exact z
  exact c_len pins s σ H _ us Q I r ⟨[d], M, Q', l, m, ⟨d, _, rfl, len_items h, q hz⟩, k⟩
def rAbs : DCR := fun ds M Q => ∃ i : Int, ds = [.int i] ∧ Q (.int (if i < 0 then -i else i)) M
theorem c_abs : DCall X (.builtin "abs") rAbs := by
  intro pins s σ H vs us Q I r ⟨ds, M, Q', l, m, ⟨i, e, q⟩, k⟩
  subst e
  obtain ⟨v, e, rv⟩ := repL_one l
  subst e
  cases rv
  exact call_abs pins s σ H _ us Q I r ⟨i, rfl, k _ _ M H (.refl H) (.int _) m q⟩
def rMax2 : DCR := fun ds M Q => ∃ i j : Int, ds = [.int i, .int j] ∧ Q (.int (if j > i then j else i)) M
def rMin2 : DCR := fun ds M Q => ∃ i j : Int, ds = [.int i, .int j] ∧ Q (.int (if j < i then j else i)) M
theorem c_max2 (hc : X.calm = true) : DCall X (.builtin "max") rMax2 := by
  intro pins s σ H vs us Q I r ⟨ds, M, Q', l, m, ⟨i, j, e, q⟩, k⟩
  subst e
  obtain ⟨v, w, e, rv, rw'⟩ := repL_two l
  subst e
  cases rv
  cases rw'
  exact call_max2 hc pins s σ H _ us Q I r ⟨i, j, rfl, k _ _ M H (.refl H) (.int _) m q⟩
theorem c_min2 (hc : X.calm = true) : DCall X (.builtin "min") rMin2 := by
  intro pins s σ H vs us Q I r ⟨ds, M, Q', l, m, ⟨i, j, e, q⟩, k⟩
  subst e
  obtain ⟨v, w, e, rv, rw'⟩ := repL_two l
  subst e
  cases rv
  cases rw'
  exact call_min2 hc pins s σ H _ us Q I r ⟨i, j, rfl, k _ _ M H (.refl H) (.int _) m q⟩
def dIntOf : D → Option Int
  | .int i => some i
  | .bl b => some (if b then 1 else 0)
  | _ => none
def rInt : DCR := fun ds M Q => ∃ d i, ds = [d] ∧ dIntOf d = some i ∧ Q (.int i) M
theorem c_int : DCall X (.type "int") rInt := by
  intro pins s σ H vs us Q I r ⟨ds, M, Q', l, m, ⟨d, i, e, h, q⟩, k⟩
  subst e
  obtain ⟨v, e, rv⟩ := repL_one l
  subst e
  have fin := k _ _ M H (.refl H) (.int _) m q
  cases rv with
  | int j =>
    cases h
    exact call_int1 pins s σ H _ us Q I r (.inl ⟨_, rfl, fin⟩)
  | bl b =>
    cases h
    exact call_int1 pins s σ H _ us Q I r (.inr ⟨b, rfl, fin⟩)
  | _ => cases h
def rGcd : DCR := fun ds M Q => ∃ i j : Int, ds = [.int i, .int j] ∧ Q (.int ((Nat.gcd i.natAbs j.natAbs : Nat) : Int)) M
theorem c_gcd : DCall X (.builtin "math.gcd") rGcd := by
  intro pins s σ H vs us Q I r ⟨ds, M, Q', l, m, ⟨i, j, e, q⟩, k⟩
  subst e
  obtain ⟨v, w, e, rv, rw'⟩ := repL_two l
  subst e
  cases rv
  cases rw'
  exact cr_gcd pins s σ H _ us Q I r ⟨i, j, rfl, k _ _ M H (.refl H) (.int _) m q⟩
/-- tuple(x), list(x) -/
def rTuple : DCR := fun ds M Q => ∃ d xs, ds = [d] ∧ dItems d M = some xs ∧ Q (.tup xs) M
theorem c_tuple : DCall X (.type "tuple") rTuple := by
  intro pins s σ H vs us Q I r ⟨ds, M, Q', l, m, ⟨d, xs, e, h, q⟩, k⟩
  subst e
  obtain ⟨v, e, rv⟩ := repL_one l
  subst e
  obtain ⟨a, ws, rfl, z, l, ⟨h4, _⟩ | ⟨h4, h5⟩⟩ := items_of rv m h
  · exact call_tuple_of pins s σ H _ us Q I r ⟨a, ws, rfl, .inl ⟨h4, fun p hp => k _ _ M _ (.new hp) (.tup (.of upd_same) z (l.grow (.new hp))) (m.new hp) q⟩⟩
  · subst h5
    exact call_tuple_of pins s σ H _ us Q I r ⟨a, ws, rfl, .inr ⟨h4, k _ _ M H (.refl H) rv m q⟩⟩
def rList : DCR := fun ds M Q => ∃ d xs, ds = [d] ∧ dItems d M = some xs ∧ ∀ p, M p = none → Q (.ref p) (mput M p (.lst xs))
theorem c_list : DCall X (.type "list") rList := by
  intro pins s σ H vs us Q I r ⟨ds, M, Q', l, m, ⟨d, xs, e, h, q⟩, k⟩
  subst e
  obtain ⟨v, e, rv⟩ := repL_one l
  subst e
  obtain ⟨a, ws, rfl, z, l, h4⟩ := items_of rv m h
  refine call_list_of pins s σ H _ us Q I r ⟨a, ws, rfl, h4.elim (fun y => .inl y.1) fun y => .inr y.1, fun p hp => ?_⟩
  exact k _ _ _ _ (.new hp) (.ref p) (m.newLst hp z l) (q p (m.free hp))
/-- isinstance -/
def dTyN : D → DM → Option String
  | .non, _ => some "NoneType"
  | .bl _, _ => some "bool"
  | .int _, _ => some "int"
  | .str _, _ => some "str"
  | .tup _, _ => some "tuple"
  | .lst _, _ => some "list"
  | .dct _, _ => some "dict"
  | .ref a, M => match M a with
    | some (.lst _) => some "list"
    | some (.dk _) => some "dict"
    | _ => none
  | _, _ => none
theorem ty_of {K : PySem.W.Frag} {H : Hp} {M : DM} {d : D} {v : V} {n : String} (r : Rep K H d v) (m : RM K H M) (h : dTyN d M = some n) : TyX K H v (.type n) := by
  cases r with
  | non => cases h; exact .base .non
  | bl b => cases h; exact .base (.bl b)
  | int i => cases h; exact .base (.int i)
  | str x => cases h; exact .base (.str x)
  | tup hs _ _ =>
    cases h
    rcases hs with (h | ⟨o, h⟩) | ⟨o, _, _, h1, h2, _⟩
    · exact .base (.tup h)
    · exact .fTuple h
    · exact .kTuple h1 h2
  | lst hs _ _ =>
    cases h
    rcases hs with ⟨o, h⟩ | ⟨o, _, _, h1, h2, _⟩
    · exact .base (.frz h)
    · exact .kList h1 h2
  | ref a =>
    have h' : (match M a with | some (.lst _) => some "list" | some (.dk _) => some "dict" | _ => none) = some n := h
    cases q : M a with
    | none => rw [q] at h'; cases h'
    | some o =>
      rw [q] at h'
      cases o with
      | lst ys =>
        cases h'
        obtain ⟨vs, h1, _⟩ := m.lst q
        exact .base (.lst h1)
      | dct _ _ => cases h'
      | tab _ => cases h'
      | dk kvs =>
        cases h'
        obtain ⟨es, h1, _⟩ := m a _ q
        exact .base (.dK h1)
  | ty _ => cases h
  | dct hd _ _ =>
    cases h
    exact .fDict hd
/-- the types that stand here -/
def subT (a b : String) : Bool := a == b || (a == "bool" && b == "int")
def knownT (a : String) : Bool := a == "NoneType" || a == "bool" || a == "int" || a == "str" || a == "tuple" || a == "list" || a == "dict"
theorem kit_sub {a b : String} (ha : knownT a = true) (hb : knownT b = true) : kitB a b = some (subT a b) := by
  simp only [knownT, Bool.or_eq_true, beq_iff_eq] at ha hb
  rcases ha with (((((h | h) | h) | h) | h) | h) | h <;> subst h <;> rcases hb with (((((h | h) | h) | h) | h) | h) | h <;> subst h <;> decide +kernel
theorem tyN_known {d : D} {M : DM} {n : String} (h : dTyN d M = some n) : knownT n = true := by
  cases d with
  | ref a =>
    have h' : (match M a with | some (.lst _) => some "list" | some (.dk _) => some "dict" | _ => none) = some n := h
    cases q : M a with
    | none => rw [q] at h'; cases h'
    | some o =>
      rw [q] at h'
      cases o with
      | lst ys => cases h'; decide
      | dct _ _ => cases h'
      | tab _ => cases h'
      | dk _ => cases h'; decide
  | dct _ => cases h; decide
  | ty _ => cases h
  | _ => cases h; decide
def rIs : DCR := fun ds M Q => ∃ d T n, ds = [d, .ty T] ∧ knownT T = true ∧ dTyN d M = some n ∧ Q (.bl (subT n T)) M
theorem c_is : DCall X (.builtin "isinstance") rIs := by
  intro pins s σ H vs us Q I r ⟨ds, M, Q', l, m, ⟨d, T, n, e, hT, h, q⟩, k⟩
  subst e
  obtain ⟨v, w, e, rv, rw'⟩ := repL_two l
  subst e
  cases rw'
  exact call_isi pins s σ H _ us Q I r ⟨v, _, _, _, subT n T, rfl, .ty T, ty_of rv m h, kit_ty (kit_sub (tyN_known h) hT), k _ _ M H (.refl H) (.bl _) m q⟩
def tyNames : List D → Option (List String)
  | [] => some []
  | .ty T :: r => (tyNames r).map (T :: ·)
  | _ => none
theorem tyNames_map : ∀ {cs : List D} {Ts : List String}, tyNames cs = some Ts → cs = Ts.map D.ty
  | [], Ts, h => by
    cases h
    rfl
  | .ty T :: r, Ts, h => by
    have h' : (tyNames r).map (T :: ·) = some Ts := h
    cases q : tyNames r with
    | none => rw [q] at h'; cases h'
    | some Us =>
      rw [q] at h'
      cases h'
      rw [tyNames_map q]
      rfl
  | .non :: _, _, h => by cases h
  | .bl _ :: _, _, h => by cases h
  | .int _ :: _, _, h => by cases h
  | .str _ :: _, _, h => by cases h
  | .tup _ :: _, _, h => by cases h
  | .lst _ :: _, _, h => by cases h
  | .dct _ :: _, _, h => by cases h
  | .ref _ :: _, _, h => by cases h
def rIsT : DCR := fun ds M Q => ∃ (d : D) (cs : List D) (Ts : List String) (n : String), ds = [d, .tup cs] ∧ tyNames cs = some Ts ∧ Ts.all knownT = true ∧ dTyN d M = some n ∧ Q (.bl (Ts.any (subT n))) M
theorem kit_any {K : PySem.W.Frag} {n : String} (hn : knownT n = true) : ∀ {Ts : List String}, Ts.all knownT = true → PySem.W.kitAny K (.type n) (Ts.map Value.type) = some (Ts.any (subT n))
  | [], _ => kitAny_nil
  | T :: Ts, h => by
    rw [List.all_cons, Bool.and_eq_true] at h
    refine kitAny_cons (kit_ty (kit_sub hn h.1)) (fun e => ?_) fun e => ?_
    · rw [List.any_cons, e, Bool.false_or]
      exact kit_any hn h.2
    · rw [List.any_cons, e, Bool.true_or]
theorem ty_vals {K : PySem.W.Frag} {H : Hp} : ∀ {Ts : List String} {vs : List V} {its : List Value}, RepL K H (Ts.map D.ty) vs → Vals vs its → its = Ts.map Value.type
  | [], _, _, l, r => by
    cases l
    cases r
    rfl
  | T :: Ts, _, _, l, r => by
    cases l with
    | cons h t =>
      cases h
      cases r with
      | cons h2 t2 =>
        rw [ty_vals t t2, show _ = Value.type T from h2]
        rfl
theorem c_isT : DCall X (.builtin "isinstance") rIsT := by
  intro pins s σ H vs us Q I r ⟨ds, M, Q', l, m, ⟨d, cs, Ts, n, e, e0, hT, h, q⟩, k⟩
  subst e
  obtain ⟨v, w, e, rv, rw'⟩ := repL_two l
  subst e
  rw [tyNames_map e0] at rw'
  cases rw' with
  | tup hs _ l2 =>
    obtain ⟨u1, u2, rfl, r1, r2⟩ := vals2 r
    cases r2
    obtain ⟨P, Z, p, hx⟩ := kit_of I r1 (ty_of rv m h)
    obtain ⟨its, rr, ⟨⟨oc, od, dt, sl⟩, h1, h2, n', h3⟩, _⟩ := I.tuple hs
    simp only at h2 h3
    subst h2 h3
    have e3 := ty_vals l2 rr
    exact PySem.W.kia_tup Z I.kIn p h1 (by
      simp only [e3]
      exact kit_any (tyN_known h) hT) hx fun tk => ⟨.bl _, H, I.tok tk, rfl, k _ _ M H (.refl H) (.bl _) m q⟩
/-- both forms of isinstance -/
theorem DCall.or {f : Value} {r r' : DCR} (h : DCall X f r) (h' : DCall X f r') : DCall X f (fun ds M Q => r ds M Q ∨ r' ds M Q) := by
  intro pins s σ H vs us Q I rv z
  obtain ⟨ds, M, Q', l, m, q | q, k⟩ := z
  · exact h pins s σ H vs us Q I rv ⟨ds, M, Q', l, m, q, k⟩
  · exact h' pins s σ H vs us Q I rv ⟨ds, M, Q', l, m, q, k⟩
/-- a built-in type as a value -/
theorem d_ty {x : Str} {T : String} {pos : Pos} (hg : Gl X x) (hm : X.mg x = none) (hv : bootBuiltins x = some (.type T)) (hn : x ≠ "__name__" := by decide) (hd : (x == ("__debug__" : Str)) = false := by decide) : DE X (.Name x pos) (dC (.ty T)) :=
  d_c (v := .ty T) (pe_bltn hg hm hv rfl hn hd) fun _ _ => .ty T
/-- a module's constant -/
theorem d_gl {x : Str} {u : Value} {v : V} {d : D} {pos : Pos} (hg : Gl X x) (hm : X.mg x = some u) (rv : RelV v u) (hr : ∀ K H, Rep K H d v) (hd : (x == ("__debug__" : Str)) = false := by decide) : DE X (.Name x pos) (dC d) :=
  d_c (pe_glob hg hm rv hd) hr

/-! ### methods of lists -/
variable {o e : Expr} {es : List Expr} {to : DTE} {t : DTA} {name : Str} {apos cpos : Pos} {id : String}
abbrev DMR := D → List D → DM → DVK → Prop
def upM (K : PySem.W.Frag) (dr : DMR) : V → List V → Hp → VK → Prop := fun x vs H Q => ∃ d ds M Q', Rep K H d x ∧ RepL K H ds vs ∧ RM K H M ∧ dr d ds M Q' ∧
  ∀ d v M' H', Grow H H' → Rep K H' d v → RM K H' M' → Q' d M' → Q v H'
def dMt0 (dr : DMR) (to : DTE) : DTE := fun m M Q => to m M fun d M1 => (∃ xs, dItems d M1 = some xs ∧ d ≠ .tup xs) ∧ dr d [] M1 Q
def dMt (dr : DMR) (to : DTE) (t : DTA) : DTE := fun m M Q => to m M fun d M1 => (∃ xs, dItems d M1 = some xs ∧ d ≠ .tup xs) ∧ t m M1 fun ds M2 => dr d ds M2 Q
theorem tyV_lst {K : PySem.W.Frag} {H : Hp} {M : DM} {d : D} {v : V} (r : Rep K H d v) (m : RM K H M) (h : ∃ xs, dItems d M = some xs ∧ d ≠ .tup xs) : tyV K "list" v H := by
  obtain ⟨xs, h1, h2⟩ := h
  obtain ⟨a, vs, rfl, z, l, ⟨h4, _⟩ | ⟨_, h5⟩⟩ := items_of r m h1
  · exact .inl ⟨rfl, vs, h4⟩
  · exact absurd h5 h2
theorem d_mt0 {dr : DMR} (slot : Slot "list" name id) (hty : typeOf (.builtin id) = pure (.type "method_descriptor")) (hm : MtR X id (upM X.K dr)) (ho : DE X o to)
    (hbase : attributeBase o name X.env (eval o X.env) = eval o X.env := by rfl) (hline : (apos.endLine == cpos.line) = true := by rfl) : DE X (.Call (.Attribute o name apos) [] [] cpos) (dMt0 dr to) :=
  imE (pe_bm0 PySem.F.plainAttrs_list slot hty hm ho hbase hline) fun σ H Q ⟨m, M, Q', r, q, k⟩ => by
    refine ⟨m, M, _, r, q, fun d v M1 H1 g1 r1 m1 ⟨ty, q1⟩ => ⟨tyV_lst r1 m1 ty, d, [], M1, Q', r1, .nil, m1, q1, fun d v M2 H2 g2 => k d v M2 H2 (g1.trans g2)⟩⟩
theorem d_mt {dr : DMR} (slot : Slot "list" name id) (hty : typeOf (.builtin id) = pure (.type "method_descriptor")) (hm : MtR X id (upM X.K dr)) (ho : DE X o to) (ha : DA X (e :: es) t)
    (hbase : attributeBase o name X.env (eval o X.env) = eval o X.env := by rfl)
    (hfew : ((backTo cpos (starEach (e :: es) X.env)).all (fun x => !x.1) && (backToKw cpos (keywordEach [] X.env)).all (fun x => x.1.isSome)
      && decide ((e :: es).length + ([] : List Keyword).length + (if ([] : List Keyword).isEmpty then 0 else 1) < 30)) = true := by rfl)
    (hline : (apos.endLine == cpos.line) = true := by rfl) (hs : starEach (e :: es) X.env = (false, eval e X.env) :: starEach es X.env := by rfl) (hplain : (backTo cpos (starEach es X.env)).any (·.1) = false := by rfl) :
    DE X (.Call (.Attribute o name apos) (e :: es) [] cpos) (dMt dr to t) :=
  imE (pe_bm PySem.F.plainAttrs_list slot hty hm ho ha hbase hfew hline hs hplain) fun σ H Q ⟨m, M, Q', r, q, k⟩ => by
    refine ⟨m, M, _, r, q, fun d v M1 H1 g1 r1 m1 ⟨ty, q1⟩ => ⟨tyV_lst r1 m1 ty, m, M1, _, r.grow g1 m1, q1, fun ds vs M2 H2 g2 l2 m2 q2 => ?_⟩⟩
    exact ⟨d, ds, M2, Q', r1.grow g2, l2, m2, q2, fun d v M3 H3 g3 => k d v M3 H3 ((g1.trans g2).trans g3)⟩
def mAppend : DMR := fun d ds M Q => ∃ a xs y, d = .ref a ∧ ds = [y] ∧ M a = some (.lst xs) ∧ xs.length < sizeLine ∧ Q .non (mput M a (.lst (xs ++ [y])))
theorem m_append : MtR X "list.append" (upM X.K mAppend) := by
  intro pins s σ H x vs v us Q I rx rv ⟨d, ds, M, Q', r1, l, m, ⟨a, xs, y, e1, e2, h, hz, q⟩, k⟩
  subst e1
  subst e2
  cases r1
  obtain ⟨w, e, rw'⟩ := repL_one l
  subst e
  obtain ⟨ws, h1, z, l1⟩ := m.lst h
  refine mt_append pins s σ H _ _ v us Q I rx rv ⟨a, ws, w, rfl, rfl, h1, by rw [← l1.length]; exact hz, ?_⟩
  exact k _ _ _ _ (.put h1) .non (m.putLst h1 (by rw [List.length_append, ← l1.length]; exact hz) (l1.append (.one rw'))) q
def mPop : DMR := fun d ds M Q => ∃ a xs y, d = .ref a ∧ ds = [] ∧ M a = some (.lst xs) ∧ xs.getLast? = some y ∧ Q y (mput M a (.lst xs.dropLast))
theorem m_pop : MtR X "list.pop" (upM X.K mPop) := by
  intro pins s σ H x vs v us Q I rx rv ⟨d, ds, M, Q', r1, l, m, ⟨a, xs, y, e1, e2, h, hy, q⟩, k⟩
  subst e1
  subst e2
  cases r1
  cases l
  obtain ⟨ws, h1, z, l1⟩ := m.lst h
  rw [List.getLast?_eq_getElem?] at hy
  obtain ⟨w, h2, h3⟩ := l1.get hy
  rw [l1.length] at h2
  refine mt_pop pins s σ H _ _ v us Q I rx rv ⟨a, ws, w, rfl, rfl, h1, h2, ?_⟩
  exact k _ _ _ _ (.put h1) (h3.grow (.put h1)) (m.putLst h1 (by rw [List.length_dropLast]; omega) l1.dropLast) q
def mReverse : DMR := fun d ds M Q => ∃ a xs, d = .ref a ∧ ds = [] ∧ M a = some (.lst xs) ∧ Q .non (mput M a (.lst xs.reverse))
theorem m_reverse : MtR X "list.reverse" (upM X.K mReverse) := by
  intro pins s σ H x vs v us Q I rx rv ⟨d, ds, M, Q', r1, l, m, ⟨a, xs, e1, e2, h, q⟩, k⟩
  subst e1
  subst e2
  cases r1
  cases l
  obtain ⟨ws, h1, z, l1⟩ := m.lst h
  refine mt_reverse pins s σ H _ _ v us Q I rx rv ⟨a, ws, rfl, rfl, h1, ?_⟩
  exact k _ _ _ _ (.put h1) .non (m.putLst h1 (by rw [List.length_reverse]; exact z) l1.reverse) q
/-- xs[i] = v -/
def upSt (K : PySem.W.Frag) (t : D → D → D → DM → (DM → Prop) → Prop) : TSet := fun o i v H Q => ∃ d e y M Q', Rep K H d o ∧ Rep K H e i ∧ Rep K H y v ∧ RM K H M ∧ t d e y M Q' ∧
  ∀ M' H', Grow H H' → RM K H' M' → Q' M' → Q H'
abbrev DSet (X : Cx) (t : D → D → D → DM → (DM → Prop) → Prop) : Prop := PSet X (upSt X.K t)
def dSetL : D → D → D → DM → (DM → Prop) → Prop := fun o i v M Q => ∃ a xs k j, o = .ref a ∧ i = .int k ∧ M a = some (.lst xs) ∧ ixN xs.length k = some j ∧ Q (mput M a (.lst (xs.set j v)))
theorem s_lst : DSet X dSetL := by
  intro pins s σ H o i v ov iv u Q I ro ri rv ⟨d, e, y, M, Q', r1, r2, r3, m, ⟨a, xs, kk, j, e1, e2, h, hj, q⟩, k⟩
  subst e1
  subst e2
  cases r1
  cases r2
  obtain ⟨ws, h1, z, l1⟩ := m.lst h
  refine set_list pins s σ H _ _ v ov iv u Q I ro ri rv ⟨a, ws, kk, j, rfl, rfl, h1, by rw [← l1.length]; exact hj, ?_⟩
  exact k _ _ (.put h1) (m.putLst h1 (by rw [List.length_set]; exact z) (l1.set j r3)) q
/-- o[i] = e -/
def dPut (te to ti : DTE) (t : D → D → D → DM → (DM → Prop) → Prop) : DTS := fun Z m M => te m M fun v M1 => to m M1 fun d M2 => ti m M2 fun i M3 => t d i v M3 fun M4 => Z.nx m M4
theorem ds_put {i e : Expr} {te ti : DTE} {pos pos' : Pos} {tt : D → D → D → DM → (DM → Prop) → Prop} (he : DE X e te) (ho : DE X o to) (hi : DE X i ti) (hs : DSet X tt)
    (ha : ∀ v, assign (.Subscript o i pos) X.env v = (do
      let ov ← holding [v] (eval o X.env)
      let iv ← holding [v, ov] (eval i X.env)
      standAt pos
      holding [v, ov, iv] (setItem ov iv v)
      release [v, ov, iv] []) := by intro _; rfl)
    (hsw : swapsWithSole [.Subscript o i pos] e pos'.line X.env = pure false := by rfl) (hw : swappedStores [.Subscript o i pos] e X.env = pure none := by rfl)
    (h1 : (assignEach [.Subscript o i pos] X.env).map (·.2) = [assign (.Subscript o i pos) X.env] := by rfl) : DS X (.Assign [.Subscript o i pos] e pos') (dPut te to ti tt) :=
  imS (ps_asg he (pg_sub ho hi hs ha) hsw hw h1) fun Z σ H ⟨m, M, Z', r, q, k⟩ => by
    refine ⟨m, M, _, r, q, fun v x M1 H1 g1 r1 m1 q1 => ?_⟩
    refine ⟨m, M1, _, r.grow g1 m1, q1, fun d y M2 H2 g2 r2 m2 q2 => ?_⟩
    refine ⟨m, M2, _, r.grow (g1.trans g2) m2, q2, fun i z M3 H3 g3 r3 m3 q3 => ?_⟩
    refine ⟨d, i, v, M3, _, r2.grow g3, r3, r1.grow (g2.trans g3), m3, q3, fun M4 H4 g4 m4 q4 => ?_⟩
    have g := (g1.trans g2).trans (g3.trans g4)
    exact k.nx m M4 σ H4 g (r.grow g m4) q4
end
end DL
namespace DL
open PySem PySem.Spec PyProof.Rows L2
section
variable {X : Cx} {elt tg iter : Expr} {ifs : List Expr} {scope : Scope} {own : List (Str × Nat)} {pos spos py : Pos} {t : DTI} {g : DTG} {tt : DTT} {te : DTE} {ws : List Nat} {y : Str} {i : Nat}
/-- name = [..] on one line -/
theorem ds_setLc (hc : X.calm = true) (hN : X.N.Nodup) (hy : X.N[i]? = some y) (hyl : X.env.scope.names.lookup y = some .local)
    (hsw : swapsWith (.ListComp elt [⟨tg, iter, ifs, 0⟩] scope pos) (some (.Name y py)) spos.line X.env = pure true) (hi : DI X tg iter t) (ok : BlkOk X.N X.env.scope scope own) (hsub : ∀ i ∈ ws, i ∈ own.map (·.2))
    (hg : ∀ (s : Shared) (H : Hp) (C : Addr) (cl : List (Str × Addr)) (fp : List Addr), DG (X.blk s H scope (compEnvC scope cl C X.env) fp) ws tg g)
    (ht : ∀ (s : Shared) (H : Hp) (C : Addr) (cl : List (Str × Addr)) (fp : List Addr), DPTs (X.blk s H scope (compEnvC scope cl C X.env) fp) ifs tt)
    (he : ∀ (s : Shared) (H : Hp) (C : Addr) (cl : List (Str × Addr)) (fp : List Addr), DE (X.blk s H scope (compEnvC scope cl C X.env) fp) elt te)
    (hs : ∀ x, foldedSetIterable iter X.env x = pure x := by intro _; rfl) : DS X (.Assign [.Name y py] (.ListComp elt [⟨tg, iter, ifs, 0⟩] scope pos) spos) (dSet i (dLc t g tt te (own.map (·.2)))) :=
  imS (ps_setLc hc hN hy hyl hsw hi ok hg ht he hs) fun Z σ H ⟨m, M, Z', r, q, k⟩ =>
    lc_up (Qf := fun p _ M2 => Z'.nx (m.set i (some (.ref p))) M2) hsub (fun p acc ws M2 H2 g2 m2 _ _ _ _ q2 => k.nx _ M2 _ H2 g2 ((r.grow g2 m2).set (.ref p)) q2) m M r q
/-- behind a statement slot i's list is frozen -/
theorem ps_after {st : Stmt} {t : TS} (i : Nat) (h : PS X st t) : PS X st (fun Z σ H => t { Z with nx := fun σ' H' => ∃ p vs, σ'[i]? = some (some (.ref p)) ∧ H' p = some (.lst vs) ∧ ∀ o, Z.nx σ' (upd H' p (.frz o (.lst vs))) } σ H) := by
  refine ⟨fun pins s σ H Z I q => thn (h.run pins s σ H _ I q) fun f s1 q1 => ?_⟩
  cases f with
  | next =>
    obtain ⟨σ', H', I', p, vs, _, e2, q2⟩ := q1
    obtain ⟨o, I2⟩ := inv_frz I' e2
    exact ⟨σ', _, I2, q2 o⟩
  | ret v => exact q1
  | brk => exact q1
  | cont => exact q1
theorem ds_setLcF (hc : X.calm = true) (hN : X.N.Nodup) (hy : X.N[i]? = some y) (hyl : X.env.scope.names.lookup y = some .local)
    (hsw : swapsWith (.ListComp elt [⟨tg, iter, ifs, 0⟩] scope pos) (some (.Name y py)) spos.line X.env = pure true) (hi : DI X tg iter t) (ok : BlkOk X.N X.env.scope scope own) (hsub : ∀ i ∈ ws, i ∈ own.map (·.2))
    (hg : ∀ (s : Shared) (H : Hp) (C : Addr) (cl : List (Str × Addr)) (fp : List Addr), DG (X.blk s H scope (compEnvC scope cl C X.env) fp) ws tg g)
    (ht : ∀ (s : Shared) (H : Hp) (C : Addr) (cl : List (Str × Addr)) (fp : List Addr), DPTs (X.blk s H scope (compEnvC scope cl C X.env) fp) ifs tt)
    (he : ∀ (s : Shared) (H : Hp) (C : Addr) (cl : List (Str × Addr)) (fp : List Addr), DE (X.blk s H scope (compEnvC scope cl C X.env) fp) elt te)
    (hs : ∀ x, foldedSetIterable iter X.env x = pure x := by intro _; rfl) (hil : i < X.N.length := by exact Nat.le_of_ble_eq_true rfl) : DS X (.Assign [.Name y py] (.ListComp elt [⟨tg, iter, ifs, 0⟩] scope pos) spos) (dSet i (dLcF t g tt te (own.map (·.2)))) := by
  refine ⟨fun pins s σ H Z I h => (ps_after i (ps_setLc (wi := upI X.K t) (g := upG X.K ws g) (tt := upT X.K tt) (te := upE X.K te) hc hN hy hyl hsw hi ok hg ht he hs)).run pins s σ H Z I ?_⟩
  obtain ⟨m, M, Z', r, q, k⟩ := h
  have hσ : i < σ.length := by rw [I.len]; exact hil
  refine lc_up (Qf := fun p acc M2 => Z'.nx (m.set i (some (.lst acc))) (mdel M2 p)) hsub (fun p acc ws M2 H2 g2 m2 h8 z8 l8 _ q2 => ?_) m M r q
  refine ⟨p, ws, List.getElem?_set_self hσ, h8, fun o => k.nx _ _ _ _ (g2.trans (.put h8)) ?_ q2⟩
  exact (r.grow (g2.trans (.put h8)) (m2.frz h8)).set (.lst (.inl ⟨o, upd_same⟩) z8 (l8.grow (.put h8)))
theorem mput_self {M : DM} {a : Addr} {o : DO} (h : M a = some o) : mput M a o = M := by
  funext b
  unfold mput
  split
  · next e => rw [e, h]
  · rfl
end
end DL
namespace DL
open PySem PySem.Spec PyProof.Rows L2
/-! ### promises by the number of arguments -/
def ar0 (p : DM → DVK → Prop) : DSp := fun ds M Q => ds = [] ∧ p M Q
def ar1 (p : D → DM → DVK → Prop) : DSp := fun ds M Q => ∃ a, ds = [a] ∧ p a M Q
def ar2 (p : D → D → DM → DVK → Prop) : DSp := fun ds M Q => ∃ a b, ds = [a, b] ∧ p a b M Q
def ar3 (p : D → D → D → DM → DVK → Prop) : DSp := fun ds M Q => ∃ a b c, ds = [a, b, c] ∧ p a b c M Q
def ar4 (p : D → D → D → D → DM → DVK → Prop) : DSp := fun ds M Q => ∃ a b c d, ds = [a, b, c, d] ∧ p a b c d M Q
def ar5 (p : D → D → D → D → D → DM → DVK → Prop) : DSp := fun ds M Q => ∃ a b c d e, ds = [a, b, c, d, e] ∧ p a b c d e M Q
def ar6 (p : D → D → D → D → D → D → DM → DVK → Prop) : DSp := fun ds M Q => ∃ a b c d e f, ds = [a, b, c, d, e, f] ∧ p a b c d e f M Q
theorem len0 {p} {ds : List D} {M : DM} {Q : DVK} (h : ar0 p ds M Q) : ds.length = 0 := by obtain ⟨rfl, _⟩ := h; rfl
theorem len1 {p} {ds : List D} {M : DM} {Q : DVK} (h : ar1 p ds M Q) : ds.length = 1 := by obtain ⟨_, rfl, _⟩ := h; rfl
theorem len2 {p} {ds : List D} {M : DM} {Q : DVK} (h : ar2 p ds M Q) : ds.length = 2 := by obtain ⟨_, _, rfl, _⟩ := h; rfl
theorem len3 {p} {ds : List D} {M : DM} {Q : DVK} (h : ar3 p ds M Q) : ds.length = 3 := by obtain ⟨_, _, _, rfl, _⟩ := h; rfl
theorem len4 {p} {ds : List D} {M : DM} {Q : DVK} (h : ar4 p ds M Q) : ds.length = 4 := by obtain ⟨_, _, _, _, rfl, _⟩ := h; rfl
theorem len5 {p} {ds : List D} {M : DM} {Q : DVK} (h : ar5 p ds M Q) : ds.length = 5 := by obtain ⟨_, _, _, _, _, rfl, _⟩ := h; rfl
theorem len6 {p} {ds : List D} {M : DM} {Q : DVK} (h : ar6 p ds M Q) : ds.length = 6 := by obtain ⟨_, _, _, _, _, _, rfl, _⟩ := h; rfl
theorem hu_eq {k : Nat} {A : Around} (hr : Room k A) : A.units + 64 < cLine := hr.units
theorem hu_in {k : Nat} {A : Around} (hr : Room k A) : A.units + 65 < cLine := by
  have := hr.un
  omega
section
variable {P : Program} {w : World} {K : PySem.W.Frag} {mg : Str → Option Value} {base : Heap} {k : Nat} {x : Str} {ps N : List Str} {dsp : DSp} {st : Stmt}
/-- THE RULE for a def, its function object at hand -/
theorem fn_ok {f : Addr} {fd : FuncData} (F : Fun K x x st f fd) (S : FnScope N ps (defScope st)) (len : ∀ ds M Q, dsp ds M Q → ds.length = ps.length) {t : DTS}
    (body : ∀ (f : Addr) (cdv : Value) (A : Around) (outer : List Env) (s : Shared) (H : Hp) (E : XK), Room k (A.deeper (envOfC x (defScope st) s.heap.objs.size f cdv)) → DSs (Ctx P w K mg base N x st f cdv A outer s H E) (defBody st) t)
    (rd : ∀ ds M Q, dsp ds M Q → t (dEnds Q) (dstart N ds) M) : FnOk P w K mg base CX0 (k + 1) f fd ps (upSp K dsp) := by
  refine F.ok S (fun vs H Q E ⟨ds, M, Q', l, _, q, _⟩ => by rw [← l.length]; exact len ds M Q' q) (fun cdv A outer s H vs Q E hr ⟨ds, M, Q', l, m, q, kk⟩ => ?_)
  refine ⟨_, body f cdv A outer s H E hr, dstart N ds, M, dEnds Q', ⟨?_, fun i d e => start_slot l e, m⟩, rd ds M Q' q,
    ⟨fun m1 M1 σ1 H1 g1 r1 ⟨M0, le, q1⟩ => kk _ _ M0 H1 g1 .non (r1.mem.le le) q1, fun _ _ _ _ _ _ z => z.elim, fun _ _ _ _ _ _ z => z.elim, fun d v M1 H1 g1 r1 m1 ⟨M0, le, q1⟩ => kk d v M0 H1 g1 r1 (m1.le le) q1⟩⟩
  simp [dstart, L2.start, l.length]
end
/-- the law's own promise: for every list of at most 63 ints it gives True -/
def sp_law : DSp := ar1 fun a _ Q => ∃ ns : List Int, ns.length ≤ 63 ∧ a = .lst (ns.map D.int) ∧ ∀ M', Q (.bl true) M'
theorem law_start {K : PySem.W.Frag} {H : Hp} {a : Addr} {ns : List Int} {E : XK} (hl : ns.length ≤ 63) (hO : Only H) (hS : SqL K H a (ns.map V.int)) : upSp K sp_law [.ref a] H (fun v _ => v = .bl true) E := by
  have hz : (ns.map V.int).length ≤ sizeLine := by
    rw [List.length_map]
    have := sizeLine_eq
    omega
  have hf : FrzL K H a (ns.map V.int) := by
    rcases hS with (h | ⟨o, h⟩) | h
    · rcases hO a with z | ⟨o, xs, z⟩ <;> (rw [z] at h; cases h)
    · exact .inl ⟨o, h⟩
    · exact .inr h
  refine ⟨[.lst (ns.map D.int)], fun _ => none, fun d _ => d = .bl true, .one (.lst hf hz (repL_ints ns)), (fun b o e => nomatch e), ⟨_, rfl, ns, hl, rfl, fun _ => rfl⟩, fun d v M' H' _ r _ q => ?_⟩
  subst q
  cases r
  rfl
end DL
namespace DL
open PySem PySem.Spec PyProof.Rows L2
/-! ### what the readings' steps need, as rewriting -/
theorem eqv_int (i j : Int) : D.eqv (.int i) (.int j) = decide (i = j) := by
  simp [D.eqv, D.py, PyData.eqv, Bool.beq_eq_decide_eq]
theorem eqv_str (i j : Str) : D.eqv (.str i) (.str j) = decide (i = j) := by
  simp [D.eqv, D.py, PyData.eqv, Bool.beq_eq_decide_eq]
theorem eqv_bl (i j : Bool) : D.eqv (.bl i) (.bl j) = (i == j) := by
  simp [D.eqv, D.py, PyData.eqv]
theorem dItems_rf (a : Addr) (M : DM) : dItems (.ref a) M = match M a with
  | some (.lst xs) => some xs
  | _ => none := rfl
theorem dLenOf_tup (xs : List D) (M : DM) : dLenOf (.tup xs) M = some xs.length := rfl
theorem dLenOf_lst (xs : List D) (M : DM) : dLenOf (.lst xs) M = some xs.length := rfl
theorem dLenOf_rf (a : Addr) (M : DM) : dLenOf (.ref a) M = match M a with
  | some (.lst xs) => some xs.length
  | _ => none := rfl
theorem dLenOf_str (z : Str) (M : DM) : dLenOf (.str z) M = if z.length ≤ sizeLine then some z.length else none := rfl
theorem dTyN_non (M : DM) : dTyN .non M = some "NoneType" := rfl
theorem dTyN_bl (b : Bool) (M : DM) : dTyN (.bl b) M = some "bool" := rfl
theorem dTyN_int (b : Int) (M : DM) : dTyN (.int b) M = some "int" := rfl
theorem dTyN_str (b : Str) (M : DM) : dTyN (.str b) M = some "str" := rfl
theorem dTyN_tup (b : List D) (M : DM) : dTyN (.tup b) M = some "tuple" := rfl
theorem dTyN_lst (b : List D) (M : DM) : dTyN (.lst b) M = some "list" := rfl
theorem dTyN_dct (b : List (D × D)) (M : DM) : dTyN (.dct b) M = some "dict" := rfl
theorem dTyN_rf (a : Addr) (M : DM) : dTyN (.ref a) M = match M a with
  | some (.lst _) => some "list"
  | some (.dk _) => some "dict"
  | _ => none := rfl
theorem dIntOf_int (i : Int) : dIntOf (.int i) = some i := rfl
theorem dIntOf_bl (b : Bool) : dIntOf (.bl b) = some (if b then 1 else 0) := rfl
theorem dAt_tup (xs : List D) : dAt (.tup xs) = none := rfl
theorem dAt_lst (xs : List D) : dAt (.lst xs) = none := rfl
theorem dAt_rf (a : Addr) : dAt (.ref a) = some a := rfl
theorem isN_non : D.isN .non = true := rfl
theorem isN_bl (b : Bool) : D.isN (.bl b) = false := rfl
theorem isN_int (b : Int) : D.isN (.int b) = false := rfl
theorem isN_str (b : Str) : D.isN (.str b) = false := rfl
theorem isN_tup (b : List D) : D.isN (.tup b) = false := rfl
theorem isN_lst (b : List D) : D.isN (.lst b) = false := rfl
theorem isN_rf (b : Addr) : D.isN (.ref b) = false := rfl
theorem eqv_non : D.eqv .non .non = true := by
  simp [D.eqv, D.py, PyData.eqv]
theorem eqv_refl {n : Nat} {d : D} (h : dOk n d = true) : D.eqv d d = true := PySem.SeqAt.eqv_refl _ (dOk_lay n d h).1
@[simp] theorem dOk_int (n : Nat) (i : Int) : dOk n (.int i) = true := by cases n <;> rfl
@[simp] theorem dOk_bl (n : Nat) (i : Bool) : dOk n (.bl i) = true := by cases n <;> rfl
@[simp] theorem dOk_non (n : Nat) : dOk n .non = true := by cases n <;> rfl
theorem dOk_str (n : Nat) (x : Str) : dOk n (.str x) = PyData.strOk x := by cases n <;> rfl
@[simp] theorem dOk_tup (n : Nat) (xs : List D) : dOk (n + 1) (.tup xs) = xs.all (dOk n) := rfl
@[simp] theorem dOk_lst (n : Nat) (xs : List D) : dOk (n + 1) (.lst xs) = xs.all (dOk n) := rfl
theorem atI_0 {α : Type} (x : α) (xs : List α) : atI (x :: xs) 0 = some x := atI_nat (j := 0) rfl
theorem atI_1 {α : Type} (x y : α) (xs : List α) : atI (x :: y :: xs) 1 = some y := atI_nat (j := 1) rfl
theorem atI_2 {α : Type} (x y z : α) (xs : List α) : atI (x :: y :: z :: xs) 2 = some z := atI_nat (j := 2) rfl
theorem atI_3 {α : Type} (x y z u : α) (xs : List α) : atI (x :: y :: z :: u :: xs) 3 = some u := atI_nat (j := 3) rfl
theorem atI_4 {α : Type} (x y z u v : α) (xs : List α) : atI (x :: y :: z :: u :: v :: xs) 4 = some v := atI_nat (j := 4) rfl
theorem atI_5 {α : Type} (x y z u v w : α) (xs : List α) : atI (x :: y :: z :: u :: v :: w :: xs) 5 = some w := atI_nat (j := 5) rfl
theorem atI_n {α : Type} (xs : List α) (n : Nat) : atI xs (n : Int) = xs[n]? := by
  unfold atI ixN
  rw [if_pos (by omega)]
  by_cases h : n < xs.length
  · rw [if_pos (by omega)]
    simp
  · rw [if_neg (by omega), List.getElem?_eq_none (by omega)]
    rfl
theorem atI_neg1 {α : Type} (xs : List α) : atI xs (-1) = xs.getLast? := by
  cases xs with
  | nil => rfl
  | cons x r =>
    rw [List.getLast?_eq_getElem?]
    unfold atI ixN
    rw [if_neg (by omega), if_pos (by rw [List.length_cons]; omega)]
    show (x :: r)[(-1 + ((x :: r).length : Int)).toNat]? = _
    congr 1
    rw [List.length_cons]
    omega
/-! ### sizes -/
/-- x has at most B bits -/
def Ab (B : Nat) (x : Int) : Prop := x.natAbs < 2 ^ B
theorem Ab.mono {a b : Nat} {x : Int} (h : Ab a x) (l : a ≤ b) : Ab b x := Nat.lt_of_lt_of_le h (Nat.pow_le_pow_right (by decide) l)
theorem Ab.mul {a b : Nat} {x y : Int} (h : Ab a x) (k : Ab b y) : Ab (a + b) (x * y) := wide_lt h k
theorem Ab.add {a : Nat} {x y : Int} (h : Ab a x) (k : Ab a y) : Ab (a + 1) (x + y) := by
  unfold Ab at h k ⊢
  have := Int.natAbs_add_le x y
  rw [Nat.pow_succ]
  omega
theorem Ab.sub {a : Nat} {x y : Int} (h : Ab a x) (k : Ab a y) : Ab (a + 1) (x - y) := by
  unfold Ab at h k ⊢
  have : (x - y).natAbs ≤ x.natAbs + y.natAbs := by omega
  rw [Nat.pow_succ]
  omega
theorem Ab.neg {a : Nat} {x : Int} (h : Ab a x) : Ab a (-x) := by
  unfold Ab at h ⊢
  rw [Int.natAbs_neg]
  exact h
theorem Ab.cmul {a b : Nat} {x y : Int} (h : Ab a x) (k : Ab b y) (l : a + b ≤ 999998) : CMulA x y :=
  .inr <| .inr <| wide_mul (h.mono (Nat.le_succ a)) (k.mono (Nat.le_succ b)) (by omega) (by omega) (by omega)
theorem Ab.cdiv {a : Nat} {x y : Int} (h : Ab a y) (p : 0 < y) (l : a ≤ 8999) : CDivA x y := .inr <| wide_div p (h.mono (Nat.le_succ a)) (by omega) (by omega)
theorem Ab.le {a : Nat} {x y : Int} (h : Ab a y) (h0 : 0 ≤ x) (l : x ≤ y) : Ab a x := wide_le h0 l h
theorem Ab.small {x : Int} (h : -1024 < x) (k : x < 1024) : Ab 10 x := by
  unfold Ab
  omega
theorem Ab.of {a : Nat} {x : Int} (h : x.natAbs < 2 ^ a) : Ab a x := h

/-! ### loops, by what holds of the items that are left -/
theorem for_ind {src : Src} {g : DTG} {tb : DTS} {Z : DEnds} (V : List D → DSt → DM → Prop) (fin : ∀ m M, V [] m M → SrcV src M ∧ Z.nx m M)
    (step : ∀ d ds m M (Cn : DSt → DM → Prop), (∀ m' M', V ds m' M' → Cn m' M') → V (d :: ds) m M → SrcV src M ∧ g d m M fun m1 M1 => tb { Z with nx := fg Cn, ct := fg Cn, bk := Z.nx } m1 M1) :
    ∀ ds m M, V ds m M → dForGo src g tb Z ds m M
  | [], m, M, h => fin m M h
  | d :: ds, m, M, h => step d ds m M (dForGo src g tb Z ds) (for_ind V fin step ds) h
theorem lc_ind {src : Src} {g : DTG} {tt : DTT} {te : DTE} {m0 : DSt} {p : Addr} {Qd : List D → DM → Prop} (V : List D → List D → DM → Prop) (fin : ∀ acc M, V [] acc M → SrcV src M ∧ Qd acc M)
    (step : ∀ d ds acc M (Cn : List D → DM → Prop), (∀ acc' M', V ds acc' M' → Cn acc' M') → V (d :: ds) acc M → SrcV src M ∧ g d m0 M fun m1 M1 => tt m1 M1 fun b M2 =>
      if b = true then te m1 M2 fun y M3 => M3 p = some (.lst acc) ∧ Cn (acc ++ [y]) (mput M3 p (.lst (acc ++ [y]))) else M2 p = some (.lst acc) ∧ Cn acc M2) :
    ∀ ds acc M, V ds acc M → dLcGo src g tt te m0 p Qd ds acc M
  | [], acc, M, h => fin acc M h
  | d :: ds, acc, M, h => step d ds acc M (dLcGo src g tt te m0 p Qd ds) (lc_ind V fin step ds) h
theorem mput_le {M N : DM} {p : Addr} {o : DO} (l : MLe M N) (h : M p = none) : MLe M (mput N p o) := l.put h
/-- a comprehension whose tests and elements change nothing: over e x for the x of xs -/
theorem lcGo_pure {α : Type} {src : Src} {g : DTG} {tt : DTT} {te : DTE} {m0 : DSt} {p : Addr} {Qd : List D → DM → Prop} {M1 : DM} (e : α → D) (pr : α → Bool) (f : α → D) (hp : M1 p = none) (sv : SrcV src M1) :
    ∀ (xs : List α) (step : ∀ x ∈ xs, ∀ M, MLe M1 M → ∀ (C1 : D → DM → Prop) (C2 : DM → Prop), (pr x = true → C1 (f x) M) → (pr x = false → C2 M) → g (e x) m0 M fun m1 M1 => tt m1 M1 fun b M2 => if b = true then te m1 M2 C1 else C2 M2)
      (acc : List D), Qd (acc ++ (xs.filter pr).map f) (mput M1 p (.lst (acc ++ (xs.filter pr).map f))) → dLcGo src g tt te m0 p Qd (xs.map e) acc (mput M1 p (.lst acc))
  | [], _, acc, h => ⟨fun a e => MLe.put (.refl M1) hp a _ (sv a e), by simpa using h⟩
  | x :: xs, step, acc, h => by
    refine ⟨fun a e => MLe.put (.refl M1) hp a _ (sv a e), step x (by simp) _ (MLe.put (.refl M1) hp) _ _ (fun e => ⟨mput_same, ?_⟩) fun e => ⟨mput_same, ?_⟩⟩
    · rw [mput_mput]
      refine lcGo_pure _ pr f hp sv xs (fun d' h' => step d' (by simp [h'])) _ ?_
      rw [List.filter_cons_of_pos e, List.map_cons] at h
      simpa using h
    · refine lcGo_pure _ pr f hp sv xs (fun d' h' => step d' (by simp [h'])) _ ?_
      rw [List.filter_cons_of_neg (by simp [e])] at h
      exact h
theorem filter_all {α : Type} : ∀ l : List α, l.filter (fun _ => true) = l
  | [] => rfl
  | x :: l => by rw [List.filter_cons_of_pos rfl, filter_all l]
theorem lc_pure {α : Type} {src : Src} {g : DTG} {tt : DTT} {te : DTE} {m0 : DSt} {Qd : Addr → List D → DM → Prop} {M1 : DM} (xs : List α) (e : α → D) (pr : α → Bool) (f : α → D) (hx : src.1 = xs.map e) (sv : SrcV src M1)
    (step : ∀ x ∈ xs, ∀ M, MLe M1 M → ∀ (C1 : D → DM → Prop) (C2 : DM → Prop), (pr x = true → C1 (f x) M) → (pr x = false → C2 M) → g (e x) m0 M fun m1 M1 => tt m1 M1 fun b M2 => if b = true then te m1 M2 C1 else C2 M2)
    (h : ∀ p, M1 p = none → Qd p ((xs.filter pr).map f) (mput M1 p (.lst ((xs.filter pr).map f)))) : ∀ p, M1 p = none → dLcGo src g tt te m0 p (Qd p) src.1 [] (mput M1 p (.lst [])) := fun p hp => by
  have z := lcGo_pure (Qd := Qd p) e pr f hp sv xs step [] (by rw [List.nil_append]; exact h p hp)
  rw [← hx] at z
  exact z
/-- .. without a test -/
theorem lc_map {α : Type} {src : Src} {g : DTG} {te : DTE} {m0 : DSt} {Qd : Addr → List D → DM → Prop} {M1 : DM} (xs : List α) (e : α → D) (f : α → D) (hx : src.1 = xs.map e) (sv : SrcV src M1)
    (step : ∀ x ∈ xs, ∀ M, MLe M1 M → ∀ (C1 : D → DM → Prop), C1 (f x) M → g (e x) m0 M fun m1 M1 => te m1 M1 C1)
    (h : ∀ p, M1 p = none → Qd p (xs.map f) (mput M1 p (.lst (xs.map f)))) : ∀ p, M1 p = none → dLcGo src g dYes te m0 p (Qd p) src.1 [] (mput M1 p (.lst [])) :=
  lc_pure xs e (fun _ => true) f hx sv (fun x hd M l C1 C2 h1 _ => step x hd M l C1 (h1 rfl)) (by rw [filter_all]; exact h)
theorem seq_i {t u : DTS} {Z : DEnds} {m : DSt} {M : DM} (h : t { Z with nx := u Z } m M) : dSeq t u Z m M := h
/-- behind a statement with several ends: what holds at each of them -/
theorem seq_cut {t u : DTS} {Z : DEnds} {m : DSt} {M : DM} (P : DSt → DM → Prop) (h1 : ∀ Cn : DSt → DM → Prop, (∀ m' M', P m' M' → Cn m' M') → t { Z with nx := Cn } m M) (h2 : ∀ m' M', P m' M' → u Z m' M') : dSeq t u Z m M := h1 (u Z) h2
theorem MLe.trans {M N O : DM} (h : MLe M N) (k : MLe N O) : MLe M O := fun a o e => k a o (h a o e)
/-- what is new, and what stood -/
theorem MLe.with {M N : DM} {a : Addr} {o : DO} (l : MLe M N) (h : N a = some o) : MLe (mput M a o) N := fun b p e => by
  by_cases hb : b = a
  · subst hb
    rw [mput_same] at e
    cases e
    exact h
  · rw [mput_ne hb] at e
    exact l b p e
/-- a store to what is new -/
theorem MLe.store {M N : DM} {a : Addr} {o : DO} (l : MLe M N) (h : M a = none) : MLe M (mput N a o) := l.put h
theorem ne_of_fresh {M : DM} {a b : Addr} {o : DO} (h : M a = some o) (k : M b = none) : a ≠ b := fun e => by
  rw [e, k] at h
  cases h
theorem atI_lt {α : Type} {xs : List α} {i : Int} (h0 : 0 ≤ i) (h1 : i < xs.length) : ∃ x, x ∈ xs ∧ atI xs i = some x := by
  obtain ⟨n, rfl⟩ : ∃ n : Nat, i = n := ⟨i.toNat, by omega⟩
  have hn : n < xs.length := by omega
  exact ⟨xs[n], List.getElem_mem hn, by rw [atI_n, List.getElem?_eq_getElem hn]⟩
theorem atI_map {α β : Type} (f : α → β) (xs : List α) (i : Int) : atI (xs.map f) i = (atI xs i).map f := by
  unfold atI
  rw [List.length_map]
  cases ixN xs.length i with
  | none => rfl
  | some j => simp
theorem ixN_lt {n : Nat} {i : Int} (h0 : 0 ≤ i) (h1 : i < n) : ixN n i = some i.toNat := by
  unfold ixN
  rw [if_pos h0, if_pos h1]
theorem items_put {M : DM} {p : Addr} {o : DO} {d : D} (h : d ≠ .ref p) : dItems d (mput M p o) = dItems d M := by
  cases d with
  | ref a =>
    have : a ≠ p := fun e => h (e ▸ rfl)
    simp only [dItems, mput_ne this]
  | _ => rfl
/-- the empty promise -/
theorem Def.nil {P : Program} {w : World} {K : PySem.W.Frag} {mg : Str → Option Value} {base : Heap} {k : Nat} {x : Str} {ps : List Str} {st : Stmt} (F : Def K mg x st ps) : Cal P w K mg base k x ps (fun _ _ _ => False) := by
  obtain ⟨f, fd, F, hm, hb⟩ := F.ex
  exact ⟨f, fd, ⟨fun _ _ _ _ ⟨_, _, _, _, _, z, _⟩ => z.elim, fun _ _ _ _ _ _ _ _ _ _ _ _ _ ⟨_, _, _, _, _, z, _⟩ => z.elim⟩, hm, F.kp, hb⟩
/-- a list of draws: ints, whichever -/
def DrO (o : DO) : Prop := ∃ ks : List Int, o = .lst (ks.map D.int)
def Dr (M : DM) (p : Addr) : Prop := ∃ o, M p = some o ∧ DrO o
theorem dr_put {M : DM} {p : Addr} {o : DO} (h : DrO o) : Dr (mput M p o) p := ⟨o, mput_same, h⟩
theorem dr_at {M : DM} {p : Addr} {o : DO} (h : DrO o) (e : M p = some o) : Dr M p := ⟨o, e, h⟩
theorem dr_ne {M : DM} {p q : Addr} {o : DO} (h : Dr M p) (e : p ≠ q) : Dr (mput M q o) p := let ⟨o', h1, h2⟩ := h; ⟨o', by rw [mput_ne e]; exact h1, h2⟩
theorem Dr.le {M N : DM} {p : Addr} (h : Dr M p) (l : MLe M N) : Dr N p := let ⟨o, h1, h2⟩ := h; ⟨o, l _ _ h1, h2⟩
theorem Dr.some {M : DM} {p q : Addr} (h : Dr M p) (k : M q = none) : p ≠ q := let ⟨_, h1, _⟩ := h; ne_of_fresh h1 k
theorem srcV_none {xs : List D} {M : DM} : SrcV (xs, none) M := fun _ e => nomatch e
theorem fz_new {xs : List D} {M : DM} {Q : DVK} (h : Q (.lst xs) M) : ∀ p, M p = none → ∃ p' ds, D.ref p = .ref p' ∧ mput M p (.lst xs) p' = some (.lst ds) ∧ Q (.lst ds) (mdel (mput M p (.lst xs)) p') := fun p hp =>
  ⟨p, xs, rfl, mput_same, by rw [mdel_mput hp]; exact h⟩
end DL
namespace DL
open PySem PySem.Spec PyProof.Rows L2
section
variable {X : Cx} {e a b : Expr} {es : List Expr} {pos p apos cpos : Pos} {te ta tb : DTE} {t : DTA} {x : Str}

theorem items_kind {K : PySem.W.Frag} {H : Hp} {M : DM} {d : D} {v : V} {xs : List D} (r : Rep K H d v) (m : RM K H M) (e : dItems d M = some xs) :
    ∃ a vs, v = .ref a ∧ vs.length ≤ sizeLine ∧ RepL K H xs vs ∧ ((SqL K H a vs ∧ d ≠ .tup xs) ∨ (SqT K H a vs ∧ d = .tup xs)) := by
  cases r with
  | tup hT z l =>
    cases e
    exact ⟨_, _, rfl, z, l, .inr ⟨hT, rfl⟩⟩
  | lst hL z l =>
    cases e
    exact ⟨_, _, rfl, z, l, .inl ⟨hL.seq, fun q => nomatch q⟩⟩
  | ref a =>
    obtain ⟨a', vs, e1, z, l, ⟨h1, _⟩ | ⟨_, h2⟩⟩ := items_of (Rep.ref a) m e
    · exact ⟨a', vs, e1, z, l, .inl ⟨h1, fun q => nomatch q⟩⟩
    · cases h2
  | _ => cases e

/-! ### + of ints, texts, tuples -/
def dAdd : DR2 := fun x y M Q => match x, y with
  | .int i, .int j => Q (.int (i + j)) M
  | .str i, .str j => i.length + j.length ≤ 16777216 ∧ Q (.str (i ++ j)) M
  | .tup xs, .tup ys => xs.length + ys.length ≤ 16777216 ∧ Q (.tup (xs ++ ys)) M
  | _, _ => False
theorem o_addA : DOp X (binaryOp .Add) dAdd := by
  intro pins s σ H x y v u Q I rx ry ⟨d, e, M, Q', r1, r2, m, q, k⟩
  cases d with
  | int i =>
    cases e with
    | int j =>
      cases r1
      cases r2
      exact op_add pins s σ H _ _ v u Q I rx ry ⟨i, j, rfl, rfl, k _ _ M H (.refl H) (.int _) m q⟩
    | _ => exact q.elim
  | str i =>
    cases e with
    | str j =>
      cases r1
      cases r2
      obtain ⟨z, q⟩ := q
      exact op_add_str pins s σ H _ _ v u Q I rx ry ⟨i, j, rfl, rfl, by rw [sizeLine_eq]; exact z, k _ _ M H (.refl H) (.str _) m q⟩
    | _ => exact q.elim
  | tup xs =>
    cases e with
    | tup ys =>
      obtain ⟨z, q⟩ := q
      cases id r1 with
      | tup h1 z1 l1 =>
        cases id r2 with
        | tup h2 z2 l2 =>
          have hz : xs.length + ys.length ≤ sizeLine := by rw [sizeLine_eq]; exact z
          rw [l1.length, l2.length] at hz
          refine op_catA pins s σ H _ _ v u Q I rx ry ⟨_, _, _, _, rfl, rfl, h1, h2, hz, fun e1 => ?_, fun e1 e2 => ?_, fun e1 e2 p hp => ?_⟩
          · subst e1
            cases l1
            exact k _ _ M H (.refl H) r2 m q
          · subst e2
            cases l2
            rw [List.append_nil] at q
            exact k _ _ M H (.refl H) r1 m q
          · exact k _ _ M _ (.new hp) (.tup (.of upd_same) (by rw [List.length_append]; exact hz) ((l1.append l2).grow (.new hp))) (m.new hp) q
    | _ => exact q.elim
  | _ => exact q.elim

/-! ### + of lists -/
def rCatS (K : PySem.W.Frag) : R2 := fun x y H Q => ∃ a b xs ys, x = .ref a ∧ y = .ref b ∧ SqL K H a xs ∧ SqL K H b ys ∧ xs.length + ys.length ≤ sizeLine ∧
  ∀ p, H p = none → Q (.ref p) (upd H p (.lst (xs ++ ys)))
theorem op_catS : OpR X (binaryOp .Add) (rCatS X.K) := by
  intro pins s σ H x y v u Q I rx ry ⟨a, b, xs, ys, e1, e2, h1, h2, hz, q⟩
  subst e1
  subst e2
  cases rx
  cases ry
  obtain ⟨us, r1, pl1, _⟩ := I.list h1
  obtain ⟨ws, r2, pl2, _⟩ := I.list h2
  obtain ⟨⟨c1, dd1, dt1, sl1⟩, ho1, hc1, n1, hd1⟩ := pl1.isList
  obtain ⟨⟨c2, dd2, dt2, sl2⟩, ho2, hc2, n2, hd2⟩ := pl2.isList
  simp only at hc1 hd1 hc2 hd2
  subst hc1 hd1 hc2 hd2
  have hz' : us.toArray.size + ws.toArray.size ≤ sizeLine := by
    have y1 := r1.length
    have y2 := r2.length
    simp only [List.size_toArray]
    omega
  have ee : us.toArray ++ ws.toArray = (us ++ ws).toArray := by simp
  refine concat_meets ⟨_, ho1, rfl⟩ ⟨_, ho2, rfl⟩ noFill_list_add seq_list_add PySem.F.slot_list_add PySem.F.entry_list_add (PySem.F.args_list_add_2 _ _)
    (PyProof.Rows.list_addW a b us.toArray ws.toArray n1 n2 dd1 dd2 sl1 sl2 hz') ⟨ho1, ho2, ?_⟩
  rw [ee]
  exact ⟨.ref _, _, I.lnew (t' := s.toks) (r1.append r2) (by rw [List.length_append]; exact hz), rfl, q _ I.fresh⟩
/-- the items of two lists in a row -/
def dCat (ta tb : DTE) : DTE := fun m M Q => ta m M fun d M1 => tb m M1 fun e M2 => ∃ xs ys, dItems d M2 = some xs ∧ d ≠ .tup xs ∧ dItems e M2 = some ys ∧ e ≠ .tup ys ∧ xs.length + ys.length ≤ 16777216 ∧ ∀ p, M2 p = none → Q (.ref p) (mput M2 p (.lst (xs ++ ys)))
def dCatF (ta tb : DTE) : DTE := fun m M Q => ta m M fun d M1 => tb m M1 fun e M2 => ∃ xs ys, dItems d M2 = some xs ∧ d ≠ .tup xs ∧ dItems e M2 = some ys ∧ e ≠ .tup ys ∧ xs.length + ys.length ≤ 16777216 ∧ Q (.lst (xs ++ ys)) M2
theorem lst_of {K : PySem.W.Frag} {H : Hp} {M : DM} {d : D} {v : V} {xs : List D} (r : Rep K H d v) (m : RM K H M) (h : dItems d M = some xs) (h2 : d ≠ .tup xs) : ∃ a vs, v = .ref a ∧ vs.length ≤ sizeLine ∧ RepL K H xs vs ∧ SqL K H a vs := by
  obtain ⟨a, vs, e, z, l, ⟨h4, _⟩ | ⟨_, h5⟩⟩ := items_of r m h
  · exact ⟨a, vs, e, z, l, h4⟩
  · exact absurd h5 h2
theorem d_cat (ha : DE X a ta) (hb : DE X b tb) : DE X (.BinOp a .Add b pos) (dCat ta tb) :=
  imE (pe_op op_catS ha hb) fun σ H Q ⟨m, M, Q', r, q, k⟩ => by
    refine ⟨m, M, _, r, q, fun d v M1 H1 g1 r1 m1 q1 => ?_⟩
    refine ⟨m, M1, _, r.grow g1 m1, q1, fun e w M2 H2 g2 r2 m2 ⟨xs, ys, h1, h2, h3, h4, hz, q2⟩ => ?_⟩
    obtain ⟨a1, vs, rfl, z1, l1, s1⟩ := lst_of (r1.grow g2) m2 h1 h2
    obtain ⟨a2, ws, rfl, z2, l2, s2⟩ := lst_of r2 m2 h3 h4
    have hz' : vs.length + ws.length ≤ sizeLine := by rw [← l1.length, ← l2.length, sizeLine_eq]; exact hz
    refine ⟨a1, a2, vs, ws, rfl, rfl, s1, s2, hz', fun p hp => k _ _ _ _ ((g1.trans g2).trans (.new hp)) (.ref p) (m2.newLst hp (by rw [List.length_append]; exact hz') (l1.append l2)) (q2 p (m2.free hp))⟩
theorem d_catF (ha : DE X a ta) (hb : DE X b tb) : DE X (.BinOp a .Add b pos) (dCatF ta tb) :=
  imE (pe_fz (pe_op op_catS ha hb)) fun σ H Q ⟨m, M, Q', r, q, k⟩ => by
    refine ⟨m, M, _, r, q, fun d v M1 H1 g1 r1 m1 q1 => ?_⟩
    refine ⟨m, M1, _, r.grow g1 m1, q1, fun e w M2 H2 g2 r2 m2 ⟨xs, ys, h1, h2, h3, h4, hz, q2⟩ => ?_⟩
    obtain ⟨a1, vs, rfl, z1, l1, s1⟩ := lst_of (r1.grow g2) m2 h1 h2
    obtain ⟨a2, ws, rfl, z2, l2, s2⟩ := lst_of r2 m2 h3 h4
    have hz' : vs.length + ws.length ≤ sizeLine := by rw [← l1.length, ← l2.length, sizeLine_eq]; exact hz
    refine ⟨a1, a2, vs, ws, rfl, rfl, s1, s2, hz', fun p hp => ⟨p, _, rfl, upd_same, fun o => ?_⟩⟩
    rw [upd_upd]
    exact k _ _ _ _ ((g1.trans g2).trans (.new hp)) (.lst (.inl ⟨o, upd_same⟩) (by rw [List.length_append]; exact hz') ((l1.append l2).grow (.new hp))) (m2.new hp) q2

/-! ### slices -/
def cutD (xs : List D) (lo hi : Option Int) : List D := (xs.drop (HT.sIx xs.length 0 lo)).take (HT.sIx xs.length xs.length hi - HT.sIx xs.length 0 lo)
theorem RepL.cut {K : PySem.W.Frag} {H : Hp} {xs : List D} {vs : List V} (l : RepL K H xs vs) (lo hi : Option Int) : RepL K H (cutD xs lo hi) (cutV vs lo hi) := by
  unfold cutD cutV
  rw [l.length]
  exact (l.drop _).take _
theorem cutD_len (xs : List D) (lo hi : Option Int) : (cutD xs lo hi).length ≤ xs.length := by
  unfold cutD
  rw [List.length_take, List.length_drop]
  omega
theorem cutD_from (xs : List D) (k : Nat) : cutD xs (some (k : Int)) none = xs.drop k := by
  unfold cutD
  rw [HT.sIx_nat, HT.sIx_none, List.take_of_length_le (by rw [List.length_drop]; exact Nat.le_refl _)]
  by_cases h : k ≤ xs.length
  · rw [Nat.min_eq_left h]
  · rw [Nat.min_eq_right (by omega), List.drop_length, List.drop_eq_nil_of_le (by omega)]
theorem cutD_to (xs : List D) (k : Nat) : cutD xs none (some (k : Int)) = xs.take k := by
  unfold cutD
  rw [HT.sIx_nat, HT.sIx_none, List.drop_zero, Nat.sub_zero]
  by_cases h : k ≤ xs.length
  · rw [Nat.min_eq_left h]
  · rw [Nat.min_eq_right (by omega), List.take_length, List.take_of_length_le (by omega)]
theorem cutD_all (xs : List D) : cutD xs none none = xs := by
  unfold cutD
  rw [HT.sIx_none, HT.sIx_none, List.drop_zero, Nat.sub_zero, List.take_length]
abbrev DTO := DSt → DM → (Option Int → DM → Prop) → Prop
def upO (K : PySem.W.Frag) (t : DTO) : TO := fun σ H Q => ∃ m M Q', R K m M σ H ∧ t m M Q' ∧ ∀ o M' H', Grow H H' → RM K H' M' → Q' o M' → Q o H'
abbrev DPO (X : Cx) (e : Option Expr) (t : DTO) : Prop := PO X e (upO X.K t)
theorem imO {e : Option Expr} {t t' : TO} (h : PO X e t) (i : ∀ σ H Q, t' σ H Q → t σ H Q) : PO X e t' := ⟨fun pins s σ H Q I q => h.run pins s σ H Q I (i σ H Q q)⟩
def dNoP : DTO := fun _ M Q => Q none M
def dPart (te : DTE) : DTO := fun m M Q => te m M fun d M1 => ∃ i, d = .int i ∧ Q (some i) M1
theorem dp_none : DPO X none dNoP := imO po_none fun σ H Q ⟨m, M, Q', r, q, k⟩ => k _ M H (.refl H) r.mem q
theorem dp_some (h : DE X e te) : DPO X (some e) (dPart te) := imO (po_some h) fun σ H Q ⟨m, M, Q', r, q, k⟩ => by
  refine ⟨m, M, _, r, q, fun d v M1 H1 g1 r1 m1 ⟨i, e1, q1⟩ => ?_⟩
  subst e1
  cases r1
  exact ⟨i, rfl, k _ M1 H1 g1 m1 q1⟩
/-- of a tuple a tuple, of a list a list that stays -/
def dSl (te : DTE) (tl th : DTO) : DTE := fun m M Q => te m M fun d M1 => tl m M1 fun lo M2 => th m M2 fun hi M3 => ∃ xs, dItems d M3 = some xs ∧ (d = .tup xs → Q (.tup (cutD xs lo hi)) M3) ∧ (d ≠ .tup xs → Q (.lst (cutD xs lo hi)) M3)
def tFzO (t : TE) : TE := fun σ H Q => t σ H fun v H1 => Q v H1 ∨ ∃ p vs, v = .ref p ∧ H1 p = some (.lst vs) ∧ ∀ o, Q v (upd H1 p (.frz o (.lst vs)))
theorem pe_fzO {t : TE} (h : PE X e t) : PE X e (tFzO t) := by
  refine ⟨fun pins s σ H Q I q => thn (h.run pins s σ H _ I q) fun u s1 ⟨v, H1, I1, r1, q1⟩ => ?_⟩
  rcases q1 with q1 | ⟨p, vs, e1, e2, q1⟩
  · exact ⟨v, H1, I1, r1, q1⟩
  · obtain ⟨o, I2⟩ := inv_frz I1 e2
    exact ⟨v, _, I2, r1, q1 o⟩
variable {lo hi : Option Expr} {tl th : DTO} {p2 : Pos}
theorem d_sl (he : DE X e te) (hl : DPO X lo tl) (hh : DPO X hi th) : DE X (.Subscript e (.Slice lo hi none p2) pos) (dSl te tl th) :=
  imE (pe_fzO (pe_slice (sl_tupA.or sl_list) he hl hh)) fun σ H Q ⟨m, M, Q', r, q, k⟩ => by
    refine ⟨m, M, _, r, q, fun d v M1 H1 g1 r1 m1 q1 => ?_⟩
    refine ⟨m, M1, _, r.grow g1 m1, q1, fun o1 M2 H2 g2 m2 q2 => ?_⟩
    refine ⟨m, M2, _, r.grow (g1.trans g2) m2, q2, fun o2 M3 H3 g3 m3 ⟨xs, h1, q3, q4⟩ => ?_⟩
    have g := (g1.trans g2).trans g3
    have r3 := r1.grow (g2.trans g3)
    obtain ⟨a1, vs, rfl, z, l, ⟨h4, hnt⟩ | ⟨h4, h5⟩⟩ := items_kind r3 m3 h1
    · have nt : d ≠ .tup xs := hnt
      refine .inr ⟨a1, vs, rfl, h4, fun p hp => .inr ⟨p, _, rfl, upd_same, fun o => ?_⟩⟩
      rw [upd_upd]
      exact k _ _ _ _ (g.trans (.new hp)) (.lst (.inl ⟨o, upd_same⟩) (Nat.le_trans (cutV_length vs o1 o2) z) ((l.cut o1 o2).grow (.new hp))) (m3.new hp) (q4 nt)
    · refine .inl ⟨a1, vs, rfl, h4, fun w => .inl ?_, fun w p hp => .inl ?_⟩
      · have e5 : cutD xs o1 o2 = xs := by
          unfold cutD
          rw [l.length, w.1, w.2, List.drop_zero, Nat.sub_zero, ← l.length, List.take_length]
        have q5 := q3 h5
        rw [e5] at q5
        subst h5
        exact k _ _ M3 H3 g r3 m3 q5
      · exact k _ _ _ _ (g.trans (.new hp)) (.tup (.of upd_same) (Nat.le_trans (cutV_length vs o1 o2) z) ((l.cut o1 o2).grow (.new hp))) (m3.new hp) (q3 h5)
end
end DL
namespace DL
open PySem PySem.Spec PyProof.Rows L2
section
variable {X : Cx} {e a b o : Expr} {es : List Expr} {pos p apos cpos : Pos} {te ta tb to : DTE} {t : DTA} {x : Str} {tg l : Expr}

/-! ### signs of a text -/
def sgn (z : Str) (i : Int) : Option Str := (atI z.cps.toList i).map fun c => ⟨#[c]⟩
def dIxS : DR2 := fun x y M Q => match x with
  | .str z => ∃ i c, y = .int i ∧ z.length ≤ 16777216 ∧ sgn z i = some c ∧ Q (.str c) M
  | _ => dIx x y M Q
theorem x_ixS : IxR X (upR2 X.K dIxS) := by
  intro value slice pins s σ H x y v u Q I rx ry ⟨d, e, M, Q', r1, r2, m, q, k⟩ hop
  cases d with
  | str z =>
    obtain ⟨i, c, e1, hz, h, q⟩ := q
    subst e1
    cases r1
    cases r2
    unfold sgn at h
    cases w : atI z.cps.toList i with
    | none => rw [w] at h; cases h
    | some n =>
      rw [w] at h
      cases h
      exact ix_str value slice pins s σ H _ _ v u Q I rx ry ⟨z, i, n, rfl, rfl, by rw [sizeLine_eq]; exact hz, w, k _ _ M H (.refl H) (.str _) m q⟩ hop
  | _ => exact x_ix value slice pins s σ H _ _ v u Q I rx ry ⟨_, e, M, Q', r1, r2, m, q, k⟩ hop

/-! ### * of ints, of a text and an int -/
def srep (z : Str) (k : Nat) : Str := ⟨(List.replicate k z.cps.toList).flatten.toArray⟩
theorem foldl_apps (u : Array Nat) : ∀ (k : Nat) (acc : Array Nat), (List.replicate k u).foldl (· ++ ·) acc = (acc.toList ++ (List.replicate k u.toList).flatten).toArray
  | 0, acc => by simp
  | k + 1, acc => by
    rw [List.replicate_succ, List.foldl_cons, foldl_apps u k (acc ++ u), List.replicate_succ, List.flatten_cons]
    simp
theorem srep_1 (z : Str) : srep z 1 = z := Str.ext' (by simp [srep])
theorem srep_0 (z : Str) : srep z 0 = Str.empty := Str.ext' (by simp [srep, Str.empty])
theorem srep_len (z : Str) (k : Nat) : (srep z k).length = z.length * k := by
  simp [srep, Str.length, Nat.mul_comm]
def dMulA : DR2 := fun x y M Q => match x, y with
  | .int i, .int j => CMulA i j ∧ Q (.int (i * j)) M
  | .str z, .int k => (0 ≤ k ∧ k ≤ 1000000) ∧ z.length * k.toNat ≤ 16777216 ∧ Q (.str (srep z k.toNat)) M
  | _, _ => False
theorem o_mulA : DOp X (binaryOp .Mult) dMulA := by
  intro pins s σ H x y v u Q I rx ry ⟨d, e, M, Q', r1, r2, m, q, k⟩
  cases d with
  | int i =>
    cases e with
    | int j => exact o_mul pins s σ H x y v u Q I rx ry ⟨_, _, M, Q', r1, r2, m, ⟨i, j, rfl, rfl, q.1, q.2⟩, k⟩
    | _ => exact q.elim
  | str z =>
    cases e with
    | int n =>
      cases r1
      cases r2
      obtain ⟨t1, rfl⟩ := rx
      obtain ⟨t2, rfl⟩ := ry
      obtain ⟨⟨n0, n1⟩, hz, q⟩ := q
      have fin : ∀ (w : Value) (kk : Nat), RelV (V.str (srep z n.toNat)) w → EP X pins σ Q w { s with toks := kk } := fun w kk hr => ⟨_, H, I.tok kk, hr, k _ _ M H (.refl H) (.str _) m q⟩
      refine PySem.P.mul_str ?_ (fun h1 h2 => ?_) (fun h1 h2 => ?_) ?_
      · rw [decide_eq_false (by omega), decide_eq_false (by omega)]
        rfl
      · rw [Bool.or_eq_false_iff] at h2
        have hn : ¬ n = 1 := by simpa using h2.1
        have : (z.length : Int) ≤ 16777216 := by
          have : 1 ≤ n.toNat := by omega
          have := Nat.mul_le_mul_left z.length this
          omega
        intro hc
        have hb : (2 ^ 63 - 1) / n ≥ 16777216 := by
          apply Int.le_ediv_of_mul_le (by omega)
          omega
        omega
      · exact PyProof.Rows.short24 (by omega)
      · by_cases h1 : n < 1
        · rw [if_pos h1]
          have : n = 0 := by omega
          subst this
          exact ⟨by decide, fin _ _ ⟨_, by rw [show (0 : Int).toNat = 0 from rfl, srep_0] <;> rfl⟩⟩
        · rw [if_neg h1]
          split
          · next h2 =>
            have e1 : srep z n.toNat = z := by
              rw [Bool.or_eq_true] at h2
              rcases h2 with h2 | h2
              · have : n = 1 := by simpa using h2
                subst this
                exact srep_1 z
              · have h3 : z.length = 0 := by simpa using h2
                refine Str.ext' ?_
                have h4 : z.cps = #[] := by
                  have h5 : z.cps.size = 0 := h3
                  exact Array.eq_empty_of_size_eq_zero h5
                simp [srep, h4]
            exact fin _ s.toks ⟨_, by rw [e1] <;> rfl⟩
          · next h2 =>
            have e1 : (⟨(List.replicate n.toNat z.cps).foldl (· ++ ·) #[]⟩ : Str) = srep z n.toNat := by
              refine Str.ext' ?_
              show (List.replicate n.toNat z.cps).foldl (· ++ ·) #[] = _
              rw [foldl_apps]
              simp [srep]
            rw [e1]
            refine ⟨?_, fin _ _ ⟨_, rfl⟩⟩
            show (srep z n.toNat).length ≤ sizeLine
            rw [srep_len, sizeLine_eq]
            exact hz
    | _ => exact q.elim
  | _ => exact q.elim
/-- a list that was just made, times an int -/
def dRep (ta tb : DTE) : DTE := fun m M Q => ta m M fun d M1 => tb m M1 fun e M2 => ∃ p xs k, d = .ref p ∧ e = .int k ∧ M2 p = some (.lst xs) ∧ (0 ≤ k ∧ k ≤ 1000000) ∧ xs.length * k.toNat ≤ 16777216 ∧ ∀ q, M2 q = none → Q (.ref q) (mput M2 q (.lst (List.replicate k.toNat xs).flatten))
theorem RepL.rep {K : PySem.W.Frag} {H : Hp} {xs : List D} {vs : List V} (l : RepL K H xs vs) : ∀ n : Nat, RepL K H (List.replicate n xs).flatten (List.replicate n vs).flatten
  | 0 => .nil
  | n + 1 => by
    rw [List.replicate_succ, List.flatten_cons, List.replicate_succ, List.flatten_cons]
    exact l.append (l.rep n)
theorem rep_len {α : Type} (xs : List α) (n : Nat) : (List.replicate n xs).flatten.length = xs.length * n := by
  simp [Nat.mul_comm]
theorem d_rep (ha : DE X a ta) (hb : DE X b tb) : DE X (.BinOp a .Mult b pos) (dRep ta tb) :=
  imE (pe_op op_rep ha hb) fun σ H Q ⟨m, M, Q', r, q, k⟩ => by
    refine ⟨m, M, _, r, q, fun d v M1 H1 g1 r1 m1 q1 => ?_⟩
    refine ⟨m, M1, _, r.grow g1 m1, q1, fun e w M2 H2 g2 r2 m2 ⟨p, xs, n, e1, e2, h1, hn, hz, q2⟩ => ?_⟩
    subst e1
    subst e2
    cases r1
    cases r2
    obtain ⟨vs, h3, z, l⟩ := m2.lst h1
    have hz' : vs.length * n.toNat ≤ sizeLine := by rw [← l.length, sizeLine_eq]; exact hz
    refine ⟨p, n, vs, rfl, rfl, h3, by omega, by omega, hz', fun q' hq => ?_⟩
    exact k _ _ _ _ ((g1.trans g2).trans (.new hq)) (.ref q') (m2.newLst hq (by rw [rep_len]; exact hz') (l.rep n.toNat)) (q2 q' (m2.free hq))

/-! ### sep.join(list or tuple of texts) -/
def dJoin (to : DTE) (t : DTA) : DTE := fun m M Q => to m M fun d M1 => ∃ a, d = .str a ∧ t m M1 fun ds M2 => ∃ y ys, ds = [y] ∧ dItems y M2 = some (ys.map D.str) ∧ (ys.map (·.length)).sum + ys.length * a.length ≤ 16777216 ∧ Q (.str (Txt.join a ys)) M2
theorem strs_rep {K : PySem.W.Frag} {H : Hp} : ∀ {ys : List Str} {vs : List V}, RepL K H (ys.map D.str) vs → vs = ys.map V.str
  | [], _, h => by
    cases h
    rfl
  | y :: ys, _, h => by
    cases h with
    | cons h1 h2 =>
      cases h1
      rw [strs_rep h2]
      rfl
theorem d_join (ho : DE X o to) (ha : DA X (e :: es) t)
    (hbase : attributeBase o "join" X.env (eval o X.env) = eval o X.env := by rfl)
    (hfew : ((backTo cpos (starEach (e :: es) X.env)).all (fun x => !x.1) && (backToKw cpos (keywordEach [] X.env)).all (fun x => x.1.isSome)
      && decide ((e :: es).length + ([] : List Keyword).length + (if ([] : List Keyword).isEmpty then 0 else 1) < 30)) = true := by rfl)
    (hline : (apos.endLine == cpos.line) = true := by rfl) (hs : starEach (e :: es) X.env = (false, eval e X.env) :: starEach es X.env := by rfl) (hplain : (backTo cpos (starEach es X.env)).any (·.1) = false := by rfl) :
    DE X (.Call (.Attribute o "join" apos) (e :: es) [] cpos) (dJoin to t) :=
  imE (pe_bm PySem.F.plainAttrs_str PySem.F.slot_str_join PySem.F.type_str_join mt_join ho ha hbase hfew hline hs hplain) fun σ H Q ⟨m, M, Q', r, q, k⟩ => by
    refine ⟨m, M, _, r, q, fun d v M1 H1 g1 r1 m1 ⟨a, e1, q1⟩ => ?_⟩
    subst e1
    cases r1
    refine ⟨rfl, m, M1, _, r.grow g1 m1, q1, fun ds vs M2 H2 g2 l2 m2 ⟨y, ys, e2, h1, hz, q2⟩ => ?_⟩
    subst e2
    obtain ⟨w, e3, rw'⟩ := repL_one l2
    subst e3
    obtain ⟨a2, ws, rfl, z, l3, h4⟩ := items_of rw' m2 h1
    rw [strs_rep l3] at h4
    exact ⟨a, a2, ys, rfl, rfl, h4.elim (fun h => .inl h.1) fun h => .inr h.1, hz, k _ _ M2 H2 (g1.trans g2) (.str _) m2 q2⟩

/-! ### lists: extend, index -/
def mExtend : DMR := fun d ds M Q => ∃ a b xs zs, d = .ref a ∧ ds = [.ref b] ∧ M a = some (.lst xs) ∧ M b = some (.lst zs) ∧ xs.length + zs.length ≤ 16777216 ∧ Q .non (mput M a (.lst (xs ++ zs)))
theorem m_extend : MtR X "list.extend" (upM X.K mExtend) := by
  intro pins s σ H x vs v us Q I rx rv ⟨d, ds, M, Q', r1, l, m, ⟨a, b, xs, zs, e1, e2, h, hb, hz, q⟩, k⟩
  subst e1
  subst e2
  cases r1
  obtain ⟨w, e, rw'⟩ := repL_one l
  subst e
  cases rw'
  obtain ⟨ws, h1, z, l1⟩ := m.lst h
  obtain ⟨us2, h2, z2, l2⟩ := m.lst hb
  have hz' : ws.length + us2.length ≤ sizeLine := by rw [← l1.length, ← l2.length, sizeLine_eq]; exact hz
  refine mt_extend pins s σ H _ _ v us Q I rx rv ⟨a, b, ws, us2, rfl, rfl, h1, h2, hz', ?_⟩
  exact k _ _ _ _ (.put h1) .non (m.putLst h1 (by rw [List.length_append]; exact hz') (l1.append l2)) q
def mIndex : DMR := fun d ds M Q => ∃ xs y j z, ds = [y] ∧ dItems d M = some xs ∧ d ≠ .tup xs ∧ (dOk 63 y = true ∧ xs.all (dOk 63) = true) ∧ xs[j]? = some z ∧ D.eqv z y = true ∧ (∀ (i : Nat) (u : D), i < j → xs[i]? = some u → D.eqv u y = false) ∧ Q (.int (j : Nat)) M
theorem m_index (hu : X.A.units + 65 < cLine) : MtR X "list.index" (upM X.K mIndex) := by
  intro pins s σ H x vs v us Q I rx rv ⟨d, ds, M, Q', r1, l, m, ⟨xs, y, j, z, e1, h, h2, ⟨h3, h4⟩, hj, hz, hno, q⟩, k⟩
  subst e1
  obtain ⟨w, e, rw'⟩ := repL_one l
  subst e
  obtain ⟨a, ws, rfl, _, l3, h5⟩ := lst_of r1 m h h2
  have hs : SeqAt.shaped (PyData.list (D.pys xs)) = true := dOk_shaped (n := 64) (d := .lst xs) h4 (Nat.le_refl _)
  refine mt_indexD hu pins s σ H _ _ v us Q I rx rv ⟨a, w, y.py, D.pys xs, j, z.py, rfl, rfl, .lst h5 (l3.dp h4), rw'.dp h3, hs, dOk_shaped h3 (by decide), ?_, hz, fun i z' hi e => ?_, k _ _ M H (.refl H) (.int _) m q⟩
  · rw [pys_map, List.getElem?_map, hj]
    rfl
  · rw [pys_map, List.getElem?_map] at e
    cases g : xs[i]? with
    | none => rw [g] at e; cases e
    | some u' =>
      rw [g] at e
      cases e
      exact hno i u' hi g

/-! ### any, all, sum, max, min of lists -/
theorem bls_rep {K : PySem.W.Frag} {H : Hp} : ∀ {ys : List Bool} {vs : List V}, RepL K H (ys.map D.bl) vs → vs = ys.map V.bl
  | [], _, h => by
    cases h
    rfl
  | y :: ys, _, h => by
    cases h with
    | cons h1 h2 =>
      cases h1
      rw [bls_rep h2]
      rfl
theorem ints_rep {K : PySem.W.Frag} {H : Hp} : ∀ {ys : List Int} {vs : List V}, RepL K H (ys.map D.int) vs → vs = ys.map V.int
  | [], _, h => by
    cases h
    rfl
  | y :: ys, _, h => by
    cases h with
    | cons h1 h2 =>
      cases h1
      rw [ints_rep h2]
      rfl
def rAnyL : DCR := fun ds M Q => ∃ (d : D) (bs : List Bool), ds = [d] ∧ dItems d M = some (bs.map D.bl) ∧ d ≠ .tup (bs.map D.bl) ∧ Q (.bl (bs.any id)) M
def rAllL : DCR := fun ds M Q => ∃ (d : D) (bs : List Bool), ds = [d] ∧ dItems d M = some (bs.map D.bl) ∧ d ≠ .tup (bs.map D.bl) ∧ Q (.bl (bs.all id)) M
def rSumL : DCR := fun ds M Q => ∃ (d : D) (ns : List Int), ds = [d] ∧ dItems d M = some (ns.map D.int) ∧ d ≠ .tup (ns.map D.int) ∧ Q (.int ns.sum) M
def rMaxL : DCR := fun ds M Q => ∃ (d : D) (ns : List Int), ds = [d] ∧ dItems d M = some (ns.map D.int) ∧ d ≠ .tup (ns.map D.int) ∧ 0 < ns.length ∧ ∀ n : Int, n ∈ ns → (∀ y, y ∈ ns → y ≤ n) → Q (.int n) M
def rMinL : DCR := fun ds M Q => ∃ (d : D) (ns : List Int), ds = [d] ∧ dItems d M = some (ns.map D.int) ∧ d ≠ .tup (ns.map D.int) ∧ 0 < ns.length ∧ ∀ n : Int, n ∈ ns → (∀ y, y ∈ ns → n ≤ y) → Q (.int n) M
theorem c_any (hc : X.calm = true) : DCall X (.builtin "any") rAnyL := by
  intro pins s σ H vs us Q I r ⟨ds, M, Q', l, m, ⟨d, bs, e, h, h2, q⟩, k⟩
  subst e
  obtain ⟨v, e, rv⟩ := repL_one l
  subst e
  obtain ⟨a, ws, rfl, _, l3, h5⟩ := lst_of rv m h h2
  rw [bls_rep l3] at h5
  exact cr_any hc pins s σ H _ us Q I r ⟨a, bs, rfl, h5, k _ _ M H (.refl H) (.bl _) m q⟩
theorem c_all (hc : X.calm = true) : DCall X (.builtin "all") rAllL := by
  intro pins s σ H vs us Q I r ⟨ds, M, Q', l, m, ⟨d, bs, e, h, h2, q⟩, k⟩
  subst e
  obtain ⟨v, e, rv⟩ := repL_one l
  subst e
  obtain ⟨a, ws, rfl, _, l3, h5⟩ := lst_of rv m h h2
  rw [bls_rep l3] at h5
  exact cr_all hc pins s σ H _ us Q I r ⟨a, bs, rfl, h5, k _ _ M H (.refl H) (.bl _) m q⟩
theorem c_sum (hc : X.calm = true) : DCall X (.builtin "sum") rSumL := by
  intro pins s σ H vs us Q I r ⟨ds, M, Q', l, m, ⟨d, bs, e, h, h2, q⟩, k⟩
  subst e
  obtain ⟨v, e, rv⟩ := repL_one l
  subst e
  obtain ⟨a, ws, rfl, _, l3, h5⟩ := lst_of rv m h h2
  rw [ints_rep l3] at h5
  exact cr_sum hc pins s σ H _ us Q I r ⟨a, bs, rfl, h5, k _ _ M H (.refl H) (.int _) m q⟩
theorem c_max (hc : X.calm = true) : DCall X (.builtin "max") rMaxL := by
  intro pins s σ H vs us Q I r ⟨ds, M, Q', l, m, ⟨d, bs, e, h, h2, h0, q⟩, k⟩
  subst e
  obtain ⟨v, e, rv⟩ := repL_one l
  subst e
  obtain ⟨a, ws, rfl, _, l3, h5⟩ := lst_of rv m h h2
  rw [ints_rep l3] at h5
  exact cr_max hc pins s σ H _ us Q I r ⟨a, bs, rfl, h5, h0, fun n h6 h7 => k _ _ M H (.refl H) (.int _) m (q n h6 h7)⟩
theorem c_min (hc : X.calm = true) : DCall X (.builtin "min") rMinL := by
  intro pins s σ H vs us Q I r ⟨ds, M, Q', l, m, ⟨d, bs, e, h, h2, h0, q⟩, k⟩
  subst e
  obtain ⟨v, e, rv⟩ := repL_one l
  subst e
  obtain ⟨a, ws, rfl, _, l3, h5⟩ := lst_of rv m h h2
  rw [ints_rep l3] at h5
  exact cr_min hc pins s σ H _ us Q I r ⟨a, bs, rfl, h5, h0, fun n h6 h7 => k _ _ M H (.refl H) (.int _) m (q n h6 h7)⟩

/-! ### list(range(..)) -/
def dLRg (te : DTE) : DTE := fun m M Q => te m M fun d M1 => ∃ j : Int, d = .int j ∧ (-1000000000 ≤ j ∧ j ≤ 16777216) ∧ ∀ p, M1 p = none → Q (.ref p) (mput M1 p (.lst (rangeD 0 j.toNat)))
theorem repL_rg {K : PySem.W.Frag} {H : Hp} (j : Int) : RepL K H (rangeD 0 j.toNat) (rgV 0 j) := by
  unfold rangeD rgV
  rw [Int.sub_zero]
  generalize List.range j.toNat = ks
  induction ks with
  | nil => exact .nil
  | cons n ks ih => exact .cons (.int _) ih
theorem d_lrg {p pos p2 pos2 : Pos} (hc : X.calm = true) (hg : Gl X "list") (hm : X.mg "list" = none) (hg2 : Gl X "range") (hm2 : X.mg "range" = none) (ha : DE X a ta) (na : starEach [a] X.env = (false, eval a X.env) :: starEach [] X.env := by rfl)
    (nb : starEach [.Call (.Name "range" p) [a] [] pos] X.env = (false, eval (.Call (.Name "range" p) [a] [] pos) X.env) :: starEach [] X.env := by rfl) : DE X (.Call (.Name "list" p2) [.Call (.Name "range" p) [a] [] pos] [] pos2) (dLRg ta) :=
  imE (pe_listRg hc hg hm (prg_1 hg2 hm2 ha na) nb) fun σ H Q ⟨m, M, Q', r, q, k⟩ => by
    refine ⟨m, M, _, r, q, fun d v M1 H1 g1 r1 m1 ⟨j, e1, ⟨h1, h2⟩, q1⟩ => ?_⟩
    subst e1
    cases r1
    have hsl := sizeLine_eq
    refine ⟨j, rfl, ⟨by omega, by omega, by omega, by omega, by omega⟩, fun p hp => ?_⟩
    exact k _ _ _ _ (g1.trans (.new hp)) (.ref p) (m1.newLst hp (by rw [rgV_length]; omega) (repL_rg j)) (q1 p (m1.free hp))

/-! ### enumerate(a list that stays) -/
def enumD : Nat → List D → List D
  | _, [] => []
  | n, x :: r => .tup [.int n, x] :: enumD (n + 1) r
theorem enumD_len : ∀ (n : Nat) (xs : List D), (enumD n xs).length = xs.length
  | _, [] => rfl
  | n, _ :: r => congrArg (· + 1) (enumD_len (n + 1) r)
theorem enumD_get : ∀ (n : Nat) (xs : List D) (i : Nat), (enumD n xs)[i]? = xs[i]?.map fun x => .tup [.int ((n + i : Nat) : Int), x]
  | _, [], _ => by simp [enumD]
  | n, x :: r, 0 => by simp [enumD]
  | n, x :: r, i + 1 => by
    rw [enumD, List.getElem?_cons_succ, List.getElem?_cons_succ, enumD_get (n + 1) r i, Nat.add_assoc, Nat.add_comm 1 i]
def diEnum (t : DTA) : DTI := fun m M Q => t m M fun ds M1 => ∃ xs, ds = [.lst xs] ∧ Q (enumD 0 xs, none) M1
theorem di_enum {elts : List Expr} {kk : Nat} {tpos : Pos} (hg : Gl X "enumerate") (hm : X.mg "enumerate" = none) (ha : DA X [e] t) (hs : starEach [e] X.env = [(false, eval e X.env)] := by rfl) :
    DI X (.Tuple elts kk tpos) (.Call (.Name "enumerate" p) [e] [] pos) (diEnum t) :=
  imI (pi_enum hg hm ha hs) fun σ H Q ⟨m, M, Q', r, q, k⟩ => by
    refine ⟨m, M, _, r, q, fun ds vs M1 H1 g1 r1 m1 ⟨xs, e1, q1⟩ => ?_⟩
    subst e1
    obtain ⟨v, e2, rv⟩ := repL_one r1
    subst e2
    cases rv with
    | lst hf z l =>
      refine ⟨_, _, rfl, hf.seq, k _ M1 H1 _ g1 m1 q1 ⟨?_, fun i H2 ok hi => ?_, fun i H2 x H3 ok hi y => ?_, fun H2 ok => ?_⟩⟩
      · show (enumD 0 xs).length ≤ sizeLine
        rw [enumD_len, l.length]
        exact z
      · have hi' : i < xs.length := by rw [← enumD_len 0 xs]; exact hi
        obtain ⟨w, e3, _⟩ := l.get (List.getElem?_eq_getElem hi')
        exact ⟨_, w, (hf.grow ok.1).seq, e3⟩
      · obtain ⟨T, x', e3, hT, e4, hx⟩ := y
        subst e3
        subst e4
        obtain ⟨d, e5, rd⟩ := l.get' (hx _ (hf.grow ok.1).seq)
        refine ⟨.new hT, fun M2 rm => rm.new hT, .tup [.int ((0 + i : Nat) : Int), d], ?_, ?_⟩
        · show (enumD 0 xs)[i]? = _
          rw [enumD_get, e5]
          rfl
        · rw [Nat.zero_add]
          exact .tup (.of upd_same) (by show 2 ≤ sizeLine; decide) (.cons (.int _) (.cons (rd.grow (ok.1.trans (.new hT))) .nil))
      · refine ⟨_, (hf.grow ok.1).seq, ?_⟩
        show _ ≤ (enumD 0 xs).length
        rw [enumD_len, l.length]
        exact Nat.le_refl _
end
end DL
namespace DL
open PySem PySem.Spec PyProof.Rows L2
open PySem.W (EachIs AllAlike Sortable dataLe sorted_data alike alikeAll)

/-! ### a module's tuple -/
/-- what the module's name x holds: a tuple that K knows -/
def GlT (K : PySem.W.Frag) (mg : Str → Option Value) (x : Str) (d : D) : Prop := ∃ a, mg x = some (.ref a) ∧ ∀ H, Rep K H d (.ref a)
theorem d_glT {X : Cx} {x : Str} {d : D} {pos : Pos} (hg : Gl X x) (h : GlT X.K X.mg x d) (hd : (x == ("__debug__" : Str)) = false := by decide) : DE X (.Name x pos) (dC d) := by
  obtain ⟨a, h1, h2⟩ := h
  exact imE (pe_glob (v := .ref a) hg h1 rfl hd) fun σ H Q ⟨m, M, Q', r, q, k⟩ => k d _ M H (.refl H) (h2 H) r.mem q
theorem glT_strs {K : PySem.W.Frag} {mg : Str → Option Value} {x : Str} {a : Addr} {od : Option Addr} {its : Array Value} {n : Nat} {sl : Array (Option Value)} {ys : List Str} (h1 : mg x = some (.ref a)) (h2 : K.lookup a = some ⟨.type "tuple", od, .seq its n, sl⟩)
    (h3 : its.size ≤ sizeLine) (h4 : Vals (ys.map V.str) its.toList) : GlT K mg x (.tup (ys.map D.str)) := by
  refine ⟨a, h1, fun H => .tup (.inr ⟨_, its, n, h2, rfl, rfl, h3, h4⟩) ?_ ?_⟩
  · have := h4.length
    rw [this, Array.length_toList]
    exact h3
  · clear h4
    induction ys with
    | nil => exact .nil
    | cons y ys ih => exact .cons (.str y) ih

/-! ### sorted(a list of data) -/
section
variable {X : Cx}
def srtD (xs : List D) : List D := xs.mergeSort (dataLe false D.py)
theorem srtD_perm (xs : List D) : (srtD xs).Perm xs := List.mergeSort_perm _ _
def rSortD : DCR := fun ds M Q => ∃ d xs, ds = [d] ∧ dItems d M = some xs ∧ d ≠ .tup xs ∧ xs.all (dOk 32) = true ∧ AllAlike (xs.map D.py) ∧ Sortable (xs.map D.py) ∧ ∀ p, M p = none → Q (.ref p) (mput M p (.lst (srtD xs)))
theorem reads_each {pins : List (Addr × Obj)} {σ : SL} {H : Hp} {s : Shared} (I : Inv X pins σ H s) : ∀ {xs : List D} {vs : List V} {its : List Value}, RepL X.K H xs vs → Vals vs its → xs.all (dOk 32) = true →
    EachIs (fun v b => ∃ as, Reads s.heap v (D.py b) as) its xs
  | _, _, _, .nil, .nil, _ => .nil
  | _, _, _, .cons h1 h2, .cons r1 r2, h => by
    rw [List.all_cons, Bool.and_eq_true] at h
    exact .cons (Dp.reads I _ _ _ (h1.dp h.1) r1) (reads_each I h2 r2 h.2)
theorem rel_each {K : PySem.W.Frag} {H : Hp} : ∀ {xs : List D} {vs : List V} {its : List Value}, RepL K H xs vs → Vals vs its → EachIs (fun v b => ∃ y, RelV y v ∧ Rep K H b y) its xs
  | _, _, _, .nil, .nil => .nil
  | _, _, _, .cons h1 h2, .cons r1 r2 => .cons ⟨_, r1, h1⟩ (rel_each h2 r2)
theorem each_rel {K : PySem.W.Frag} {H : Hp} : ∀ {xs : List D} {its : List Value}, EachIs (fun v b => ∃ y, RelV y v ∧ Rep K H b y) its xs → ∃ vs, Vals vs its ∧ RepL K H xs vs
  | _, _, .nil => ⟨[], .nil, .nil⟩
  | _, _, .cons ⟨y, h1, h2⟩ t => by
    obtain ⟨vs, h3, h4⟩ := each_rel t
    exact ⟨y :: vs, .cons h1 h3, .cons h2 h4⟩
theorem c_sortD (hu : X.A.units + 40 < cLine) : DCall X (.builtin "sorted") rSortD := by
  intro pins s σ H vs us Q I r ⟨ds, M, Q', l, m, ⟨d, xs, e, h, h2, h3, h4, h5, q⟩, k⟩
  subst e
  obtain ⟨v, e, rv⟩ := repL_one l
  subst e
  obtain ⟨a, ws, rfl, z, l3, h6⟩ := lst_of rv m h h2
  obtain ⟨its, r2, pl, _⟩ := I.list h6
  rw [Vals.ref1 r]
  have hz : xs.length ≤ sizeLine := by rw [l3.length]; exact z
  refine sorted_data (vs := its) (bs := xs) (enc := D.py) pl.isList (rel_each l3 r2) (reads_each I l3 r2 h3) h4 h5 hz (fun b hb => ?_) fun out ho hr => ?_
  · have := (dOk_lay 32 b (List.all_eq_true.mp h3 b hb)).2
    omega
  · obtain ⟨vs', h7, h8⟩ := each_rel hr
    obtain ⟨ep, he'⟩ := PyProof.Rows.sortedAll_at s.heap its out.toArray
    have hlen : vs'.length ≤ sizeLine := by rw [← h8.length, List.length_mergeSort]; exact hz
    have hp := I.hok.fresh (Nat.le_succ s.heap.objs.size)
    refine ⟨.ref _, upd H (s.heap.objs.size + 1) (.lst vs'), I.laid (t' := s.toks) (fun _ _ => PyProof.Rows.sortedAll_old) (Nat.le_succ _) ⟨hlen, out, ep, h7, he'⟩, rfl, ?_⟩
    exact k _ _ _ _ (.new hp) (.ref _) (m.newLst hp hlen h8) (q _ (m.free hp))
end

/-! ### comprehensions with two clauses -/
def dLcIn (src : Src) (g : DTG) (tt : DTT) (te : DTE) (m0 : DSt) (p : Addr) (Nx : List D → DM → Prop) : List D → List D → DM → Prop
  | [], acc, M => SrcV src M ∧ M p = some (.lst acc) ∧ Nx acc M
  | d :: ds, acc, M => SrcV src M ∧ g d m0 M fun m1 M1 => tt m1 M1 fun b M2 =>
      if b = true then te m1 M2 fun y M3 => M3 p = some (.lst acc) ∧ acc.length < 16777216 ∧ dLcIn src g tt te m0 p Nx ds (acc ++ [y]) (mput M3 p (.lst (acc ++ [y])))
      else dLcIn src g tt te m0 p Nx ds acc M2
def dLcOut (src : Src) (g : DTG) (tt : DTT) (t1 : DTI) (g1 : DTG) (tt1 : DTT) (te : DTE) (ws1 : List Nat) (m0 : DSt) (p : Addr) (Qd : List D → DM → Prop) : List D → List D → DM → Prop
  | [], acc, M => SrcV src M ∧ M p = some (.lst acc) ∧ Qd acc M
  | d :: ds, acc, M => SrcV src M ∧ g d m0 M fun m1 M1 => tt m1 M1 fun b M2 =>
      if b = true then t1 m1 M2 fun src1 M3 => src1.1.length ≤ sizeLine → dLcIn src1 g1 tt1 te (dwipe m1 ws1) p (fun acc' M' => dLcOut src g tt t1 g1 tt1 te ws1 m0 p Qd ds acc' M') src1.1 acc M3
      else dLcOut src g tt t1 g1 tt1 te ws1 m0 p Qd ds acc M2
def dLc2 (t : DTI) (g : DTG) (tt : DTT) (t1 : DTI) (g1 : DTG) (tt1 : DTT) (te : DTE) (vs ws1 : List Nat) : DTE := fun m M Q => t m M fun src M1 => src.1.length ≤ sizeLine → ∀ p, M1 p = none → dLcOut src g tt t1 g1 tt1 te ws1 (dwipe m vs) p (fun _ M2 => Q (.ref p) M2) src.1 [] (mput M1 p (.lst []))
def dLc2F (t : DTI) (g : DTG) (tt : DTT) (t1 : DTI) (g1 : DTG) (tt1 : DTT) (te : DTE) (vs ws1 : List Nat) : DTE := fun m M Q => t m M fun src M1 => src.1.length ≤ sizeLine → ∀ p, M1 p = none → dLcOut src g tt t1 g1 tt1 te ws1 (dwipe m vs) p (fun acc M2 => Q (.lst acc) (mdel M2 p)) src.1 [] (mput M1 p (.lst []))
section
variable {X : Cx} {elt tg iter tg1 iter1 : Expr} {ifs ifs1 : List Expr} {scope : Scope} {own : List (Str × Nat)} {pos : Pos} {t t1 : DTI} {g g1 : DTG} {tt tt1 : DTT} {te : DTE} {ws ws1 : List Nat}
theorem lc2_up {K : PySem.W.Frag} {vs : List Nat} (hsub : ∀ i ∈ ws, i ∈ vs) {σ : SL} {H : Hp} {Q : VK} {Qf : Addr → List D → DM → Prop}
    (fin : ∀ p acc ws M2 H2, Grow H H2 → RM K H2 M2 → H2 p = some (.lst ws) → ws.length ≤ sizeLine → RepL K H2 acc ws → M2 p = some (.lst acc) → Qf p acc M2 → Q (.ref p) H2)
    (m : DSt) (M : DM) (r : R K m M σ H) (q : t m M fun src M1 => src.1.length ≤ sizeLine → ∀ p, M1 p = none → dLcOut src g tt t1 g1 tt1 te ws1 (dwipe m vs) p (Qf p) src.1 [] (mput M1 p (.lst []))) :
    tLc2 (upI K t) (upG K ws g) (upT K tt) (upI K t1) (upG K ws1 g1) (upT K tt1) (upE K te) vs ws1 σ H Q := by
  refine ⟨m, M, _, r, q, fun src M1 H1 J g0 m1 q1 st p np => ?_⟩
  have q2 := q1 st.small p (m1.free np)
  have g2 : Grow H1 (upd H1 p (.lst [])) := .new np
  refine ⟨fun i n H2 => i + n = src.1.length ∧ Grow H1 H2 ∧ ∃ acc M2, RM K H2 M2 ∧ dLcOut src g tt t1 g1 tt1 te ws1 (dwipe m vs) p (Qf p) (src.1.drop i) acc M2,
    ⟨src.1.length, by omega, g2, [], _, m1.newLst np (Nat.zero_le _) .nil, q2⟩, ?_⟩
  rintro i n H2 ⟨hl, g3, acc, M2, m2, q3⟩
  have r2 : R K (dwipe m vs) M2 (wipe σ vs) H2 := (r.wipe vs).grow (g0.trans g3) m2
  by_cases hlt : i < src.1.length
  · rw [List.drop_eq_getElem_cons hlt] at q3
    obtain ⟨sv, q3⟩ := q3
    have so := sv.ok g3 m2
    refine .inr ⟨st.go i H2 so hlt, fun H3 => Grow H1 H3 ∧ ∃ acc M2, RM K H3 M2 ∧ dLcOut src g tt t1 g1 tt1 te ws1 (dwipe m vs) p (Qf p) (src.1.drop (i + 1)) acc M2,
      fun H3 ⟨g4, z⟩ => ⟨n - 1, by omega, by omega, g4, z⟩, fun x H3 y => ?_⟩
    obtain ⟨g4, k4, d, e4, rd⟩ := st.yld i H2 x H3 so hlt y
    have ed : d = src.1[i] := by
      rw [List.getElem?_eq_getElem hlt] at e4
      exact (Option.some.inj e4).symm
    subst ed
    refine ⟨_, _, M2, _, rd, r2.grow g4 (k4 _ m2), q3, fun m5 M5 σ5 H5 g5 r5 o5 q5 => ⟨wipe_off o5 hsub, ?_⟩⟩
    refine ⟨m5, M5, _, r5, q5, fun b M6 H6 g6 m6 q6 => ?_⟩
    have g06 : Grow H1 H6 := ((g3.trans g4).trans g5).trans g6
    have r6 := r5.grow g6 m6
    cases b with
    | true =>
      refine ⟨m5, M6, _, r6, q6, fun src1 M7 H7 J1 g7 m7 q7 st1 => ?_⟩
      have q8 := q7 st1.small
      refine ⟨fun j n H8 => j + n = src1.1.length ∧ Grow H7 H8 ∧ ∃ acc M8, RM K H8 M8 ∧ dLcIn src1 g1 tt1 te (dwipe m5 ws1) p (fun acc' M' => dLcOut src g tt t1 g1 tt1 te ws1 (dwipe m vs) p (Qf p) (src.1.drop (i + 1)) acc' M') (src1.1.drop j) acc M8,
        ⟨src1.1.length, by omega, .refl _, acc, M7, m7, q8⟩, ?_⟩
      rintro j n1 H8 ⟨hl1, g8, acc8, M8, m8, q9⟩
      have r8 : R K (dwipe m5 ws1) M8 (wipe σ5 ws1) H8 := (r6.wipe ws1).grow (g7.trans g8) m8
      by_cases hlt1 : j < src1.1.length
      · rw [List.drop_eq_getElem_cons hlt1] at q9
        obtain ⟨sv1, q9⟩ := q9
        have so1 := sv1.ok g8 m8
        refine .inr ⟨st1.go j H8 so1 hlt1, fun H9 => Grow H7 H9 ∧ ∃ acc M8, RM K H9 M8 ∧ dLcIn src1 g1 tt1 te (dwipe m5 ws1) p (fun acc' M' => dLcOut src g tt t1 g1 tt1 te ws1 (dwipe m vs) p (Qf p) (src.1.drop (i + 1)) acc' M') (src1.1.drop (j + 1)) acc M8,
          fun H9 ⟨g9, z⟩ => ⟨n1 - 1, by omega, by omega, g9, z⟩, fun x1 H9 y1 => ?_⟩
        obtain ⟨g9, k9, d1, e9, rd1⟩ := st1.yld j H8 x1 H9 so1 hlt1 y1
        have ed1 : d1 = src1.1[j] := by
          rw [List.getElem?_eq_getElem hlt1] at e9
          exact (Option.some.inj e9).symm
        subst ed1
        refine ⟨_, _, M8, _, rd1, r8.grow g9 (k9 _ m8), q9, fun mA MA σA HA gA rA oA qA => ⟨wipe_off oA (fun i h => h), ?_⟩⟩
        refine ⟨mA, MA, _, rA, qA, fun b1 MB HB gB mB qB => ?_⟩
        have g0B : Grow H7 HB := ((g8.trans g9).trans gA).trans gB
        cases b1 with
        | true =>
          refine ⟨mA, MB, _, rA.grow gB mB, qB, fun y v MC HC gC rv mC ⟨eC, hC, qC⟩ => ?_⟩
          obtain ⟨us, h8, z8, l8⟩ := mC.lst eC
          have hsz : us.length < sizeLine := by rw [← l8.length, sizeLine_eq]; exact hC
          exact ⟨us, h8, hsz, (g0B.trans gC).trans (.put h8), _, _, mC.putLst h8 (by rw [List.length_append]; exact hsz) (l8.append (.one rv)), qC⟩
        | false => exact ⟨g0B, acc8, MB, mB, qB⟩
      · have e : j = src1.1.length := by omega
        subst e
        rw [List.drop_length] at q9
        exact .inl ⟨st1.stop H8 (q9.1.ok g8 m8), (g06.trans g7).trans g8, acc8, M8, m8, q9.2.2⟩
    | false => exact ⟨g06, acc, M6, m6, q6⟩
  · have e : i = src.1.length := by omega
    subst e
    rw [List.drop_length] at q3
    obtain ⟨us, h8, z8, l8⟩ := m2.lst q3.2.1
    exact .inl ⟨st.stop H2 (q3.1.ok g3 m2), fin p acc us M2 H2 (g0.trans g3) m2 h8 z8 l8 q3.2.1 q3.2.2⟩
theorem d_lc2F (hc : X.calm = true) (hN : X.N.Nodup) (hi : DI X tg iter t) (ok : BlkOk X.N X.env.scope scope own) (hsub : ∀ i ∈ ws, i ∈ own.map (·.2)) (hsub1 : ∀ i ∈ ws1, i ∈ own.map (·.2))
    (hg : ∀ (s : Shared) (H : Hp) (C : Addr) (cl : List (Str × Addr)) (fp : List Addr), DG (X.blk s H scope (compEnvC scope cl C X.env) fp) ws tg g)
    (ht : ∀ (s : Shared) (H : Hp) (C : Addr) (cl : List (Str × Addr)) (fp : List Addr), DPTs (X.blk s H scope (compEnvC scope cl C X.env) fp) ifs tt)
    (hi1 : ∀ (s : Shared) (H : Hp) (C : Addr) (cl : List (Str × Addr)) (fp : List Addr), DI (X.blk s H scope (compEnvC scope cl C X.env) fp) tg1 iter1 t1)
    (hg1 : ∀ (s : Shared) (H : Hp) (C : Addr) (cl : List (Str × Addr)) (fp : List Addr), DG (X.blk s H scope (compEnvC scope cl C X.env) fp) ws1 tg1 g1)
    (ht1 : ∀ (s : Shared) (H : Hp) (C : Addr) (cl : List (Str × Addr)) (fp : List Addr), DPTs (X.blk s H scope (compEnvC scope cl C X.env) fp) ifs1 tt1)
    (he : ∀ (s : Shared) (H : Hp) (C : Addr) (cl : List (Str × Addr)) (fp : List Addr), DE (X.blk s H scope (compEnvC scope cl C X.env) fp) elt te)
    (hs : ∀ x, foldedSetIterable iter X.env x = pure x := by intro _; rfl) (hs1 : ∀ env x, foldedSetIterable iter1 env x = pure x := by intro _ _; rfl) :
    DE X (.ListComp elt [⟨tg, iter, ifs, 0⟩, ⟨tg1, iter1, ifs1, 0⟩] scope pos) (dLc2F t g tt t1 g1 tt1 te (own.map (·.2)) ws1) :=
  imE (pe_fz (pe_lc2 hc hN hi ok hsub1 hg ht hi1 hg1 ht1 he hs hs1)) fun σ H Q ⟨m, M, Q', r, q, k⟩ =>
    lc2_up (Qf := fun p acc M2 => Q' (.lst acc) (mdel M2 p)) hsub (fun p acc ws M2 H2 g2 m2 h8 z8 l8 _ q2 =>
      ⟨p, ws, rfl, h8, fun o => k _ _ _ _ (g2.trans (.put h8)) (.lst (.inl ⟨o, upd_same⟩) z8 (l8.grow (.put h8))) (m2.frz h8) q2⟩) m M r q
/-- name = [.. for .. for ..]: the list is frozen behind it -/
theorem ds_setLc2F {y : Str} {py spos : Pos} {i : Nat} (hc : X.calm = true) (hN : X.N.Nodup) (hy : X.N[i]? = some y) (hyl : X.env.scope.names.lookup y = some .local)
    (hsw : swapsWith (.ListComp elt [⟨tg, iter, ifs, 0⟩, ⟨tg1, iter1, ifs1, 0⟩] scope pos) (some (.Name y py)) spos.line X.env = pure true) (hi : DI X tg iter t) (ok : BlkOk X.N X.env.scope scope own) (hsub : ∀ i ∈ ws, i ∈ own.map (·.2)) (hsub1 : ∀ i ∈ ws1, i ∈ own.map (·.2))
    (hg : ∀ (s : Shared) (H : Hp) (C : Addr) (cl : List (Str × Addr)) (fp : List Addr), DG (X.blk s H scope (compEnvC scope cl C X.env) fp) ws tg g)
    (ht : ∀ (s : Shared) (H : Hp) (C : Addr) (cl : List (Str × Addr)) (fp : List Addr), DPTs (X.blk s H scope (compEnvC scope cl C X.env) fp) ifs tt)
    (hi1 : ∀ (s : Shared) (H : Hp) (C : Addr) (cl : List (Str × Addr)) (fp : List Addr), DI (X.blk s H scope (compEnvC scope cl C X.env) fp) tg1 iter1 t1)
    (hg1 : ∀ (s : Shared) (H : Hp) (C : Addr) (cl : List (Str × Addr)) (fp : List Addr), DG (X.blk s H scope (compEnvC scope cl C X.env) fp) ws1 tg1 g1)
    (ht1 : ∀ (s : Shared) (H : Hp) (C : Addr) (cl : List (Str × Addr)) (fp : List Addr), DPTs (X.blk s H scope (compEnvC scope cl C X.env) fp) ifs1 tt1)
    (he : ∀ (s : Shared) (H : Hp) (C : Addr) (cl : List (Str × Addr)) (fp : List Addr), DE (X.blk s H scope (compEnvC scope cl C X.env) fp) elt te)
    (hs : ∀ x, foldedSetIterable iter X.env x = pure x := by intro _; rfl) (hs1 : ∀ env x, foldedSetIterable iter1 env x = pure x := by intro _ _; rfl) (hil : i < X.N.length := by exact Nat.le_of_ble_eq_true rfl) :
    DS X (.Assign [.Name y py] (.ListComp elt [⟨tg, iter, ifs, 0⟩, ⟨tg1, iter1, ifs1, 0⟩] scope pos) spos) (dSet i (dLc2F t g tt t1 g1 tt1 te (own.map (·.2)) ws1)) := by
  refine ⟨fun pins s σ H Z I h => (ps_after i (ps_setLc2 (wi := upI X.K t) (g := upG X.K ws g) (tt := upT X.K tt) (wi1 := upI X.K t1) (g1 := upG X.K ws1 g1) (tt1 := upT X.K tt1) (te := upE X.K te) hc hN hy hyl hsw hi ok hsub1 hg ht hi1 hg1 ht1 he hs hs1)).run pins s σ H Z I ?_⟩
  obtain ⟨m, M, Z', r, q, k⟩ := h
  have hσ : i < σ.length := by rw [I.len]; exact hil
  refine lc2_up (Qf := fun p acc M2 => Z'.nx (m.set i (some (.lst acc))) (mdel M2 p)) hsub (fun p acc ws M2 H2 g2 m2 h8 z8 l8 _ q2 => ?_) m M r q
  refine ⟨p, ws, List.getElem?_set_self hσ, h8, fun o => k.nx _ _ _ _ (g2.trans (.put h8)) ?_ q2⟩
  exact (r.grow (g2.trans (.put h8)) (m2.frz h8)).set (.lst (.inl ⟨o, upd_same⟩) z8 (l8.grow (.put h8)))
end
end DL
namespace DL
open PySem PySem.Spec PyProof.Rows L2
/-! ### readings, by what comes -/
theorem dAdd_ii {i j : Int} {M : DM} {Q : DVK} : dAdd (.int i) (.int j) M Q = Q (.int (i + j)) M := rfl
theorem dAdd_ss {i j : Str} {M : DM} {Q : DVK} : dAdd (.str i) (.str j) M Q = (i.length + j.length ≤ 16777216 ∧ Q (.str (i ++ j)) M) := rfl
theorem dAdd_tt {i j : List D} {M : DM} {Q : DVK} : dAdd (.tup i) (.tup j) M Q = (i.length + j.length ≤ 16777216 ∧ Q (.tup (i ++ j)) M) := rfl
theorem dMulA_ii {i j : Int} {M : DM} {Q : DVK} : dMulA (.int i) (.int j) M Q = (CMulA i j ∧ Q (.int (i * j)) M) := rfl
theorem dMulA_si {z : Str} {k : Int} {M : DM} {Q : DVK} : dMulA (.str z) (.int k) M Q = ((0 ≤ k ∧ k ≤ 1000000) ∧ z.length * k.toNat ≤ 16777216 ∧ Q (.str (srep z k.toNat)) M) := rfl
theorem dIxS_str {z : Str} {y : D} {M : DM} {Q : DVK} : dIxS (.str z) y M Q = ∃ i c, y = .int i ∧ z.length ≤ 16777216 ∧ sgn z i = some c ∧ Q (.str c) M := rfl
theorem dIxS_tup {z : List D} {y : D} {M : DM} {Q : DVK} : dIxS (.tup z) y M Q = dIx (.tup z) y M Q := rfl
theorem dIxS_lst {z : List D} {y : D} {M : DM} {Q : DVK} : dIxS (.lst z) y M Q = dIx (.lst z) y M Q := rfl
theorem dIxS_ref {z : Addr} {y : D} {M : DM} {Q : DVK} : dIxS (.ref z) y M Q = dIx (.ref z) y M Q := rfl
theorem hu_40 {k : Nat} {A : Around} (hr : Room k A) : A.units + 40 < cLine := by
  have := hr.units
  omega
end DL
namespace DL
open PySem PySem.Spec PyProof.Rows L2

/-! ### plain data: == is identity -/
mutual
def pln : D → Bool
  | .non => true
  | .int _ => true
  | .str _ => true
  | .tup xs => plns xs
  | .lst xs => plns xs
  | .bl _ => false
  | .dct _ => false
  | .ref _ => false
  | .ty _ => false
def plns : List D → Bool
  | [] => true
  | x :: xs => pln x && plns xs
end
theorem plns_iff : ∀ {xs : List D}, plns xs = true ↔ ∀ x ∈ xs, pln x = true
  | [] => by simp [plns]
  | x :: xs => by simp [plns, plns_iff (xs := xs)]
mutual
theorem eqv_pl : ∀ (x y : D), pln x = true → pln y = true → (D.eqv x y = true ↔ x = y)
  | .non, y, _, hy => by cases y <;> simp_all [D.eqv, D.py, PyData.eqv, pln]
  | .int i, y, _, hy => by cases y <;> simp_all [D.eqv, D.py, PyData.eqv, pln]
  | .str i, y, _, hy => by cases y <;> simp_all [D.eqv, D.py, PyData.eqv, pln]
  | .tup xs, .tup ys, hx, hy => by
    have h := eqvs_pl xs ys (by simpa [pln] using hx) (by simpa [pln] using hy)
    simpa [D.eqv, D.py, PyData.eqv] using h
  | .lst xs, .lst ys, hx, hy => by
    have h := eqvs_pl xs ys (by simpa [pln] using hx) (by simpa [pln] using hy)
    simpa [D.eqv, D.py, PyData.eqv] using h
  | .tup xs, .non, _, hy => by simp_all [D.eqv, D.py, PyData.eqv, pln]
  | .tup xs, .bl _, _, hy => by simp_all [D.eqv, D.py, PyData.eqv, pln]
  | .tup xs, .int _, _, hy => by simp_all [D.eqv, D.py, PyData.eqv, pln]
  | .tup xs, .str _, _, hy => by simp_all [D.eqv, D.py, PyData.eqv, pln]
  | .tup xs, .lst _, _, hy => by simp_all [D.eqv, D.py, PyData.eqv, pln]
  | .tup xs, .dct _, _, hy => by simp_all [pln]
  | .tup xs, .ref _, _, hy => by simp_all [pln]
  | .tup xs, .ty _, _, hy => by simp_all [pln]
  | .lst xs, .non, _, hy => by simp_all [D.eqv, D.py, PyData.eqv, pln]
  | .lst xs, .bl _, _, hy => by simp_all [D.eqv, D.py, PyData.eqv, pln]
  | .lst xs, .int _, _, hy => by simp_all [D.eqv, D.py, PyData.eqv, pln]
  | .lst xs, .str _, _, hy => by simp_all [D.eqv, D.py, PyData.eqv, pln]
  | .lst xs, .tup _, _, hy => by simp_all [D.eqv, D.py, PyData.eqv, pln]
  | .lst xs, .dct _, _, hy => by simp_all [pln]
  | .lst xs, .ref _, _, hy => by simp_all [pln]
  | .lst xs, .ty _, _, hy => by simp_all [pln]
  | .bl _, _, hx, _ => by simp [pln] at hx
  | .dct _, _, hx, _ => by simp [pln] at hx
  | .ref _, _, hx, _ => by simp [pln] at hx
  | .ty _, _, hx, _ => by simp [pln] at hx
theorem eqvs_pl : ∀ (xs ys : List D), plns xs = true → plns ys = true → (PyData.eqvAll (D.pys xs) (D.pys ys) = true ↔ xs = ys)
  | [], [], _, _ => by simp [D.pys, PyData.eqvAll]
  | [], y :: ys, _, _ => by simp [D.pys, PyData.eqvAll]
  | x :: xs, [], _, _ => by simp [D.pys, PyData.eqvAll]
  | x :: xs, y :: ys, hx, hy => by
    rw [plns, Bool.and_eq_true] at hx hy
    have h1 := eqv_pl x y hx.1 hy.1
    have h2 := eqvs_pl xs ys hx.2 hy.2
    rw [D.eqv] at h1
    simp [D.pys, PyData.eqvAll, h1, h2]
end
theorem eqv_ne {x y : D} (hx : pln x = true) (hy : pln y = true) (h : x ≠ y) : D.eqv x y = false := by
  cases e : D.eqv x y with
  | false => rfl
  | true => exact absurd ((eqv_pl x y hx hy).mp e) h
theorem any_eqv {x : D} {ys : List D} (hx : pln x = true) (hy : plns ys = true) : (ys.any fun z => D.eqv z x) = true ↔ x ∈ ys := by
  rw [List.any_eq_true]
  refine ⟨fun ⟨z, hz, e⟩ => ?_, fun h => ⟨x, h, (eqv_pl x x hx hx).mpr rfl⟩⟩
  have := (eqv_pl z x (plns_iff.mp hy z hz) hx).mp e
  exact this ▸ hz
/-- x in words -/
theorem any_strs (x : Str) (ys : List Str) : ((ys.map D.str).any fun z => D.eqv z (.str x)) = decide (x ∈ ys) := by
  induction ys with
  | nil => rfl
  | cons y ys ih =>
    rw [List.map_cons, List.any_cons, ih, eqv_str]
    by_cases h : y = x
    · simp [h]
    · simp [h, Ne.symm h]

/-! ### heaps -/
theorem MLe.none {M N : DM} {a : Addr} (l : MLe M N) (h : N a = none) : M a = none := by
  cases e : M a with
  | none => rfl
  | some o => rw [l a o e] at h; cases h
theorem MLe.del {M N : DM} {a : Addr} (l : MLe M N) (h : M a = Option.none) : MLe M (mdel N a) := fun b o e => by
  have hb : b ≠ a := fun z => by rw [z, h] at e; cases e
  unfold mdel
  rw [if_neg hb]
  exact l b o e
theorem mput_swap {M : DM} {p q : Addr} {o o' l : DO} (h : p ≠ q) : mput (mput (mput M p o) q l) p o' = mput (mput M p o') q l := by
  rw [mput_comm h, mput_mput, mput_comm h.symm]
theorem mput_fresh {M : DM} {p q : Addr} {o : DO} (h : p ≠ q) (hp : M q = none) : mput M p o q = none := by
  rw [mput_ne h.symm]
  exact hp

/-! ### comprehensions with two clauses -/
section
variable {src : Src} {g g1 : DTG} {tt tt1 : DTT} {t1 : DTI} {te : DTE} {ws1 : List Nat} {m0 : DSt} {p : Addr} {M1 : DM}
theorem lcIn_map {β : Type} (e : β → D) (f : β → D) {Nx : List D → DM → Prop} (sv : SrcV src M1) (hp : M1 p = none) : ∀ (xs : List β) (step : ∀ x ∈ xs, ∀ M, MLe M1 M → ∀ C1 : D → DM → Prop, C1 (f x) M → g (e x) m0 M fun m1 M1 => te m1 M1 C1)
    (acc : List D), acc.length + xs.length ≤ 16777216 → Nx (acc ++ xs.map f) (mput M1 p (.lst (acc ++ xs.map f))) → dLcIn src g dYes te m0 p Nx (xs.map e) acc (mput M1 p (.lst acc))
  | [], _, acc, _, h => ⟨fun a e => MLe.put (.refl M1) hp a _ (sv a e), mput_same, by simpa using h⟩
  | x :: xs, step, acc, hl, h => by
    rw [List.length_cons] at hl
    refine ⟨fun a e => MLe.put (.refl M1) hp a _ (sv a e), step x (by simp) _ (MLe.put (.refl M1) hp) _ ⟨mput_same, by omega, ?_⟩⟩
    rw [mput_mput]
    refine lcIn_map e f sv hp xs (fun d' h' => step d' (by simp [h'])) _ (by rw [List.length_append, List.length_singleton]; omega) ?_
    simpa using h
theorem lcOut_map {α : Type} (e : α → D) (F : α → List D) {Qd : List D → DM → Prop} (sv : SrcV src M1) (hp : M1 p = none) : ∀ (xs : List α)
    (step : ∀ x ∈ xs, ∀ (acc : List D) (Cn : List D → DM → Prop), acc.length + (F x).length ≤ 16777216 → Cn (acc ++ F x) (mput M1 p (.lst (acc ++ F x))) → g (e x) m0 (mput M1 p (.lst acc)) fun m1 M2 => tt m1 M2 fun b M3 =>
      if b = true then t1 m1 M3 fun src1 M4 => src1.1.length ≤ sizeLine → dLcIn src1 g1 tt1 te (dwipe m1 ws1) p Cn src1.1 acc M4 else Cn acc M3)
    (acc : List D), acc.length + (xs.flatMap F).length ≤ 16777216 → Qd (acc ++ xs.flatMap F) (mput M1 p (.lst (acc ++ xs.flatMap F))) → dLcOut src g tt t1 g1 tt1 te ws1 m0 p Qd (xs.map e) acc (mput M1 p (.lst acc))
  | [], _, acc, _, h => ⟨fun a e => MLe.put (.refl M1) hp a _ (sv a e), mput_same, by simpa using h⟩
  | x :: xs, step, acc, hl, h => by
    rw [List.flatMap_cons, List.length_append] at hl
    refine ⟨fun a e => MLe.put (.refl M1) hp a _ (sv a e), step x (by simp) acc _ (by omega) ?_⟩
    refine lcOut_map e F sv hp xs (fun d' h' => step d' (by simp [h'])) _ (by rw [List.length_append]; omega) ?_
    rw [List.flatMap_cons] at h
    simpa using h
end
/-- loops: what is left of a list, with what is gathered -/
theorem flat_len {α β : Type} (f : α → List β) (n : Nat) : ∀ xs : List α, (∀ x ∈ xs, (f x).length ≤ n) → (xs.flatMap f).length ≤ n * xs.length
  | [], _ => by simp
  | x :: xs, h => by
    rw [List.flatMap_cons, List.length_append, List.length_cons, Nat.mul_succ]
    have := flat_len f n xs fun y hy => h y (by simp [hy])
    have := h x (by simp)
    omega
/-! ### texts -/
abbrev SS (cs : List Nat) : Str := ⟨cs.toArray⟩
theorem join_one (cs : List Nat) : Txt.join "" (cs.map fun c => SS [c]) = SS cs := by
  have z : ∀ cs : List Nat, TL.tl (Str.join "" (cs.map fun c => SS [c])) = cs := by
    intro cs
    rw [TL.tl_join]
    have e0 : TL.tl ("" : Str) = [] := by decide +kernel
    rw [e0]
    induction cs with
    | nil => rfl
    | cons c cs ih =>
      cases cs with
      | nil => rfl
      | cons d r =>
        show [c] ++ ([] ++ TL.joinL [] _) = _
        rw [show TL.joinL [] (TL.tl (SS [d]) :: List.map TL.tl (List.map (fun c => SS [c]) r)) = d :: r from ih]
        rfl
  rw [TL.join_eq]
  exact TL.ext_tl (z cs)
theorem len_one (cs : List Nat) : ((cs.map fun c => SS [c]).map (·.length)).sum = cs.length := by
  induction cs with
  | nil => rfl
  | cons c cs ih =>
    rw [List.map_cons, List.map_cons, List.sum_cons, ih, List.length_cons]
    show 1 + _ = _
    omega
end DL
/-! enumerate(a tuple); slices of texts. -/
namespace DL
open PySem PySem.Spec PyProof.Rows L2
section
variable {prog : Program} {w : World} {A : Around} {E : Value → Shared → Prop} {s : Shared}
theorem nextOf_tup {cu tp : Addr} {i : Nat} {its : Array Value} {u : Value} {Q : Value → Shared → Prop} (hc : s.heap.IsTupleIter cu tp i) (ht : s.heap.IsTuple tp its) (hu : its[i]? = some u)
    (hQ : ∀ h', h'.IsTupleIter cu tp (i + 1) → Heap.SameBut cu s.heap h' → Q u { s with heap := h' }) : wpAny (model prog w) A (Builtin.SmallTypes.nextOf (.ref cu)) Q E s := by
  obtain ⟨ob, go, gc, gd⟩ := id hc
  obtain ⟨ot, got, _, nt, gdt⟩ := ht
  unfold Builtin.SmallTypes.nextOf
  refine wpAny_bind (wpAny_callSpecial?_slot (name := Str.ofString "__next__") hc.typeIs F.slot_tuple_iterator_next (wpAny_call_entry F.slot_tuple_iterator_next hc.typeIs F.entry_tuple_iterator_next ?_ (F.args_tuple_iterator_next_1 _)))
  show wpAny _ _ (field (.ref cu) 0 >>= _) _ _ s
  refine wpAny_bind (wpAny_field go gd (x := .ref tp) rfl ?_)
  show wpAny _ _ (if (Value.ref tp == Value.none) = true then _ else _) _ _ s
  rw [if_neg (show ¬ ((Value.ref tp == Value.none) = true) from Bool.false_ne_true)]
  show wpAny _ _ (field (.ref cu) 1 >>= _) _ _ s
  refine wpAny_bind (wpAny_field go gd (x := .int i 0) rfl ?_)
  show wpAny _ _ (seqItems? (.ref tp) >>= _) _ _ s
  refine wpAny_bind (wpAny_seqItems got gdt ?_)
  simp only [Int.toNat_natCast, hu]
  refine wpAny_bind (wpAny_setField go gd (by simp) (wpAny_pure ⟨u, rfl, wpAny_pure (hQ _ ?_ (Heap.SameBut.update ..))⟩))
  exact ⟨_, Heap.get?_update_self _ go (Obj.isFreed_of_fields (Obj.data_mapFields gd _)), (Obj.cls_mapFields ..).trans gc, by rw [Obj.data_mapFields gd]; simp [rawInt]⟩
theorem nextOf_tup_end {cu tp : Addr} {i : Nat} {its : Array Value} {Q : Value → Shared → Prop} (hh : A.handled = none) (hc : s.heap.IsTupleIter cu tp i) (ht : s.heap.IsTuple tp its) (hu : its[i]? = none)
    (hE : ∀ h' e, Heap.ExtBut cu s.heap h' → (∃ o, h'.get? e = some o ∧ o.cls = .type "StopIteration") → E (.ref e) { s with heap := h' }) : wpAny (model prog w) A (Builtin.SmallTypes.nextOf (.ref cu)) Q E s := by
  obtain ⟨ob, go, gc, gd⟩ := id hc
  obtain ⟨ot, got, _, nt, gdt⟩ := ht
  unfold Builtin.SmallTypes.nextOf
  refine wpAny_bind (wpAny_callSpecial?_slot (name := Str.ofString "__next__") hc.typeIs F.slot_tuple_iterator_next (wpAny_call_entry F.slot_tuple_iterator_next hc.typeIs F.entry_tuple_iterator_next ?_ (F.args_tuple_iterator_next_1 _)))
  show wpAny _ _ (field (.ref cu) 0 >>= _) _ _ s
  refine wpAny_bind (wpAny_field go gd (x := .ref tp) rfl ?_)
  show wpAny _ _ (if (Value.ref tp == Value.none) = true then _ else _) _ _ s
  rw [if_neg (show ¬ ((Value.ref tp == Value.none) = true) from Bool.false_ne_true)]
  show wpAny _ _ (field (.ref cu) 1 >>= _) _ _ s
  refine wpAny_bind (wpAny_field go gd (x := .int i 0) rfl ?_)
  show wpAny _ _ (seqItems? (.ref tp) >>= _) _ _ s
  refine wpAny_bind (wpAny_seqItems got gdt ?_)
  simp only [Int.toNat_natCast, hu]
  refine wpAny_bind (wpAny_rule (wpAny_bind (wpAny_setField go gd (by simp) ?_)))
  (show wpAny _ _ (newExc (.type "StopIteration") [] >>= _) _ _ _); refine wpAny_bind ?_
  simp only [newExc, newTuple]; refine wpAny_bind (wpAny_newObj_type ?_ (by size_fits))
  refine wpAny_bind (m := firstArgMember _ _) (wpAny_of_eq (a := Value.none) (by first | (simp only [firstArgMember]; rfl) | rfl) ?_)
  refine wpAny_newObj_type ?_ (by size_fits); simp only [raiseNew]; refine wpAny_bind (wpAny_handled ?_)
  first | rw [hh] | rw [show A.in1.handled = none from hh]
  refine wpAny_bind (wpAny_pure (wpAny_throw ?_)); exact hE _ _ (((Heap.SameBut.update ..).extBut.push _).push _) ⟨_, Heap.get?_push_size _ rfl, rfl⟩
theorem tup_at {h h' : Heap} {tp : Addr} {its : Array Value} (x : h.IsTuple tp its) (k : ∀ o, h.get? tp = some o → h'.get? tp = some o) : h'.IsTuple tp its := let ⟨o, a, b⟩ := x; ⟨o, k o a, b⟩
theorem titer_at {h h' : Heap} {cu tp : Addr} {i : Nat} (x : h.IsTupleIter cu tp i) (k : ∀ o, h.get? cu = some o → h'.get? cu = some o) : h'.IsTupleIter cu tp i := let ⟨o, a, b⟩ := x; ⟨o, k o a, b⟩
theorem draws_tup (hh : A.handled = none) (cu tp : Addr) (hne : tp ≠ cu) (its : Array Value) :
    Draws prog w A cu [cu, tp] its.size (fun i v => its[i]? = some v) (fun i h => h.IsTupleIter cu tp i ∧ h.IsTuple tp its) where
  live := fun _ _ st => let ⟨o, ho, _⟩ := st.1; ⟨o, ho⟩
  frame := fun _ _ _ st hk => ⟨titer_at st.1 fun o e => hk cu (by simp) o e, tup_at st.2 fun o e => hk tp (by simp) o e⟩
  item := fun i s Q E hi st hQ => nextOf_tup st.1 st.2 (u := its[i]) (by simp [hi]) fun h' hc' hs' => hQ _ h' s.toks (by simp [hi]) ⟨hc', tup_at st.2 fun o e => (hs'.2 tp hne).trans e⟩ hs'
  done := fun s Q E st hE => nextOf_tup_end hh st.1 st.2 (by simp) hE
theorem new_enumT (tp : Addr) (its : Array Value) (ob : Obj) (hc : ob.cls = .type "tuple") (n : Nat) (hd : ob.data = .seq its n) :
    Meets (Builtin.«enumerate.__new__» ⟨[.type "enumerate", .ref tp], []⟩) (fun _ R s => s.heap.get? tp = some ob ∧
      R (.ok (.ret (.ref (s.heap.push { cls := .type "tuple_iterator", data := .fields #[.ref tp, .int 0 0] }).objs.size)))
        { s with heap := (s.heap.push { cls := .type "tuple_iterator", data := .fields #[.ref tp, .int 0 0] }).push { cls := .type "enumerate", data := .fields #[.none, .bool false, .ref s.heap.objs.size, rawInt 0, .none, .none] } }) :=
  .of_wp fun prog w A R s h => by
    obtain ⟨cl, dc, dt, sl⟩ := ob; simp only at hc hd; subst hc hd
    obtain ⟨hp, gs, dr, tk, os⟩ := s; obtain ⟨ht, h⟩ := h; have hsb := sub_enumerate
    have hT : Heap.IsTuple (Shared.heap ⟨hp, gs, dr, tk, os⟩) tp its := ⟨_, ht, rfl, n, rfl⟩
    wp_walk using AutoSeq1.wpAny_loadPart' ht
    refine wpAny_stack_any fun stk => wpAny_pure ?_
    split
    · rename_i c _ _ _ _ _
      cases (c == Value.type "enumerate")
      · wp_walk using AutoSeq1.wpAny_loadPart' ht, wpAny_pyIter_tuple hT
        exact ⟨_, rfl, h⟩
      · wp_walk using AutoSeq1.wpAny_loadPart' ht, wpAny_pyIter_tuple hT
        exact ⟨_, rfl, h⟩
    · wp_walk using AutoSeq1.wpAny_loadPart' ht, wpAny_pyIter_tuple hT
      exact ⟨_, rfl, h⟩
theorem call_enumT {tp : Addr} {its : Array Value} {Q : Value → Shared → Prop} (hT : s.heap.IsTuple tp its)
    (h : ∀ h', IsEnum h' (s.heap.objs.size + 1) s.heap.objs.size 0 .none → h'.IsTupleIter s.heap.objs.size tp 0 → h'.objs.size = s.heap.objs.size + 2 → (∀ b o, s.heap.get? b = some o → h'.get? b = some o) → Q (.ref (s.heap.objs.size + 1)) { s with heap := h' }) :
    wpAny (model prog w) A (call (.type "enumerate") [.ref tp]) Q E s := by
  obtain ⟨ob, ht, hc, n, hd⟩ := hT
  refine callType_new F.called_enumerate (by decide) (F.typeCall_enumerate_1 _) (F.newCall_enumerate_1 _) (fun o => F.args_object_init_2 o _) F.entry_enumerate_new (new_enumT tp its ob hc n hd) ⟨ht, ?_⟩
  have hz : (s.heap.push { cls := .type "tuple_iterator", data := .fields #[.ref tp, .int 0 0] }).objs.size = s.heap.objs.size + 1 := Heap.size_push ..
  show _ ∧ _; rw [hz]
  have he : IsEnum ((s.heap.push { cls := .type "tuple_iterator", data := .fields #[.ref tp, .int 0 0] }).push { cls := .type "enumerate", data := .fields #[.none, .bool false, .ref s.heap.objs.size, rawInt 0, .none, .none] }) (s.heap.objs.size + 1) s.heap.objs.size 0 .none := by
    have q := Heap.get?_push_size (s.heap.push { cls := .type "tuple_iterator", data := .fields #[.ref tp, .int 0 0] }) (o := { cls := .type "enumerate", data := .fields #[.none, .bool false, .ref s.heap.objs.size, rawInt 0, .none, .none] }) rfl
    rw [hz] at q; exact q
  refine ⟨⟨_, he, rfl⟩, h _ he ⟨_, Heap.get?_push_of_some _ (Heap.get?_push_size _ rfl), rfl, rfl⟩ (by rw [Heap.size_push, hz]) fun b o q => Heap.get?_push_of_some _ (Heap.get?_push_of_some _ q)⟩
end
section
variable {prog : Program} {w : World} {A : Around} {E : Value → Shared → Prop} {s : Shared}
theorem enum_endT {e cu tp : Addr} {i : Nat} {iz : Int} {old : Value} {its : Array Value} {Q : Option Value → Shared → Prop} (hh : A.handled = none) (he : IsEnum s.heap e cu iz old) (hc : s.heap.IsTupleIter cu tp i) (ht : s.heap.IsTuple tp its) (hu : its[i]? = none)
    (hQ : ∀ h', Heap.ExtBut cu s.heap h' → Q none { s with heap := h' }) : wpAny (model prog w) A (pyNext (.ref e)) Q E s := by
  have hT : s.TypeIs (.ref e) "enumerate" := ⟨_, he, rfl⟩
  unfold pyNext
  refine wpAny_bind (wpAny_attempt (wpAny_callSpecial?_slot (name := Str.ofString "__next__") hT F.slot_enumerate_next (wpAny_call_entry F.slot_enumerate_next hT F.entry_enumerate_next ?_ (F.args_enumerate_next_1 _))))
  (show wpAny _ _ (field (.ref e) 2 >>= _) _ _ _); refine wpAny_bind (wpAny_field he rfl (x := .ref cu) rfl ?_)
  refine wpAny_bind (nextOf_tup_end hh hc ht hu fun h' x eb hx => ?_)
  obtain ⟨o, ho, hcl⟩ := hx
  refine wpAny_bind (wpAny_isInstance (T := "StopIteration") (b := true) ⟨o, ho, hcl⟩ isSubtype_stop ?_); exact wpAny_pure (hQ _ eb)
end
/-- the tuple at a, each item in a new pair -/
def ItE (K : PySem.W.Frag) (a : Addr) : It :=
  ⟨fun i H => ∃ (xs : List V) (x : V), SqT K H a xs ∧ xs[i]? = some x, fun i H v H' => ∃ T x, v = .ref T ∧ H T = none ∧ H' = upd H T (.tup [.int (i : Nat), x]) ∧ ∀ xs, SqT K H a xs → xs[i]? = some x, fun i H => ∃ xs : List V, SqT K H a xs ∧ xs.length ≤ i⟩
end DL
namespace DL
open PySem PySem.Spec PyProof.Rows L2
theorem turn_enumT {P : Program} {w : World} {K : PySem.W.Frag} {elts : List Expr} {kk : Nat} {tpos : Pos} (a e cu : Addr) :
    Turn P w K (.Tuple elts kk tpos) (ItE K a) [e, cu] e (fun i h => (∃ old, IsEnum h e cu ((i : Nat) : Int) old) ∧ h.IsTupleIter cu a i ∧ e ≠ cu) where
  mem := by simp
  obj := fun i h st b hb => by
    obtain ⟨⟨old, he⟩, ⟨o, ho, hc, hd⟩, _⟩ := st
    rcases (by simpa using hb : b = e ∨ b = cu) with z | z
    · subst z
      exact ⟨_, he, fun v q => nomatch q⟩
    · subst z
      exact ⟨o, ho, fun v q => by rw [hd] at q; cases q⟩
  keep := fun i h h' st k => ⟨⟨st.1.choose, k e (by simp) _ st.1.choose_spec⟩, titer_at st.2.1 fun o q => k cu (by simp) o q, st.2.2⟩
  item := by
    intro X hP hw hK hc i pins s σ H E I hf st hg; subst hP hw hK
    obtain ⟨⟨old, he⟩, hit, hne⟩ := st
    obtain ⟨xs, x, hq, hx⟩ := hg
    obtain ⟨its, rv, p, hz⟩ := I.tuple hq
    obtain ⟨u, hu, ru⟩ := rv.get hx
    have hpt : s.heap.IsTuple a its.toArray := p
    have hel : e < s.heap.objs.size := Heap.lt_size he
    have hil : cu < s.heap.objs.size := by obtain ⟨_, q, _⟩ := hit; exact Heap.lt_size q
    have hnone : ∀ b ∈ [e, cu], H b = none := fun b hb => (hf b hb).1
    have hnc : a ≠ cu := by
      rintro rfl
      obtain ⟨o1, q1, c1, _⟩ := id hit
      obtain ⟨o2, q2, c2, _⟩ := id hpt
      rw [q1] at q2
      cases q2
      rw [c1] at c2
      exact absurd c2 (by decide)
    have hne2 : a ≠ e := by
      rintro rfl
      obtain ⟨o2, q2, c2, _⟩ := id hpt
      rw [he] at q2
      cases q2
      have c3 : Value.type "enumerate" = Value.type "tuple" := c2
      exact absurd c3 (by decide)
    have hlt : i < its.toArray.size := by
      have := (List.getElem?_eq_some_iff.mp hu).1
      simpa using this
    refine wpAny_pyNext_enum_itemD (draws_tup (A := X.A.in1) (I.ok.hd hc) cu a hnc its.toArray) he ⟨hit, hpt⟩ hlt hne (by simp [hne, Ne.symm hne2]) fun y h' tk hy ho hst hT hsz hk => ?_
    have ey : y = u := by
      have hu' : its.toArray[i]? = some u := by simpa using hu
      rw [hu'] at hy
      exact (Option.some.inj hy).symm
    subst ey
    refine ⟨_, rfl, wpAny_letOwnedTupleGo_enum (s := { s with heap := h', toks := tk + 1 }) ho fun h'' he' sb => ?_⟩
    have hT2 : h''.get? s.heap.objs.size = some { cls := .type "tuple", data := .seq #[.int i tk, y] } := (sb.2 _ (Nat.ne_of_gt hel)).trans hT
    have new : ObjOk X.prog X.w (upd H s.heap.objs.size (.tup [.int (i : Nat), x])) h'' s.heap.objs.size (.tup [.int (i : Nat), x]) := ⟨by show 2 ≤ sizeLine; decide, [.int i tk, y], .cons ⟨_, rfl⟩ (.cons ru .nil), ⟨_, hT2, rfl, _, rfl⟩⟩
    have I1 : Inv X pins σ (upd H s.heap.objs.size (.tup [.int (i : Nat), x])) { s with heap := h'', toks := tk + 1 } :=
      I.turnedNew (ch := [e, cu]) (fun b ob hb q => (sb.2 b (fun z => hb (by simp [z]))).trans (hk b ob (fun z => hb (by simp [z])) (fun z => hb (by simp [z])) q)) hf (Nat.le_refl _) new
    refine ⟨.ref s.heap.objs.size, _, I1, rfl, ⟨_, x, rfl, I.hok.fresh (Nat.le_refl _), rfl, fun ys hy => by rw [I.tuple_inj hy hq]; exact hx⟩, ⟨⟨y, ?_⟩, titer_at hst.1 fun o q => (sb.2 cu (Ne.symm hne)).trans q, hne⟩, fun b hb => ?_⟩
    · rw [show ((i + 1 : Nat) : Int) = (i : Int) + 1 by omega]; exact he'
    · have hb' : b < s.heap.objs.size := by
        rcases (by simpa using hb : b = e ∨ b = cu) with z | z
        · exact z ▸ hel
        · exact z ▸ hil
      rw [upd_ne (Nat.ne_of_lt hb')]; exact hnone b hb
  done := by
    intro X hP hw hK hc i pins s σ H E I hf st hg; subst hP hw hK
    obtain ⟨⟨old, he⟩, hit, hne⟩ := st
    obtain ⟨xs, hq, hx⟩ := hg
    obtain ⟨its, rv, p, hz⟩ := I.tuple hq
    obtain ⟨f0, f1, f2, f3, f4, f5⟩ := hf cu (by simp)
    have hl := rv.length
    exact enum_endT (I.ok.hd hc) he hit (show s.heap.IsTuple a its.toArray from p) (by simp; omega) fun h' eb => ⟨rfl, I.turned (t' := s.toks) (fun b o hb q => eb b o hb q) f0 f1 f3 f4 f5⟩
  self := fun A i s Q E st h => let ⟨⟨_, he⟩, _⟩ := st; wpAny_pyIter_enum he h
def iEnumT (K : PySem.W.Frag) (ta : TA) : TI := fun σ H R => ta σ H fun vs H1 => ∃ a xs, vs = [.ref a] ∧ SqT K H1 a xs ∧ R (ItE K a) H1
theorem pi_enumT {X : Cx} {e : Expr} {ta : TA} {p pos tpos : Pos} {elts : List Expr} {kk : Nat} (hg : Gl X "enumerate") (hm : X.mg "enumerate" = none) (ha : PA X [e] ta) (hs : starEach [e] X.env = [(false, eval e X.env)] := by rfl) :
    PI X (.Tuple elts kk tpos) (.Call (.Name "enumerate" p) [e] [] pos) (iEnumT X.K ta) := by
  refine ⟨fun pins s σ H R I h => Call_ (ld_blt I hg hm boot_enumerate (PyProof.Rows.callWith_type1 (thn (ha.run pos pins s σ H _ I h) fun us s1 ⟨vs, H1, I1, r1, q1⟩ => ?_) hs rfl))⟩
  obtain ⟨a, xs, ex, hq, q⟩ := q1; subst ex
  obtain ⟨u, rfl, r⟩ := vals1 r1
  obtain rfl : u = Value.ref a := r
  obtain ⟨its, rv, pt, hz⟩ := I1.tuple hq
  refine call_enumT (show s1.heap.IsTuple a its.toArray from pt) fun h' he hit hsz hk => wpAny_pyIter_enum he ?_
  have I2 : Inv X pins σ H1 { s1 with heap := h' } := I1.kept (t' := s1.toks) hk
  refine ⟨s1.heap.objs.size + 1, [s1.heap.objs.size + 1, s1.heap.objs.size], _, _, H1, rfl, I2, turn_enumT a (s1.heap.objs.size + 1) s1.heap.objs.size, ⟨⟨.none, he⟩, hit, Nat.succ_ne_self _⟩, fun b hb => ?_, q⟩
  have hle : s1.heap.objs.size ≤ b := by
    rcases (by simpa using hb : b = s1.heap.objs.size + 1 ∨ b = s1.heap.objs.size) with z | z
    · exact z ▸ Nat.le_succ _
    · exact z ▸ Nat.le_refl _
  exact I1.fpOk hle (I1.hok.fresh hle)
def diEnumT (t : DTA) : DTI := fun m M Q => t m M fun ds M1 => ∃ xs, ds = [.tup xs] ∧ Q (enumD 0 xs, none) M1
theorem di_enumT {X : Cx} {e : Expr} {t : DTA} {p pos tpos : Pos} {elts : List Expr} {kk : Nat} (hg : Gl X "enumerate") (hm : X.mg "enumerate" = none) (ha : DA X [e] t) (hs : starEach [e] X.env = [(false, eval e X.env)] := by rfl) :
    DI X (.Tuple elts kk tpos) (.Call (.Name "enumerate" p) [e] [] pos) (diEnumT t) :=
  imI (pi_enumT hg hm ha hs) fun σ H Q ⟨m, M, Q', r, q, k⟩ => by
    refine ⟨m, M, _, r, q, fun ds vs M1 H1 g1 r1 m1 ⟨xs, e1, q1⟩ => ?_⟩
    subst e1
    obtain ⟨v, e2, rv⟩ := repL_one r1
    subst e2
    cases rv with
    | tup hf z l =>
      refine ⟨_, _, rfl, hf, k _ M1 H1 _ g1 m1 q1 ⟨?_, fun i H2 ok hi => ?_, fun i H2 x H3 ok hi y => ?_, fun H2 ok => ?_⟩⟩
      · show (enumD 0 xs).length ≤ sizeLine
        rw [enumD_len, l.length]
        exact z
      · have hi' : i < xs.length := by rw [← enumD_len 0 xs]; exact hi
        obtain ⟨w, e3, _⟩ := l.get (List.getElem?_eq_getElem hi')
        exact ⟨_, w, sqT_grow hf ok.1, e3⟩
      · obtain ⟨T, x', e3, hT, e4, hx⟩ := y
        subst e3
        subst e4
        obtain ⟨d, e5, rd⟩ := l.get' (hx _ (sqT_grow hf ok.1))
        refine ⟨.new hT, fun M2 rm => rm.new hT, .tup [.int ((0 + i : Nat) : Int), d], ?_, ?_⟩
        · show (enumD 0 xs)[i]? = _
          rw [enumD_get, e5]
          rfl
        · rw [Nat.zero_add]
          exact .tup (.of upd_same) (by show 2 ≤ sizeLine; decide) (.cons (.int _) (.cons (rd.grow (ok.1.trans (.new hT))) .nil))
      · refine ⟨_, sqT_grow hf ok.1, ?_⟩
        show _ ≤ (enumD 0 xs).length
        rw [enumD_len, l.length]
        exact Nat.le_refl _
/-! ### slices of texts -/
def dSlS (te : DTE) (tl th : DTO) : DTE := fun m M Q => te m M fun d M1 => tl m M1 fun lo M2 => th m M2 fun hi M3 => ∃ z, d = .str z ∧ z.length ≤ 16777216 ∧ Q (.str (cutS z lo hi)) M3
theorem d_slS {X : Cx} {e : Expr} {lo hi : Option Expr} {te : DTE} {tl th : DTO} {pos p2 : Pos} (he : DE X e te) (hl : DPO X lo tl) (hh : DPO X hi th) : DE X (.Subscript e (.Slice lo hi none p2) pos) (dSlS te tl th) :=
  imE (pe_slice sl_str he hl hh) fun σ H Q ⟨m, M, Q', r, q, k⟩ => by
    refine ⟨m, M, _, r, q, fun d v M1 H1 g1 r1 m1 q1 => ?_⟩
    refine ⟨m, M1, _, r.grow g1 m1, q1, fun o1 M2 H2 g2 m2 q2 => ?_⟩
    refine ⟨m, M2, _, r.grow (g1.trans g2) m2, q2, fun o2 M3 H3 g3 m3 ⟨z, e1, hz, q3⟩ => ?_⟩
    subst e1
    cases r1
    exact ⟨z, rfl, by rw [sizeLine_eq]; exact hz, k _ _ M3 H3 ((g1.trans g2).trans g3) (.str _) m3 q3⟩
end DL
/-! sorted(a list, key=a def): the def is pure here, its keys are data -/
namespace DL
open PySem PySem.Spec PyProof.Rows L2
open PySem.W (EachIs AllAlike Sortable dataLe alike alikeAll KeepsBut keyH_end KeyedOut keyedOut_each dataKind SortsAt sorted_of_sort copyHeap copyHeap_at copyHeap_old sortingHeap sortingHeap_old)

section
variable {fs : List Addr} {H H1 : Hp} {h h1 h2 : Heap} {k a : Addr} {P : Program} {w : World} {o : HO}
theorem un_side {k' : Addr} (u : Un fs [] H H1 h h1) (hk : h.get? k = none) (hk' : h.get? k' = none) (keep : ∀ b o, b ≠ k → b ≠ k' → h1.get? b = some o → h2.get? b = some o) : Un fs [] H H1 h h2 := by
  have nk : ∀ {b : Addr} {o : Obj}, h.get? b = some o → b ≠ k := fun q z => by rw [z, hk] at q; cases q
  have nk' : ∀ {b : Addr} {o : Obj}, h.get? b = some o → b ≠ k' := fun q z => by rw [z, hk'] at q; cases q
  refine ⟨fun b o q n hb hx => keep b o (nk q) (nk' q) (u.keep b o q n hb hx), fun b o q n hb hx => ?_, u.free, fun b o q hx => ?_, u.tups, u.frzs, u.tbls⟩
  · obtain ⟨sl, e⟩ := u.slot b o q n hb hx
    exact ⟨sl, keep b _ (nk q) (nk' q) e⟩
  · obtain ⟨o', e⟩ := u.there b o q hx
    exact ⟨o', keep b _ (nk q) (nk' q) e⟩
theorem hok_side {k' : Addr} (x : HOk P w H h) (hn : H k = none) (hn' : H k' = none) (keep : ∀ b o, b ≠ k → b ≠ k' → h.get? b = some o → h2.get? b = some o) : HOk P w H h2 := fun b u e => by
  have nk : ∀ c v, H c = some v → c ≠ k := fun c v q z => by rw [z, hn] at q; cases q
  have nk' : ∀ c v, H c = some v → c ≠ k' := fun c v q z => by rw [z, hn'] at q; cases q
  refine (x b u e).stay (fun c v hc q => keep c v ?_ ?_ q) (fun _ q => q) fun _ _ q => q
  · rcases hc with z | z
    · rw [z]; exact nk b u e
    · exact nk c _ z
  · rcases hc with z | z
    · rw [z]; exact nk' b u e
    · exact nk' c _ z
theorem un_adopt (u : Un fs [] H H1 h h2) (ha : h.get? a = none) (hn : H a = none) (hn1 : H1 a = none) : Un fs [] H (upd H1 a o) h h2 where
  keep := u.keep
  slot := u.slot
  free := fun b ob q n hx => by
    rw [upd_ne (fun z => by rw [z, ha] at q; cases q)]
    exact u.free b ob q n hx
  there := u.there
  tups := fun b xs q => by
    have z := u.tups b xs q
    rw [upd_ne (ne_of_none z hn1)]
    exact z
  frzs := fun b ob x q => by
    have z := u.frzs b ob x q
    rw [upd_ne (ne_of_none z hn1)]
    exact z
  tbls := fun b ps q => by
    obtain ⟨more, z⟩ := u.tbls b ps q
    exact ⟨more, by rw [upd_ne (ne_of_none z hn1)]; exact z⟩
theorem hok_adopt (x : HOk P w H h) (hn : H a = none) (new : ObjOk P w (upd H a o) h a o) : HOk P w (upd H a o) h := fun b u e => by
  by_cases hb : b = a
  · subst hb; rw [upd_same] at e; cases e; exact new
  · rw [upd_ne hb] at e
    exact (x b u e).stay (fun c v _ q => q) (fun c q => by rw [upd_ne (ne_of_none q hn)]; exact q) fun c xs q => by rw [upd_ne (ne_of_none q hn)]; exact q
end
/-! ### lists of tuples of any lengths can be sorted, too -/
/-- as Sortable, or all are tuples (some of them empty) -/
def SortOk (ds : List PyData) : Prop := Sortable ds ∨ ∀ d ∈ ds, ∃ xs, d = .tuple xs
def ne0 : PyData → Bool
  | .tuple (_ :: _) => true
  | _ => false
theorem each_right {α β : Type} {R : α → β → Prop} : ∀ {as : List α} {bs : List β}, EachIs R as bs → ∀ b ∈ bs, ∃ a, a ∈ as ∧ R a b
  | _, _, .cons h t, b, hb => by
    rcases List.mem_cons.mp hb with rfl | hb
    · exact ⟨_, List.mem_cons_self .., h⟩
    · obtain ⟨a, ha, r⟩ := each_right t b hb
      exact ⟨a, List.mem_cons_of_mem _ ha, r⟩
section
variable {prog : Program} {w : World} {A : Around} {E : Value → Shared → Prop} {s : Shared}
theorem lt_tups {f : Bool} {xs ys : List PyData} {a b : Value} {as bs : List Addr} {Q : Bool → Shared → Prop} (ra : Reads s.heap a (.tuple xs) as) (rb : Reads s.heap b (.tuple ys) bs) (h : alike (.tuple xs) (.tuple ys) = true)
    (hu : A.units + min (PyData.tuple xs).depth (PyData.tuple ys).depth < cLine) (hq : Q (PySem.W.dataLt (.tuple xs) (.tuple ys)) s) : wpAny (model prog w) A (oneLt' f a b) Q E s := by
  cases f with
  | false => exact PySem.W.oneLt_alike (fun z => by cases z) ra rb h (fun z => by cases z) hu hq
  | true =>
    have hal : PySem.W.alikeAll xs ys = true := by simpa [alike] using h
    cases ra with
    | @tuple l o vs n _ _ h1 h2 h3 h4 =>
      cases rb with
      | @tuple l' o' vs' n' _ _ k1 k2 k3 k4 =>
        have n1 : vs.size = xs.length := by simpa using SeqAt.ReadsAll.length _ _ _ h4
        have n2 : vs'.size = ys.length := by simpa using SeqAt.ReadsAll.length _ _ _ k4
        rw [PySem.W.dataLt_tuple, ← PySem.W.firstLt_toks xs ys hal, ← n1, ← n2] at hq
        obtain ⟨cls, dd, data, sl⟩ := o
        obtain ⟨cls2, dd2, data2, sl2⟩ := o'
        simp only at h2 h3 k2 k3
        subst h2 h3 k2 k3
        rw [oneLt'_eq]
        simp only [if_true]
        refine wpAny_bind (wpAny_cRoomFor (SeqAt.room_here hu) ?_)
        refine wpAny_bind (wpAny_callSpecialIfBound?_slot (T := "tuple") ⟨_, h1, rfl⟩ PySem.F.slot_tuple_lt (call_meets PySem.F.slot_tuple_lt ⟨_, h1, rfl⟩ PySem.F.entry_tuple_lt (PySem.F.args_tuple_lt_2 _ _)
          (SeqAt.tuple_ltAt l l' vs vs' n n' dd dd2 sl sl2 (SeqAt.pairEq xs ys) fun j => PySem.W.dataLt (xs.getD j .none) (ys.getD j .none)) ⟨h1, k1, fun j j1 j2 => ?_, fun j j1 j2 hj => ?_, ?_⟩))
        · have := PySem.W.eqAt_alikeAll xs ys A.in1 s vs.toList vs'.toList _ _ h4 k4 hal (SeqAt.room_in hu) j (by simpa using j1) (by simpa using j2)
          simpa using this
        · have := PySem.W.rcLt_alikeAll xs ys A.in1 s vs.toList vs'.toList _ _ h4 k4 hal (SeqAt.room_in hu) j (by simpa using j1) (by simpa using j2) hj
          simpa using this
        · exact wpAny_truthy_bool hq
theorem firsts_ex : ∀ {vs : List Value} {ds : List PyData}, EachIs (fun v d => ∃ as, Reads s.heap v d as) vs ds → (∀ d ∈ ds, ∃ xs, d = .tuple xs) →
    ∃ fs : List (Option Value), EachIs (fun (f : Option Value) d => f.isSome = ne0 d) fs ds ∧ ∀ {A : Around} {E : Value → Shared → Prop} {Q : List (Option Value) → Shared → Prop}, Q fs s → wpAny (model prog w) A (vs.mapM firstOfTuple') Q E s
  | _, _, .nil, _ => ⟨[], .nil, fun h => by rw [List.mapM_nil]; exact wpAny_pure h⟩
  | _, _, .cons (b := d) ⟨as, r⟩ t, ht => by
    obtain ⟨fs, h1, h2⟩ := firsts_ex t fun d hd => ht d (List.mem_cons_of_mem _ hd)
    obtain ⟨xs, rfl⟩ := ht d (List.mem_cons_self ..)
    cases r with
    | @tuple a o us n _ _ ho hc hd hr =>
      refine ⟨us[0]? :: fs, .cons ?_ h1, fun {A E Q} q => ?_⟩
      · rw [← Array.getElem?_toList]
        cases e : us.toList with
        | nil =>
          rw [e] at hr
          cases hr
          rfl
        | cons f fr =>
          rw [e] at hr
          cases hr
          rfl
      · rw [List.mapM_cons]
        refine wpAny_bind ?_
        rw [PySem.W.kas_first_eq]
        refine wpAny_bind (PySem.W.Looks.here (show PySem.W.Looks _ s.heap (typeOf (.ref a)) o.cls from (PySem.W.Looks.ld ho).andThen .now) ?_)
        rw [hc, if_neg (by first | decide | simp)]
        refine wpAny_bind (listItems_at ho hd (wpAny_pure ?_))
        exact wpAny_bind (h2 (wpAny_pure q))
/-- values that read as alike tuples of any lengths can be sorted -/
theorem sortsAt_tups {vs : List Value} {ds : List PyData} (e : EachIs (fun v d => ∃ as, Reads s.heap v d as) vs ds) (hal : AllAlike ds) (hk : SortOk ds) (hu : ∀ d, d ∈ ds → A.units + d.depth < cLine) : SortsAt prog w A s (dataKind s.heap ds) vs := by
  rcases hk with hk | ht
  · exact SortsAt.data e hal hk hu
  by_cases all : ∀ d ∈ ds, ne0 d = true
  · refine SortsAt.data e hal (.inl fun d hd => ?_) hu
    obtain ⟨xs, rfl⟩ := ht d hd
    cases xs with
    | nil => exact absurd (all _ hd) (by simp [ne0])
    | cons x r => exact ⟨x, r, rfl⟩
  obtain ⟨fs, hf, hm⟩ := firsts_ex (prog := prog) (w := w) e ht
  have hnall : (fs.toArray.all fun x => x.isSome) = false := by
    rw [List.all_toArray]
    cases q : fs.all fun x => x.isSome with
    | false => rfl
    | true =>
      refine absurd (fun d hd => ?_) all
      obtain ⟨f, hfm, h⟩ := each_right hf d hd
      rw [← h]
      exact List.all_eq_true.mp q f hfm
  have lt : ∀ f : Bool, ∀ (E : Value → Shared → Prop) (x y : Value) (a b) (Q : Bool → Shared → Prop), (dataKind s.heap ds).keyOf x = some a → (dataKind s.heap ds).keyOf y = some b → Q ((dataKind s.heap ds).blt a b) s → wpAny (model prog w) A (oneLt' f x y) Q E s := by
    intro f E x y a b Q ha hb hq
    obtain ⟨d, as, hd, ra, rfl⟩ := PySem.W.dataKind_inv ha
    obtain ⟨d', as', hd', rb, rfl⟩ := PySem.W.dataKind_inv hb
    obtain ⟨x1, rfl⟩ := ht d hd
    obtain ⟨x2, rfl⟩ := ht d' hd'
    exact lt_tups ra rb (hal _ hd _ hd') (Nat.lt_of_le_of_lt (Nat.add_le_add_left (Nat.min_le_left _ _) _) (hu _ hd)) hq
  refine ⟨fun v hv => ?_, if ((fs.toArray[0]?).bind id).isSome then general' else oneType', ?_, fun h2 E Q hq => ?_⟩
  · obtain ⟨d, hd, as, r⟩ := e.left v hv
    exact ⟨_, PySem.W.dataKind_some hal hd r⟩
  · intro E x y a b Q ha hb hq
    split
    · exact lt false E x y a b Q ha hb hq
    · exact lt true E x y a b Q ha hb hq
  · rw [keyKind'_eq, List.mapM_toArray, map_eq_pure_bind]
    refine wpAny_bind (wpAny_bind (hm (wpAny_pure ?_)))
    rw [if_neg (by rw [hnall]; simp)]
    by_cases c : ((fs.toArray[0]?).bind id).isSome = true
    · rw [if_pos c] at hq ⊢
      exact wpAny_pure hq
    · rw [if_neg c] at hq ⊢
      rw [oneTypeOnly'_eq, List.mapM_toArray, map_eq_pure_bind]
      refine wpAny_bind (wpAny_bind (wpAny_bind (PySem.W.kas_mapM (r := Value.type "tuple") _ (fun v hv Q' hq => ?_) (wpAny_pure ?_))))
      · obtain ⟨d, hd, as, r⟩ := e.left v hv
        obtain ⟨xs, rfl⟩ := ht d hd
        exact (PySem.W.looks_reads r).here hq
      · obtain ⟨v₁, rest, rfl⟩ : ∃ v₁ rest, vs = v₁ :: rest := by
          cases vs with
          | nil => simp at h2
          | cons a b => exact ⟨a, b, rfl⟩
        have hall2 : ((List.map (fun _ => Value.type "tuple") (v₁ :: rest)).toArray.all fun x => x == Value.type "tuple") = true := by
          simp only [List.all_toArray, List.all_map, List.all_eq_true]
          intro _ _
          exact beq_self_eq_true _
        have h0 : (List.map (fun _ => Value.type "tuple") (v₁ :: rest)).toArray[0]? = some (Value.type "tuple") := by simp
        rw [h0]
        simp only [hall2, if_true]
        exact wpAny_pure (wpAny_pure (by simpa using hq))
end
section
variable {X : Cx}
/-- sorted(xs, key=f), f a def with the promise dsp that is pure at the items: its keys are data -/
def rSortK (dsp : DSp) : List D → DM → DVK → Prop := fun ds M Q => ∃ d xs, ∃ g : D → D, ds = [d] ∧ dItems d M = some xs ∧ d ≠ .tup xs ∧ (∀ x ∈ xs, ∀ Q' : DVK, Q' (g x) M → dsp [x] M Q') ∧ (xs.map g).all (dOk 32) = true ∧
  AllAlike ((xs.map g).map D.py) ∧ SortOk ((xs.map g).map D.py) ∧ ∀ p, M p = none → Q (.ref p) (mput M p (.lst (xs.mergeSort (dataLe false fun x => D.py (g x)))))
/-- what is so behind the i-th key -/
structure KeyInv (X : Cx) (σ : SL) (H : Hp) (M : DM) (s : Shared) (kS a : Addr) (e1 : Nat) (gs : List D) (i : Nat) (s' : Shared) : Prop where
  ex : ∃ (Hj : Hp) (kA : Array Value) (e : Nat) (ws : List V), Un (frs X.stack) [] H Hj s.heap s'.heap ∧ Grow H Hj ∧ HOk X.prog X.w Hj s'.heap ∧ RM X.K Hj M ∧ AllBare s'.gens ∧ s'.os = s.os ∧
    s'.heap.get? kS = some (seqObj "list" kA e) ∧ s'.heap.get? a = some (seqObj "list" #[] e1) ∧ Hj kS = none ∧ Hj a = none ∧ Vals ws kA.toList ∧ RepL X.K Hj (gs.take i) ws
theorem take_snoc {α : Type} {xs : List α} {i : Nat} {x : α} (h : xs[i]? = some x) : xs.take (i + 1) = xs.take i ++ [x] := by
  rw [List.take_add_one, h]
  rfl
theorem vals_snoc : ∀ {vs : List V} {us : List Value} {v : V} {u : Value}, Vals vs us → RelV v u → Vals (vs ++ [v]) (us ++ [u])
  | _, _, _, _, .nil, r => .cons r .nil
  | _, _, _, _, .cons h t, r => .cons h (vals_snoc t r)
/-- what a call of the key's def gives, in every state that it may be called in -/
def KeyRun (X : Cx) (pins : List (Addr × Obj)) (σ : SL) (H : Hp) (M : DM) (s : Shared) (f : Value) (xs : List D) (g : D → D) : Prop :=
  ∀ (Hj : Hp) (s' : Shared) (d : D) (v : V) (x : Value), d ∈ xs → Un (frs X.stack) [] H Hj s.heap s'.heap → Grow H Hj → Inv X pins σ Hj s' → RM X.K Hj M → Rep X.K Hj d v → RelV v x →
    wpAny (model X.prog X.w) X.A.in1.in1 (call f [x]) (fun v0 s'' => CE X.stack X.prog X.w Hj s' (fun v H' => Grow Hj H' ∧ Rep X.K H' (g d) v ∧ RM X.K H' M) v0 s'') (fun _ _ => False) s'
theorem key_loop {f : Value} {pins : List (Addr × Obj)} {σ : SL} {H : Hp} {M : DM} {s s0 : Shared} {kS a : Addr} {e1 : Nat} {xs : List D} {ws : List V} {vs : List Value} {g : D → D} {P : PySem.Fin → Shared → Prop} {E : Value → Shared → Prop}
    (kr : KeyRun X pins σ H M s f xs g) (I : Inv X pins σ H s) (l : RepL X.K H xs ws) (rv : Vals ws vs) (hz : vs.length ≤ sizeLine)
    (hok : (xs.map g).all (dOk 32) = true) (hal : AllAlike ((xs.map g).map D.py)) (hsk : SortOk ((xs.map g).map D.py)) (hu : X.A.in1.in1.units + 40 < cLine)
    (hkS : s.heap.objs.size ≤ kS) (ha : s.heap.objs.size ≤ a) (hka : kS ≠ a) (I0 : KeyInv X σ H M s kS a e1 (xs.map g) 0 s0)
    (h : ∀ (Hj : Hp) (s' : Shared) (out : List Value) (c : Nat), Un (frs X.stack) [] H Hj s.heap s'.heap → Grow H Hj → HOk X.prog X.w Hj s'.heap → RM X.K Hj M → AllBare s'.gens → s'.os = s.os → s'.heap.get? a = some (seqObj "list" (List.toArray out) c) → Hj a = none →
      KeyedOut false ((xs.map g).map D.py) vs out → P (.done (.ret .none)) s') :
    wpAny (model X.prog X.w) X.A.in1.in1 (ksk_rest a f false vs.toArray e1 (.ref kS)) P E s0 := by
  unfold ksk_rest
  refine wpAny_bind (wpAny_rule ?_)
  first
    | rw [List.forIn_toArray]
    | (rw [← Array.forIn_toList]; simp only [List.toList_toArray])
    | rw [← Array.forIn_toList]
  have hxl : xs.length = vs.length := l.length.trans rv.length
  have fsk : kS ∉ frs X.stack := fun z => (List.mem_cons.mp (I.stkSub _ z)).elim (fun z => absurd (Nat.lt_of_lt_of_le I.lt (by rw [← z]; exact hkS)) (Nat.lt_irrefl _)) (I.nofs hkS)
  have fsa : a ∉ frs X.stack := fun z => (List.mem_cons.mp (I.stkSub _ z)).elim (fun z => absurd (Nat.lt_of_lt_of_le I.lt (by rw [← z]; exact ha)) (Nat.lt_irrefl _)) (I.nofs ha)
  have gk : s.heap.get? kS = none := Heap.get?_none_of_le hkS
  have ga : s.heap.get? a = none := Heap.get?_none_of_le ha
  refine wpAny_bind (ksk_fold (fun i s' => KeyInv X σ H M s kS a e1 (xs.map g) i s') vs 0 s0 I0 ?step ?done)
  case step =>
    rintro j x s' hx ⟨Hj, kA, e, us, un, gr, hk, rm, bare, os, nk, na, fk, fa, vk, lk⟩
    rw [Nat.zero_add] at lk ⊢
    have hj : j < vs.length := (List.getElem?_eq_some_iff.mp hx).1
    obtain ⟨d, hd⟩ : ∃ d, xs[j]? = some d := ⟨_, List.getElem?_eq_getElem (by omega)⟩
    have hdm : d ∈ xs := List.mem_of_getElem? hd
    obtain ⟨v, hv, rd⟩ := l.get hd
    obtain ⟨u, hu', ru⟩ := rv.get hv
    rw [hx] at hu'
    cases hu'
    have J : Inv X pins σ Hj s' := I.call' (ch := []) os un hk bare (fun b z => absurd z (by simp))
    have run := kr Hj s' d v x hdm un gr J rm (rd.grow gr) ru
    refine wpAny_bind (wpAny_attempt (wpAny_mono run (fun v0 s'' he => ?_) fun _ _ hF => hF.elim))
    obtain ⟨v2, H2, os2, bare2, un2, hk2, r2, g2, rd2, rm2⟩ := he
    try dsimp only
    have nk2 : s''.heap.get? kS = some (seqObj "list" kA e) := un2.keep kS _ nk fk fsk (by simp)
    have na2 : s''.heap.get? a = some (seqObj "list" #[] e1) := un2.keep a _ na fa fsa (by simp)
    have fk2 : H2 kS = none := un2.free kS _ nk fk (by simp)
    have fa2 : H2 a = none := un2.free a _ na fa (by simp)
    have s1 := Heap.SameBut.update s''.heap kS (Obj.mapSeq (·.push v0))
    obtain ⟨c2, hc2⟩ : ∃ c2, (s''.heap.update kS (Obj.mapSeq (·.push v0))).get? kS = some (seqObj "list" (kA.push v0) c2) := ⟨_, get?_update_seq nk2 (·.push v0)⟩
    have keep : ∀ b o, b ≠ kS → b ≠ kS → s''.heap.get? b = some o → (s''.heap.update kS (Obj.mapSeq (·.push v0))).get? b = some o := fun b o hb _ e => (s1.2 b hb).trans e
    have hkl : kA.size ≤ vs.length := by
      have h1 := vk.length
      have h2 := lk.length
      have h3 : kA.toList.length = kA.size := Array.length_toList
      rw [List.length_take, List.length_map] at h2
      omega
    refine wpAny_bind (listUpdate_at nk2 rfl ?_ (Nat.le_trans hkl hz) (Nat.le_trans (Nat.le_of_eq (Array.size_push ..)) (Nat.succ_le_succ (Nat.le_trans hkl hz))))
    refine wpAny_pure ⟨rfl, ⟨H2, kA.push v0, c2, us ++ [v2], un_side (un.trans un2) gk gk keep, gr.trans g2, hok_side hk2 fk2 fk2 keep, rm2, bare2, os2.trans os, hc2, (s1.2 a hka.symm).trans na2, fk2, fa2, ?_, ?_⟩⟩
    · have ea : (kA.push v0).toList = kA.toList ++ [v0] := by simp
      rw [ea]
      exact vals_snoc vk r2
    · rw [take_snoc (x := g d) (by rw [List.getElem?_map, hd]; rfl)]
      exact (lk.grow g2).append (.one rd2)
  case done =>
    rintro s' ⟨Hj, kA, e, us, un, gr, hk, rm, bare, os, nk, na, fk, fa, vk, lk⟩
    rw [Nat.zero_add, List.take_of_length_le (by rw [List.length_map]; omega)] at lk
    have J : Inv X pins σ Hj s' := I.call' (ch := []) os un hk bare (fun b z => absurd z (by simp))
    have hk' : EachIs (fun v k => ∃ as, Reads s'.heap v k as) kA.toList ((xs.map g).map D.py) := PySem.W.each_map (R := fun v k => ∃ as, Reads s'.heap v k as) D.py (reads_each J lk vk hok)
    have hsz : kA.size = vs.length := by
      have h1 := vk.length
      have h2 := lk.length
      have h3 : kA.toList.length = kA.size := Array.length_toList
      rw [List.length_map] at h2
      omega
    obtain ⟨G, g1, g2⟩ := restrict s'.heap (fun b => decide (b ≠ kS))
    have kp : KeepsBut a G s'.heap := fun b o hb e => by
      by_cases q : b = kS
      · rw [q, g2 kS (by simp)] at e
        cases e
      · rw [g1 b (by simp [q])] at e
        exact e
    refine wpAny_bind (listItems_at nk rfl ?_)
    refine keyH_end (κ := dataKind s'.heap ((xs.map g).map D.py)) (h₁ := G) kp (g2 kS (by simp)) nk na hka (sortsAt_tups hk' hal hsk fun q hq => ?_) hsz hz fun h3 tk3 c k3 n3 => ?_
    · obtain ⟨b, hb', rfl⟩ := List.mem_map.mp hq
      have := (dOk_lay 32 b (List.all_eq_true.mp hok b hb')).2
      omega
    have keep3 : ∀ b o, b ≠ a → b ≠ kS → s'.heap.get? b = some o → h3.get? b = some o := fun b o hb hk e => k3 b o hb (by rw [g1 b (by simp [hk])]; exact e)
    exact h Hj { s' with heap := h3, toks := tk3 } _ c (un_side un ga gk keep3) gr (hok_side hk fa fk keep3) rm bare os n3 fa ⟨s'.heap, kA.toList, hal, rfl, hk'⟩
/-- sorted(xs, key=f) behind the evaluation of its arguments -/
theorem sort_core {f : Value} {pins : List (Addr × Obj)} {σ : SL} {H : Hp} {M : DM} {s : Shared} {d : D} {v : V} {u : Value} {xs : List D} {g : D → D} {Q : VK} {Q' : DVK} (I : Inv X pins σ H s) (rv : Rep X.K H d v) (r : RelV v u) (m : RM X.K H M) (hd : dItems d M = some xs) (hnt : d ≠ .tup xs)
    (hf : ∀ a : Addr, Builtin.«list.sort» ⟨[.ref a], [(Str.ofString "key", f)]⟩ = ksk_tree a f false) (kr : KeyRun X pins σ H M s f xs g) (hu : X.A.in1.in1.units + 40 < cLine) (hok : (xs.map g).all (dOk 32) = true) (hal : AllAlike ((xs.map g).map D.py)) (hsk : SortOk ((xs.map g).map D.py))
    (q : ∀ p, M p = none → Q' (.ref p) (mput M p (.lst (xs.mergeSort (dataLe false fun x => D.py (g x)))))) (kk : ∀ d v M' H', Grow H H' → Rep X.K H' d v → RM X.K H' M' → Q' d M' → Q v H') :
    wpAny (model X.prog X.w) X.A (call (.builtin "sorted") [u] [(Str.ofString "key", f)]) (EP X pins σ Q) X.xe s := by
  obtain ⟨b, xv, rfl, z, l3, h6⟩ := lst_of rv m hd hnt
  obtain ⟨its, r2, pl, _⟩ := I.list h6
  obtain rfl : u = Value.ref b := r
  have hz : its.length ≤ sizeLine := by rw [← r2.length]; exact z
  refine sorted_of_sort pl.isList hz (ksk_s1 _ _) (fun _ => ksk_l1 _ _) fun E' => ?_
  rw [hf]
  obtain ⟨a, hae⟩ : ∃ a, a = s.heap.objs.size + 1 := ⟨_, rfl⟩
  rw [← hae]
  have ho : (copyHeap s.heap its).get? a = some (seqObj "list" its.toArray 0) := by rw [hae]; exact copyHeap_at s.heap its
  have hla : a < (copyHeap s.heap its).objs.size := Heap.lt_size ho
  obtain ⟨e1, ho1⟩ : ∃ e1, ((copyHeap s.heap its).update a (Obj.mapSeq fun _ => (#[] : Array Value))).get? a = some (seqObj "list" #[] e1) := ⟨_, get?_update_seq ho fun _ => #[]⟩
  have hkS : (((copyHeap s.heap its).update a (Obj.mapSeq fun _ => (#[] : Array Value))).push (seqObj "tuple" its.toArray 0)).objs.size = (copyHeap s.heap its).objs.size + 1 := by rw [size_push', Heap.size_update]
  have old : ∀ b o, s.heap.get? b = some o → (sortingHeap (copyHeap s.heap its) a its).get? b = some o := fun b o q => sortingHeap_old (Nat.ne_of_lt (Nat.lt_of_lt_of_le (Heap.lt_size q) (by rw [hae]; exact Nat.le_succ _))) (copyHeap_old q)
  have ga : s.heap.get? a = none := Heap.get?_none_of_le (by omega)
  have fa0 : H a = none := I.hok.fresh (by omega)
  unfold ksk_tree
  refine wpAny_bind (listItems_at ho rfl ?_)
  refine wpAny_bind (listUpdate_at ho rfl ?_ (by rw [List.size_toArray]; exact hz) (Nat.zero_le _))
  refine wpAny_bind (seqEpoch_at ho1 rfl ?_)
  refine wpAny_bind (wpAny_newTuple ?_ (by show its.length ≤ _; exact hz))
  refine wpAny_bind (wpAny_newList ?_ (Nat.zero_le _))
  refine wpAny_holding ?_
  have szk : s.heap.objs.size ≤ (((copyHeap s.heap its).update a (Obj.mapSeq fun _ => (#[] : Array Value))).push (seqObj "tuple" its.toArray 0)).objs.size := by rw [hkS]; omega
  refine key_loop (kS := (((copyHeap s.heap its).update a (Obj.mapSeq fun _ => (#[] : Array Value))).push (seqObj "tuple" its.toArray 0)).objs.size) kr I l3 r2 hz hok hal hsk hu szk (by omega) (Nat.ne_of_gt (by rw [hkS]; omega))
    ⟨H, #[], 0, [], Un.kept old, .refl H, I.hok.kept old, m, I.bare, rfl, Heap.get?_push_size _ rfl, Heap.get?_push_of_some _ (Heap.get?_push_of_some _ ho1), I.hok.fresh szk, fa0, .nil, .nil⟩ fun Hj s' out c un gr hk rm bare os na fa ko => ⟨rfl, ?_⟩
  have ko' : KeyedOut false (xs.map fun x => D.py (g x)) its out := by
    rw [List.map_map] at ko
    exact ko
  obtain ⟨vs', h7, h8⟩ := each_rel (keyedOut_each (fun x => D.py (g x)) ko' (rel_each (l3.grow gr) r2))
  have hlen : vs'.length ≤ sizeLine := by
    rw [← h8.length, List.length_mergeSort, l3.length]
    exact z
  exact ⟨.ref a, upd Hj a (.lst vs'), I.call' (ch := []) os (un_adopt un ga fa0 fa) (hok_adopt hk fa ⟨hlen, out, c, h7, na⟩) bare (fun b z => absurd z (by simp)), rfl,
    kk _ _ _ _ (gr.trans (.new fa)) (.ref _) (rm.newLst fa hlen h8) (q _ (rm.free fa))⟩
theorem c_sortK {k f : Nat} {fd : FuncData} {ps : List Str} {dsp : DSp} (F : FnOk X.prog X.w X.K X.mg X.base CX0 k f fd ps (upSp X.K dsp)) (hb : Binds X.K fd ps []) (hr : Room k X.A.in1.in1) :
    CallRK X (.builtin "sorted") [Str.ofString "key"] (fun vs zs H Q => zs = [V.ref f] ∧ upC X.K (rSortK dsp) vs H Q) := by
  intro pins s σ H vs zs us ws Q I r rz ⟨ez, ds, M, Q', l, m, ⟨d, xs, g, e, hd, hnt, pure, hok, hal, hsk, q⟩, kk⟩
  subst e
  subst ez
  obtain ⟨v, e, rv⟩ := repL_one l
  subst e
  obtain ⟨u, eu, ru⟩ := vals1 r
  subst eu
  obtain ⟨w1, rfl, e1⟩ := vals1 rz
  obtain rfl : w1 = Value.ref f := e1
  have hu : X.A.in1.in1.units + 40 < cLine := by
    have := hr.un
    omega
  refine sort_core I rv ru m hd hnt (fun a => ksk_t1 _ a) (fun Hj s' d v x hdm un gr J rm rd ru => ?_) hu hok hal hsk q kk
  have hsp : upSp X.K dsp [v] Hj (fun v H' => Grow Hj H' ∧ Rep X.K H' (g d) v ∧ RM X.K H' M) E0 :=
    ⟨[d], M, fun y M' => y = g d ∧ M' = M, .one rd, rm, pure d hdm _ ⟨rfl, rfl⟩, fun y v' M' H' g1 r1 m1 ⟨h1, h2⟩ => by subst h1 h2; exact ⟨g1, r1, m1⟩⟩
  refine wpAny_call (codeAny_mono (F.run X.A.in1.in1 X.stack s' Hj ⟨[x], []⟩ [x] [v] _ E0 hr J.env0.in1.in1 (hb s' [x] J.kIn (F.len [v] Hj _ E0 hsp)) (.cons ru .nil) hsp) fun r s'' hq => ?_)
  cases r with
  | error e => exact False.elim hq
  | ok fl =>
    cases fl with
    | ret u => exact hq
    | next => exact False.elim hq
    | brk => exact False.elim hq
    | cont => exact False.elim hq
/-- sorted(e, key=x) -/
theorem d_sortK {k : Nat} {x : Str} {ps : List Str} {dsp : DSp} {e : Expr} {p p2 kp pos : Pos} {t : DTA} (C : Cal X.prog X.w X.K X.mg X.base k x ps dsp) (hr : Room k X.A.in1.in1) (hg : Gl X x) (hgs : Gl X "sorted") (hms : X.mg "sorted" = none) (ha : DA X [e] t)
    (hdb : (x == ("__debug__" : Str)) = false := by decide) (he : backTo pos (starEach [e] X.env) = [(false, eval e X.env)] := by rfl) (hpl : (backTo pos (starEach [e] X.env)).any (·.1) = false := by rfl)
    (hall : (backToKw pos (keywordEach [⟨some (Str.ofString "key"), .Name x p2, kp⟩] X.env)).all (·.1.isSome) = true := by rfl) (hnone : (backToKw pos (keywordEach [⟨some (Str.ofString "key"), .Name x p2, kp⟩] X.env)).any (·.1.isNone) = false := by rfl)
    (hks : (backToKw pos (keywordEach [⟨some (Str.ofString "key"), .Name x p2, kp⟩] X.env)).filterMap (·.1) = [Str.ofString "key"] := by rfl) :
    DE X (.Call (.Name "sorted" p) [e] [⟨some (Str.ofString "key"), .Name x p2, kp⟩] pos) (dCB (rSortK dsp) t) := by
  obtain ⟨f, fd, F, hm, hk, hb⟩ := C.ex
  refine imE (pe_callBK (c_sortK F hb hr) hgs hms boot_sorted ha (pk_cons (pe_glob (v := .ref f) hg hm rfl hdb) pk_nil) (by decide) (by decide) he hpl hall hnone hks) fun σ H Q ⟨m, M, Q', r, q, kk⟩ => ?_
  refine ⟨m, M, _, r, q, fun ds vs M1 H1 g1 l1 m1 q1 => ?_⟩
  exact ⟨rfl, ds, M1, Q', l1, m1, q1, fun d v M2 H2 g2 => kk d v M2 H2 (g1.trans g2)⟩
end
end DL
/-! reversed, zip, a tuple times a number -/
namespace DL
open PySem PySem.Spec PyProof.Rows L2

section
variable {X : Cx} {tg e e2 : Expr} {te : DTE} {t : DTA} {p p2 pos pos2 : Pos}
/-! ### for .. in reversed(a tuple or a frozen list) -/
def diRev (te : DTE) : DTI := fun m M Q => te m M fun d M1 => ∃ xs, (d = .tup xs ∨ d = .lst xs) ∧ Q (xs.reverse, none) M1
theorem rev_at {α : Type} {xs : List α} {i : Nat} (h : i < xs.length) : xs.reverse[i]? = xs[xs.length - 1 - i]? := List.getElem?_reverse h
theorem di_rev (hg : Gl X "reversed") (hm : X.mg "reversed" = none) (he : DE X e te) (hs : starEach [e] X.env = (false, eval e X.env) :: starEach [] X.env := by rfl) : DI X tg (.Call (.Name "reversed" p) [e] [] pos) (diRev te) :=
  imI (RT.pi_revA hg hm he hs) fun σ H Q ⟨m, M, Q', r, q, k⟩ => by
    refine ⟨m, M, _, r, q, fun d v M1 H1 g1 r1 m1 ⟨xs, e1, q1⟩ => ?_⟩
    rcases e1 with e1 | e1
    · subst e1
      cases r1 with
      | @tup _ a vs hf z l =>
        have hl := l.length
        refine ⟨a, vs, rfl, .inr ⟨hf, k _ M1 H1 _ g1 m1 q1 ⟨?_, fun i H2 ok hi => ?_, fun i H2 x H3 ok hi y => ?_, fun H2 ok => ?_⟩⟩⟩
        · show xs.reverse.length ≤ sizeLine
          rw [List.length_reverse, hl]
          exact z
        · have hi' : i < xs.length := by rw [← List.length_reverse (as := xs)]; exact hi
          obtain ⟨w, e3, _⟩ := l.get (i := xs.length - 1 - i) (List.getElem?_eq_getElem (by omega))
          exact ⟨by omega, vs, w, sqT_grow hf ok.1, by rw [← hl]; exact e3⟩
        · have hi' : i < xs.length := by rw [← List.length_reverse (as := xs)]; exact hi
          obtain ⟨e3, hx⟩ := y
          subst e3
          have hx' := hx vs (sqT_grow hf ok.1)
          rw [← hl] at hx'
          obtain ⟨d, e5, rd⟩ := l.get' hx'
          exact ⟨.refl _, fun _ q => q, d, by show xs.reverse[i]? = _; rw [rev_at hi']; exact e5, rd.grow ok.1⟩
        · show vs.length ≤ xs.reverse.length
          rw [List.length_reverse, hl]
          exact Nat.le_refl _
    · subst e1
      cases r1 with
      | @lst _ a vs hf z l =>
        have hl := l.length
        refine ⟨a, vs, rfl, .inl ⟨hf.seq, k _ M1 H1 _ g1 m1 q1 ⟨?_, fun i H2 ok hi => ?_, fun i H2 x H3 ok hi y => ?_, fun H2 ok => ?_⟩⟩⟩
        · show xs.reverse.length ≤ sizeLine
          rw [List.length_reverse, hl]
          exact z
        · have hi' : i < xs.length := by rw [← List.length_reverse (as := xs)]; exact hi
          obtain ⟨w, e3, _⟩ := l.get (i := xs.length - 1 - i) (List.getElem?_eq_getElem (by omega))
          exact ⟨by omega, vs, w, (hf.grow ok.1).seq, by rw [← hl]; exact e3⟩
        · have hi' : i < xs.length := by rw [← List.length_reverse (as := xs)]; exact hi
          obtain ⟨e3, hx⟩ := y
          subst e3
          have hx' := hx vs (hf.grow ok.1).seq
          rw [← hl] at hx'
          obtain ⟨d, e5, rd⟩ := l.get' hx'
          exact ⟨.refl _, fun _ q => q, d, by show xs.reverse[i]? = _; rw [rev_at hi']; exact e5, rd.grow ok.1⟩
        · show vs.length ≤ xs.reverse.length
          rw [List.length_reverse, hl]
          exact Nat.le_refl _
/-! ### tuple(reversed(a list)) -/
def dTupRev (te : DTE) : DTE := fun m M Q => te m M fun d M1 => ∃ xs, dItems d M1 = some xs ∧ d ≠ .tup xs ∧ Q (.tup xs.reverse) M1
theorem d_tupRev (hc : X.calm = true) (hg : Gl X "tuple") (hm : X.mg "tuple" = none) (hg2 : Gl X "reversed") (hm2 : X.mg "reversed" = none) (he : DE X e te)
    (hs : starEach [e] X.env = (false, eval e X.env) :: starEach [] X.env := by rfl)
    (hs2 : starEach [.Call (.Name "reversed" p2) [e] [] pos2] X.env = (false, eval (.Call (.Name "reversed" p2) [e] [] pos2) X.env) :: starEach [] X.env := by rfl) :
    DE X (.Call (.Name "tuple" p) [.Call (.Name "reversed" p2) [e] [] pos2] [] pos) (dTupRev te) :=
  imE (RT.pe_tupRev hc hg hm hg2 hm2 he hs hs2) fun σ H Q ⟨m, M, Q', r, q, k⟩ => by
    refine ⟨m, M, _, r, q, fun d v M1 H1 g1 r1 m1 ⟨xs, e1, hn, q1⟩ => ?_⟩
    obtain ⟨a, ws, rfl, z, l3, h6⟩ := lst_of r1 m1 e1 hn
    refine ⟨a, ws, rfl, h6, fun c hc => ?_⟩
    have g2 : Grow H1 (upd H1 c (.tup ws.reverse)) := .new hc
    exact k _ _ M1 _ (g1.trans g2) (.tup (.of upd_same) (by rw [List.length_reverse]; exact z) (l3.reverse.grow g2)) (m1.new hc) q1
/-! ### for (..) in zip(two tuples) -/
def zipD : List D → List D → List D
  | x :: xs, y :: ys => .tup [x, y] :: zipD xs ys
  | _, _ => []
theorem zipD_len : ∀ xs ys : List D, (zipD xs ys).length = min xs.length ys.length
  | [], ys => by simp [zipD]
  | x :: xs, [] => by simp [zipD]
  | x :: xs, y :: ys => by
    rw [zipD, List.length_cons, List.length_cons, List.length_cons, zipD_len xs ys]
    omega
theorem zipD_get : ∀ {xs ys : List D} {i : Nat} {x y : D}, xs[i]? = some x → ys[i]? = some y → (zipD xs ys)[i]? = some (.tup [x, y])
  | [], _, _, _, _, h, _ => by simp at h
  | _ :: _, [], _, _, _, _, h => by simp at h
  | x :: xs, y :: ys, 0, a, b, h1, h2 => by
    simp at h1 h2
    subst h1 h2
    rfl
  | x :: xs, y :: ys, i + 1, a, b, h1, h2 => by
    rw [zipD, List.getElem?_cons_succ]
    exact zipD_get (by simpa using h1) (by simpa using h2)
def diZip (t : DTA) : DTI := fun m M Q => t m M fun ds M1 => ∃ xs ys, ds = [.tup xs, .tup ys] ∧ Q (zipD xs ys, none) M1
theorem di_zip {elts : List Expr} {kk : Nat} {tpos : Pos} (hg : Gl X "zip") (hm : X.mg "zip" = none) (ha : DA X [e, e2] t)
    (hs : starEach [e, e2] X.env = (false, eval e X.env) :: starEach [e2] X.env := by rfl) (hpl : (backTo pos (starEach [e2] X.env)).any (·.1) = false := by rfl) :
    DI X (.Tuple elts kk tpos) (.Call (.Name "zip" p) [e, e2] [] pos) (diZip t) :=
  imI (RZ.pi_zipA hg hm ha hs hpl) fun σ H Q ⟨m, M, Q', r, q, k⟩ => by
    refine ⟨m, M, _, r, q, fun ds vs M1 H1 g1 r1 m1 ⟨xs, ys, e1, q1⟩ => ?_⟩
    subst e1
    obtain ⟨v, w, e2, rv, rw'⟩ := repL_two r1
    subst e2
    cases rv with
    | @tup _ a vs hf z l =>
      cases rw' with
      | @tup _ b ws hf2 z2 l2 =>
        have hl := l.length
        have hl2 := l2.length
        have hlen : (zipD xs ys).length = min xs.length ys.length := zipD_len xs ys
        refine ⟨a, b, vs, ws, rfl, .inr ⟨hf, hf2, k _ M1 H1 _ g1 m1 q1 ⟨?_, fun i H2 ok hi => ?_, fun i H2 x H3 ok hi y => ?_, fun H2 ok => ?_⟩⟩⟩
        · show (zipD xs ys).length ≤ sizeLine
          rw [hlen]
          omega
        · have hi' : i < min xs.length ys.length := by rw [← hlen]; exact hi
          obtain ⟨w1, e3, _⟩ := l.get (i := i) (List.getElem?_eq_getElem (by omega))
          obtain ⟨w2, e4, _⟩ := l2.get (i := i) (List.getElem?_eq_getElem (by omega))
          exact ⟨vs, ws, w1, w2, sqT_grow hf ok.1, sqT_grow hf2 ok.1, e3, e4⟩
        · obtain ⟨T, x1, y1, e3, hT, e4, hx, hy⟩ := y
          subst e3
          subst e4
          obtain ⟨d1, e5, rd1⟩ := l.get' (hx _ (sqT_grow hf ok.1))
          obtain ⟨d2, e6, rd2⟩ := l2.get' (hy _ (sqT_grow hf2 ok.1))
          refine ⟨.new hT, fun M2 rm => rm.new hT, .tup [d1, d2], zipD_get e5 e6, ?_⟩
          exact .tup (.of upd_same) (by show 2 ≤ sizeLine; decide) (.cons (rd1.grow (ok.1.trans (.new hT))) (.cons (rd2.grow (ok.1.trans (.new hT))) .nil))
        · refine ⟨vs, ws, sqT_grow hf ok.1, sqT_grow hf2 ok.1, ?_⟩
          show vs.length ≤ (zipD xs ys).length ∨ ws.length ≤ (zipD xs ys).length
          rw [hlen]
          omega
end
/-! ### a tuple, times 0 or 1 -/
theorem tuple_mul1 (l : Addr) (items : Array Value) (n : Nat) (dd : Option Addr) (sl : Array (Option Value)) (u : Tok) :
    Meets (Builtin.«tuple.__mul__» ⟨[.ref l, .int 1 u], []⟩) (fun _ R s => s.heap.get? l = some { cls := .type "tuple", dict := dd, data := .seq items n, slots := sl } ∧ R (.ok (.ret (Value.ref l))) s) :=
  .of_wp fun prog w A R s h => by
    obtain ⟨hp, g, d, tk, os⟩ := s
    obtain ⟨hl, h⟩ := h
    have f1 := AutoSeq1.idx_int
    wp_walk using wpAny_loadPart' hl
    exact ⟨_, rfl, h⟩
theorem tuple_mul0 (l : Addr) (items : Array Value) (n : Nat) (dd : Option Addr) (sl : Array (Option Value)) (u : Tok) (c1 : (items.isEmpty || (0 : Int) == 1) = false) :
    Meets (Builtin.«tuple.__mul__» ⟨[.ref l, .int 0 u], []⟩) (fun _ R s => s.heap.get? l = some { cls := .type "tuple", dict := dd, data := .seq items n, slots := sl } ∧
      R (.ok (.ret (Value.ref s.heap.objs.size))) { s with heap := s.heap.push { cls := Value.type "tuple", data := Data.seq #[] }, toks := s.toks }) :=
  .of_wp fun prog w A R s h => by
    obtain ⟨hp, g, d, tk, os⟩ := s
    obtain ⟨hl, h⟩ := h
    have f1 := AutoSeq1.idx_int
    wp_walk using wpAny_loadPart' hl
    repeat (first
      | (refine wpAny_ite_false (decide_eq_false (by rw [c1]; exact Bool.false_ne_true)) ?_; wp_walk using wpAny_loadPart' hl))
    exact ⟨_, rfl, h⟩
def rRep01 (K : PySem.W.Frag) : R2 := fun x y H Q => ∃ l k xs, x = .ref l ∧ y = .int k ∧ SqT K H l xs ∧ xs ≠ [] ∧ ((k = 1 ∧ Q (.ref l) H) ∨ (k = 0 ∧ ∀ p, H p = none → Q (.ref p) (upd H p (.tup []))))
section
variable {X : Cx}
theorem op_rep01 : OpR X (binaryOp .Mult) (rRep01 X.K) := by
  intro pins s σ H x y v u Q I rx ry h
  obtain ⟨l, k, xs, rfl, rfl, hT, hne, h⟩ := h
  cases rx
  obtain ⟨t, rfl⟩ := ry
  obtain ⟨its, r, ⟨⟨cls, dd, data, sl⟩, ho, hc, n, hd⟩, hs⟩ := I.tuple hT
  simp only at hc hd
  subst hc hd
  have hle : its.length = xs.length := r.length.symm
  have hn : its ≠ [] := fun e => hne (by
    rw [e] at hle
    exact List.eq_nil_of_length_eq_zero hle.symm)
  have hi : its.toArray.isEmpty = false := by
    cases its with
    | nil => exact absurd rfl hn
    | cons a b => rfl
  rcases h with ⟨rfl, q⟩ | ⟨rfl, q⟩
  · refine wpAny_binaryOp_repeat_ref (T := "tuple") (U := "int") (by decide) ⟨_, ho, rfl⟩ (fun s' => typeIs_int s' 1 t) noFill_tuple_mul F.fills_int_mul F.slot_int_rmul repeat_tuple F.slot_int_index.lookup
      (call_meets F.slot_int_rmul (typeIs_int s 1 t) F.entry_int_rmul (F.args_int_rmul_2 _ _) (int_rmul_tuple 1 t l its.toArray n dd sl)
        ⟨ho, rfl, ⟨_, ho, rfl⟩, call_meets F.slot_tuple_mul ⟨_, ho, rfl⟩ F.entry_tuple_mul (F.args_tuple_mul_2 _ _) (tuple_mul1 l its.toArray n dd sl t) ⟨ho, ?_⟩⟩)
    exact ⟨.ref l, H, I, rfl, q⟩
  · refine wpAny_binaryOp_repeat_ref (T := "tuple") (U := "int") (by decide) ⟨_, ho, rfl⟩ (fun s' => typeIs_int s' 0 t) noFill_tuple_mul F.fills_int_mul F.slot_int_rmul repeat_tuple F.slot_int_index.lookup
      (call_meets F.slot_int_rmul (typeIs_int s 0 t) F.entry_int_rmul (F.args_int_rmul_2 _ _) (int_rmul_tuple 0 t l its.toArray n dd sl)
        ⟨ho, rfl, ⟨_, ho, rfl⟩, call_meets F.slot_tuple_mul ⟨_, ho, rfl⟩ F.entry_tuple_mul (F.args_tuple_mul_2 _ _) (tuple_mul0 l its.toArray n dd sl t (by rw [hi]; rfl)) ⟨ho, ?_⟩⟩)
    refine ⟨.ref s.heap.objs.size, _, I.laid (t' := s.toks) (o := .tup []) (fun b ob q => Heap.get?_push_of_some _ q) (Nat.le_refl _) ?_, rfl, q _ (I.hok.fresh (Nat.le_refl _))⟩
    exact ⟨Nat.zero_le _, [], .nil, IsTup.new _ _⟩
/-- a tuple * int -/
def dMulT : DR2 := fun x y M Q => ∃ xs k, x = .tup xs ∧ y = .int k ∧ xs ≠ [] ∧ 0 ≤ k ∧ k ≤ 1000 ∧ xs.length ≤ 1000 ∧ Q (.tup (List.replicate k.toNat xs).flatten) M
theorem o_mulT : DOp X (binaryOp .Mult) dMulT := by
  intro pins s σ H x y v u Q I rx ry ⟨d, e, M, Q', r1, r2, m, ⟨xs, k, e1, e2, hne, h0, h1, hz, q⟩, kk⟩
  subst e1 e2
  cases r2
  cases r1 with
  | @tup _ a vs hf z l =>
    have hl := l.length
    have hvn : vs ≠ [] := fun e => hne (by
      rw [e] at hl
      exact List.eq_nil_of_length_eq_zero hl)
    by_cases c1 : k = 1
    · subst c1
      have er : (List.replicate (1 : Int).toNat xs).flatten = xs := by simp
      rw [er] at q
      exact op_rep01 pins s σ H _ _ v u Q I rx ry ⟨a, 1, vs, rfl, rfl, hf, hvn, .inl ⟨rfl, kk _ _ M H (.refl H) (.tup hf z l) m q⟩⟩
    · by_cases c0 : k = 0
      · subst c0
        have er : (List.replicate (0 : Int).toNat xs).flatten = [] := by simp
        rw [er] at q
        exact op_rep01 pins s σ H _ _ v u Q I rx ry ⟨a, 0, vs, rfl, rfl, hf, hvn, .inr ⟨rfl, fun p hp => kk _ _ M _ (.new hp) (.tup (.of upd_same) (Nat.zero_le _) .nil) (m.new hp) q⟩⟩
      · refine op_repT pins s σ H _ _ v u Q I rx ry ⟨a, k, vs, rfl, rfl, hf, hvn, by omega, h1, by omega, fun p hp => ?_⟩
        have g2 : Grow H (upd H p (.tup (List.replicate k.toNat vs).flatten)) := .new hp
        refine kk _ _ M _ g2 (.tup (.of upd_same) ?_ ((RepL.rep l _).grow g2)) (m.new hp) q
        rw [PyProof.Rows.lm_len_rep_flat, sizeLine_eq]
        have a1 : k.toNat * vs.length ≤ 1000 * 1000 := Nat.mul_le_mul (by omega) (by omega)
        omega
end
end DL
/-! dicts whose keys are tuples -/
namespace DL
open PySem PySem.Spec PyProof.Rows L2

/-! ### keys -/
mutual
theorem nk_inj : ∀ {a b : D}, kOk a = true → kOk b = true → nk a = nk b → a = b
  | .int i, b, _, hb, e => by cases b <;> simp_all [nk, kOk]
  | .str x, b, _, hb, e => by cases b <;> simp_all [nk, kOk]
  | .non, b, _, hb, e => by cases b <;> simp_all [nk, kOk]
  | .tup xs, .tup ys, ha, hb, e => by
    rw [nk, nk] at e
    injection e with e
    rw [nks_inj (xs := xs) (ys := ys) (by simpa [kOk] using ha) (by simpa [kOk] using hb) e]
  | .tup xs, .int _, _, _, e => by simp [nk] at e
  | .tup xs, .str _, _, _, e => by simp [nk] at e
  | .tup xs, .non, _, _, e => by simp [nk] at e
  | .tup xs, .bl _, _, hb, _ => by simp [kOk] at hb
  | .tup xs, .lst _, _, hb, _ => by simp [kOk] at hb
  | .tup xs, .dct _, _, hb, _ => by simp [kOk] at hb
  | .tup xs, .ref _, _, hb, _ => by simp [kOk] at hb
  | .tup xs, .ty _, _, hb, _ => by simp [kOk] at hb
  | .bl _, _, ha, _, _ => by simp [kOk] at ha
  | .lst _, _, ha, _, _ => by simp [kOk] at ha
  | .dct _, _, ha, _, _ => by simp [kOk] at ha
  | .ref _, _, ha, _, _ => by simp [kOk] at ha
  | .ty _, _, ha, _, _ => by simp [kOk] at ha
theorem nks_inj : ∀ {xs ys : List D}, kOks xs = true → kOks ys = true → nks xs = nks ys → xs = ys
  | [], [], _, _, _ => rfl
  | [], y :: ys, _, _, e => by simp [nks] at e
  | x :: xs, [], _, _, e => by simp [nks] at e
  | x :: xs, y :: ys, ha, hb, e => by
    rw [kOks, Bool.and_eq_true] at ha hb
    rw [nks, nks] at e
    injection e with e1 e2
    rw [nk_inj ha.1 hb.1 e1, nks_inj ha.2 hb.2 e2]
end
section
variable {X : Cx} {pins : List (Addr × Obj)} {σ : SL} {H : Hp} {s : Shared}
mutual
theorem Rep.nested (I : Inv X pins σ H s) : ∀ {d : D} {v : V} {u : Value}, Rep X.K H d v → RelV v u → kOk d = true → NestedIs s.heap (nk d) u
  | _, _, _, .non, r, _ => by cases r; exact .none
  | _, _, _, .int i, r, _ => by
    obtain ⟨t, rfl⟩ := r
    exact .int i t
  | _, _, _, .str x, r, _ => by
    obtain ⟨t, rfl⟩ := r
    exact .text x t
  | _, _, _, .tup hs z l, r, h => by
    cases r
    obtain ⟨its, rv, ⟨o, h1, h2, n, h3⟩, hz⟩ := I.tuple hs
    exact .tup h1 h2 h3 (RepL.nested I l rv (by simpa [kOk] using h))
  | _, _, _, .bl _, _, h => by simp [kOk] at h
  | _, _, _, .lst _ _ _, _, h => by simp [kOk] at h
  | _, _, _, .ref _, _, h => by simp [kOk] at h
  | _, _, _, .ty _, _, h => by simp [kOk] at h
  | _, _, _, .dct _ _ _, _, h => by simp [kOk] at h
theorem RepL.nested (I : Inv X pins σ H s) : ∀ {ds : List D} {vs : List V} {us : List Value}, RepL X.K H ds vs → Vals vs us → kOks ds = true → NestedAll s.heap (nks ds) us
  | _, _, _, .nil, .nil, _ => .nil
  | _, _, _, .cons a l, .cons r rs, h => by
    rw [kOks, Bool.and_eq_true] at h
    exact .cons (Rep.nested I a r h.1) (RepL.nested I l rs h.2)
end
/-! ### what a dict's object says -/
abbrev EsXs : List (NestedKey × Addr × V) → List (NestedKey × Addr × Value) → Prop := Paired fun p q => p.1 = q.1 ∧ p.2.1 = q.2.1 ∧ RelV p.2.2 q.2.2
theorem RepKV.is {K : PySem.W.Frag} (I : Inv X pins σ H s) (hK : K = X.K) : ∀ {kvs : List (D × D)} {es : List (NestedKey × Addr × V)} {xs : List (NestedKey × Addr × Value)}, RepKV K H kvs es → EsXs es xs → ∀ x ∈ xs, (nestedKind X.prog X.w).is s.heap x.1 x.2.1
  | _, _, _, .nil, .nil, x, hx => nomatch hx
  | _, _, _, .cons a b c d e, .cons ⟨h1, h2, _⟩ t, x, hx => by
    subst hK
    rcases List.mem_cons.mp hx with rfl | hx
    · rw [← h1, ← h2]
      exact ⟨Rep.nested I a rfl b, c⟩
    · exact RepKV.is I rfl e t x hx
theorem dict_of {a : Addr} {kvs : List (D × D)} {es : List (NestedKey × Addr × V)} (I : Inv X pins σ H s) (h : H a = some (DictO X.w a es)) (r : RepKV X.K H kvs es) :
    (a == sysModules) = false ∧ ∃ xs, EsXs es xs ∧ s.heap.DictOfH (nestedKind X.prog X.w) a xs := by
  obtain ⟨⟨xs, pr, ⟨o, ents, ep, h1, h2, h3, h4⟩, nd, hs⟩, _, _⟩ := I.hok a _ h
  exact ⟨hs, xs, pr, o, ents, ep, h1, h2, h3, h4, RepKV.is I rfl r pr, nd⟩
theorem dict_new {P : Program} {w : World} {H' : Hp} {h : Heap} {a : Addr} {es : List (NestedKey × Addr × V)} {xs : List (NestedKey × Addr × Value)} (hs : (a == sysModules) = false) (pr : EsXs es xs) (dd : h.DictOfH (nestedKind P w) a xs) : ObjOk P w H' h a (DictO w a es) := by
  obtain ⟨o, ents, ep, h1, h2, h3, h4, _, nd⟩ := dd
  refine ⟨⟨xs, pr, ⟨o, ents, ep, h1, h2, h3, h4⟩, nd, hs⟩, ⟨o, h1⟩, fun g1 g2 ⟨ys, py, ⟨o', en, e', k1, k2, k3, k4⟩, nd', hs'⟩ k => ⟨ys, py, ⟨o', en, e', k o' k1, k2, k3, k4⟩, nd', hs'⟩⟩
/-! ### looking up, storing -/
def atV (es : List (NestedKey × Addr × V)) (k : NestedKey) : Option V := (es.find? fun x => decide (x.1 = k)).map fun x => x.2.2
def dget (kvs : List (D × D)) (k : D) : Option D := (kvs.find? fun p => decide (nk p.1 = nk k)).map (·.2)
def dhas (kvs : List (D × D)) (k : D) : Bool := kvs.any fun p => decide (nk p.1 = nk k)
def dput (kvs : List (D × D)) (k v : D) : List (D × D) := if dhas kvs k = true then kvs.map fun p => if nk p.1 = nk k then (p.1, v) else p else kvs ++ [(k, v)]
def storeV (es : List (NestedKey × Addr × V)) (k : NestedKey) (b : Addr) (y : V) : List (NestedKey × Addr × V) := if (es.any fun x => decide (x.1 = k)) = true then es.map fun x => if x.1 = k then (x.1, x.2.1, y) else x else es ++ [(k, b, y)]
theorem atV_at : ∀ {es : List (NestedKey × Addr × V)} {xs : List (NestedKey × Addr × Value)} {k : NestedKey}, EsXs es xs → RelO (atV es k) ((atKey xs k).map (·.2))
  | _, _, k, .nil => by
    show RelO none none
    trivial
  | _, _, k, .cons (a := p) (b := q) ⟨h1, h2, h3⟩ t => by
    have ih := atV_at (k := k) t
    unfold atV atKey at ih ⊢
    rw [List.find?_cons, List.find?_cons, ← h1]
    cases decide (p.1 = k) with
    | true => exact h3
    | false => exact ih
theorem dget_at {K : PySem.W.Frag} : ∀ {kvs : List (D × D)} {es : List (NestedKey × Addr × V)} {k : D}, RepKV K H kvs es → (dget kvs k = none ∧ atV es (nk k) = none) ∨ ∃ d y, dget kvs k = some d ∧ atV es (nk k) = some y ∧ Rep K H d y
  | _, _, k, .nil => .inl ⟨rfl, rfl⟩
  | _, _, k, .cons (k := k1) a b c d e => by
    have ih := dget_at (k := k) e
    unfold dget atV at ih ⊢
    rw [List.find?_cons, List.find?_cons]
    show (_ ∧ _) ∨ _
    cases hk : decide (nk k1 = nk k) with
    | true => exact .inr ⟨_, _, rfl, rfl, d⟩
    | false => exact ih
theorem any_at : ∀ {es : List (NestedKey × Addr × V)} {xs : List (NestedKey × Addr × Value)} {k : NestedKey}, EsXs es xs → (atKey xs k).isSome = es.any fun x => decide (x.1 = k)
  | _, _, k, .nil => rfl
  | _, _, k, .cons (a := p) (b := q) ⟨h1, h2, h3⟩ t => by
    have ih := any_at (k := k) t
    unfold atKey at ih ⊢
    rw [List.find?_cons, List.any_cons, ← h1]
    cases decide (p.1 = k) with
    | true => rfl
    | false => exact ih
theorem EsXs.put {k : NestedKey} {y : V} {r : Value} (ry : RelV y r) : ∀ {es : List (NestedKey × Addr × V)} {xs : List (NestedKey × Addr × Value)}, EsXs es xs → EsXs (es.map fun x => if x.1 = k then (x.1, x.2.1, y) else x) (xs.map (putAt k r))
  | _, _, .nil => .nil
  | _, _, .cons (a := p) (b := q) h t => by
    refine .cons ?_ (EsXs.put ry t)
    obtain ⟨h1, h2, h3⟩ := h
    by_cases c : p.1 = k
    · have hq : q.1 = k := by rw [← h1]; exact c
      simp only [putAt, if_pos c, if_pos hq]
      exact ⟨h1, h2, ry⟩
    · have hq : ¬ q.1 = k := by rw [← h1]; exact c
      simp only [putAt, if_neg c, if_neg hq]
      exact ⟨h1, h2, h3⟩
theorem EsXs.store {es : List (NestedKey × Addr × V)} {xs : List (NestedKey × Addr × Value)} {k : NestedKey} {b : Addr} {y : V} {r : Value} (p : EsXs es xs) (ry : RelV y r) : EsXs (storeV es k b y) (storedH xs k b r) := by
  unfold storeV storedH
  rw [any_at p]
  split
  · exact EsXs.put ry p
  · exact Paired.snoc p ⟨rfl, rfl, ry⟩
theorem has_any {K : PySem.W.Frag} {k : D} : ∀ {kvs : List (D × D)} {es : List (NestedKey × Addr × V)}, RepKV K H kvs es → (es.any fun x => decide (x.1 = nk k)) = dhas kvs k
  | _, _, .nil => rfl
  | _, _, .cons _ _ _ _ e => by
    have ih := has_any (k := k) e
    unfold dhas at ih ⊢
    rw [List.any_cons, List.any_cons, ih]
theorem RepKV.len {K : PySem.W.Frag} : ∀ {kvs : List (D × D)} {es : List (NestedKey × Addr × V)}, RepKV K H kvs es → kvs.length = es.length
  | _, _, .nil => rfl
  | _, _, .cons _ _ _ _ e => by rw [List.length_cons, List.length_cons, RepKV.len e]
theorem RepKV.put {K : PySem.W.Frag} {k v : D} {y : V} (rv : Rep K H v y) : ∀ {kvs : List (D × D)} {es : List (NestedKey × Addr × V)}, RepKV K H kvs es →
    RepKV K H (kvs.map fun p => if nk p.1 = nk k then (p.1, v) else p) (es.map fun x => if x.1 = nk k then (x.1, x.2.1, y) else x)
  | _, _, .nil => .nil
  | _, _, .cons (k := k1) a b c d e => by
    rw [List.map_cons, List.map_cons]
    by_cases h : nk k1 = nk k
    · rw [if_pos h, if_pos h]
      exact .cons a b c rv (RepKV.put rv e)
    · rw [if_neg h, if_neg h]
      exact .cons a b c d (RepKV.put rv e)
theorem RepKV.snoc {K : PySem.W.Frag} {k v : D} {b : Addr} {y : V} (rk : Rep K H k (.ref b)) (hk : kOk k = true) (hd : (nk k).depth ≤ 8) (rv : Rep K H v y) : ∀ {kvs : List (D × D)} {es : List (NestedKey × Addr × V)}, RepKV K H kvs es → RepKV K H (kvs ++ [(k, v)]) (es ++ [(nk k, b, y)])
  | _, _, .nil => .cons rk hk hd rv .nil
  | _, _, .cons a b c d e => .cons a b c d (RepKV.snoc rk hk hd rv e)
theorem RepKV.store {K : PySem.W.Frag} {k v : D} {b : Addr} {y : V} {kvs : List (D × D)} {es : List (NestedKey × Addr × V)} (r : RepKV K H kvs es) (rk : Rep K H k (.ref b)) (hk : kOk k = true) (hd : (nk k).depth ≤ 8) (rv : Rep K H v y) :
    RepKV K H (dput kvs k v) (storeV es (nk k) b y) := by
  unfold dput storeV
  rw [has_any r]
  split
  · exact RepKV.put rv r
  · exact RepKV.snoc rk hk hd rv r
theorem storeV_len (es : List (NestedKey × Addr × V)) (k : NestedKey) (b : Addr) (y : V) : (storeV es k b y).length ≤ es.length + 1 := by
  unfold storeV
  split
  · rw [List.length_map]
    omega
  · rw [List.length_append, List.length_singleton]
    exact Nat.le_refl _
/-- d[k] = v -/
theorem dict_set {a b : Addr} {k : D} {y : V} {r : Value} {kvs : List (D × D)} {es : List (NestedKey × Addr × V)} {Q : Unit → Shared → Prop} {E : Value → Shared → Prop} (hu : X.A.units + 8 < cLine) (I : Inv X pins σ H s) (h : H a = some (DictO X.w a es)) (rkv : RepKV X.K H kvs es)
    (hz : es.length ≤ sizeLine) (rk : Rep X.K H k (.ref b)) (hk : kOk k = true) (hd : (nk k).depth ≤ 8) (ry : RelV y r) (cont : ∀ s', Inv X pins σ (upd H a (DictO X.w a (storeV es (nk k) b y))) s' → Q () s') :
    wpAny (model X.prog X.w) X.A (dictSet a (.ref b) r) Q E s := by
  obtain ⟨hs, xs, pr, dd⟩ := dict_of I h rkv
  have hl : xs.length ≤ sizeLine := by rw [← pr.length]; exact hz
  refine wpAny_dictSet_heap (knd := nestedKind X.prog X.w) (hsz := hl) hu ⟨Rep.nested I rk rfl hk, hd⟩ dd fun h' dd' hsb => cont _ ?_
  obtain ⟨o', _, _, ho', _⟩ := id dd'
  exact d_write I (by rw [h]; exact True.intro) hsb ⟨o', ho'⟩ (dict_new hs (EsXs.store pr ry) dd')
end
/-! ### the mutable part -/
/-- a code object is no dict -/
theorem code_ne_dict {w : World} {p : Addr} {q : Str} {es : List (NestedKey × Addr × V)} : LamX.CodeO p q ≠ DictO w p es := fun z => by
  unfold LamX.CodeO DictO at z
  injection z with z
  have hg : (⟨Array.replicate (p + 1) { cls := .none, data := .fields #[.none, .str q 0] }, {}⟩ : Heap).get? p = some { cls := .none, data := .fields #[.none, .str q 0] } := by
    show (match (Array.replicate (p + 1) ({ cls := .none, data := .fields #[.none, .str q 0] } : Obj))[p]? with | some ⟨_, _, .freed, _⟩ => none | o => o) = _
    rw [Array.getElem?_replicate, if_pos (Nat.lt_succ_self p)]
  have h1 : (fun h : Heap => ∃ (oc : Obj) (vs : Array Value) (t : Tok), h.get? p = some oc ∧ oc.data = .fields vs ∧ vs[1]? = some (.str q t)) ⟨Array.replicate (p + 1) { cls := .none, data := .fields #[.none, .str q 0] }, {}⟩ := ⟨_, _, 0, hg, rfl, rfl⟩
  rw [z] at h1
  obtain ⟨xs, _, ⟨o, ents, ep, e1, _, e3, _⟩, _⟩ := h1
  rw [hg] at e1
  cases e1
  cases e3
theorem Grow.dct {H : Hp} {w : World} {p : Addr} {es : List (NestedKey × Addr × V)} {o : HO} (h : H p = some (DictO w p es)) : Grow H (upd H p o) :=
  ⟨fun b xs e => by rw [upd_ne (ne_of e h (by intro z; cases z))]; exact e, fun b q u e => by rw [upd_ne (ne_of e h (by intro z; cases z))]; exact e, fun b q e => by
    by_cases hb : b = p
    · subst hb
      rw [h] at e
      exact absurd (Option.some.inj e).symm code_ne_dict
    · rw [upd_ne hb]
      exact e⟩
theorem RM.putDct {K : PySem.W.Frag} {H : Hp} {M : DM} {w : World} {p : Addr} {es es' : List (NestedKey × Addr × V)} {kvs : List (D × D)} (h : RM K H M) (hp : H p = some (DictO w p es)) (hz : es'.length ≤ sizeLine) (l : RepKV K H kvs es') :
    RM K (upd H p (DictO w p es')) (mput M p (.dct w kvs)) := fun a q e => by
  have g : Grow H (upd H p (DictO w p es')) := Grow.dct hp
  by_cases ha : a = p
  · subst ha
    rw [mput_same] at e
    cases e
    exact ⟨es', upd_same, hz, l.grow g⟩
  · rw [mput_ne ha] at e
    exact (h a q e).stay (upd_ne ha) g
theorem RM.newDct {K : PySem.W.Frag} {H : Hp} {M : DM} {w : World} {p : Addr} (h : RM K H M) (hp : H p = none) : RM K (upd H p (DictO w p [])) (mput M p (.dct w [])) := fun a q e => by
  by_cases ha : a = p
  · subst ha
    rw [mput_same] at e
    cases e
    exact ⟨[], upd_same, Nat.zero_le _, .nil⟩
  · rw [mput_ne ha] at e
    exact h.new hp a q e
theorem RM.dct {K : PySem.W.Frag} {H : Hp} {M : DM} {w : World} {a : Addr} {kvs : List (D × D)} (h : RM K H M) (e : M a = some (.dct w kvs)) : ∃ es, H a = some (DictO w a es) ∧ es.length ≤ sizeLine ∧ RepKV K H kvs es := h a _ e
/-! ### d.get(k) -/
section
variable {X : Cx} {o e : Expr} {apos cpos : Pos} {to te : DTE}
/-- what may be a key -/
def isKey (k : D) : Prop := (∃ xs, k = .tup xs) ∧ kOk k = true ∧ (nk k).depth ≤ 8
def dDGet1 (w : World) (to te : DTE) : DTE := fun m M Q => to m M fun d M1 => ∃ a, d = .ref a ∧ (∃ kvs, M1 a = some (.dct w kvs)) ∧ te m M1 fun k M2 => ∃ kvs, M2 a = some (.dct w kvs) ∧ isKey k ∧ Q ((dget kvs k).getD .non) M2
theorem d_dget1 {w : World} (hw : X.w = w) (hu : X.A.units + 9 < cLine) (ho : DE X o to) (he : DE X e te) (m : M1 X o "get" apos e cpos := by exact ⟨by rfl, by rfl, by rfl, by rfl⟩) : DE X (.Call (.Attribute o "get" apos) [e] [] cpos) (dDGet1 w to te) := by
  subst hw
  refine ⟨fun pins s σ H Q I ⟨m0, M, Q', r, q, kk⟩ => ?_⟩
  refine wpAny_Call_method m.base m.few m.line PySem.F.plainAttrs_dict PySem.F.slot_dict_get PySem.F.type_dict_get (thn (ho.run pins s σ H (fun x H1 => ∃ a M1, x = .ref a ∧ Grow H H1 ∧ RM X.K H1 M1 ∧ (∃ kvs, M1 a = some (.dct X.w kvs)) ∧ te m0 M1 fun k M2 => ∃ kvs, M2 a = some (.dct X.w kvs) ∧ isKey k ∧ Q' ((dget kvs k).getD .non) M2) I
    ⟨m0, M, _, r, q, fun d v M1 H1 g1 r1 m1 ⟨a, e1, h1, q1⟩ => by subst e1; cases r1; exact ⟨a, M1, rfl, g1, m1, h1, q1⟩⟩) fun u s1 ⟨x, H1, I1, rx, a, M1, ex, g1, m1, ⟨kvs, hk⟩, q1⟩ => ?_)
  subst ex
  obtain rfl : u = Value.ref a := rx
  obtain ⟨es, h1, hz, rkv⟩ := m1.dct hk
  obtain ⟨hs, xs, pr, dd⟩ := dict_of I1 h1 rkv
  refine ⟨dd.typeIs, fun b hb => ?_, ?_⟩
  · cases hb
    obtain ⟨ob, _, _, k1, k2, _⟩ := dd
    exact ⟨ob, k1, k2.2.1⟩
  rw [m.trees]
  refine Calls.callWith_builtin rfl (Calls.evalArgs_plain (Calls.spliced_cons (thn (he.run pins s1 σ H1 (fun y H2 => ∃ k M2 kvs, Rep X.K H2 k y ∧ Grow H H2 ∧ RM X.K H2 M2 ∧ M2 a = some (.dct X.w kvs) ∧ isKey k ∧ Q' ((dget kvs k).getD .non) M2) I1
    ⟨m0, M1, _, r.grow g1 m1, q1, fun d v M2 H2 g2 r2 m2 ⟨kvs, e1, ky, q2⟩ => ⟨d, M2, kvs, r2, g1.trans g2, m2, e1, ky, q2⟩⟩) fun iv s2 ⟨y, H2, I2, ry, k, M2, kvs2, r2, g2, m2, e2, ⟨⟨ks, ek⟩, hok, hdp⟩, q2⟩ => Calls.spliced_nil ?_)))
  subst ek
  cases r2 with
  | @tup _ b vs hf z l =>
    obtain rfl : iv = Value.ref b := ry
    obtain ⟨es2, h2, hz2, rkv2⟩ := m2.dct e2
    obtain ⟨hs2, xs2, pr2, dd2⟩ := dict_of I2 h2 rkv2
    have rk : Rep X.K H2 (.tup ks) (.ref b) := .tup hf z l
    refine call_meetsIn PySem.F.slot_dict_get dd2.typeIs PySem.F.entry_dict_get (PySem.F.args_dict_get_2 _ _) (meetsH_dict_get (nestedKind X.prog X.w) a b hs2) ⟨?_, nk (.tup ks), xs2, ⟨Rep.nested I2 rk rfl hok, hdp⟩, dd2, ?_⟩
    · show X.A.units + 1 + 8 < cLine
      omega
    · have ra := atV_at (k := nk (.tup ks)) pr2
      rcases dget_at (k := .tup ks) rkv2 with ⟨n1, n2⟩ | ⟨d, y', n1, n2, rd⟩
      · rw [n2] at ra
        rw [n1] at q2
        cases ha : (atKey xs2 (nk (.tup ks))).map (·.2) with
        | some v => rw [ha] at ra; exact ra.elim
        | none => exact ⟨.non, H2, I2.tok _, rfl, kk _ _ M2 H2 g2 .non m2 q2⟩
      · rw [n2] at ra
        rw [n1] at q2
        cases ha : (atKey xs2 (nk (.tup ks))).map (·.2) with
        | some v =>
          rw [ha] at ra
          exact ⟨y', H2, I2.tok _, ra, kk _ _ M2 H2 g2 rd m2 q2⟩
        | none => rw [ha] at ra; exact ra.elim
end
end DL
/-! {k: v for .. in ..}, the keys tuples -/
namespace DL
open PySem PySem.Spec PyProof.Rows L2

section
variable {X : Cx}
/-- the reading over V: D the new dict -/
def tDcN (K : PySem.W.Frag) (w : World) (wi : TI) (g : TG) (tt : TT) (tk tv : TE) (vs : List Nat) : TE := fun σ H Q => wi σ H fun J H1 => ∀ da, H1 da = none → ∃ W : Nat → Nat → Hp → Prop, (∃ m, W 0 m (upd H1 da (DictO w da []))) ∧
  ∀ i m H, W i m H → (J.stop i H ∧ Q (.ref da) H) ∨ (J.go i H ∧ ∃ Nx : Hp → Prop, (∀ H', Nx H' → ∃ m', m' < m ∧ W (i + 1) m' H') ∧ ∀ x H', J.yld i H x H' → g x (wipe σ vs) H' fun σ2 H2 => wipe σ2 vs = wipe σ vs ∧ tt σ2 H2 fun c H3 =>
    if c = true then tk σ2 H3 fun y H4 => tv σ2 H4 fun z H5 => ∃ (k : D) (b : Addr) (kvs : List (D × D)) (es : List (NestedKey × Addr × V)), y = .ref b ∧ H5 da = some (DictO w da es) ∧ RepKV K H5 kvs es ∧ es.length ≤ sizeLine ∧ Rep K H5 k (.ref b) ∧ kOk k = true ∧ (nk k).depth ≤ 8 ∧
      Nx (upd H5 da (DictO w da (storeV es (nk k) b z))) else Nx H3)
theorem empty_dict {P : Program} {w : World} {H : Hp} (h : Heap) (hb : sysModules < h.objs.size) : ObjOk P w H (h.push { cls := .type "dict", data := .dict #[] }) h.objs.size (DictO w h.objs.size []) :=
  dict_new (P := P) (beq_eq_false_iff_ne.mpr (Ne.symm (Nat.ne_of_lt hb))) .nil (Heap.DictOfH.new h)
theorem dc_core {pins : List (Addr × Obj)} {s : Shared} {σ : SL} {H : Hp} {Q : VK} {pos' : Pos} {use : Option (Value → Sem Unit)} {Qf : Value → Shared → Prop} {kx vx tg iter : Expr} {ifs : List Expr} {scope : Scope} {own : List (Str × Nat)} {pos : Pos} {wi : TI} {g : TG} {tt : TT} {tk tv : TE} (hu : X.A.units + 8 < cLine) (hc : X.calm = true) (hN : X.N.Nodup) (hi : PI X tg iter wi) (ok : BlkOk X.N X.env.scope scope own)
    (pg : ∀ (s : Shared) (H : Hp) (C : Addr) (cl : List (Str × Addr)) (fp : List Addr), PG (X.blk s H scope (compEnvC scope cl C X.env) fp) tg g)
    (pt : ∀ (s : Shared) (H : Hp) (C : Addr) (cl : List (Str × Addr)) (fp : List Addr), PTs (X.blk s H scope (compEnvC scope cl C X.env) fp) ifs tt)
    (pk : ∀ (s : Shared) (H : Hp) (C : Addr) (cl : List (Str × Addr)) (fp : List Addr), PE (X.blk s H scope (compEnvC scope cl C X.env) fp) kx tk)
    (pv : ∀ (s : Shared) (H : Hp) (C : Addr) (cl : List (Str × Addr)) (fp : List Addr), PE (X.blk s H scope (compEnvC scope cl C X.env) fp) vx tv) (hs : ∀ x, foldedSetIterable iter X.env x = pure x) (I : Inv X pins σ H s)
    (q0 : tDcN X.K X.w wi g tt tk tv (own.map (·.2)) σ H Q) (hRR : ∀ D C s' m H', Inv X pins σ H' s' → Q (.ref D) H' → s'.heap.Ns C m → FpOk X pins H' C → compPost (model X.prog X.w) X.A X.xe use Qf (.ref D) C (.ok .next) s') :
    wpAny (model X.prog X.w) X.A (comprehension (.DictComp kx vx [⟨tg, iter, ifs, 0⟩] scope pos) scope X.env pos' newDict false (eval iter X.env) use) Qf X.xe s := by
  have cap : ∀ y ∈ scope.names, y.2 = .free → ∃ c, X.env.cells.lookup y.1 = some c := by
    intro y hy e
    exact (ok.free y hy e).elim (fun z => I.ok.has _ (.inl z)) fun z => I.ok.has _ (.inr z)
  refine wpAny_comprehension_free (use := use) rfl hs (closure_ok cap) ok.kind (fun y hy e => by rw [ok.uniq y hy, e]) (thn (hi.run pins s σ H _ I q0) fun src sa wa => thn wa fun out sb wb => ?_)
  obtain ⟨itA, ch, tn, J, Hb, rfl, Ib, Tn, stb, fpb, cont⟩ := wb
  refine wpAny_newObj_type (newEnv_comp ?_)
  -- the new dict
  obtain ⟨da, eda⟩ : ∃ da, da = sb.heap.objs.size := ⟨_, rfl⟩
  have nda : Hb da = none := Ib.hok.fresh (by rw [eda]; exact Nat.le_refl _)
  obtain ⟨W, ⟨m0, w0⟩, turn⟩ := cont da nda
  obtain ⟨sc, esc⟩ : ∃ sc : Shared, sc = { sb with heap := sb.heap.push { cls := .type "dict", data := .dict #[] } } := ⟨_, rfl⟩
  obtain ⟨Hc, eHc⟩ : ∃ Hc : Hp, Hc = upd Hb da (DictO X.w da []) := ⟨_, rfl⟩
  have hsc : sc.heap = sb.heap.push { cls := .type "dict", data := .dict #[] } := by rw [esc]
  have Ic : Inv X pins σ Hc sc := by
    rw [eHc, esc, eda]
    exact Ib.laid (t' := sb.toks) (fun b o e => Heap.get?_push_of_some _ e) (Nat.le_refl _) (empty_dict sb.heap Ib.big)
  have fpc : ∀ b ∈ ch, FpOk X pins Hc b ∧ b < sc.heap.objs.size := by
    intro b hb
    obtain ⟨o, e, _⟩ := Tn.obj _ _ stb b hb
    have lt := Heap.lt_size e
    constructor
    · refine ⟨?_, (fpb b hb).2⟩
      rw [eHc, upd_ne (by rw [eda]; exact Nat.ne_of_lt lt)]
      exact (fpb b hb).1
    · rw [hsc, Heap.size_push]
      exact Nat.lt_succ_of_lt lt
  have stc : tn 0 sc.heap := Tn.keep _ _ _ stb fun b _ o e => by rw [hsc]; exact Heap.get?_push_of_some _ e
  have Id := block_start Ic ok hN fpc
  rw [← eHc] at w0
  obtain ⟨cl, ecl⟩ : ∃ cl, cl = cellsFrom (sc.heap.objs.size + 1) scope.names (cloFrom X.env.cells scope.names []) := ⟨_, rfl⟩
  obtain ⟨ce, ece⟩ : ∃ ce : Env, ce = compEnvC scope cl sc.heap.objs.size X.env := ⟨_, rfl⟩
  obtain ⟨sd, esd⟩ : ∃ sd : Shared, sd = { sc with heap := pushCells (sc.heap.push { cls := .type "dict", data := .dict #[] }) scope.names } := ⟨_, rfl⟩
  suffices main : codeAny (model X.prog X.w) X.A (.compStart (.DictComp kx vx [⟨tg, iter, ifs, 0⟩] scope pos) 0 (.ref itA) (.ref da) ce) (compPost (model X.prog X.w) X.A X.xe use Qf (.ref da) sc.heap.objs.size) sd by
    rw [ece, ecl, esd, esc, eda] at main
    exact main
  rw [← ecl, ← ece, ← esd] at Id
  have locC : ce.locals = sc.heap.objs.size := by rw [ece]; rfl
  have std : tn 0 sd.heap := Tn.keep _ _ _ stc fun b _ o e => by
    rw [esd]
    exact pushCells_keeps _ _ _ _ (Heap.get?_push_of_some _ e)
  have still : ∀ {τ : SL} {H' : Hp} {t : Shared}, Inv (X.blk sc Hc scope ce ch) [] τ H' t → (∀ b ∈ ch, H' b = none) → ∀ b ∈ ch, FpOk (X.blk sc Hc scope ce ch) [] H' b := by
    intro τ H' t J' hn b hb
    exact ⟨hn b hb, (J'.ok.exf b hb).1, J'.ok.exfs b hb, .inl hb, fun x c e => (J'.ok.exf b hb).2 x c e, fun p hp => absurd (show p ∈ ([] : List (Addr × Obj)) ++ [] from hp) (by simp)⟩
  have Pg := pg sc Hc sc.heap.objs.size cl ch
  have Pt := pt sc Hc sc.heap.objs.size cl ch
  have Pk := pk sc Hc sc.heap.objs.size cl ch
  have Pv := pv sc Hc sc.heap.objs.size cl ch
  rw [← ece] at Pg Pt Pk Pv
  have walk : codeAny (model X.prog X.w) X.A (.compLoop (.DictComp kx vx [⟨tg, iter, ifs, 0⟩] scope pos) 0 (.ref itA) (.ref da) ce) (compPost (model X.prog X.w) X.A X.xe use Qf (.ref da) sc.heap.objs.size) sd := by
    refine compLoop_anyD (fun n t => ∃ i H', Inv (X.blk sc Hc scope ce ch) [] (wipe σ (own.map (·.2))) H' t ∧ tn i t.heap ∧ (∀ b ∈ ch, H' b = none) ∧ W i n H') (fun n t ⟨i, Ht, It, stt, nt, wt⟩ => ?_) m0 ⟨0, Hc, Id, std, fun b hb => (fpc b hb).1.1, w0⟩
    rcases turn i n Ht wt with ⟨stop, fin⟩ | ⟨go, Nx, less, step⟩
    · refine thnF (Tn.done (X.blk sc Hc scope ce ch) rfl rfl rfl hc i [] t _ Ht (fun _ _ => False) It (still It nt) stt stop) fun r t1 ⟨hr, I1⟩ => ?_
      subst hr
      have I2 : Inv X pins σ Ht t1 := Ic.call' (ch := ch) I1.os I1.base I1.hok I1.bare fun b hb => by
        obtain ⟨_, f1, _, f3, f4, f5⟩ := (fpc b hb).1
        exact ⟨f3, f1, f4, f5⟩
      have nC : Ht sc.heap.objs.size = none := by
        have z : Ht ce.locals = none := I1.free
        rwa [locC] at z
      obtain ⟨mm, hm, _⟩ := I1.loc
      have hm : t1.heap.Ns ce.locals mm := hm
      rw [locC] at hm
      exact hRR da _ t1 mm Ht I2 fin hm (Ic.fpOk (Nat.le_refl _) nC)
    · refine thnF (Tn.item (X.blk sc Hc scope ce ch) rfl rfl rfl hc i [] t _ Ht (fun _ _ => False) It (still It nt) stt go) fun r t1 ⟨u, hr, hu1⟩ => ?_
      subst hr
      refine thnF hu1 fun _ t2 ⟨x, H2, I2, rx, y2, st2, n2⟩ => ?_
      refine thnF (Pg.run _ t2 _ H2 x u _ (I2.pinned (still I2 n2) (Tn.obj _ _ st2)) rx (step x H2 y2)) fun _ t3 ⟨σ3, H3, I3, hw, q3⟩ => ?_
      refine thnF (Pt.run _ t3 σ3 H3 _ I3 q3) fun c t4 ⟨H4, I4, q4⟩ => ?_
      have close : ∀ {t' : Shared} {H' : Hp}, Inv (X.blk sc Hc scope ce ch) ([] ++ pinsAt ch t2.heap) σ3 H' t' → Nx H' → ∃ m, m < n ∧ ∃ i H', Inv (X.blk sc Hc scope ce ch) [] (wipe σ (own.map (·.2))) H' t' ∧ tn i t'.heap ∧ (∀ b ∈ ch, H' b = none) ∧ W i m H' := by
        intro t' H' I' nx
        obtain ⟨m', hm, w'⟩ := less H' nx
        have held : ∀ b ∈ ch, ∀ o, t2.heap.get? b = some o → t'.heap.get? b = some o ∧ H' b = none := by
          intro b hb o e
          have z := I'.pin (b, o) (List.mem_append_right _ (List.mem_append_right _ (mem_pinsAt hb e)))
          exact ⟨z.1, z.2.1⟩
        refine ⟨m', hm, i + 1, H', (I'.unpinned (pins := [])).weak (by rw [← hw, wipe_length]) (fun j v e => ?_), Tn.keep _ _ _ st2 fun b hb o e => (held b hb o e).1, fun b hb => ?_, w'⟩
        · rw [← hw] at e
          exact (wipe_some e).1
        · obtain ⟨o, e, _⟩ := Tn.obj _ _ st2 b hb
          exact (held b hb o e).2
      cases c with
      | false =>
        simp only [Bool.false_eq_true, if_false] at q4 ⊢
        exact close I4 q4
      | true =>
        simp only [if_true] at q4 ⊢
        refine thnF (Pk.run _ t4 σ3 H4 _ I4 q4) fun z t5 ⟨yk, H5, I5, r5, q5⟩ => ?_
        refine thnF (Pv.run _ t5 σ3 H5 _ I5 q5) fun z2 t6 ⟨yv, H6, I6, r6, k, b, kvs, es, ek, h6, rkv, hz, rk, hk, hd, nx⟩ => ?_
        subst ek
        obtain rfl : z = Value.ref b := r5
        exact dict_set (X := X.blk sc Hc scope ce ch) hu I6 h6 rkv hz rk hk hd r6 fun t7 I7 => close I7 nx
  exact codeAny_compStart_dict walk (Tn.self X.A 0 _ _ _ std walk)
theorem pe_dcN {kx vx tg iter : Expr} {ifs : List Expr} {scope : Scope} {own : List (Str × Nat)} {pos : Pos} {wi : TI} {g : TG} {tt : TT} {tk tv : TE} (hu : X.A.units + 8 < cLine) (hc : X.calm = true) (hN : X.N.Nodup) (hi : PI X tg iter wi) (ok : BlkOk X.N X.env.scope scope own)
    (pg : ∀ (s : Shared) (H : Hp) (C : Addr) (cl : List (Str × Addr)) (fp : List Addr), PG (X.blk s H scope (compEnvC scope cl C X.env) fp) tg g)
    (pt : ∀ (s : Shared) (H : Hp) (C : Addr) (cl : List (Str × Addr)) (fp : List Addr), PTs (X.blk s H scope (compEnvC scope cl C X.env) fp) ifs tt)
    (pk : ∀ (s : Shared) (H : Hp) (C : Addr) (cl : List (Str × Addr)) (fp : List Addr), PE (X.blk s H scope (compEnvC scope cl C X.env) fp) kx tk)
    (pv : ∀ (s : Shared) (H : Hp) (C : Addr) (cl : List (Str × Addr)) (fp : List Addr), PE (X.blk s H scope (compEnvC scope cl C X.env) fp) vx tv) (hs : ∀ x, foldedSetIterable iter X.env x = pure x := by intro _; rfl) :
    PE X (.DictComp kx vx [⟨tg, iter, ifs, 0⟩] scope pos) (tDcN X.K X.w wi g tt tk tv (own.map (·.2))) := by
  refine ⟨fun pins s σ H Q I q0 => ?_⟩
  rw [arm_eval_DictComp]
  refine dc_core (Qf := EP X pins σ Q) hu hc hN hi ok pg pt pk pv hs I q0 fun D C s' m H' I' q hn f => ?_
  obtain ⟨f0, f1, f2, f3, f4, f5⟩ := f
  exact ⟨m, hn, fun h'' sb' => ⟨.ref D, H', I'.turned (t' := s'.toks) (fun b o hb e => (sb'.2 b hb).trans e) f0 f1 f3 f4 f5, rfl, q⟩⟩
theorem ps_setDc {i : Nat} {y : Str} {py spos : Pos} {kx vx tg iter : Expr} {ifs : List Expr} {scope : Scope} {own : List (Str × Nat)} {pos : Pos} {wi : TI} {g : TG} {tt : TT} {tk tv : TE} (hu : X.A.units + 8 < cLine) (hc : X.calm = true) (hN : X.N.Nodup) (hy : X.N[i]? = some y) (hyl : X.env.scope.names.lookup y = some .local)
    (hsw : swapsWith (.DictComp kx vx [⟨tg, iter, ifs, 0⟩] scope pos) (some (.Name y py)) spos.line X.env = pure true) (hi : PI X tg iter wi) (ok : BlkOk X.N X.env.scope scope own)
    (pg : ∀ (s : Shared) (H : Hp) (C : Addr) (cl : List (Str × Addr)) (fp : List Addr), PG (X.blk s H scope (compEnvC scope cl C X.env) fp) tg g)
    (pt : ∀ (s : Shared) (H : Hp) (C : Addr) (cl : List (Str × Addr)) (fp : List Addr), PTs (X.blk s H scope (compEnvC scope cl C X.env) fp) ifs tt)
    (pk : ∀ (s : Shared) (H : Hp) (C : Addr) (cl : List (Str × Addr)) (fp : List Addr), PE (X.blk s H scope (compEnvC scope cl C X.env) fp) kx tk)
    (pv : ∀ (s : Shared) (H : Hp) (C : Addr) (cl : List (Str × Addr)) (fp : List Addr), PE (X.blk s H scope (compEnvC scope cl C X.env) fp) vx tv) (hs : ∀ x, foldedSetIterable iter X.env x = pure x := by intro _; rfl) :
    PS X (.Assign [.Name y py] (.DictComp kx vx [⟨tg, iter, ifs, 0⟩] scope pos) spos) (tAsg (tDcN X.K X.w wi g tt tk tv (own.map (·.2))) (gName i)) := by
  refine ⟨fun pins s σ H D I h => ?_⟩
  rw [exec_Assign_Name_used _ _ _ _ hsw]
  refine wpAny_bind (wpAny_standAt (wpAny_bind ?_))
  show wpAny _ X.A (do let _ ← comprehension (.DictComp kx vx [⟨tg, iter, ifs, 0⟩] scope pos) scope X.env (firstIterPos [⟨tg, iter, ifs, 0⟩] pos) newDict false (eval iter X.env) (some (assign (.Name y py) X.env))) _ _ s
  have h : tDcN X.K X.w wi g tt tk tv (own.map (·.2)) σ H (fun x H1 => gName i x σ H1 D.nx) := h
  refine wpAny_bind (thn (dc_core (Qf := fun _ s' => SP X pins D .next s') hu hc hN hi ok pg pt pk pv hs I h fun L C s' m H' I' q hn f => ?_) fun _ s' hq => wpAny_pure (wpAny_pure hq))
  show wpAny _ _ (assign (.Name y py) X.env (.ref L)) _ _ _
  refine wpAny_assign_Name (store_ok2 (v := V.ref L) I' hN hy (.inl hyl) rfl (fun s2 I2 ⟨a, sb, ha⟩ => ?_) (.inr hyl))
  obtain ⟨f0, f1, f2, f3, f4, f5⟩ := f
  have haC : C ≠ a := by
    rcases ha with z | z
    · rw [z]; exact f1
    · exact fun e => f4 y a z e.symm
  refine ⟨m, hn.sameBut sb haC, fun h3 sb3 => ?_⟩
  exact ⟨_, H', I2.turned (t' := s2.toks) (fun b o hb e => (sb3.2 b hb).trans e) f0 f1 f3 f4 f5, q⟩
theorem sw_trueD {kx vx : Expr} {gs : List Comprehension} {scope : Scope} {pos py : Pos} {y : Str} {l : Nat} {env : Env} (hk : env.scope.kind = .function) (hy : env.scope.names.lookup y = some .local) (hl : (py.line == pos.line) = true)
    (ha : (scope.names.any fun (n, k) => n == y && (k == .local || k == .cell)) = false) : swapsWith (.DictComp kx vx gs scope pos) (some (.Name y py)) l env = pure true := by
  have ky : env.kindOf y = some .local := hy
  have hb : env.blockKind = .function := by unfold Env.blockKind; rw [hk]; rfl
  unfold swapsWith
  simp only [hb, ky, ha, Expr.pos, hl]
  rfl
end
/-! ### over deep values -/
def dDcGo (w : World) (src : Src) (g : DTG) (tt : DTT) (tk tv : DTE) (m0 : DSt) (p : Addr) (Qd : List (D × D) → DM → Prop) : List D → List (D × D) → DM → Prop
  | [], acc, M => SrcV src M ∧ Qd acc M
  | d :: ds, acc, M => SrcV src M ∧ g d m0 M fun m1 M1 => tt m1 M1 fun b M2 =>
      if b = true then tk m1 M2 fun k M3 => tv m1 M3 fun v M4 => M4 p = some (.dct w acc) ∧ isKey k ∧ dDcGo w src g tt tk tv m0 p Qd ds (dput acc k v) (mput M4 p (.dct w (dput acc k v)))
      else M2 p = some (.dct w acc) ∧ dDcGo w src g tt tk tv m0 p Qd ds acc M2
def dDc (w : World) (t : DTI) (g : DTG) (tt : DTT) (tk tv : DTE) (vs : List Nat) : DTE := fun m M Q => t m M fun src M1 => src.1.length ≤ sizeLine → ∀ p, M1 p = none → dDcGo w src g tt tk tv (dwipe m vs) p (fun _ M2 => Q (.ref p) M2) src.1 [] (mput M1 p (.dct w []))
theorem dput_len (kvs : List (D × D)) (k v : D) : (dput kvs k v).length ≤ kvs.length + 1 := by
  unfold dput
  split
  · rw [List.length_map]
    omega
  · rw [List.length_append, List.length_singleton]
    exact Nat.le_refl _
section
variable {X : Cx} {kx vx tg iter : Expr} {ifs : List Expr} {scope : Scope} {own : List (Str × Nat)} {pos : Pos} {t : DTI} {g : DTG} {tt : DTT} {tk tv : DTE} {ws : List Nat}
theorem dc_up {σ : SL} {H : Hp} {m : DSt} {M : DM} {Qv : VK} {Qf : Addr → DM → Prop} {w : World} (hw : X.w = w) (hsub : ∀ i ∈ ws, i ∈ own.map (·.2)) (r : R X.K m M σ H)
    (q : t m M fun src M1 => src.1.length ≤ sizeLine → ∀ p, M1 p = none → dDcGo w src g tt tk tv (dwipe m (own.map (·.2))) p (fun _ M2 => Qf p M2) src.1 [] (mput M1 p (.dct w [])))
    (k : ∀ p M2 H2, Grow H H2 → RM X.K H2 M2 → Qf p M2 → Qv (.ref p) H2) : tDcN X.K X.w (upI X.K t) (upG X.K ws g) (upT X.K tt) (upE X.K tk) (upE X.K tv) (own.map (·.2)) σ H Qv := by
  subst hw
  refine ⟨m, M, _, r, q, fun src M1 H1 J g1 m1 q1 st p np => ?_⟩
  have q2 := q1 st.small p (m1.free np)
  have g2 : Grow H1 (upd H1 p (DictO X.w p [])) := .new np
  refine ⟨fun i n H2 => i + n = src.1.length ∧ Grow H1 H2 ∧ ∃ acc M2, acc.length ≤ i ∧ M2 p = some (.dct X.w acc) ∧ RM X.K H2 M2 ∧ dDcGo X.w src g tt tk tv (dwipe m (own.map (·.2))) p (fun _ M2 => Qf p M2) (src.1.drop i) acc M2,
    ⟨src.1.length, by omega, g2, [], _, Nat.le_refl _, mput_same, m1.newDct np, q2⟩, ?_⟩
  rintro i n H2 ⟨hl, g3, acc, M2, ha, hp, m2, q3⟩
  have r2 : R X.K (dwipe m (own.map (·.2))) M2 (wipe σ (own.map (·.2))) H2 := (r.wipe _).grow (g1.trans g3) m2
  by_cases hlt : i < src.1.length
  · rw [List.drop_eq_getElem_cons hlt] at q3
    obtain ⟨sv, q3⟩ := q3
    have so := sv.ok g3 m2
    refine .inr ⟨st.go i H2 so hlt, fun H3 => Grow H1 H3 ∧ ∃ acc M2, acc.length ≤ i + 1 ∧ M2 p = some (.dct X.w acc) ∧ RM X.K H3 M2 ∧ dDcGo X.w src g tt tk tv (dwipe m (own.map (·.2))) p (fun _ M2 => Qf p M2) (src.1.drop (i + 1)) acc M2,
      fun H3 ⟨g4, z⟩ => ⟨n - 1, by omega, by omega, g4, z⟩, fun x H3 y => ?_⟩
    obtain ⟨g4, k4, d, e4, rd⟩ := st.yld i H2 x H3 so hlt y
    have ed : d = src.1[i] := by
      rw [List.getElem?_eq_getElem hlt] at e4
      exact (Option.some.inj e4).symm
    subst ed
    refine ⟨_, _, M2, _, rd, r2.grow g4 (k4 _ m2), q3, fun m5 M5 σ5 H5 g5 r5 o5 q5 => ⟨wipe_off o5 hsub, ?_⟩⟩
    refine ⟨m5, M5, _, r5, q5, fun b M6 H6 g6 m6 q6 => ?_⟩
    have g06 : Grow H1 H6 := ((g3.trans g4).trans g5).trans g6
    cases b with
    | true =>
      refine ⟨m5, M6, _, r5.grow g6 m6, q6, fun kd kv M7 H7 g7 rk m7 q7 => ?_⟩
      refine ⟨m5, M7, _, (r5.grow g6 m6).grow g7 m7, q7, fun vd vv M8 H8 g8 rv m8 ⟨e8, ⟨⟨ks, ek⟩, hok, hdp⟩, q8⟩ => ?_⟩
      subst ek
      obtain ⟨es, h8, hz8, rkv⟩ := m8.dct e8
      cases rk with
      | @tup _ b vs hf z l =>
        have rk8 : Rep X.K H8 (.tup ks) (.ref b) := Rep.grow (.tup hf z l) g8
        have hlen : es.length < sizeLine := by
          rw [← rkv.len]
          exact Nat.lt_of_le_of_lt ha (Nat.lt_of_lt_of_le hlt st.small)
        have hz9 : (storeV es (nk (.tup ks)) b vv).length ≤ sizeLine := Nat.le_trans (storeV_len ..) hlen
        have ge : Grow H8 (upd H8 p (DictO X.w p (storeV es (nk (.tup ks)) b vv))) := Grow.dct h8
        refine ⟨.tup ks, b, acc, es, rfl, h8, rkv, hz8, rk8, hok, hdp, ((g06.trans g7).trans g8).trans ge, dput acc (.tup ks) vd, _, Nat.le_trans (dput_len ..) (Nat.succ_le_succ ha), mput_same, m8.putDct h8 hz9 (rkv.store rk8 hok hdp rv), q8⟩
    | false =>
      have q6' : M6 p = some (.dct X.w acc) ∧ dDcGo X.w src g tt tk tv (dwipe m (own.map (·.2))) p (fun _ M2 => Qf p M2) (src.1.drop (i + 1)) acc M6 := q6
      exact ⟨g06, acc, M6, by omega, q6'.1, m6, q6'.2⟩
  · have e : i = src.1.length := by omega
    subst e
    rw [List.drop_length] at q3
    exact .inl ⟨st.stop H2 (q3.1.ok g3 m2), k _ M2 H2 (g1.trans g3) m2 q3.2⟩
theorem d_dc {w : World} (hw : X.w = w) (hu : X.A.units + 8 < cLine) (hc : X.calm = true) (hN : X.N.Nodup) (hi : DI X tg iter t) (ok : BlkOk X.N X.env.scope scope own) (hsub : ∀ i ∈ ws, i ∈ own.map (·.2))
    (hg : ∀ (s : Shared) (H : Hp) (C : Addr) (cl : List (Str × Addr)) (fp : List Addr), DG (X.blk s H scope (compEnvC scope cl C X.env) fp) ws tg g)
    (ht : ∀ (s : Shared) (H : Hp) (C : Addr) (cl : List (Str × Addr)) (fp : List Addr), DPTs (X.blk s H scope (compEnvC scope cl C X.env) fp) ifs tt)
    (hk : ∀ (s : Shared) (H : Hp) (C : Addr) (cl : List (Str × Addr)) (fp : List Addr), DE (X.blk s H scope (compEnvC scope cl C X.env) fp) kx tk)
    (hv : ∀ (s : Shared) (H : Hp) (C : Addr) (cl : List (Str × Addr)) (fp : List Addr), DE (X.blk s H scope (compEnvC scope cl C X.env) fp) vx tv)
    (hs : ∀ x, foldedSetIterable iter X.env x = pure x := by intro _; rfl) : DE X (.DictComp kx vx [⟨tg, iter, ifs, 0⟩] scope pos) (dDc w t g tt tk tv (own.map (·.2))) := by
  subst hw
  exact imE (pe_dcN (wi := upI X.K t) (g := upG X.K ws g) (tt := upT X.K tt) (tk := upE X.K tk) (tv := upE X.K tv) hu hc hN hi ok hg ht hk hv hs) fun σ H Q ⟨m, M, Q', r, q, k⟩ =>
    dc_up rfl hsub r q fun p M2 H2 g2 m2 q2 => k _ _ M2 H2 g2 (.ref p) m2 q2
/-- name = {.. for ..} on one line -/
theorem ds_setDc {w : World} {y : Str} {py spos : Pos} {i : Nat} (hw : X.w = w) (hu : X.A.units + 8 < cLine) (hc : X.calm = true) (hN : X.N.Nodup) (hy : X.N[i]? = some y) (hyl : X.env.scope.names.lookup y = some .local)
    (hsw : swapsWith (.DictComp kx vx [⟨tg, iter, ifs, 0⟩] scope pos) (some (.Name y py)) spos.line X.env = pure true) (hi : DI X tg iter t) (ok : BlkOk X.N X.env.scope scope own) (hsub : ∀ i ∈ ws, i ∈ own.map (·.2))
    (hg : ∀ (s : Shared) (H : Hp) (C : Addr) (cl : List (Str × Addr)) (fp : List Addr), DG (X.blk s H scope (compEnvC scope cl C X.env) fp) ws tg g)
    (ht : ∀ (s : Shared) (H : Hp) (C : Addr) (cl : List (Str × Addr)) (fp : List Addr), DPTs (X.blk s H scope (compEnvC scope cl C X.env) fp) ifs tt)
    (hk : ∀ (s : Shared) (H : Hp) (C : Addr) (cl : List (Str × Addr)) (fp : List Addr), DE (X.blk s H scope (compEnvC scope cl C X.env) fp) kx tk)
    (hv : ∀ (s : Shared) (H : Hp) (C : Addr) (cl : List (Str × Addr)) (fp : List Addr), DE (X.blk s H scope (compEnvC scope cl C X.env) fp) vx tv)
    (hs : ∀ x, foldedSetIterable iter X.env x = pure x := by intro _; rfl) : DS X (.Assign [.Name y py] (.DictComp kx vx [⟨tg, iter, ifs, 0⟩] scope pos) spos) (dSet i (dDc w t g tt tk tv (own.map (·.2)))) := by
  subst hw
  exact imS (ps_setDc (wi := upI X.K t) (g := upG X.K ws g) (tt := upT X.K tt) (tk := upE X.K tk) (tv := upE X.K tv) hu hc hN hy hyl hsw hi ok hg ht hk hv hs) fun Z σ H ⟨m, M, Z', r, q, k⟩ =>
    dc_up (Qf := fun p M2 => Z'.nx (m.set i (some (.ref p))) M2) rfl hsub r q fun p M2 H2 g2 m2 q2 => k.nx _ M2 _ H2 g2 ((r.grow g2 m2).set (.ref p)) q2
end
theorem hu_8 {k : Nat} {A : Around} (hr : Room k A) : A.units + 8 < cLine := by
  have := hu_40 hr
  omega
theorem hu_9 {k : Nat} {A : Around} (hr : Room k A) : A.units + 9 < cLine := by
  have := hu_40 hr
  omega
/-- a comprehension over what is left, with what is gathered -/
theorem dc_ind {w : World} {src : Src} {g : DTG} {tt : DTT} {tk tv : DTE} {m0 : DSt} {p : Addr} {Qd : List (D × D) → DM → Prop} (V : List D → List (D × D) → DM → Prop) (fin : ∀ acc M, V [] acc M → SrcV src M ∧ Qd acc M)
    (step : ∀ d ds acc M (Cn : List (D × D) → DM → Prop), (∀ acc' M', V ds acc' M' → Cn acc' M') → V (d :: ds) acc M → SrcV src M ∧ g d m0 M fun m1 M1 => tt m1 M1 fun b M2 =>
      if b = true then tk m1 M2 fun k M3 => tv m1 M3 fun v M4 => M4 p = some (.dct w acc) ∧ isKey k ∧ Cn (dput acc k v) (mput M4 p (.dct w (dput acc k v))) else M2 p = some (.dct w acc) ∧ Cn acc M2) :
    ∀ ds acc M, V ds acc M → dDcGo w src g tt tk tv m0 p Qd ds acc M
  | [], acc, M, h => fin acc M h
  | d :: ds, acc, M, h => step d ds acc M (dDcGo w src g tt tk tv m0 p Qd ds) (dc_ind V fin step ds) h
theorem dput_new {kvs : List (D × D)} {k v : D} (h : dhas kvs k = false) : dput kvs k v = kvs ++ [(k, v)] := by
  unfold dput
  rw [h]
  rfl
end DL
/-! < and > of data -/
namespace DL
open PySem PySem.Spec PyProof.Rows L2
section
variable {X : Cx}
theorem py_none {d : D} (h : d ≠ .non) (k : dOk 64 d = true) : d.py ≠ .none := by
  cases d <;> simp_all [D.py, dOk]
/-- x < y, of data that are alike -/
def dLtD : DR2 := fun x y M Q => (dOk 64 x = true ∧ dOk 64 y = true) ∧ x ≠ .non ∧ PySem.W.alike x.py y.py = true ∧ Q (.bl (PySem.W.dataLt x.py y.py)) M
def dGtD : DR2 := fun x y M Q => (dOk 64 x = true ∧ dOk 64 y = true) ∧ x ≠ .non ∧ PySem.W.alike x.py y.py = true ∧ Q (.bl (PySem.W.dataLt y.py x.py)) M
theorem o_ltD (hu : X.A.units + 64 < cLine) : DOp X (compareOp .Lt) dLtD := by
  intro pins s σ H x y v u Q I rx ry ⟨d, e, M, Q', r1, r2, m, ⟨⟨h1, h2⟩, hn, ha, q⟩, k⟩
  obtain ⟨as, q1⟩ := Dp.reads I _ x v (r1.dp h1) rx
  obtain ⟨bs, q2⟩ := Dp.reads I _ y u (r2.dp h2) ry
  have hd := (dOk_lay 64 d h1).2
  exact PySem.W.lt_data q1 q2 ha (py_none hn h1) (Nat.lt_of_le_of_lt (Nat.add_le_add_left (Nat.le_trans (Nat.min_le_left _ _) hd) _) hu) ⟨.bl _, H, I, rfl, k _ _ M H (.refl H) (.bl _) m q⟩
theorem o_gtD (hu : X.A.units + 64 < cLine) : DOp X (compareOp .Gt) dGtD := by
  intro pins s σ H x y v u Q I rx ry ⟨d, e, M, Q', r1, r2, m, ⟨⟨h1, h2⟩, hn, ha, q⟩, k⟩
  obtain ⟨as, q1⟩ := Dp.reads I _ x v (r1.dp h1) rx
  obtain ⟨bs, q2⟩ := Dp.reads I _ y u (r2.dp h2) ry
  have hd := (dOk_lay 64 d h1).2
  exact PySem.W.gt_data q1 q2 ha (py_none hn h1) (Nat.lt_of_le_of_lt (Nat.add_le_add_left (Nat.le_trans (Nat.min_le_left _ _) hd) _) hu) ⟨.bl _, H, I, rfl, k _ _ M H (.refl H) (.bl _) m q⟩
end
end DL
/-! list(a dict), a text's upper() -/
namespace DL
open PySem PySem.Spec PyProof.Rows L2
theorem RepKV.keys {K : PySem.W.Frag} {H : Hp} : ∀ {kvs : List (D × D)} {es : List (NestedKey × Addr × V)}, RepKV K H kvs es → RepL K H (kvs.map (·.1)) (es.map fun x => V.ref x.2.1)
  | _, _, .nil => .nil
  | _, _, .cons a _ _ _ e => .cons a (RepKV.keys e)
theorem refs_at : ∀ {us : List Value} {es : List (NestedKey × Addr × V)}, us.length = es.length → (∀ (j : Nat) (v : Value), us[j]? = some v → ∃ x, es[j]? = some x ∧ v = .ref x.2.1) → Vals (es.map fun x => V.ref x.2.1) us
  | [], [], _, _ => .nil
  | [], _ :: _, hl, _ => by simp at hl
  | _ :: _, [], hl, _ => by simp at hl
  | u :: us, q :: es, hl, h => by
    obtain ⟨x, e1, e2⟩ := h 0 u rfl
    have e1' : q = x := Option.some.inj e1
    subst e1'
    rw [List.map_cons]
    refine .cons e2 (refs_at (by simpa using hl) fun j v e => ?_)
    exact h (j + 1) v (by rw [List.getElem?_cons_succ]; exact e)
theorem esxs_at : ∀ {es : List (NestedKey × Addr × V)} {xs : List (NestedKey × Addr × Value)} {j : Nat} {x : NestedKey × Addr × Value}, EsXs es xs → xs[j]? = some x → ∃ y, es[j]? = some y ∧ y.2.1 = x.2.1
  | _, _, j, _, .nil, e => by simp at e
  | _, _, 0, _, .cons r _, e => by
    simp at e
    subst e
    exact ⟨_, rfl, r.2.1⟩
  | _, _, j + 1, x, .cons _ r, e => esxs_at (j := j) r (by simpa using e)
theorem esxs_len : ∀ {es : List (NestedKey × Addr × V)} {xs : List (NestedKey × Addr × Value)}, EsXs es xs → es.length = xs.length
  | _, _, .nil => rfl
  | _, _, .cons _ r => congrArg (· + 1) (esxs_len r)
section
variable {X : Cx}
def rListK (w : World) : DCR := fun ds M Q => ∃ a kvs, ds = [.ref a] ∧ M a = some (.dct w kvs) ∧ ∀ p, M p = none → Q (.ref p) (mput M p (.lst (kvs.map (·.1))))
theorem c_listK {w : World} (hw : X.w = w) (hcalm : X.calm = true) : DCall X (.type "list") (rListK w) := by
  subst hw
  intro pins s σ H vs us Q I r ⟨ds, M, Q', l, m, ⟨a, kvs, e, h, q⟩, k⟩
  subst e
  obtain ⟨v, e, rv⟩ := repL_one l
  subst e
  cases rv
  obtain ⟨u, eu, rx⟩ := vals1 r
  subst eu
  obtain rfl : u = Value.ref a := rx
  obtain ⟨es, h1, hz, rkv⟩ := m.dct h
  obtain ⟨⟨xs, pr, ⟨o, ents, ep, k1, k2, k3, k4⟩, nd, lo⟩, _, _⟩ := I.hok a _ h1
  have hxl := esxs_len pr
  have hel : ents.size = xs.length := by
    have := congrArg List.length k4
    rwa [Array.length_toList, List.length_map] at this
  refine PySem.W.kdl_call (KdlSrc.rawDict (es := ents) (ep := ep) lo) (I.ok.hd hcalm) ⟨o, k1, k2, k3⟩ (by rw [hel, ← hxl]; exact hz) fun h' tk acc c' hk hD hacc => ?_
  have hv : Vals (es.map fun x => V.ref x.2.1) acc.toList := by
    refine refs_at (by rw [Array.length_toList, hacc.1, hel, hxl]) fun j v e => ?_
    obtain ⟨hi, hv⟩ := hacc.2 j v (by rw [← Array.getElem?_toList]; exact e)
    have hj : ents.toList[j]? = some ents[j] := by rw [Array.getElem?_toList, Array.getElem?_eq_getElem hi]
    rw [k4, List.getElem?_map] at hj
    cases hx : xs[j]? with
    | none => rw [hx] at hj; cases hj
    | some x =>
      rw [hx] at hj
      obtain ⟨y, e1, e2⟩ := esxs_at pr hx
      have hj' := Option.some.inj hj
      exact ⟨y, e1, by rw [hv, ← hj', e2]⟩
  have hp := I.hok.fresh (Nat.le_refl s.heap.objs.size)
  exact ⟨.ref s.heap.objs.size, upd H s.heap.objs.size (.lst (es.map fun x => V.ref x.2.1)), I.laid (t' := tk) hk (Nat.le_refl _) ⟨by rw [List.length_map]; exact hz, acc.toList, c', hv, by rw [Array.toArray_toList]; exact hD⟩, rfl,
    k _ _ _ _ (.new hp) (.ref _) (m.newLst hp (by rw [List.length_map]; exact hz) rkv.keys) (q _ (m.free hp))⟩
variable {o : Expr} {apos cpos : Pos} {to : DTE}
def dUpper (to : DTE) : DTE := fun m M Q => to m M fun d M1 => ∃ z, d = .str z ∧ z.length ≤ 5592405 ∧ Q (.str (Txt.upper z)) M1
theorem d_upper (ho : DE X o to) (hbase : attributeBase o "upper" X.env (eval o X.env) = eval o X.env := by rfl) (hline : (apos.endLine == cpos.line) = true := by rfl) : DE X (.Call (.Attribute o "upper" apos) [] [] cpos) (dUpper to) := by
  refine ⟨fun pins s σ H Q I ⟨m0, M, Q', r, q, kk⟩ => ?_⟩
  refine J1.ev_upper hbase hline (thn (ho.run pins s σ H (fun x H1 => ∃ z, x = .str z ∧ z.length ≤ 5592405 ∧ Q (.str (Txt.upper z)) H1) I
    ⟨m0, M, _, r, q, fun d v M1 H1 g1 r1 m1 ⟨z, e1, hz, q1⟩ => by subst e1; cases r1; exact ⟨z, rfl, hz, kk _ _ M1 H1 g1 (.str _) m1 q1⟩⟩) fun u s1 ⟨x, H1, I1, rx, z, ex, hz, q1⟩ => ?_)
  subst ex
  obtain ⟨t, rfl⟩ := rx
  exact ⟨z, t, rfl, hz, fun t' k => ⟨.str (Txt.upper z), H1, I1.tok _, ⟨t', rfl⟩, q1⟩⟩
end
end DL
/-! the signs of a text: for, in -/
namespace DL
open PySem PySem.Spec PyProof.Rows L2
/-- the signs, each a text -/
def sgsD (z : Str) : List D := z.cps.toList.map fun c => D.str ⟨#[c]⟩
theorem stream_str {K : PySem.W.Frag} {H0 : Hp} {z : Str} (hz : z.length ≤ 16777216) : Stream K (Its z) (sgsD z, none) H0 := by
  have hl : (sgsD z).length = z.cps.size := by simp [sgsD]
  refine ⟨by rw [show (sgsD z, (none : Option Addr)).1 = sgsD z from rfl, hl, sizeLine_eq]; exact hz, fun i H ok hi => ?_, fun i H x H' ok hi y => ?_, fun H ok => ?_⟩
  · exact (by rw [← hl]; exact hi : i < z.cps.size)
  · obtain ⟨e1, c, e2, e3⟩ := y
    subst e1
    subst e3
    refine ⟨.refl _, fun _ q => q, .str ⟨#[c]⟩, ?_, .str _⟩
    show (sgsD z)[i]? = _
    unfold sgsD
    rw [List.getElem?_map, Array.getElem?_toList, e2]
    rfl
  · show z.cps.size ≤ (sgsD z).length
    omega
section
variable {X : Cx} {tg l : Expr} {te : DTE}
def diStr (te : DTE) : DTI := fun m M Q => te m M fun d M1 => ∃ z, d = .str z ∧ z.length ≤ 16777216 ∧ Q (sgsD z, none) M1
theorem di_str (h : DE X l te) : DI X tg l (diStr te) :=
  imI (pi_str h) fun σ H Q ⟨m, M, Q', r, q, k⟩ => by
    refine ⟨m, M, _, r, q, fun d v M1 H1 g1 r1 m1 ⟨z, e, hz, q1⟩ => ?_⟩
    subst e
    cases r1
    exact ⟨z, rfl, k _ M1 H1 _ g1 m1 q1 (stream_str hz)⟩
/-- one sign among those of a text -/
def dInS : DR2 := fun x y M Q => ∃ (c : Nat) (z : Str), x = .str ⟨#[c]⟩ ∧ y = .str z ∧ Q (.bl (decide (c ∈ z.cps.toList))) M
theorem o_inS : DOp X (compareOp .In) dInS := by
  intro pins s σ H x y v u Q I rx ry ⟨d, e, M, Q', r1, r2, m, ⟨c, z, h1, h2, q⟩, k⟩
  subst h1 h2
  cases r1
  cases r2
  exact op_in_sign pins s σ H _ _ v u Q I rx ry ⟨c, z, rfl, rfl, k _ _ M H (.refl H) (.bl _) m q⟩
end
end DL
/-! sorted(xs, key=lambda x: ..) -/
namespace DL
open PySem PySem.Spec PyProof.Rows L2
open PySem.W (EachIs AllAlike Sortable dataLe alike alikeAll)
abbrev lamQ (x : Str) : Str := x ++ ".<locals>." ++ "<lambda>"
section
variable {X : Cx} {pins : List (Addr × Obj)} {σ : SL} {H : Hp} {s : Shared}
/-- a lambda is made: its code object is new, or found in the table -/
theorem lam_make {c P : Addr} {params : Arguments} {body : Expr} {scope : Scope} {pos : Pos} {E : Value → Shared → Prop} {Q : Value → Shared → Prop} (I : Inv X pins σ H s) (TB : LamX.TabB X.base X.mg c P) (hcode : X.env.code = .ref c)
    (hT : LamX.TabS H P (X.env.qual ++ "<lambda>")) (hdef : defaultsOf params X.env = ([], [])) (hfree : ∀ y ∈ scope.names, y.2 = .free → ∃ c, X.env.cells.lookup y.1 = some c)
    (h : ∀ (f c' : Addr) (pm ctv : Value) (H1 : Hp) (s' : Shared), Inv X pins σ H1 s' → (∀ b o, b ≠ P → H b = some o → H1 b = some o) → LamX.TabS H1 P (X.env.qual ++ "<lambda>") →
      s'.heap.get? f = some (PySem.W.kla_obj "<lambda>" (X.env.qual ++ "<lambda>") params body scope (cloFrom X.env.cells scope.names []) pm c' ctv) → H1 f = none → f ∉ frs X.stack → H1 c' = some (LamX.CodeO c' (X.env.qual ++ "<lambda>")) → Q (.ref f) s') :
    wpAny (model X.prog X.w) X.A (eval (.Lambda params body scope pos) X.env) Q E s := by
  obtain ⟨ps, hP, ht, ha⟩ := hT
  refine PySem.W.kla_eval hdef ?_
  have bP : s.heap.BuiltinsAt X.mg P := TB.bm.keeps I.bk
  have hP' : s.heap.get? P = some { cls := .none, data := .fields ps } := I.hok P _ hP
  have nofr : ∀ f, s.heap.objs.size ≤ f → f ∉ frs X.stack := fun f hf z => by
    rcases List.mem_cons.mp (I.stkSub _ z) with e | e
    · have h1 := I.lt
      rw [← e] at h1
      exact Nat.lt_irrefl _ (Nat.lt_of_lt_of_le h1 hf)
    · exact I.nofs hf e
  cases hc : codeAmong pos ps.toList with
  | none =>
    refine PySem.W.kla_makeFunction (mg := X.mg) (c := c) (P := P) (ps := ps) (closure_ok hfree) I.ok.glob (I.mod.glob.keeps I.bk) hcode (TB.code.keeps I.bk) hP' ht hc TB.gP bP fun c' ctv h' tk hx hge hlt hrec htb => ?_
    obtain ⟨c2, oc, vs, t, e2, hoc, hd, hv⟩ := hrec
    cases e2
    have hsz : s.heap.objs.size ≤ h'.objs.size := Nat.le_trans hge (Nat.le_of_lt hlt)
    have nC : H c' = none := I.hok.fresh hge
    have I1 := LamX.inv_table (t' := tk) (more := #[rawInt pos.line, rawInt pos.col, .ref c']) (h' := h'.push (PySem.W.kla_obj "<lambda>" (X.env.qual ++ "<lambda>") params body scope (cloFrom X.env.cells scope.names []) ((X.mg "__name__").getD .none) c' ctv)) I hP
      (fun b o hb e => Heap.get?_push_of_some _ (hx b o hb e)) (Heap.get?_push_of_some _ htb) hge ⟨oc, vs, t, Heap.get?_push_of_some _ hoc, hd, hv⟩
    have keep : ∀ b o, b ≠ P → H b = some o → upd (upd H P (.tbl (ps ++ #[rawInt pos.line, rawInt pos.col, .ref c']))) c' (LamX.CodeO c' (X.env.qual ++ "<lambda>")) b = some o := fun b o n e => by
      rw [upd_ne (ne_of_none e nC), upd_ne n]
      exact e
    have eL : (ps ++ #[rawInt pos.line, rawInt pos.col, .ref c']).toList = ps.toList ++ [rawInt pos.line, rawInt pos.col, .ref c'] := by simp
    refine h h'.objs.size c' ((X.mg "__name__").getD .none) ctv _ _ I1 keep ?_ (Heap.get?_push_size _ rfl) ?_ (nofr _ hsz) upd_same
    · refine ⟨_, by rw [upd_ne (ne_of_none hP nC), upd_same], by rw [eL]; exact PySem.TriplesOk_snoc _ _ _ _ ht, fun p' cv hcv => ?_⟩
      rw [eL] at hcv
      rcases LamX.among_app _ ht hcv with z | z
      · obtain ⟨c0, e1, e2⟩ := ha p' cv z
        exact ⟨c0, e1, keep _ _ (fun z => by rw [z, hP] at e2; exact LamX.codeO_ne _ (Option.some.inj e2).symm) e2⟩
      · exact ⟨c', z, upd_same⟩
    · have n1 : h'.objs.size ≠ c' := Nat.ne_of_gt hlt
      have n2 : h'.objs.size ≠ P := Nat.ne_of_gt (Nat.lt_of_lt_of_le (Heap.lt_size hP') hsz)
      rw [upd_ne n1, upd_ne n2]
      exact I.hok.fresh hsz
  | some cv =>
    obtain ⟨c', e, hco⟩ := ha pos cv hc
    subst e
    refine PySem.W.kla_makeFunctionHit (mg := X.mg) (c := c) (P := P) (ps := ps) (closure_ok hfree) I.ok.glob (I.mod.glob.keeps I.bk) hcode (TB.code.keeps I.bk) hP' ht hc bP fun ctv h' tk hx hsz => ?_
    have I1 : Inv X pins σ H { s with heap := h'.push (PySem.W.kla_obj "<lambda>" (X.env.qual ++ "<lambda>") params body scope (cloFrom X.env.cells scope.names []) ((X.mg "__name__").getD .none) c' ctv), toks := tk } := I.kept fun b o e => Heap.get?_push_of_some _ (hx b o e)
    exact h h'.objs.size c' ((X.mg "__name__").getD .none) ctv H _ I1 (fun b o _ e => e) ⟨ps, hP, ht, ha⟩ (Heap.get?_push_size _ rfl) (I.hok.fresh hsz) (nofr _ hsz) hco
/-- the lambda of one parameter as the key -/
theorem lam_run {H1 : Hp} {s1 : Shared} {M : DM} {k : Nat} {f c' : Addr} {q a : Str} {params : Arguments} {body : Expr} {scope : Scope} {pm ctv : Value} {te : DTE} {xs : List D} {g : D → D} (S : FnScope [a] [a] scope) (hr : Room (k + 1) X.A.in1.in1)
    (hf : s1.heap.get? f = some (PySem.W.kla_obj "<lambda>" q params body scope [] pm c' ctv)) (hfn : H1 f = none) (hfr : f ∉ frs X.stack) (hco : H1 c' = some (LamX.CodeO c' q))
    (hbind : ∀ (x : Value), bindArgs (PySem.W.kla_fn "<lambda>" q params body scope [] pm (.ref c') ctv) ⟨[x], []⟩ = pure [(a, x)])
    (hbody : ∀ (A : Around) (outer : List Env) (s : Shared) (H : Hp), Room k (A.deeper (envOfC q scope s.heap.objs.size f (.ref c'))) → DE (cxOf CX0 X.prog X.w X.K X.mg X.base [a] q scope f (.ref c') A outer s H E0).nox body te)
    (pure' : ∀ x ∈ xs, ∀ Q' : DVK, Q' (g x) M → te [some x] M Q') : KeyRun X pins σ H1 M s1 (.ref f) xs g := by
  intro Hj s' d v x hdm un gr J rm rd ru
  have of1 : s'.heap.get? f = some (PySem.W.kla_obj "<lambda>" q params body scope [] pm c' ctv) := un.keep f _ hf hfn hfr (by simp)
  obtain ⟨⟨oc, vs, t, hoc, hdc, hvc⟩, _, _⟩ := J.hok c' _ (gr.cods _ _ hco)
  have lim : s'.heap.NoLimit := J.nolimit
  have hkind : ∀ y ∈ [(a, x)], scope.names.lookup y.1 = some .local ∨ (scope.names.lookup y.1 = some .cell ∧ ((cellsFrom (s'.heap.objs.size + 1) scope.names []).lookup y.1).isSome = true) := fun y hy => by
    have e : y = (a, x) := by simpa using hy
    rw [e]
    rcases S.par a (by simp) with z | z
    · exact .inl z
    · exact .inr ⟨z, PySem.W.cellsFrom_some _ _ _ (.inl z)⟩
  have rc : codeAny (model X.prog X.w) X.A.in1.in1 (.call (.ref f) ⟨[x], []⟩) (CR CX0 X.stack X.prog X.w Hj s' (fun v H' => Grow Hj H' ∧ Rep X.K H' (g d) v ∧ RM X.K H' M) E0) s' := by
    refine PySem.W.kla_callFunE hr.depth of1 rfl S.co S.gen rfl ⟨c', oc, vs, t, rfl, hoc, hdc, hvc⟩ ?_
    rw [hbind]
    refine wpAny_pure (wpAny_newFunctionEnv_cells S.kind hkind fun env he s2 x2 => ?_)
    subst he
    refine ⟨lim.keeps x2.toInCall.keep, PySem.W.kla_codeExpr ?_⟩
    have Jn : Inv (cxOf CX0 X.prog X.w X.K X.mg X.base [a] q scope f (.ref c') X.A.in1.in1 X.stack s' Hj E0) [] (L2.start [a] [v]) Hj s2 := inv_start S hr.hd J.env0.in1.in1 rfl (.cons ru .nil) x2
    have hb := (hbody X.A.in1.in1 X.stack s' Hj (hr.deeper _)).nox
    refine wpAny_mono (hb.run [] s2 (L2.start [a] [v]) Hj (fun v H' => Grow Hj H' ∧ Rep X.K H' (g d) v ∧ RM X.K H' M) Jn ⟨dstart [a] [d], M, fun y M' => y = g d ∧ M' = M, ⟨by simp [dstart, L2.start], fun i d e => start_slot (.one rd) e, rm⟩, pure' d hdm _ ⟨rfl, rfl⟩, fun y v' M' H' g1 r1 m1 ⟨h1, h2⟩ => by subst h1 h2; exact ⟨g1, r1, m1⟩⟩) (fun v s'' hq => ?_) fun e s'' hq => hq
    obtain ⟨w', H', J', rv, q⟩ := hq
    exact ⟨w', H', J'.os, J'.bare, J'.base, J'.hok, rv, q⟩
  refine wpAny_call (codeAny_mono rc fun r s'' hq => ?_)
  cases r with
  | error e => exact False.elim hq
  | ok fl =>
    cases fl with
    | ret u => exact hq
    | next => exact False.elim hq
    | brk => exact False.elim hq
    | cont => exact False.elim hq
/-- sorted(e, key=lambda a: ..): the maker's table is at P -/
def dSortL (P : Addr) (q : Str) (te : DTE) (t : DTA) : DTE := fun m M Q => t m M fun ds M1 => ∃ d xs, ∃ g : D → D, ds = [d] ∧ dItems d M1 = some xs ∧ d ≠ .tup xs ∧ M1 P = some (.tab q) ∧ (∀ x ∈ xs, ∀ Q' : DVK, Q' (g x) M1 → te [some x] M1 Q') ∧ (xs.map g).all (dOk 32) = true ∧
  AllAlike ((xs.map g).map D.py) ∧ SortOk ((xs.map g).map D.py) ∧ ∀ p, M1 p = none → Q (.ref p) (mput M1 p (.lst (xs.mergeSort (dataLe false fun x => D.py (g x)))))
theorem rm_lam {K : PySem.W.Frag} {H1 : Hp} {M : DM} {P : Addr} {q : Str} (m : RM K H M) (h : M P = some (.tab q)) (keep : ∀ b o, b ≠ P → H b = some o → H1 b = some o) (T : LamX.TabS H1 P q) : Grow H H1 ∧ RM K H1 M := by
  obtain ⟨ps, hP, _⟩ := m P _ h
  have ne : ∀ {b : Addr} {o : HO}, H b = some o → (∀ ps, o ≠ .tbl ps) → b ≠ P := fun {b o} e n z => by
    rw [z, hP] at e
    exact n ps (Option.some.inj e).symm
  have gr : Grow H H1 := ⟨fun b xs e => keep b _ (ne e (fun _ z => by cases z)) e, fun b o u e => keep b _ (ne e (fun _ z => by cases z)) e, fun b q e => keep b _ (ne e LamX.codeO_ne) e⟩
  refine ⟨gr, fun a o e => ?_⟩
  by_cases ha : a = P
  · subst ha
    rw [h] at e
    cases e
    exact T
  · have z := m a o e
    obtain ⟨u, hu⟩ : ∃ u, H a = some u := by
      cases q : H a with
      | none => exact absurd q z.some
      | some u => exact ⟨u, rfl⟩
    exact z.stay ((keep a u ha hu).trans hu.symm) gr
theorem d_sortL {k : Nat} {a x : Str} {c P : Addr} {params : Arguments} {body : Expr} {scope : Scope} {te : DTE} {e : Expr} {p lpos kp pos : Pos} {t : DTA} (TB : LamX.TabB X.base X.mg c P) (hcode : X.env.code = .ref c) (hqual : X.env.qual = x ++ ".<locals>.") (S : FnScope [a] [a] scope) (hr : Room (k + 1) X.A.in1.in1)
    (hgs : Gl X "sorted") (hms : X.mg "sorted" = none) (ha : DA X [e] t)
    (hbody : ∀ (A : Around) (outer : List Env) (s : Shared) (H : Hp) (f : Addr) (cdv : Value), Room k (A.deeper (envOfC (lamQ x) scope s.heap.objs.size f cdv)) → DE (cxOf CX0 X.prog X.w X.K X.mg X.base [a] (lamQ x) scope f cdv A outer s H E0).nox body te)
    (hdef : defaultsOf params X.env = ([], []) := by rfl) (hclo : cloFrom X.env.cells scope.names [] = [] := by rfl)
    (hbind : ∀ (pm cv ctv y : Value), bindArgs (PySem.W.kla_fn "<lambda>" (lamQ x) params body scope [] pm cv ctv) ⟨[y], []⟩ = pure [(a, y)] := by intro _ _ _ _; rfl)
    (he : backTo pos (starEach [e] X.env) = [(false, eval e X.env)] := by rfl) (hpl : (backTo pos (starEach [e] X.env)).any (·.1) = false := by rfl)
    (hall : (backToKw pos (keywordEach [⟨some (Str.ofString "key"), .Lambda params body scope lpos, kp⟩] X.env)).all (·.1.isSome) = true := by rfl) (hnone : (backToKw pos (keywordEach [⟨some (Str.ofString "key"), .Lambda params body scope lpos, kp⟩] X.env)).any (·.1.isNone) = false := by rfl)
    (hks : (backToKw pos (keywordEach [⟨some (Str.ofString "key"), .Lambda params body scope lpos, kp⟩] X.env)).filterMap (·.1) = [Str.ofString "key"] := by rfl) :
    DE X (.Call (.Name "sorted" p) [e] [⟨some (Str.ofString "key"), .Lambda params body scope lpos, kp⟩] pos) (dSortL P (lamQ x) te t) := by
  refine ⟨fun pins s σ H Q I ⟨m, M, Q', r, h, kk⟩ => ?_⟩
  have hq : X.env.qual ++ "<lambda>" = lamQ x := by rw [hqual]
  refine wpAny_Call_Name_kw (ld_blt I hgs hms boot_sorted ?_ (by decide) (by decide))
  refine PyProof.Rows.callWith_kw (thn (ha.run pos pins s σ H (fun vs H1 => ∃ ds M1, Grow H H1 ∧ RepL X.K H1 ds vs ∧ RM X.K H1 M1 ∧ ∃ d xs, ∃ g : D → D, ds = [d] ∧ dItems d M1 = some xs ∧ d ≠ .tup xs ∧ M1 P = some (.tab (lamQ x)) ∧ (∀ x ∈ xs, ∀ Q' : DVK, Q' (g x) M1 → te [some x] M1 Q') ∧ (xs.map g).all (dOk 32) = true ∧
    AllAlike ((xs.map g).map D.py) ∧ SortOk ((xs.map g).map D.py) ∧ ∀ p, M1 p = none → Q' (.ref p) (mput M1 p (.lst (xs.mergeSort (dataLe false fun x => D.py (g x)))))) I ⟨m, M, _, r, h, fun ds vs M1 H1 g1 l1 m1 q1 => ⟨ds, M1, g1, l1, m1, q1⟩⟩) fun us s1 ⟨vs, H1, I1, r1, ds, M1, g1, l1, m1, d, xs, g, ed, hd, hnt, hM, pure', hok, hal, hsk, q⟩ => ?_) he hpl hall hnone
  subst ed
  obtain ⟨v, ev, rv⟩ := repL_one l1
  subst ev
  obtain ⟨u, eu, ru⟩ := vals1 r1
  subst eu
  have hT := m1 P _ hM
  show wpAny _ _ (evalAll ((do let v ← eval (.Lambda params body scope lpos) X.env; standAt pos; pure v) :: [])) _ _ s1
  refine wpAny_evalAll_cons (wpAny_bind (lam_make I1 TB hcode (by rw [hq]; exact hT) hdef (fun y hy e => absurd e (S.nofree y hy)) fun f c' pm ctv H2 s2 I2 keep T2 hf hfn hfr hco => wpAny_bind (wpAny_standAt (wpAny_pure ?_))))
  refine wpAny_evalAll_nil ?_
  rw [hks]
  rw [hclo, hq] at hf
  rw [hq] at T2 hco
  obtain ⟨g2, m2⟩ := rm_lam m1 hM keep T2
  have hu : X.A.in1.in1.units + 40 < cLine := by
    have := hr.un
    omega
  exact sort_core I2 (rv.grow g2) ru m2 hd hnt (fun a => ksk_t1 _ a) (lam_run S hr hf hfn hfr hco (hbind _ _ _) (fun A outer s H hr2 => hbody A outer s H f _ hr2) pure') hu hok hal hsk q fun d v M' H' g3 => kk d v M' H' ((g1.trans g2).trans g3)
end
end DL
/-! defs that hold a lambda: their code's table; the law's start and end with tables -/
namespace DL
open PySem PySem.Spec PyProof.Rows L2
section
variable {P : Program} {w : World} {K : PySem.W.Frag} {mg : Str → Option Value} {base : Heap} {k : Nat} {x q : Str} {ps N : List Str} {dsp : DSp} {st : Stmt} {c Pt : Addr}
/-- the def x, its code object at c -/
structure FunC (K : PySem.W.Frag) (x : Str) (st : Stmt) (f : Addr) (fd : FuncData) (c : Addr) : Prop where
  ex : ∃ (oc : Value) (od : Option Addr) (kV doc pm : Value) (an : Option Addr) (ct : Value) (osl : Array (Option Value)),
    fd = PySem.W.fnOf x x (defArgs st) (defBody st) (defScope st) .none kV doc pm an (.ref c) ct ∧ K.lookup f = some ⟨oc, od, .func fd, osl⟩ ∧ PySem.W.codeIn K (.ref c) x = true
  kp : PySem.W.keepIn K (.ref f) = true
structure DefC (K : PySem.W.Frag) (mg : Str → Option Value) (x : Str) (st : Stmt) (ps : List Str) (c : Addr) : Prop where
  ex : ∃ f fd, FunC K x st f fd c ∧ mg x = some (.ref f) ∧ Binds K fd ps []
theorem funC_mk {x : Str} {st : Stmt} {f : Addr} {oc : Value} {od an : Option Addr} {osl : Array (Option Value)} {kV doc pm ct : Value} (l : K.lookup f = some ⟨oc, od, .func (PySem.W.fnOf x x (defArgs st) (defBody st) (defScope st) .none kV doc pm an (.ref c) ct), osl⟩)
    (h : PySem.W.codeIn K (.ref c) x = true) (k : PySem.W.keepIn K (.ref f) = true) : FunC K x st f (PySem.W.fnOf x x (defArgs st) (defBody st) (defScope st) .none kV doc pm an (.ref c) ct) c := ⟨⟨oc, od, kV, doc, pm, an, ct, osl, rfl, l, h⟩, k⟩
theorem DefC.cal (F : DefC K mg x st ps c) (S : FnScope N ps (defScope st)) (len : ∀ ds M Q, dsp ds M Q → ds.length = ps.length) {t : DTS}
    (body : ∀ (f : Addr) (A : Around) (outer : List Env) (s : Shared) (H : Hp) (E : XK), Room k (A.deeper (envOfC x (defScope st) s.heap.objs.size f (.ref c))) → DSs (Ctx P w K mg base N x st f (.ref c) A outer s H E) (defBody st) t)
    (rd : ∀ ds M Q, dsp ds M Q → t (dEnds Q) (dstart N ds) M) : Cal P w K mg base (k + 1) x ps dsp := by
  obtain ⟨f, fd, F, hm, hb⟩ := F.ex
  have kp := F.kp
  obtain ⟨oc, od, kV, doc, pm, an, ct, osl, rfl, lk, hcd⟩ := F.ex
  refine ⟨f, _, fn_of lk hcd S (fun vs H Q E ⟨ds, M, Q', l, _, q, _⟩ => by rw [← l.length]; exact len ds M Q' q) (fun A outer s H vs Q E hr ⟨ds, M, Q', l, m, q, kk⟩ => ?_), hm, kp, hb⟩
  refine ⟨_, (body f A outer s H E hr).nox, dstart N ds, M, dEnds Q', ⟨?_, fun i d e => start_slot l e, m⟩, rd ds M Q' q,
    ⟨fun m1 M1 σ1 H1 g1 r1 ⟨M0, le, q1⟩ => kk _ _ M0 H1 g1 .non (r1.mem.le le) q1, fun _ _ _ _ _ _ z => z.elim, fun _ _ _ _ _ _ z => z.elim, fun d v M1 H1 g1 r1 m1 ⟨M0, le, q1⟩ => kk d v M0 H1 g1 r1 (m1.le le) q1⟩⟩
  simp [dstart, L2.start, l.length]
/-- a list is frozen ahead of the statements -/
theorem pss_before {X : Cx} {sts : List Stmt} {t : TS} (h : PSs X sts t) : PSs X sts (fun D σ H => ∃ p vs, H p = some (.lst vs) ∧ ∀ o, t D σ (upd H p (.frz o (.lst vs)))) := by
  refine ⟨fun pins s σ H D I ⟨p, vs, e, q⟩ => ?_⟩
  obtain ⟨o, I2⟩ := inv_frz I e
  exact h.run pins s σ _ D I2 (q o)
/-- the law's promise, where tables of code objects are known -/
def sp_lawT (T : List (Addr × Str)) : DSp := ar1 fun a M Q => (∀ p ∈ T, M p.1 = some (.tab p.2)) ∧ ∃ ns : List Int, ns.length ≤ 63 ∧ a = .lst (ns.map D.int) ∧ ∀ M', Q (.bl true) M'
def lawSp (K : PySem.W.Frag) (T : List (Addr × Str)) : Sp := fun vs H Q _ => ∃ (a : Addr) (ns : List Int), vs = [.ref a] ∧ ns.length ≤ 63 ∧ SqL K H a (ns.map V.int) ∧ (∀ p ∈ T, H p.1 = some (.tbl #[])) ∧ ∀ v H', v = V.bl true → Q v H'
theorem tabsM : ∀ {T : List (Addr × Str)}, (T.map (·.1)).Nodup → ∃ M : DM, (∀ p ∈ T, M p.1 = some (.tab p.2)) ∧ ∀ b o, M b = some o → ∃ p ∈ T, b = p.1 ∧ o = .tab p.2
  | [], _ => ⟨fun _ => none, fun _ h => absurd h (by simp), fun _ _ e => nomatch e⟩
  | z :: T, h => by
    rw [List.map_cons, List.nodup_cons] at h
    obtain ⟨M, h1, h2⟩ := tabsM h.2
    refine ⟨mput M z.1 (.tab z.2), fun p hp => ?_, fun b o e => ?_⟩
    · rcases List.mem_cons.mp hp with rfl | hp
      · exact mput_same
      · rw [mput_ne (fun e => h.1 (List.mem_map.mpr ⟨p, hp, e⟩))]
        exact h1 p hp
    · by_cases hb : b = z.1
      · rw [hb, mput_same] at e
        exact ⟨z, by simp, hb, (Option.some.inj e).symm⟩
      · rw [mput_ne hb] at e
        obtain ⟨p, hp, r⟩ := h2 b o e
        exact ⟨p, by simp [hp], r⟩
theorem fn_okT {f : Addr} {fd : FuncData} {T : List (Addr × Str)} (hT : (T.map (·.1)).Nodup) (F : Fun K x x st f fd) (S : FnScope N ["script"] (defScope st)) {t : DTS}
    (body : ∀ (f : Addr) (cdv : Value) (A : Around) (outer : List Env) (s : Shared) (H : Hp) (E : XK), Room k (A.deeper (envOfC x (defScope st) s.heap.objs.size f cdv)) → DSs (Ctx P w K mg base N x st f cdv A outer s H E) (defBody st) t)
    (rd : ∀ ds M Q, sp_lawT T ds M Q → t (dEnds Q) (dstart N ds) M) : FnOk P w K mg base CX0 (k + 1) f fd ["script"] (lawSp K T) := by
  refine F.ok S (fun vs H Q E ⟨a, ns, e, _⟩ => by rw [e]; rfl) (fun cdv A outer s H vs Q E hr ⟨a, ns, e, hns, hS, hTb, hQ⟩ => ?_)
  subst e
  have hz : (ns.map V.int).length ≤ sizeLine := by
    rw [List.length_map]
    have := sizeLine_eq
    omega
  obtain ⟨M, hM1, hM2⟩ := tabsM hT
  have rm : ∀ H' : Hp, (∀ p ∈ T, H' p.1 = some (.tbl #[])) → RM K H' M := fun H' hh b o e => by
    obtain ⟨p, hp, rfl, rfl⟩ := hM2 b o e
    exact LamX.TabS.nil (hh p hp)
  have ends : ∀ H' : Hp, EndsOk K H' (dEnds fun d _ => d = .bl true) { nx := fun _ H' => Q .non H', rt := Q } := fun H' =>
    ⟨fun m1 M1 σ1 H1 g1 r1 ⟨M0, le, q1⟩ => (by cases q1), fun _ _ _ _ _ _ z => z.elim, fun _ _ _ _ _ _ z => z.elim, fun d v M1 H1 g1 r1 m1 ⟨M0, le, q1⟩ => hQ _ _ (by
      have q1 : d = .bl true := q1
      subst q1
      cases r1
      rfl)⟩
  have rd' := rd [.lst (ns.map D.int)] M (fun d _ => d = .bl true) ⟨_, rfl, hM1, ns, hns, rfl, fun _ => rfl⟩
  have go : ∀ H' : Hp, (∀ p ∈ T, H' p.1 = some (.tbl #[])) → FrzL K H' a (ns.map V.int) → upS K t { nx := fun _ H' => Q .non H', rt := Q } (L2.start N [.ref a]) H' := fun H' hh hf =>
    ⟨dstart N [.lst (ns.map D.int)], M, _, ⟨by simp [dstart, L2.start], fun i d e => start_slot (.one (.lst hf hz (repL_ints ns))) e, rm H' hh⟩, rd', ends H'⟩
  rcases hS with (h | ⟨o, h⟩) | h
  · refine ⟨_, pss_before (body f cdv A outer s H E hr), a, _, h, fun o => go _ (fun p hp => ?_) (.inl ⟨o, upd_same⟩)⟩
    rw [upd_ne (fun z => by rw [← z] at h; rw [hTb p hp] at h; cases h)]
    exact hTb p hp
  · exact ⟨_, body f cdv A outer s H E hr, go H hTb (.inl ⟨o, h⟩)⟩
  · exact ⟨_, body f cdv A outer s H E hr, go H hTb (.inr h)⟩
/-- what a code object's fields are asked -/
def codeFields (ce : Value) (vs : Array Value) : Bool := (match ce with | .type n => n == "code" | _ => false) && (match vs.getD 18 .none with | .str _ _ => true | _ => false) && (match vs.getD 7 .none with | .int _ _ => true | _ => false) &&
  (match vs.getD 9 .none with | .bool _ => true | _ => false) && (match vs.getD 10 .none with | .int _ _ => true | _ => false)
theorem codeHd_of {h : Heap} {ce : Value} {dd : Option Addr} {vs : Array Value} {sl : Array (Option Value)} (X : K.In h) (e : K.lookup c = some ⟨ce, dd, .fields vs, sl⟩) (t : vs[11]? = some (.ref Pt)) (f : codeFields ce vs = true) (n : K.lookup Pt = none) : PySem.W.CodeHd h c Pt := by
  unfold codeFields at f
  simp only [Bool.and_eq_true] at f
  obtain ⟨⟨⟨⟨f1, f2⟩, f3⟩, f4⟩, f5⟩ := f
  have hce : ce = .type "code" := by
    cases ce <;> simp at f1
    rw [f1]
  subst hce
  have hne : c ≠ Pt := fun z => by rw [z, n] at e; cases e
  cases e1 : vs.getD 18 .none <;> rw [e1] at f2 <;> try cases f2
  cases e2 : vs.getD 7 .none <;> rw [e2] at f3 <;> try cases f3
  cases e3 : vs.getD 9 .none <;> rw [e3] at f4 <;> try cases f4
  cases e4 : vs.getD 10 .none <;> rw [e4] at f5 <;> try cases f5
  refine ⟨_, vs, _, _, _, _, _, _, _, X _ _ e, rfl, rfl, t, ?_, e1, e2, e3, e4, hne⟩
  rw [Array.getD_eq_getD_getElem?, t]
  rfl
end
/-- the end: the tables of all defs of the text are empty -/
theorem walk_ofAny {l : PySem.W.OpenLaw} {n k : Nat} {q : Program} {loose : List Str} {XP : (Str → Option Value) → Heap → Prop} {YP : World → Heap → Prop} {d : DefRec} {K : Params → PySem.W.Frag} {CX : World → CXT} {x : Str}
    (hn : l.most = some n) (hn2 : n ≤ sizeLine) (hdf : d.params.defaults = []) (hr : Room k callerA) (hY : ∀ (w : World) (h : Heap), YP w h → (K w.params).In h)
    (F : ∀ (w : World) (mg : Str → Option Value) (fa : Addr) (h : Heap), (K w.params).In h → h.Ns mainGlobals mg → mg d.name = some (.ref fa) → (∀ (y : Str) (fy : Addr), ((recsOf q).any fun e => e.name == y) = true → mg y = some (.ref fy) → LamX.OwnTab (K w.params) fy h) → LamX.LawAtS l w (K w.params) (CX w) k n x mg fa h)
    (hCX : ∀ (w : World) (H : Hp) (s : Shared) (e : Value) (s' : Shared), CX w [] H s (fun _ _ _ => False) e s' → False) :
    PySem.W.WalkO q loose XP YP l.row.toRowW d [] (fun f vs => PySem.call f vs) := by
  refine Att.attach_callB hn hdf fun w s₀ s₁ mg mb fa o pm cd doc a vs ns G Y ho hd hcd hmg hobj hints hlen hbits hg => ?_
  have KX := hY w _ Y
  have own : ∀ (y : Str) (fy : Addr), ((recsOf q).any fun e => e.name == y) = true → mg y = some (.ref fy) → LamX.OwnTab (K w.params) fy s₁.heap := fun y fy hrec hmy c P o1 fd1 e dd vs1 sl k1 k2 k3 k4 k5 => by
    obtain ⟨dL, hm, hn1⟩ := List.any_eq_true.mp hrec
    have hn2 : dL.name = y := beq_iff_eq.mp hn1
    obtain ⟨a', o', fd', c', P', h1, h2, h3, h4, h5, h6⟩ := G.T.tab dL hm
    rw [hn2, hmy] at h1
    cases h1
    have g1 := KX _ _ k1
    rw [g1] at h2
    cases h2
    rw [k2] at h3
    cases h3
    rw [k3] at h4
    cases h4
    obtain ⟨⟨oc, vc, e1, _, e3, e4⟩, hP⟩ := h6
    have g2 := KX _ _ k4
    rw [g2] at e1
    cases e1
    cases e3
    rw [k5] at e4
    cases e4
    exact hP
  obtain ⟨fd, cs, sp, hT, nT, C, hb, hsp, hF⟩ := F w mg fa _ KX G.T.g hmg own
  exact LamX.law_callTs KX G.T.g G.T.b G.T.builtins G.T.nolimit hg hT nT C G.T.bmain hobj hints (Nat.le_trans hlen hn2) hr hF hb (fun H hH hS => hsp H a ns hlen hbits hH hS) fun H e s' => hCX w H s₁ e s'
end DL
/-! sorted(set(a list of ints)) -/
namespace DL
open PySem PySem.Spec PyProof.Rows L2
section
variable {P : Program} {w : World} {A : Around} {E : Value → Shared → Prop} {s : Shared}
set_option maxHeartbeats 3200000 in
/-- set(xs), a list of ints: with what a walk over it wants to know -/
theorem call_set_listI {l : Addr} {items : Array Value} (ns : List Int) {Q : Value → Shared → Prop} (hh : A.handled = none) (hl : s.heap.IsList l items) (hit : IntsAre items.toList ns) (hb : ns.length + 1 < scanBound)
    (h : ∀ (h' : Heap) (tk c : Nat), SetR w h' s.heap.objs.size (fun j => decide (j ∈ ns)) c → c ≤ ns.length → (∀ b o, s.heap.get? b = some o → h'.get? b = some o) → Q (.ref s.heap.objs.size) { s with heap := h', toks := tk }) :
    wpAny (model P w) A (call (.type "set") [.ref l]) Q E s := by
  have hisz : items.size = ns.length := by
    have q := IntsAre.length hit
    rwa [Array.length_toList] at q
  obtain ⟨c, tl, hmro⟩ := F.called_set.mro
  have hmade := F.called_set.made
  have hsub := F.called_set.sub
  refine wpAny_call (codeAny_of_tree ?_)
  show wpAny _ _ (callAny (.type "set") _) _ _ _
  refine wpAny_pure ⟨Code.quiet_builtin _ (by decide +kernel), codeAny_builtin F.entry_type_call ?_⟩
  rw [Around.under_plain (weight_type_call_type "set" [.ref l] []) rfl]
  have h1 := F.called_set.notType
  have h2 := F.called_set.canCreate
  have hct := F.typeCall_set_1 (.ref l)
  repeat (any_goals (first | assumption | wp_step))
  refine codeAny_mono (code_set_led1 (.ref l) (E := E) (Q₁ := fun obj s₁ => obj = .ref s.heap.objs.size ∧ s₁ = { s with heap := s.heap.push { cls := .type "set", dict := none, data := .set #[] 0 (.fresh 0 0 (!w.params.followText "set-order")) } }) ⟨rfl, rfl⟩) fun r s₁ hr => ?_
  cases r with
  | error e => exact hr
  | ok fl =>
    cases fl with
    | ret obj =>
      obtain ⟨rfl, rfl⟩ := hr
      have hS : (s.heap.push { cls := .type "set", dict := none, data := .set #[] 0 (.fresh 0 0 (!w.params.followText "set-order")) }).get? s.heap.objs.size = some { cls := .type "set", dict := none, data := .set #[] 0 (.fresh 0 0 (!w.params.followText "set-order")) } := Heap.get?_push_size _ rfl
      have hT : Shared.TypeIs { s with heap := s.heap.push { cls := .type "set", dict := none, data := .set #[] 0 (.fresh 0 0 (!w.params.followText "set-order")) } } (.ref s.heap.objs.size) "set" := ⟨_, hS, rfl⟩
      have hli := F.called_set.init.lookup
      have hbi := F.called_set.init.bind (.ref s.heap.objs.size)
      repeat (any_goals (first | assumption | wp_step))
      refine codeAny_mono (codeAny_call_builtin (R := wants (fun r s₂ => r = .none ∧ ∃ h' tk c, s₂ = { s with heap := h', toks := tk } ∧ SetR w h' s.heap.objs.size (fun j => decide (j ∈ ns)) c ∧ c ≤ ns.length ∧
          (∀ b o, s.heap.get? b = some o → h'.get? b = some o)) E) F.called_set.init.plain F.entry_set_init (check_set_init_1 hT ?_)) fun r₂ s₂ hr₂ => ?_
      · obtain ⟨ol, hol, hcl, nl, hdl⟩ := hl
        obtain ⟨ocls, odict, odata, oslots⟩ := ol
        simp only at hcl hdl
        subst hcl hdl
        have hol' : (s.heap.push { cls := .type "set", dict := none, data := .set #[] 0 (.fresh 0 0 (!w.params.followText "set-order")) }).get? l = some { cls := .type "list", dict := odict, data := .seq items nl, slots := oslots } := Heap.get?_push_of_some _ hol
        have hsls := F.sub_list_set
        have hslf := F.sub_list_frozenset
        have hne : (Value.type "list" == Value.type "dict") = false := by decide
        have hl1 : (s.heap.push { cls := .type "set", dict := none, data := .set #[] 0 (.fresh 0 0 (!w.params.followText "set-order")) }).IsList l items := ⟨_, hol', rfl, nl, rfl⟩
        unfold Builtin.«set.__init__» noKeywords Builtin.Frozenset.updateFrom
        generalize hPI : pyIter = PI
        wp_walk
        subst hPI
        refine wpAny_pyIter_list hl1 ?_
        refine wpAny_bind (wpAny_runValue ?_)
        have hlS : l < s.heap.objs.size := Heap.lt_size hol
        have hh3 : A.in1.in1.in1.handled = none := by simp [hh]
        have hneI : l ≠ (s.heap.push { cls := .type "set", dict := none, data := .set #[] 0 (.fresh 0 0 (!w.params.followText "set-order")) }).objs.size := by
          rw [Heap.size_push]; exact Nat.ne_of_lt (Nat.lt_succ_of_lt hlS)
        have hSf : s.heap.objs.size ∉ [(s.heap.push { cls := .type "set", dict := none, data := .set #[] 0 (.fresh 0 0 (!w.params.followText "set-order")) }).objs.size, l] := by
          rw [Heap.size_push]; simp only [List.mem_cons, List.mem_singleton, List.not_mem_nil, or_false, not_or]
          exact ⟨Nat.ne_of_lt (Nat.lt_succ_self _), Nat.ne_of_gt hlS⟩
        have hval : ∀ (i : Nat) (v : Value), items[i]? = some v → ∃ k t, ns[i]? = some k ∧ v = .int k t := fun i v hv => by
          have hi : i < ns.length := by rw [← hisz]; exact (Array.getElem?_eq_some_iff.mp hv).1
          obtain ⟨t, e⟩ := PyProof.Rows.IntsAre.int_at hit i v (by rw [Array.getElem?_toList]; exact hv)
          refine ⟨ns[i], t, List.getElem?_eq_getElem hi, ?_⟩
          rw [e, List.getD_eq_getElem?_getD, List.getElem?_eq_getElem hi] <;> rfl
        refine set_update_ints ((Walks.list hh3 _ l hneI items).toS) s.heap.objs.size
          hSf ns hisz hb hval (items.size - 0) 0 _ (by omega) (Nat.zero_le _)
          ⟨⟨_, Heap.get?_push_size _ rfl, rfl, rfl⟩, (hl1.push _)⟩ ?hS0 ?hR
        case hS0 =>
          have hget : ((s.heap.push { cls := .type "set", dict := none, data := .set #[] 0 (.fresh 0 0 (!w.params.followText "set-order")) }).push { cls := .type "list_iterator", data := .fields #[.ref l, .int 0 0] }).get? s.heap.objs.size
              = some { cls := .type "set", dict := none, data := .set #[] 0 (.fresh 0 0 (!w.params.followText "set-order")) } := Heap.get?_push_of_some _ hS
          exact ⟨0, Nat.le_refl 0, setR_new_at hget⟩
        case hR =>
          intro s' c' hm hc' hS'
          obtain ⟨h', g2, d', tk', os'⟩ := s'
          have eg : g2 = s.gens := hm.gens
          have ed : d' = s.drawn := hm.drawn
          have eo : os' = s.os := hm.os
          subst eg; subst ed; subst eo
          show wpAny _ _ _ _ _ _
          refine wpAny_pure ?_
          show wpAny _ _ (PySem.ret Value.none) _ _ _
          rw [hisz] at hc'
          refine wpAny_pure ⟨rfl, h', tk', c', rfl, hS', hc', fun b o e => ?_⟩
          have hb0 : b < s.heap.objs.size := Heap.lt_size e
          have hb1 : b ≠ s.heap.objs.size := Nat.ne_of_lt hb0
          have hb2 : b ≠ (s.heap.push { cls := .type "set", dict := none, data := .set #[] 0 (.fresh 0 0 (!w.params.followText "set-order")) }).objs.size := by
            rw [Heap.size_push]; exact Nat.ne_of_lt (Nat.lt_succ_of_lt hb0)
          exact hm.heap b o (by simp only [List.mem_cons, List.mem_singleton, List.not_mem_nil, or_false, not_or]; exact ⟨hb1, hb2⟩) (Heap.get?_push_of_some _ (Heap.get?_push_of_some _ e))
      · cases r₂ with
        | error e => exact hr₂
        | ok fl₂ =>
          cases fl₂ with
          | ret r =>
            obtain ⟨rfl, h', tk, c', rfl, hS', hc', hk'⟩ := hr₂
            repeat (any_goals (first | assumption | wp_step))
            exact h _ _ _ hS' hc' hk'
          | _ => exact hr₂.elim
    | _ => exact hr.elim
/-- sorted(a set of ints), of any size -/
theorem sorted_setI {a : Addr} {S : Int → Bool} {n : Nat} {Q : Value → Shared → Prop} (R : SetR w s.heap a S n) (hh : A.handled = none) (hu : A.units + 40 < cLine)
    (hQ : ∀ s' p (out : Array Value) (c : Nat) (ns : List Int), (∀ b o, s.heap.get? b = some o → s'.heap.get? b = some o) → s'.gens = s.gens → s'.os = s.os → s.heap.objs.size ≤ p →
      s'.heap.get? p = some (seqObj "list" out c) → IntsAre out.toList ns → ns.Pairwise (· < ·) → (∀ k, k ∈ ns ↔ S k = true) → ns.length = n → Q (.ref p) s') :
    wpAny (model P w) A (call (.builtin "sorted") [.ref a]) Q E s := by
  obtain ⟨o, es, ep, t, ho, hex, hd, g, nd, hm, hb, hf, hn, hr, hl⟩ := R
  refine Calls.call_function_entry kind_sorted plain_sorted entry_sorted (args_sorted1 _) ?_
  unfold Builtin.«sorted»
  refine wpAny_bind (m := checkCount "sorted" 1 1 _) (wpAny_pure ?_)
  refine wpAny_bind (collect_set (A := A.in1) hh ⟨o, ho, hex.1, hd⟩ hf hb hr hl fun s1 vs k1 hz g1 o1 pm => ?_)
  have hvl : vs.length = n := by rw [pm.length_eq, List.length_map, Array.length_toList]; exact hn
  have hnl : n ≤ sizeLine := by
    rw [← hn, sizeLine_eq]
    unfold scanBound at hb
    omega
  have hI : IntsAre vs (vs.map Builtin.Re.reRawOf) := ints_of vs fun v hv => by
    obtain ⟨e, he, q⟩ := List.mem_map.mp (pm.mem_iff.mp hv)
    obtain ⟨k, tk, h1, _⟩ := g e he
    exact ⟨k, tk, by rw [← q]; exact h1⟩
  have pk : (vs.map Builtin.Re.reRawOf).Perm (es.toList.map keyOf) := by
    have q := pm.map Builtin.Re.reRawOf
    rw [List.map_map] at q
    exact q
  refine wpAny_bind (wpAny_newList ?_ (by rw [hvl]; exact hnl))
  have hoL : (s1.heap.push (seqObj "list" vs.toArray 0)).get? s1.heap.objs.size = some (seqObj "list" vs.toArray 0) := Heap.get?_push_size _ rfl
  generalize hbs : vs.map Builtin.Re.reRawOf = bs at hI pk
  have eachI : ∀ {us : List Value} {ks : List Int}, IntsAre us ks → PySem.W.EachIs (fun v k => ∃ t, v = Value.int k t) us ks := by
    intro us ks h
    induction h with
    | nil => exact .nil
    | cons k t _ ih => exact .cons ⟨t, rfl⟩ ih
  have intsE : ∀ {us : List Value} {ks : List Int}, PySem.W.EachIs (fun v k => ∃ t, v = Value.int k t) us ks → IntsAre us ks := by
    intro us ks h
    induction h with
    | nil => exact .nil
    | cons r _ ih =>
      obtain ⟨t, rfl⟩ := r
      exact .cons _ t ih
  have hbl : bs.length = n := by rw [← hI.length, hvl]
  refine wpAny_bind (wpAny_holding (PySem.W.list_sort_data (enc := fun k : Int => .int k) (bs := bs) (R := fun v k => ∃ t, v = Value.int k t) hoL (eachI hI) ((eachI hI).mono fun v k ⟨t, e⟩ => ⟨[], by rw [e]; exact .int k t, by simp⟩)
    (PySem.W.AllAlike.of fun _ _ => by simp [PySem.W.alike]) (PySem.W.Sortable.others fun _ => ⟨(fun z => by cases z), fun _ z => by cases z⟩) (by rw [hbl]; exact hnl) (fun b _ => by
      simp only [PyData.depth]
      show A.units + 1 + 1 + 0 < cLine
      omega) fun out hol ho2 => ?_))
  have ho3 := intsE ho2
  obtain ⟨c, hc⟩ := sortedHeap_at (vs := vs) (out := List.toArray out) hoL
  have hperm : (bs.mergeSort (PySem.W.dataLe false fun k : Int => .int k)).Perm bs := List.mergeSort_perm _ _
  have pn := hperm.trans pk
  have hle : (bs.mergeSort (PySem.W.dataLe false fun k : Int => .int k)).Pairwise (· ≤ ·) := by
    have e : PySem.W.dataLe false (fun k : Int => PyData.int k) = fun a b => decide (a ≤ b) := PySem.W.dataLe_int fun k => k
    rw [e]
    have := List.pairwise_mergeSort (le := fun a b : Int => decide (a ≤ b)) (fun a b c h1 h2 => by simp at *; omega) (fun a b => by simp; omega) bs
    exact this.imp fun h => by simpa using h
  refine wpAny_pure ⟨_, rfl, hQ _ s1.heap.objs.size (List.toArray out) c _ (fun b u e => ?_) g1 o1 hz hc (by simpa using ho3) (lt_of_le_nodup _ hle (pn.nodup_iff.mpr nd)) (fun k => by rw [pn.mem_iff, ← hm k]) ?_⟩
  · have q := k1 b u e
    have hlt := Heap.lt_size q
    show (sortedHeap (s1.heap.push (seqObj "list" vs.toArray 0)) s1.heap.objs.size vs (List.toArray out)).get? b = some u
    rw [sortedHeap_old (Nat.ne_of_lt hlt) (by rw [size_push']; exact Nat.lt_succ_of_lt hlt)]
    exact Heap.get?_push_of_some _ q
  · rw [hperm.length_eq, hbl]
end
section
variable {X : Cx}
/-- sorted(set(e)), e a list of ints -/
def dSortSet (te : DTE) : DTE := fun m M Q => te m M fun d M1 => ∃ ns : List Int, dItems d M1 = some (ns.map D.int) ∧ d ≠ .tup (ns.map D.int) ∧ ns.length ≤ 4000 ∧ ∀ (rs : List Int) (p : Addr), rs.Pairwise (· < ·) → (∀ k, k ∈ rs ↔ k ∈ ns) → rs.length ≤ ns.length → M1 p = none → Q (.ref p) (mput M1 p (.lst (rs.map D.int)))
theorem repL_intsV {K : PySem.W.Frag} {H : Hp} : ∀ {ns : List Int} {vs : List V}, RepL K H (ns.map D.int) vs → vs = ns.map V.int
  | [], _, .nil => rfl
  | n :: ns, _, .cons a r => by
    cases a
    rw [List.map_cons, repL_intsV r]
theorem d_sortSet {e : Expr} {te : DTE} {p p2 q pos : Pos} (hc : X.calm = true) (hu : X.A.units + 64 < cLine) (hg : Gl X "sorted") (hm : X.mg "sorted" = none) (hg2 : Gl X "set") (hm2 : X.mg "set" = none) (he : DE X e te)
    (na : starEach [e] X.env = (false, eval e X.env) :: starEach [] X.env := by rfl) : DE X (.Call (.Name "sorted" p) [.Call (.Name "set" p2) [e] [] q] [] pos) (dSortSet te) := by
  refine ⟨fun pins s σ H Q I ⟨m, M, Q', r, h, kk⟩ => ?_⟩
  refine Call_ (ld_blt I hg hm boot_sorted ?_)
  refine PyProof.Rows.callWith_builtin1 (PyProof.Rows.args_cons ?_ rfl) rfl rfl
  refine Call_ (ld_blt I hg2 hm2 boot_set ?_)
  refine PyProof.Rows.callWith_type1 (PyProof.Rows.args_cons (thn (he.run pins s σ H (fun v H1 => ∃ d M1, Grow H H1 ∧ Rep X.K H1 d v ∧ RM X.K H1 M1 ∧ ∃ ns : List Int, dItems d M1 = some (ns.map D.int) ∧ d ≠ .tup (ns.map D.int) ∧ ns.length ≤ 4000 ∧ ∀ (rs : List Int) (p : Addr), rs.Pairwise (· < ·) → (∀ k, k ∈ rs ↔ k ∈ ns) → rs.length ≤ ns.length → M1 p = none → Q' (.ref p) (mput M1 p (.lst (rs.map D.int)))) I
    ⟨m, M, _, r, h, fun d v M1 H1 g1 r1 m1 q1 => ⟨d, M1, g1, r1, m1, q1⟩⟩) fun v s1 ⟨x, H1, I1, r1, d, M1, g1, rd, m1, ns, hd, hnt, hl, q1⟩ => PyProof.Rows.args_nil ?_) na) na rfl
  obtain ⟨l, vs, rfl, hz, rl, hS⟩ := lst_of rd m1 hd hnt
  have evs := repL_intsV rl
  subst evs
  cases r1
  obtain ⟨its, ri, pl, _⟩ := I1.list hS
  refine call_set_listI ns (I1.ok.hd hc) pl.isList (by simpa using RZ.intsAre_vals ri) (by unfold scanBound; omega) fun h' tk c hR hcl hk => ?_
  refine PyProof.Rows.args_nil ?_
  have I2 : Inv X pins σ H1 { s1 with heap := h', toks := tk } := I1.kept hk
  have hR2 : SetR X.w ({ s1 with heap := h', toks := tk } : Shared).heap s1.heap.objs.size (fun j => decide (j ∈ ns)) c := hR
  generalize hs2 : ({ s1 with heap := h', toks := tk } : Shared) = s2 at I2 hR2 ⊢
  refine sorted_setI (s := s2) hR2 (I2.ok.hd hc) (by omega) fun s' p out c2 rs k g o hp hg hi hs hm hln => ?_
  have hlen : (rs.map V.int).length ≤ sizeLine := by rw [List.length_map, hln, sizeLine_eq]; omega
  have hn : H1 p = none := I2.hok.fresh hp
  have J : Inv X pins σ (upd H1 p (.lst (rs.map V.int))) { s2 with heap := s'.heap, gens := s'.gens, drawn := s'.drawn, toks := s'.toks } :=
    I2.call (ch := []) (Un.laid k hp hn) (I2.hok.laid k hp ⟨hlen, out.toList, c2, vals_of_ints hi, hg⟩) (by rw [g]; exact I2.bare) (fun _ z => nomatch z)
  have e : s' = { s2 with heap := s'.heap, gens := s'.gens, drawn := s'.drawn, toks := s'.toks } := by
    cases s'
    cases s2
    cases o
    rfl
  rw [e]
  exact ⟨.ref p, _, J, rfl, kk _ _ _ _ (g1.trans (.new hn)) (.ref _) (m1.newLst hn hlen (repL_ints rs)) (q1 rs p hs (fun k => by rw [hm k, decide_eq_true_iff]) (by omega) (m1.free hn))⟩
end
end DL
/-! [*a, .., *b], a and b tuples -/
namespace DL
open PySem PySem.Spec PyProof.Rows L2
section
variable {X : Cx} {e : Expr} {es : List Expr} {te : DTE} {t : DTA} {p : Pos}
def dStar (te : DTE) (t : DTA) : DTA := fun m M Q => te m M fun d M1 => ∃ ds, d = .tup ds ∧ t m M1 fun es M2 => Q (ds ++ es) M2
theorem da_star (he : DE X e te) (hr : DA X es t) (hs : starEach (.Starred e p :: es) X.env = (true, eval e X.env) :: starEach es X.env := by rfl) : DA X (.Starred e p :: es) (dStar te t) :=
  imA (StX.pa_star he hr hs) fun σ H Q ⟨m, M, Q', r, q, k⟩ => by
    refine ⟨m, M, _, r, q, fun d v M1 H1 g1 r1 m1 ⟨ds, e1, q1⟩ => ?_⟩
    subst e1
    cases r1 with
    | tup h z l =>
      refine ⟨_, _, rfl, .inl h, m, M1, _, r.grow g1 m1, q1, fun ds2 vs2 M2 H2 g2 r2 m2 q2 => ?_⟩
      exact k _ _ M2 H2 (g1.trans g2) (RepL.append (l.grow g2) r2) m2 q2
end
end DL
/-! str(an int), int(a text) -/
namespace DL
open PySem PySem.Spec PyProof.Rows L2
section
variable {X : Cx}
def rIntS : DCR := fun ds M Q => ∃ z n, ds = [.str z] ∧ PySem.intText? z = some n ∧ z.length ≤ 640 ∧ Q (.int n) M
theorem c_intS : DCall X (.type "int") rIntS := by
  intro pins s σ H vs us Q I r ⟨ds, M, Q', l, m, ⟨z, n, e, h, hl, q⟩, k⟩
  subst e
  obtain ⟨v, e, rv⟩ := repL_one l
  subst e
  cases rv
  exact call_int_str pins s σ H _ us Q I r ⟨z, n, rfl, h, hl, k _ _ M H (.refl H) (.int _) m q⟩
def rStrI : DCR := fun ds M Q => ∃ i : Int, ds = [.int i] ∧ i.natAbs.log2 < 1920 ∧ Q (.str (toString i)) M
theorem c_strI : DCall X (.type "str") rStrI := by
  intro pins s σ H vs us Q I r ⟨ds, M, Q', l, m, ⟨i, e, h, q⟩, k⟩
  subst e
  obtain ⟨v, e, rv⟩ := repL_one l
  subst e
  cases rv
  exact call_str_int pins s σ H _ us Q I r ⟨i, rfl, h, k _ _ M H (.refl H) (.str _) m q⟩
end
theorem int_str {i : Int} (h : i.natAbs < 10 ^ 300) : PySem.intText? (Str.ofString (toString i)) = some i ∧ (Str.ofString (toString i)).length ≤ 640 := by
  cases i with
  | ofNat n =>
    have hn : n < 10 ^ 300 := h
    have hl := TL.numL_len (by decide) hn
    refine ⟨TL.int_num (by omega), ?_⟩
    rw [TL.len_tl, show TL.tl (Str.ofString (toString (Int.ofNat n))) = TL.numL n from TL.tl_num n]
    omega
  | negSucc n =>
    have hn : n + 1 < 10 ^ 300 := h
    have hl := TL.numL_len (by decide) hn
    have e1 : toString (Int.negSucc n) = "-" ++ toString ((n + 1 : Nat) : Int) := rfl
    have e2 : TL.tl (Str.ofString (toString (Int.negSucc n))) = 45 :: TL.numL (n + 1) := by
      have q := TL.tl_num (n + 1)
      rw [TL.tl_ofString] at q
      rw [e1, TL.tl_ofString, String.toList_append, List.map_append, q]
      rfl
    have hlen : (Str.ofString (toString (Int.negSucc n))).length ≤ 640 := by
      rw [TL.len_tl, e2, List.length_cons]
      omega
    refine ⟨?_, hlen⟩
    rw [intText_neg (x := Str.ofString (toString (Int.negSucc n))) (cs := TL.numL (n + 1)) e2 (TL.numL_digits _) (TL.numL_ne _) (by omega), TL.numL_val]
    rfl
theorem log2_lt {n : Nat} (h : n < 10 ^ 300) : n.log2 < 1920 := by
  by_cases c : n = 0
  · subst c
    decide
  · rw [Nat.log2_lt c]
    refine Nat.lt_of_lt_of_le h ?_
    decide +kernel
end DL
/-! dicts whose keys are ints and texts: in the mutable part (DO.dk), or frozen: plain data (D.dct) -/
namespace DL
open PySem PySem.Spec PyProof.Rows L2

/-! ### keys -/
def isKb : D → Bool
  | .int _ => true
  | .str _ => true
  | _ => false
theorem isKb_int (i : Int) : isKb (.int i) = true := rfl
theorem isKb_str (x : Str) : isKb (.str x) = true := rfl
theorem isKb_kD (k : Key) : isKb (kD k) = true := by cases k <;> rfl
theorem isKb_ex {d : D} (h : isKb d = true) : ∃ k, d = kD k := by
  cases d with
  | int i => exact ⟨.inl i, rfl⟩
  | str x => exact ⟨.inr x, rfl⟩
  | _ => cases h
theorem nk_kD {a b : Key} : nk (kD a) = nk (kD b) ↔ a = b := by
  constructor
  · intro h
    cases a <;> cases b <;> simp [kD, nk] at h <;> simp [h]
  · intro h
    rw [h]
theorem rep_kD {K : PySem.W.Frag} {H : Hp} (k : Key) : Rep K H (kD k) (kV k) := by
  cases k with
  | inl i => exact .int i
  | inr x => exact .str x
theorem rep_kV {K : PySem.W.Frag} {H : Hp} {k : Key} {v : V} (r : Rep K H (kD k) v) : v = kV k := by
  cases k <;> cases r <;> rfl
/-- what the dict holds -/
def dDict : D → DM → Option (List (D × D))
  | .dct kvs, _ => some kvs
  | .ref a, M => match M a with
    | some (.dk kvs) => some kvs
    | _ => none
  | _, _ => none
@[simp] theorem dDict_dct {kvs : List (D × D)} {M : DM} : dDict (.dct kvs) M = some kvs := rfl
theorem dDict_ref {kvs : List (D × D)} {M : DM} {a : Addr} (h : M a = some (.dk kvs)) : dDict (.ref a) M = some kvs := by
  simp [dDict, h]
theorem dDict_put {kvs : List (D × D)} {M : DM} {a : Addr} : dDict (.ref a) (mput M a (.dk kvs)) = some kvs := dDict_ref mput_same
theorem dDict_rf {M : DM} {a : Addr} : dDict (.ref a) M = match M a with
    | some (.dk kvs) => some kvs
    | _ => none := rfl
section
variable {K : PySem.W.Frag} {H H' : Hp} {M : DM}
theorem RepK.length : ∀ {kvs : List (D × D)} {es : List (Key × V)}, RepK K H kvs es → kvs.length = es.length
  | _, _, .nil => rfl
  | _, _, .cons _ l => congrArg (· + 1) l.length
theorem RepK.get : ∀ {kvs : List (D × D)} {es : List (Key × V)} {i : Nat} {k : Key} {v : V}, RepK K H kvs es → es[i]? = some (k, v) → ∃ d, kvs[i]? = some (kD k, d) ∧ Rep K H d v
  | _, _, _, _, _, .nil, e => by simp at e
  | _, _, 0, _, _, .cons h _, e => by
    simp at e
    obtain ⟨rfl, rfl⟩ := e
    exact ⟨_, rfl, h⟩
  | _, _, i + 1, _, _, .cons _ l, e => by
    obtain ⟨d, h1, h2⟩ := RepK.get (i := i) l (by simpa using e)
    exact ⟨d, by simpa using h1, h2⟩
theorem RepK.val {k : Key} : ∀ {kvs : List (D × D)} {es : List (Key × V)}, RepK K H kvs es → (dget kvs (kD k) = none ∧ valV es k = none) ∨ ∃ d y, dget kvs (kD k) = some d ∧ valV es k = some y ∧ Rep K H d y
  | _, _, .nil => .inl ⟨rfl, rfl⟩
  | _, _, .cons (k := k1) (d := d) h l => by
    have ih := RepK.val (k := k) l
    by_cases c : k1 = k
    · subst c
      refine .inr ⟨d, _, ?_, valV_pos rfl, h⟩
      unfold dget
      rw [List.find?_cons, decide_eq_true rfl]
      rfl
    · rw [valV_neg (p := (k1, _)) c]
      unfold dget at ih ⊢
      rw [List.find?_cons, decide_eq_false (fun z => c (nk_kD.mp z))]
      exact ih
theorem RepK.has {k : Key} : ∀ {kvs : List (D × D)} {es : List (Key × V)}, RepK K H kvs es → (es.any fun kv => decide (kv.1 = k)) = dhas kvs (kD k)
  | _, _, .nil => rfl
  | _, _, .cons (k := k1) h l => by
    have ih := RepK.has (k := k) l
    unfold dhas at ih ⊢
    rw [List.any_cons, List.any_cons, ih]
    congr 1
    by_cases c : k1 = k
    · rw [decide_eq_true c, decide_eq_true (nk_kD.mpr c)]
    · rw [decide_eq_false c, decide_eq_false (fun z => c (nk_kD.mp z))]
theorem RepK.map {k : Key} {d : D} {y : V} (rd : Rep K H d y) : ∀ {kvs : List (D × D)} {es : List (Key × V)}, RepK K H kvs es → RepK K H (kvs.map fun p => if nk p.1 = nk (kD k) then (p.1, d) else p) (es.map fun kv => if kv.1 = k then (kv.1, y) else kv)
  | _, _, .nil => .nil
  | _, _, .cons (k := k1) h l => by
    rw [List.map_cons, List.map_cons]
    by_cases c : k1 = k
    · rw [if_pos (show (k1, _).1 = k from c), if_pos (show nk (kD k1, _).1 = nk (kD k) from nk_kD.mpr c)]
      exact .cons rd (RepK.map rd l)
    · rw [if_neg (show ¬ (k1, _).1 = k from c), if_neg (show ¬ nk (kD k1, _).1 = nk (kD k) from fun z => c (nk_kD.mp z))]
      exact .cons h (RepK.map rd l)
theorem RepK.snoc {k : Key} {d : D} {y : V} (rd : Rep K H d y) : ∀ {kvs : List (D × D)} {es : List (Key × V)}, RepK K H kvs es → RepK K H (kvs ++ [(kD k, d)]) (es ++ [(k, y)])
  | _, _, .nil => .cons rd .nil
  | _, _, .cons h l => .cons h (RepK.snoc rd l)
theorem RepK.put {k : Key} {d : D} {y : V} {kvs : List (D × D)} {es : List (Key × V)} (l : RepK K H kvs es) (rd : Rep K H d y) : RepK K H (dput kvs (kD k) d) (putK es k y) := by
  unfold dput putK
  rw [l.has]
  split
  · exact l.map rd
  · exact l.snoc rd
theorem RepK.keys : ∀ {kvs : List (D × D)} {es : List (Key × V)}, RepK K H kvs es → RepL K H (kvs.map (·.1)) (es.map fun x => kV x.1)
  | _, _, .nil => .nil
  | _, _, .cons (k := k) _ l => .cons (rep_kD k) (RepK.keys l)
theorem dict_at {d : D} {v : V} {kvs : List (D × D)} (r : Rep K H d v) (m : RM K H M) (e : dDict d M = some kvs) : ∃ a es, v = .ref a ∧ Rd H a (.dK es) ∧ es.length ≤ sizeLine ∧ RepK K H kvs es := by
  cases r with
  | dct h z l =>
    cases e
    exact ⟨_, _, rfl, .inr ⟨_, h⟩, z, l⟩
  | ref a =>
    cases q : M a with
    | none => simp [dDict, q] at e
    | some o =>
      cases o with
      | dk ks =>
        simp [dDict, q] at e
        subst e
        obtain ⟨es, h, z, l⟩ := m a _ q
        exact ⟨a, es, rfl, .inl h, z, l⟩
      | _ => simp [dDict, q] at e
  | _ => cases e
theorem Grow.dk {p : Addr} {es : List (Key × V)} {o : HO} (h : H p = some (.dK es)) : Grow H (upd H p o) :=
  ⟨fun b xs e => by rw [upd_ne (ne_of e h (by intro z; cases z))]; exact e, fun b q u e => by rw [upd_ne (ne_of e h (by intro z; cases z))]; exact e, fun b q e => by rw [upd_ne (ne_of e h (by intro z; cases z))]; exact e⟩
theorem RM.putDk {p : Addr} {es es' : List (Key × V)} {kvs : List (D × D)} (h : RM K H M) (hp : H p = some (.dK es)) (hz : es'.length ≤ sizeLine) (l : RepK K H kvs es') : RM K (upd H p (.dK es')) (mput M p (.dk kvs)) := fun a q e => by
  have g : Grow H (upd H p (.dK es')) := Grow.dk hp
  by_cases ha : a = p
  · subst ha
    rw [mput_same] at e
    cases e
    exact ⟨es', upd_same, hz, l.grow g⟩
  · rw [mput_ne ha] at e
    exact (h a q e).stay (upd_ne ha) g
theorem RM.newDk {p : Addr} {es : List (Key × V)} {kvs : List (D × D)} (h : RM K H M) (hp : H p = none) (hz : es.length ≤ sizeLine) (l : RepK K H kvs es) : RM K (upd H p (.dK es)) (mput M p (.dk kvs)) := fun a q e => by
  by_cases ha : a = p
  · subst ha
    rw [mput_same] at e
    cases e
    exact ⟨es, upd_same, hz, l.grow (.new hp)⟩
  · rw [mput_ne ha] at e
    exact h.new hp a q e
theorem RM.dk {a : Addr} {kvs : List (D × D)} (h : RM K H M) (e : M a = some (.dk kvs)) : ∃ es, H a = some (.dK es) ∧ es.length ≤ sizeLine ∧ RepK K H kvs es := h a _ e
theorem RM.frzDk {p : Addr} {es : List (Key × V)} {o : Obj} (h : RM K H M) (hp : H p = some (.dK es)) : RM K (upd H p (.frz o (.dK es))) (mdel M p) := fun a q e => by
  have ha : a ≠ p := fun z => by
    subst z
    unfold mdel at e
    simp at e
  have e' : M a = some q := by
    unfold mdel at e
    rw [if_neg ha] at e
    exact e
  exact (h a q e').stay (upd_ne ha) (Grow.dk hp)
end
theorem dput_len' (kvs : List (D × D)) (k v : D) : (dput kvs k v).length ≤ kvs.length + 1 := dput_len kvs k v

section
variable {X : Cx} {o e a b f : Expr} {pos apos cpos : Pos} {to te tf ta tb : DTE}
/-! ### d[k], k in d, k not in d -/
def dKIx (to te : DTE) : DTE := fun m M Q => to m M fun x M1 => te m M1 fun y M2 => ∃ kvs v, dDict x M2 = some kvs ∧ isKb y = true ∧ dget kvs y = some v ∧ Q v M2
theorem d_kix (hu : X.A.units + 1 < cLine) (ho : DE X o to) (he : DE X e te) (hs : NoSl e) : DE X (.Subscript o e pos) (dKIx to te) :=
  imE (pe_dget hu ho he hs) fun σ H Q ⟨m, M, Q', r, q, kk⟩ => by
    refine ⟨m, M, _, r, q, fun x v1 M1 H1 g1 r1 m1 q1 => ⟨m, M1, _, r.grow g1 m1, q1, fun y v2 M2 H2 g2 r2 m2 ⟨kvs, v, e1, e2, e3, q2⟩ => ?_⟩⟩
    obtain ⟨p, es, rfl, hr, z, l⟩ := dict_at (r1.grow g2) m2 e1
    obtain ⟨k, rfl⟩ := isKb_ex e2
    obtain rfl := rep_kV r2
    rcases l.val (k := k) with ⟨n1, _⟩ | ⟨d, y, n1, n2, rd⟩
    · rw [n1] at e3
      cases e3
    · rw [n1] at e3
      cases e3
      exact ⟨p, y, rfl, .inl ⟨es, k, hr, rfl, n2.symm⟩, kk _ _ M2 H2 (g1.trans g2) rd m2 q2⟩
def dKIn : DR2 := fun x y M Q => ∃ kvs, dDict y M = some kvs ∧ isKb x = true ∧ Q (.bl (dhas kvs x)) M
def dKNotIn : DR2 := fun x y M Q => ∃ kvs, dDict y M = some kvs ∧ isKb x = true ∧ Q (.bl (!dhas kvs x)) M
theorem has_val {K : PySem.W.Frag} {H : Hp} {kvs : List (D × D)} {es : List (Key × V)} (l : RepK K H kvs es) (k : Key) : (valV es k).isSome = dhas kvs (kD k) := by
  rw [← valV_any, l.has]
theorem o_inK (hu : X.A.units + 1 < cLine) : DOp X (compareOp .In) dKIn := by
  intro pins s σ H x y v u Q I rx ry ⟨d, e, M, Q', r1, r2, m, ⟨kvs, e1, e2, q⟩, k⟩
  obtain ⟨p, es, rfl, hr, z, l⟩ := dict_at r2 m e1
  obtain ⟨key, rfl⟩ := isKb_ex e2
  obtain rfl := rep_kV r1
  obtain rfl : u = Value.ref p := ry
  refine d_in hu I (.inl ⟨es, key, hr, rfl, rfl⟩) rx fun s' I' => ?_
  rw [has_val l]
  exact ⟨.bl _, H, I', rfl, k _ _ M H (.refl H) (.bl _) m q⟩
theorem o_notinK (hu : X.A.units + 1 < cLine) : DOp X (compareOp .NotIn) dKNotIn := by
  intro pins s σ H x y v u Q I rx ry ⟨d, e, M, Q', r1, r2, m, ⟨kvs, e1, e2, q⟩, k⟩
  obtain ⟨p, es, rfl, hr, z, l⟩ := dict_at r2 m e1
  obtain ⟨key, rfl⟩ := isKb_ex e2
  obtain rfl := rep_kV r1
  obtain rfl : u = Value.ref p := ry
  refine d_notIn hu I (.inl ⟨es, key, hr, rfl, rfl⟩) rx fun s' I' => ?_
  rw [has_val l]
  exact ⟨.bl _, H, I', rfl, k _ _ M H (.refl H) (.bl _) m q⟩
/-! ### len(d) -/
def rLenK : DCR := fun ds M Q => ∃ d kvs, ds = [d] ∧ dDict d M = some kvs ∧ Q (.int kvs.length) M
theorem c_lenK : DCall X (.builtin "len") rLenK := by
  intro pins s σ H vs us Q I r ⟨ds, M, Q', l, m, ⟨d, kvs, e, h, q⟩, k⟩
  subst e
  obtain ⟨v, e, rv⟩ := repL_one l
  subst e
  obtain ⟨p, es, rfl, hr, z, l2⟩ := dict_at rv m h
  obtain ⟨u, eu, rx⟩ := vals1 r
  subst eu
  obtain rfl : u = Value.ref p := rx
  refine d_len I hr fun t s' I' => ⟨.int es.length, H, I', ⟨t, rfl⟩, ?_⟩
  rw [← l2.length]
  exact k _ _ M H (.refl H) (.int _) m q
/-! ### {}, freezing -/
def dKNew : DTE := fun _ M Q => ∀ p, M p = none → Q (.ref p) (mput M p (.dk []))
theorem d_knew : DE X (.Dict [] [] pos) dKNew :=
  imE pe_dnewK fun σ H Q ⟨m, M, Q', r, q, kk⟩ p hp => kk _ _ _ _ (.new hp) (.ref p) (r.mem.newDk hp (Nat.zero_le _) .nil) (q p (r.mem.free hp))
theorem inv_frzD {pins : List (Addr × Obj)} {σ : SL} {H : Hp} {s : Shared} {p : Addr} {es : List (Key × V)} (I : Inv X pins σ H s) (h : H p = some (.dK es)) : ∃ ob, Inv X pins σ (upd H p (.frz ob (.dK es))) s := I.lock h True.intro
def tFzK (t : TE) : TE := fun σ H Q => t σ H fun v H1 => ∃ p es, v = .ref p ∧ H1 p = some (.dK es) ∧ ∀ ob, Q v (upd H1 p (.frz ob (.dK es)))
theorem pe_fzK {t : TE} (h : PE X e t) : PE X e (tFzK t) := by
  refine ⟨fun pins s σ H Q I q => thn (h.run pins s σ H _ I q) fun u s1 ⟨v, H1, I1, r1, p, es, e1, e2, q1⟩ => ?_⟩
  obtain ⟨ob, I2⟩ := inv_frzD I1 e2
  exact ⟨v, _, I2, r1, q1 ob⟩
/-- the dict that comes is frozen -/
def dFzK (t : DTE) : DTE := fun m M Q => t m M fun d M1 => ∃ p kvs, d = .ref p ∧ M1 p = some (.dk kvs) ∧ Q (.dct kvs) (mdel M1 p)
theorem d_fzK (h : DE X e te) : DE X e (dFzK te) :=
  imE (pe_fzK h) fun σ H Q ⟨m, M, Q', r, q, k⟩ => by
    refine ⟨m, M, _, r, q, fun d v M1 H1 g1 r1 m1 ⟨p, kvs, e1, e2, q1⟩ => ?_⟩
    subst e1
    cases r1
    obtain ⟨es, h1, z, l⟩ := m1.dk e2
    exact ⟨p, es, rfl, h1, fun ob => k _ _ _ _ (g1.trans (.dk h1)) (.dct upd_same z (l.grow (.dk h1))) (m1.frzDk h1) q1⟩
/-! ### d[k] = v -/
def dKPut (to te tv : DTE) : DTS := fun Z m M => tv m M fun v M1 => to m M1 fun x M2 => te m M2 fun y M3 => ∃ p kvs, x = .ref p ∧ M3 p = some (.dk kvs) ∧ isKb y = true ∧ kvs.length < sizeLine ∧ Z.nx m (mput M3 p (.dk (dput kvs y v)))
theorem ds_kput {value : Expr} {spos : Pos} {tv : DTE} (hu : X.A.units + 1 < cLine) (hv : DE X value tv) (ho : DE X o to) (he : DE X e te) (hs : swapsWith value (some (.Subscript o e pos)) spos.line X.env = pure false := by rfl) : DS X (.Assign [.Subscript o e pos] value spos) (dKPut to te tv) :=
  imS (ps_dput hu ho he hv hs) fun Z σ H ⟨m, M, Z', r, q, k⟩ => by
    refine ⟨m, M, _, r, q, fun v v0 M1 H1 g1 r1 m1 q1 => ⟨m, M1, _, r.grow g1 m1, q1, fun x v1 M2 H2 g2 r2 m2 q2 => ⟨m, M2, _, (r.grow g1 m1).grow g2 m2, q2, fun y v2 M3 H3 g3 r3 m3 ⟨p, kvs, e1, e2, e3, e4, q3⟩ => ?_⟩⟩⟩
    subst e1
    cases r2
    obtain ⟨es, h3, z, l⟩ := m3.dk e2
    obtain ⟨key, rfl⟩ := isKb_ex e3
    obtain rfl := rep_kV r3
    have hlen : es.length < sizeLine := by rw [← l.length]; exact e4
    have hz : (putK es key v0).length ≤ sizeLine := by have := length_putK es key v0; omega
    have g4 : Grow H3 (upd H3 p (.dK (putK es key v0))) := Grow.dk h3
    exact ⟨p, _, rfl, .inl ⟨es, key, h3, rfl, hlen, rfl⟩, k.nx _ _ _ _ (((g1.trans g2).trans g3).trans g4) (((r.grow g1 m1).grow g2 m2).grow (g3.trans g4) (m3.putDk h3 hz (l.put ((r1.grow g2).grow g3)))) q3⟩
end
end DL
/-! dicts whose keys are ints and texts: walked, by comprehension, get, setdefault, list -/
namespace DL
open PySem PySem.Spec PyProof.Rows L2
section
variable {K : PySem.W.Frag} {H : Hp}
theorem RepK.get' : ∀ {kvs : List (D × D)} {es : List (Key × V)} {i : Nat} {k : Key} {v : V}, RepK K H kvs es → es[i]? = some (k, v) → (kvs.map (·.1))[i]? = some (kD k) := fun {kvs es i k v} l e => by
  obtain ⟨d, h1, _⟩ := l.get e
  rw [List.getElem?_map, h1]
  rfl
/-- what is walked stays: frozen -/
theorem frz_ok {H0 H : Hp} {a : Addr} {ob : Obj} {es : List (Key × V)} (h : H0 a = some (.frz ob (.dK es))) (g : Grow H0 H) : H a = some (.frz ob (.dK es)) := g.frzs _ _ _ h
theorem stream_keys {a : Addr} {ob : Obj} {kvs : List (D × D)} {es : List (Key × V)} (h : H a = some (.frz ob (.dK es))) (hz : es.length ≤ sizeLine) (l : RepK K H kvs es) : Stream K (Itk a ob es) (kvs.map (·.1), none) H := by
  have hl : (kvs.map (·.1)).length = es.length := by rw [List.length_map, l.length]
  refine ⟨by show (kvs.map (·.1)).length ≤ sizeLine; rw [hl]; exact hz, fun i H1 ok hi => ⟨frz_ok h ok.1, ?_⟩, fun i H1 x H2 ok hi y => ?_, fun H1 ok => ⟨frz_ok h ok.1, ?_⟩⟩
  · rw [← hl]; exact hi
  · obtain ⟨e1, k, v, e2, e3⟩ := y
    subst e1
    subst e3
    exact ⟨.refl _, fun _ q => q, kD k, l.get' e2, rep_kD k⟩
  · show es.length ≤ (kvs.map (·.1)).length
    omega
theorem stream_vals {a : Addr} {ob : Obj} {kvs : List (D × D)} {es : List (Key × V)} (h : H a = some (.frz ob (.dK es))) (hz : es.length ≤ sizeLine) (l : RepK K H kvs es) : Stream K (Itd a ob es) (kvs.map (·.2), none) H := by
  have hl : (kvs.map (·.2)).length = es.length := by rw [List.length_map, l.length]
  refine ⟨by show (kvs.map (·.2)).length ≤ sizeLine; rw [hl]; exact hz, fun i H1 ok hi => ⟨frz_ok h ok.1, ?_⟩, fun i H1 x H2 ok hi y => ?_, fun H1 ok => ⟨frz_ok h ok.1, ?_⟩⟩
  · rw [← hl]; exact hi
  · obtain ⟨e1, k, e2⟩ := y
    subst e1
    obtain ⟨d, h1, h2⟩ := l.get e2
    exact ⟨.refl _, fun _ q => q, d, by rw [List.getElem?_map, h1]; rfl, h2.grow ok.1⟩
  · show es.length ≤ (kvs.map (·.2)).length
    omega
def pairD (p : D × D) : D := .tup [p.1, p.2]
theorem stream_items {a : Addr} {ob : Obj} {kvs : List (D × D)} {es : List (Key × V)} (h : H a = some (.frz ob (.dK es))) (hz : es.length ≤ sizeLine) (l : RepK K H kvs es) : Stream K (Iti a ob es) (kvs.map pairD, none) H := by
  have hl : (kvs.map pairD).length = es.length := by rw [List.length_map, l.length]
  refine ⟨by show (kvs.map pairD).length ≤ sizeLine; rw [hl]; exact hz, fun i H1 ok hi => ⟨frz_ok h ok.1, ?_⟩, fun i H1 x H2 ok hi y => ?_, fun H1 ok => ⟨frz_ok h ok.1, ?_⟩⟩
  · rw [← hl]; exact hi
  · obtain ⟨T, k, v, e2, e3, e4, e5⟩ := y
    subst e3
    subst e5
    obtain ⟨d, h1, h2⟩ := l.get e2
    refine ⟨.new e4, fun _ q => q.new e4, pairD (kD k, d), by rw [List.getElem?_map, h1]; rfl, ?_⟩
    exact .tup (.of upd_same) (by show 2 ≤ sizeLine; rw [sizeLine_eq]; omega) (.cons (rep_kD k) (.cons ((h2.grow ok.1).grow (.new e4)) .nil))
  · show es.length ≤ (kvs.map pairD).length
    omega
end
section
variable {X : Cx} {tg e o f : Expr} {te to tf : DTE} {pos apos cpos : Pos}
def diKeys (te : DTE) : DTI := fun m M Q => te m M fun d M1 => ∃ kvs, d = .dct kvs ∧ Q (kvs.map (·.1), none) M1
def diVals (te : DTE) : DTI := fun m M Q => te m M fun d M1 => ∃ kvs, d = .dct kvs ∧ Q (kvs.map (·.2), none) M1
def diItems (te : DTE) : DTI := fun m M Q => te m M fun d M1 => ∃ kvs, d = .dct kvs ∧ Q (kvs.map pairD, none) M1
theorem di_keys (he : DE X e te) : DI X tg e (diKeys te) :=
  imI (pi_keys he) fun σ H Q ⟨m, M, Q', r, q, k⟩ => by
    refine ⟨m, M, _, r, q, fun d v M1 H1 g1 r1 m1 ⟨kvs, e, q1⟩ => ?_⟩
    subst e
    cases r1 with
    | dct h z l => exact ⟨_, _, rfl, .inl ⟨_, h, k _ M1 H1 _ g1 m1 q1 (stream_keys h z l)⟩⟩
theorem di_keysM (he : DE X e te) (hbase : attributeBase e "keys" X.env (eval e X.env) = eval e X.env := by rfl) (hline : (apos.endLine == cpos.line) = true := by rfl) : DI X tg (.Call (.Attribute e "keys" apos) [] [] cpos) (diKeys te) :=
  imI (pi_keysM he hbase hline) fun σ H Q ⟨m, M, Q', r, q, k⟩ => by
    refine ⟨m, M, _, r, q, fun d v M1 H1 g1 r1 m1 ⟨kvs, e, q1⟩ => ?_⟩
    subst e
    cases r1 with
    | dct h z l => exact ⟨_, _, _, rfl, h, k _ M1 H1 _ g1 m1 q1 (stream_keys h z l)⟩
theorem di_vals (he : DE X e te) (hbase : attributeBase e "values" X.env (eval e X.env) = eval e X.env := by rfl) (hline : (apos.endLine == cpos.line) = true := by rfl) : DI X tg (.Call (.Attribute e "values" apos) [] [] cpos) (diVals te) :=
  imI (pi_values he hbase hline) fun σ H Q ⟨m, M, Q', r, q, k⟩ => by
    refine ⟨m, M, _, r, q, fun d v M1 H1 g1 r1 m1 ⟨kvs, e, q1⟩ => ?_⟩
    subst e
    cases r1 with
    | dct h z l => exact ⟨_, _, _, rfl, h, k _ M1 H1 _ g1 m1 q1 (stream_vals h z l)⟩
theorem di_items {elts : List Expr} {kk : Nat} {tpos : Pos} (he : DE X e te) (hbase : attributeBase e "items" X.env (eval e X.env) = eval e X.env := by rfl) (hline : (apos.endLine == cpos.line) = true := by rfl) :
    DI X (.Tuple elts kk tpos) (.Call (.Attribute e "items" apos) [] [] cpos) (diItems te) :=
  imI (pi_items he hbase hline) fun σ H Q ⟨m, M, Q', r, q, k⟩ => by
    refine ⟨m, M, _, r, q, fun d v M1 H1 g1 r1 m1 ⟨kvs, e, q1⟩ => ?_⟩
    subst e
    cases r1 with
    | dct h z l => exact ⟨_, _, _, rfl, h, k _ M1 H1 _ g1 m1 q1 (stream_items h z l)⟩
/-- the dict in the slot i is frozen ahead of the statement -/
def dFzD (i : Nat) (t : DTS) : DTS := fun Z m M => ∃ p kvs, m[i]? = some (some (.ref p)) ∧ M p = some (.dk kvs) ∧ t Z (m.set i (some (.dct kvs))) (mdel M p)
theorem ds_fzD {st : Stmt} {t : DTS} (i : Nat) (h : DS X st t) : DS X st (dFzD i t) := by
  refine ⟨fun pins s σ H Z I ⟨m, M, Z', r, ⟨p, kvs, e1, e2, q⟩, k⟩ => ?_⟩
  obtain ⟨v, hv, rv⟩ := r.slot i _ e1
  cases rv
  obtain ⟨es, h1, z, l⟩ := r.mem.dk e2
  obtain ⟨ob, I2⟩ := inv_frzD I h1
  have g : Grow H (upd H p (.frz ob (.dK es))) := Grow.dk h1
  have r2 : R X.K m (mdel M p) σ (upd H p (.frz ob (.dK es))) := r.grow g (r.mem.frzDk h1)
  have r3 := r2.set (i := i) (d := .dct kvs) (v := .ref p) (.dct upd_same z (l.grow g))
  have es' : σ.set i (some (V.ref p)) = σ := by
    refine List.ext_getElem? fun j => ?_
    by_cases c : i = j
    · subst c
      by_cases hi : i < σ.length
      · rw [List.getElem?_set_self hi, hv]
      · rw [List.getElem?_eq_none (by omega)] at hv
        cases hv
    · rw [List.getElem?_set_ne c]
  rw [es'] at r3
  exact h.run pins s σ _ Z I2 ⟨_, _, Z', r3, q, k.grow g⟩
/-! ### d.get(k), d.get(k, x) -/
theorem dict_is {K : PySem.W.Frag} {H : Hp} {a : Addr} {es : List (Key × V)} (h : Rd H a (.dK es)) : IsD H a := .inl ⟨es, h⟩
def dKGet1 (to te : DTE) : DTE := fun m M Q => to m M fun x M1 => (∃ kvs, dDict x M1 = some kvs) ∧ te m M1 fun y M2 => ∃ kvs, dDict x M2 = some kvs ∧ isKb y = true ∧ Q ((dget kvs y).getD .non) M2
theorem d_kget1 (hu : X.A.units + 1 < cLine) (ho : DE X o to) (he : DE X e te) (m : M1 X o "get" apos e cpos := by exact ⟨by rfl, by rfl, by rfl, by rfl⟩) : DE X (.Call (.Attribute o "get" apos) [e] [] cpos) (dKGet1 to te) :=
  imE (pe_dget1 hu ho he m) fun σ H Q ⟨m, M, Q', r, q, kk⟩ => by
    refine ⟨m, M, _, r, q, fun x v1 M1 H1 g1 r1 m1 ⟨⟨kvs0, e0⟩, q1⟩ => ?_⟩
    obtain ⟨p, es0, rfl, hr0, _, _⟩ := dict_at r1 m1 e0
    refine ⟨p, rfl, .inl ⟨_, hr0⟩, m, M1, _, r.grow g1 m1, q1, fun y v2 M2 H2 g2 r2 m2 ⟨kvs, e1, e2, q2⟩ => ?_⟩
    obtain ⟨p', es, e3, hr, z, l⟩ := dict_at (r1.grow g2) m2 e1
    cases e3
    obtain ⟨k, rfl⟩ := isKb_ex e2
    obtain rfl := rep_kV r2
    refine ⟨valV es k, .inl ⟨es, k, hr, rfl, rfl⟩, ?_⟩
    rcases l.val (k := k) with ⟨n1, n2⟩ | ⟨d, y, n1, n2, rd⟩
    · rw [n1] at q2
      rw [n2]
      exact kk _ _ M2 H2 (g1.trans g2) .non m2 q2
    · rw [n1] at q2
      rw [n2]
      exact kk _ _ M2 H2 (g1.trans g2) rd m2 q2
def dKGet2 (to te tf : DTE) : DTE := fun m M Q => to m M fun x M1 => (∃ kvs, dDict x M1 = some kvs) ∧ te m M1 fun y M2 => tf m M2 fun z M3 => ∃ kvs, dDict x M3 = some kvs ∧ isKb y = true ∧ Q ((dget kvs y).getD z) M3
theorem d_kget2 (hu : X.A.units + 1 < cLine) (ho : DE X o to) (he : DE X e te) (hf : DE X f tf) (m : M2 X o "get" apos e f cpos := by exact ⟨by rfl, by rfl, by rfl, by rfl⟩) : DE X (.Call (.Attribute o "get" apos) [e, f] [] cpos) (dKGet2 to te tf) :=
  imE (pe_dget2 hu ho he hf m) fun σ H Q ⟨m, M, Q', r, q, kk⟩ => by
    refine ⟨m, M, _, r, q, fun x v1 M1 H1 g1 r1 m1 ⟨⟨kvs0, e0⟩, q1⟩ => ?_⟩
    obtain ⟨p, es0, rfl, hr0, _, _⟩ := dict_at r1 m1 e0
    refine ⟨p, rfl, .inl ⟨_, hr0⟩, m, M1, _, r.grow g1 m1, q1, fun y v2 M2 H2 g2 r2 m2 q2 => ?_⟩
    refine ⟨m, M2, _, (r.grow g1 m1).grow g2 m2, q2, fun w v3 M3 H3 g3 r3 m3 ⟨kvs, e1, e2, q3⟩ => ?_⟩
    obtain ⟨p', es, e3, hr, z, l⟩ := dict_at ((r1.grow g2).grow g3) m3 e1
    cases e3
    obtain ⟨k, rfl⟩ := isKb_ex e2
    obtain rfl := rep_kV r2
    refine ⟨valV es k, .inl ⟨es, k, hr, rfl, rfl⟩, ?_⟩
    rcases l.val (k := k) with ⟨n1, n2⟩ | ⟨d, y, n1, n2, rd⟩
    · rw [n1] at q3
      rw [n2]
      exact kk _ _ M3 H3 ((g1.trans g2).trans g3) r3 m3 q3
    · rw [n1] at q3
      rw [n2]
      exact kk _ _ M3 H3 ((g1.trans g2).trans g3) rd m3 q3
end
/-! ### {k: v for ..} -/
def dKcGo (src : Src) (g : DTG) (tt : DTT) (tk tv : DTE) (m0 : DSt) (p : Addr) (Qd : List (D × D) → DM → Prop) : List D → List (D × D) → DM → Prop
  | [], acc, M => SrcV src M ∧ Qd acc M
  | d :: ds, acc, M => SrcV src M ∧ g d m0 M fun m1 M1 => tt m1 M1 fun b M2 =>
      if b = true then tk m1 M2 fun k M3 => tv m1 M3 fun v M4 => M4 p = some (.dk acc) ∧ isKb k = true ∧ dKcGo src g tt tk tv m0 p Qd ds (dput acc k v) (mput M4 p (.dk (dput acc k v)))
      else M2 p = some (.dk acc) ∧ dKcGo src g tt tk tv m0 p Qd ds acc M2
def dKc (t : DTI) (g : DTG) (tt : DTT) (tk tv : DTE) (vs : List Nat) : DTE := fun m M Q => t m M fun src M1 => src.1.length ≤ sizeLine → ∀ p, M1 p = none → dKcGo src g tt tk tv (dwipe m vs) p (fun _ M2 => Q (.ref p) M2) src.1 [] (mput M1 p (.dk []))
section
variable {X : Cx} {kx vx tg iter : Expr} {ifs : List Expr} {scope : Scope} {own : List (Str × Nat)} {pos : Pos} {t : DTI} {g : DTG} {tt : DTT} {tk tv : DTE} {ws : List Nat}
theorem kc_up {σ : SL} {H : Hp} {m : DSt} {M : DM} {Qv : VK} {Qf : Addr → DM → Prop} (hsub : ∀ i ∈ ws, i ∈ own.map (·.2)) (r : R X.K m M σ H)
    (q : t m M fun src M1 => src.1.length ≤ sizeLine → ∀ p, M1 p = none → dKcGo src g tt tk tv (dwipe m (own.map (·.2))) p (fun _ M2 => Qf p M2) src.1 [] (mput M1 p (.dk [])))
    (k : ∀ p M2 H2, Grow H H2 → RM X.K H2 M2 → Qf p M2 → Qv (.ref p) H2) : tDc (upI X.K t) (upG X.K ws g) (upT X.K tt) (upE X.K tk) (upE X.K tv) (own.map (·.2)) σ H Qv := by
  refine ⟨m, M, _, r, q, fun src M1 H1 J g1 m1 q1 st p np => ?_⟩
  have q2 := q1 st.small p (m1.free np)
  have g2 : Grow H1 (upd H1 p (.dK [])) := .new np
  refine ⟨fun i n H2 => i + n = src.1.length ∧ Grow H1 H2 ∧ ∃ acc M2, acc.length ≤ i ∧ M2 p = some (.dk acc) ∧ RM X.K H2 M2 ∧ dKcGo src g tt tk tv (dwipe m (own.map (·.2))) p (fun _ M2 => Qf p M2) (src.1.drop i) acc M2,
    ⟨src.1.length, by omega, g2, [], _, Nat.le_refl _, mput_same, m1.newDk np (Nat.zero_le _) .nil, q2⟩, ?_⟩
  rintro i n H2 ⟨hl, g3, acc, M2, ha, hp, m2, q3⟩
  have r2 : R X.K (dwipe m (own.map (·.2))) M2 (wipe σ (own.map (·.2))) H2 := (r.wipe _).grow (g1.trans g3) m2
  by_cases hlt : i < src.1.length
  · rw [List.drop_eq_getElem_cons hlt] at q3
    obtain ⟨sv, q3⟩ := q3
    have so := sv.ok g3 m2
    refine .inr ⟨st.go i H2 so hlt, fun H3 => Grow H1 H3 ∧ ∃ acc M2, acc.length ≤ i + 1 ∧ M2 p = some (.dk acc) ∧ RM X.K H3 M2 ∧ dKcGo src g tt tk tv (dwipe m (own.map (·.2))) p (fun _ M2 => Qf p M2) (src.1.drop (i + 1)) acc M2,
      fun H3 ⟨g4, z⟩ => ⟨n - 1, by omega, by omega, g4, z⟩, fun x H3 y => ?_⟩
    obtain ⟨g4, k4, d, e4, rd⟩ := st.yld i H2 x H3 so hlt y
    have ed : d = src.1[i] := by
      rw [List.getElem?_eq_getElem hlt] at e4
      exact (Option.some.inj e4).symm
    subst ed
    refine ⟨_, _, M2, _, rd, r2.grow g4 (k4 _ m2), q3, fun m5 M5 σ5 H5 g5 r5 o5 q5 => ⟨wipe_off o5 hsub, ?_⟩⟩
    refine ⟨m5, M5, _, r5, q5, fun b M6 H6 g6 m6 q6 => ?_⟩
    have g06 : Grow H1 H6 := ((g3.trans g4).trans g5).trans g6
    cases b with
    | true =>
      refine ⟨m5, M6, _, r5.grow g6 m6, q6, fun kd kv M7 H7 g7 rk m7 q7 => ?_⟩
      refine ⟨m5, M7, _, (r5.grow g6 m6).grow g7 m7, q7, fun vd vv M8 H8 g8 rv m8 ⟨e8, hk, q8⟩ => ?_⟩
      obtain ⟨key, rfl⟩ := isKb_ex hk
      obtain rfl := rep_kV rk
      obtain ⟨es, h8, hz8, rkv⟩ := m8.dk e8
      have hlen : es.length < sizeLine := by
        rw [← rkv.length]
        exact Nat.lt_of_le_of_lt ha (Nat.lt_of_lt_of_le hlt st.small)
      have hz9 : (putK es key vv).length ≤ sizeLine := by have := length_putK es key vv; omega
      have ge : Grow H8 (upd H8 p (.dK (putK es key vv))) := Grow.dk h8
      exact ⟨es, key, rfl, h8, hlen, ((g06.trans g7).trans g8).trans ge, dput acc (kD key) vd, _, Nat.le_trans (dput_len ..) (Nat.succ_le_succ ha), mput_same, m8.putDk h8 hz9 (rkv.put rv), q8⟩
    | false =>
      have q6' : M6 p = some (.dk acc) ∧ dKcGo src g tt tk tv (dwipe m (own.map (·.2))) p (fun _ M2 => Qf p M2) (src.1.drop (i + 1)) acc M6 := q6
      exact ⟨g06, acc, M6, by omega, q6'.1, m6, q6'.2⟩
  · have e : i = src.1.length := by omega
    subst e
    rw [List.drop_length] at q3
    exact .inl ⟨st.stop H2 (q3.1.ok g3 m2), k _ M2 H2 (g1.trans g3) m2 q3.2⟩
theorem d_kc (hc : X.calm = true) (hN : X.N.Nodup) (hi : DI X tg iter t) (ok : BlkOk X.N X.env.scope scope own) (hsub : ∀ i ∈ ws, i ∈ own.map (·.2))
    (hg : ∀ (s : Shared) (H : Hp) (C : Addr) (cl : List (Str × Addr)) (fp : List Addr), DG (X.blk s H scope (compEnvC scope cl C X.env) fp) ws tg g)
    (ht : ∀ (s : Shared) (H : Hp) (C : Addr) (cl : List (Str × Addr)) (fp : List Addr), DPTs (X.blk s H scope (compEnvC scope cl C X.env) fp) ifs tt)
    (hk : ∀ (s : Shared) (H : Hp) (C : Addr) (cl : List (Str × Addr)) (fp : List Addr), DE (X.blk s H scope (compEnvC scope cl C X.env) fp) kx tk)
    (hv : ∀ (s : Shared) (H : Hp) (C : Addr) (cl : List (Str × Addr)) (fp : List Addr), DE (X.blk s H scope (compEnvC scope cl C X.env) fp) vx tv)
    (hs : ∀ x, foldedSetIterable iter X.env x = pure x := by intro _; rfl) : DE X (.DictComp kx vx [⟨tg, iter, ifs, 0⟩] scope pos) (dKc t g tt tk tv (own.map (·.2))) :=
  imE (pe_dc (wi := upI X.K t) (g := upG X.K ws g) (tt := upT X.K tt) (tk := upE X.K tk) (tv := upE X.K tv) hc hN hi ok hg ht hk hv hs) fun σ H Q ⟨m, M, Q', r, q, k⟩ =>
    kc_up hsub r q fun p M2 H2 g2 m2 q2 => k _ _ M2 H2 g2 (.ref p) m2 q2
theorem ps_setKc {i : Nat} {y : Str} {py spos : Pos} {wi : TI} {g : TG} {tt : TT} {tk tv : TE} (hc : X.calm = true) (hN : X.N.Nodup) (hy : X.N[i]? = some y) (hyl : X.env.scope.names.lookup y = some .local)
    (hsw : swapsWith (.DictComp kx vx [⟨tg, iter, ifs, 0⟩] scope pos) (some (.Name y py)) spos.line X.env = pure true) (hi : PI X tg iter wi) (ok : BlkOk X.N X.env.scope scope own)
    (pg : ∀ (s : Shared) (H : Hp) (C : Addr) (cl : List (Str × Addr)) (fp : List Addr), PG (X.blk s H scope (compEnvC scope cl C X.env) fp) tg g)
    (pt : ∀ (s : Shared) (H : Hp) (C : Addr) (cl : List (Str × Addr)) (fp : List Addr), PTs (X.blk s H scope (compEnvC scope cl C X.env) fp) ifs tt)
    (pk : ∀ (s : Shared) (H : Hp) (C : Addr) (cl : List (Str × Addr)) (fp : List Addr), PE (X.blk s H scope (compEnvC scope cl C X.env) fp) kx tk)
    (pv : ∀ (s : Shared) (H : Hp) (C : Addr) (cl : List (Str × Addr)) (fp : List Addr), PE (X.blk s H scope (compEnvC scope cl C X.env) fp) vx tv) (hs : ∀ x, foldedSetIterable iter X.env x = pure x := by intro _; rfl) :
    PS X (.Assign [.Name y py] (.DictComp kx vx [⟨tg, iter, ifs, 0⟩] scope pos) spos) (tAsg (tDc wi g tt tk tv (own.map (·.2))) (gName i)) := by
  refine ⟨fun pins s σ H D I h => ?_⟩
  rw [exec_Assign_Name_used _ _ _ _ hsw]
  refine wpAny_bind (wpAny_standAt (wpAny_bind ?_))
  show wpAny _ X.A (do let _ ← comprehension (.DictComp kx vx [⟨tg, iter, ifs, 0⟩] scope pos) scope X.env (firstIterPos [⟨tg, iter, ifs, 0⟩] pos) newDict false (eval iter X.env) (some (assign (.Name y py) X.env))) _ _ s
  have h : tDc wi g tt tk tv (own.map (·.2)) σ H (fun x H1 => gName i x σ H1 D.nx) := h
  refine wpAny_bind (thn (L2.dc_core (Qf := fun _ s' => SP X pins D .next s') hc hN I hi ok pg pt pk pv hs h fun L C s' m H' I' q hn f => ?_) fun _ s' hq => wpAny_pure (wpAny_pure hq))
  show wpAny _ _ (assign (.Name y py) X.env (.ref L)) _ _ _
  refine wpAny_assign_Name (store_ok2 (v := V.ref L) I' hN hy (.inl hyl) rfl (fun s2 I2 ⟨a, sb, ha⟩ => ?_) (.inr hyl))
  obtain ⟨f0, f1, f2, f3, f4, f5⟩ := f
  have haC : C ≠ a := by
    rcases ha with z | z
    · rw [z]; exact f1
    · exact fun e => f4 y a z e.symm
  refine ⟨m, hn.sameBut sb haC, fun h3 sb3 => ?_⟩
  exact ⟨_, H', I2.turned (t' := s2.toks) (fun b o hb e => (sb3.2 b hb).trans e) f0 f1 f3 f4 f5, q⟩
/-- name = {.. for ..} on one line -/
theorem ds_setKc {y : Str} {py spos : Pos} {i : Nat} (hc : X.calm = true) (hN : X.N.Nodup) (hy : X.N[i]? = some y) (hyl : X.env.scope.names.lookup y = some .local)
    (hsw : swapsWith (.DictComp kx vx [⟨tg, iter, ifs, 0⟩] scope pos) (some (.Name y py)) spos.line X.env = pure true) (hi : DI X tg iter t) (ok : BlkOk X.N X.env.scope scope own) (hsub : ∀ i ∈ ws, i ∈ own.map (·.2))
    (hg : ∀ (s : Shared) (H : Hp) (C : Addr) (cl : List (Str × Addr)) (fp : List Addr), DG (X.blk s H scope (compEnvC scope cl C X.env) fp) ws tg g)
    (ht : ∀ (s : Shared) (H : Hp) (C : Addr) (cl : List (Str × Addr)) (fp : List Addr), DPTs (X.blk s H scope (compEnvC scope cl C X.env) fp) ifs tt)
    (hk : ∀ (s : Shared) (H : Hp) (C : Addr) (cl : List (Str × Addr)) (fp : List Addr), DE (X.blk s H scope (compEnvC scope cl C X.env) fp) kx tk)
    (hv : ∀ (s : Shared) (H : Hp) (C : Addr) (cl : List (Str × Addr)) (fp : List Addr), DE (X.blk s H scope (compEnvC scope cl C X.env) fp) vx tv)
    (hs : ∀ x, foldedSetIterable iter X.env x = pure x := by intro _; rfl) : DS X (.Assign [.Name y py] (.DictComp kx vx [⟨tg, iter, ifs, 0⟩] scope pos) spos) (dSet i (dKc t g tt tk tv (own.map (·.2)))) :=
  imS (ps_setKc (wi := upI X.K t) (g := upG X.K ws g) (tt := upT X.K tt) (tk := upE X.K tk) (tv := upE X.K tv) hc hN hy hyl hsw hi ok hg ht hk hv hs) fun Z σ H ⟨m, M, Z', r, q, k⟩ =>
    kc_up (Qf := fun p M2 => Z'.nx (m.set i (some (.ref p))) M2) hsub r q fun p M2 H2 g2 m2 q2 => k.nx _ M2 _ H2 g2 ((r.grow g2 m2).set (.ref p)) q2
end
theorem hu_1 {k : Nat} {A : Around} (hr : Room k A) : A.units + 1 < cLine := by
  have := hu_40 hr
  omega
/-- a comprehension over what is left, with what is gathered -/
theorem kc_ind {src : Src} {g : DTG} {tt : DTT} {tk tv : DTE} {m0 : DSt} {p : Addr} {Qd : List (D × D) → DM → Prop} (V : List D → List (D × D) → DM → Prop) (fin : ∀ acc M, V [] acc M → SrcV src M ∧ Qd acc M)
    (step : ∀ d ds acc M (Cn : List (D × D) → DM → Prop), (∀ acc' M', V ds acc' M' → Cn acc' M') → V (d :: ds) acc M → SrcV src M ∧ g d m0 M fun m1 M1 => tt m1 M1 fun b M2 =>
      if b = true then tk m1 M2 fun k M3 => tv m1 M3 fun v M4 => M4 p = some (.dk acc) ∧ isKb k = true ∧ Cn (dput acc k v) (mput M4 p (.dk (dput acc k v))) else M2 p = some (.dk acc) ∧ Cn acc M2) :
    ∀ ds acc M, V ds acc M → dKcGo src g tt tk tv m0 p Qd ds acc M
  | [], acc, M, h => fin acc M h
  | d :: ds, acc, M, h => step d ds acc M (dKcGo src g tt tk tv m0 p Qd ds) (kc_ind V fin step ds) h
end DL
/-! xs.insert(i, y), xs.pop(i), list of a dict -/
namespace DL
open PySem PySem.Spec PyProof.Rows L2
section
variable {X : Cx}
def mInsert : DMR := fun d ds M Q => ∃ (a : Addr) (xs : List D) (i : Int) (y : D), d = .ref a ∧ ds = [.int i, y] ∧ M a = some (.lst xs) ∧ xs.length < sizeLine ∧ 0 ≤ i ∧ i < 9223372036854775808 ∧ Q .non (mput M a (.lst (xs.take i.toNat ++ [y] ++ xs.drop i.toNat)))
theorem m_insert : MtR X "list.insert" (upM X.K mInsert) := by
  intro pins s σ H x vs v us Q I rx rv ⟨d, ds, M, Q', r1, l, m, ⟨a, xs, i, y, e1, e2, h, hz, h0, h9, q⟩, k⟩
  subst e1
  subst e2
  cases r1
  cases l with
  | cons ri l =>
    cases ri
    obtain ⟨w, rfl, rw'⟩ := repL_one l
    obtain ⟨ws, h1, z, l1⟩ := m.lst h
    have hl := l1.length
    refine mt_insert pins s σ H _ _ v us Q I rx rv ⟨a, ws, i, w, rfl, rfl, h1, by omega, h0, h9, ?_⟩
    have g : Grow H (upd H a (.lst (ws.take i.toNat ++ [w] ++ ws.drop i.toNat))) := .put h1
    refine k _ _ _ _ g .non (m.putLst h1 ?_ (((l1.take _).append (.one rw')).append (l1.drop _))) q
    rw [List.length_append, List.length_append, List.length_take, List.length_drop, List.length_singleton]
    omega
def mPopAt : DMR := fun d ds M Q => ∃ (a : Addr) (xs : List D) (i : Nat) (y : D), d = .ref a ∧ ds = [.int (i : Int)] ∧ M a = some (.lst xs) ∧ xs[i]? = some y ∧ Q y (mput M a (.lst (xs.eraseIdx i)))
theorem m_popAt : MtR X "list.pop" (upM X.K mPopAt) := by
  intro pins s σ H x vs v us Q I rx rv ⟨d, ds, M, Q', r1, l, m, ⟨a, xs, i, y, e1, e2, h, hy, q⟩, k⟩
  subst e1
  subst e2
  cases r1
  obtain ⟨w0, rfl, r0⟩ := repL_one l
  cases r0
  obtain ⟨ws, h1, z, l1⟩ := m.lst h
  obtain ⟨w, h2, h3⟩ := l1.get hy
  have hi : i < ws.length := by
    rcases Nat.lt_or_ge i ws.length with c | c
    · exact c
    · rw [List.getElem?_eq_none c] at h2
      cases h2
  have hsz : ws.length ≤ 16777216 := by rw [sizeLine_eq] at z; exact z
  have hk : seqIndex? (i : Int) ws.length = some i := by
    unfold seqIndex?
    simp
    omega
  have g : Grow H (upd H a (.lst (ws.eraseIdx i))) := .put h1
  refine mt_popAt pins s σ H _ _ v us Q I rx rv ⟨a, ws, i, i, w, rfl, rfl, h1, by omega, by omega, hk, h2, ?_⟩
  have hle : (ws.eraseIdx i).length ≤ ws.length := (List.length_eraseIdx_le ..)
  exact k _ _ _ _ g (h3.grow g) (m.putLst h1 (by omega) (l1.eraseIdx i)) q
end
end DL
/-! a comprehension each of whose items takes draws -/
namespace DL
open PySem PySem.Spec PyProof.Rows L2
theorem lc_draw {src : Src} {g : DTG} {te : DTE} {m0 : DSt} {Qd : Addr → List D → DM → Prop} {M : DM} {p : Addr} {o1 : DO} (P : D → Prop) (hsrc : src.2 = none) (ho : DrO o1)
    (step : ∀ d ∈ src.1, ∀ (r : Addr) (l : DO) (o : DO), p ≠ r → M r = none → DrO o → ∀ C1 : D → DM → Prop, (∀ o' y, DrO o' → P y → C1 y (mput (mput M p o') r l)) → g d m0 (mput (mput M p o) r l) fun m1 M1 => te m1 M1 C1)
    (fin : ∀ r o acc, p ≠ r → mput M p o r = none → DrO o → acc.length = src.1.length → (∀ y ∈ acc, P y) → Qd r acc (mput (mput M p o) r (.lst acc))) :
    ∀ r, mput M p o1 r = none → dLcGo src g dYes te m0 r (Qd r) src.1 [] (mput (mput M p o1) r (.lst [])) := fun r hr => by
  have hpr : p ≠ r := ne_of_fresh mput_same hr
  have hrM : M r = none := by rw [mput_ne hpr.symm] at hr; exact hr
  have key : ∀ (its : List D) (acc : List D) (o : DO), (∀ d ∈ its, d ∈ src.1) → DrO o → (∀ y ∈ acc, P y) → acc.length + its.length = src.1.length → dLcGo src g dYes te m0 r (Qd r) its acc (mput (mput M p o) r (.lst acc)) := by
    intro its
    induction its with
    | nil =>
      intro acc o _ ho ha hl
      refine ⟨fun a e => ?_, fin r o acc hpr (by rw [mput_ne hpr.symm]; exact hrM) ho (by simpa using hl) ha⟩
      rw [hsrc] at e
      cases e
    | cons d its ih =>
      intro acc o hs ho ha hl
      refine ⟨fun a e => (by rw [hsrc] at e; cases e), ?_⟩
      have z := step d (hs d (by simp)) r (.lst acc) o hpr hrM ho (fun y M3 => M3 r = some (.lst acc) ∧ dLcGo src g dYes te m0 r (Qd r) its (acc ++ [y]) (mput M3 r (.lst (acc ++ [y])))) fun o' y ho' hy => ⟨mput_same, by
        rw [mput_mput]
        refine ih _ o' (fun x hx => hs x (by simp [hx])) ho' (fun x hx => ?_) (by rw [List.length_append, List.length_singleton]; rw [List.length_cons] at hl; omega)
        rcases List.mem_append.mp hx with hx | hx
        · exact ha x hx
        · rw [List.mem_singleton.mp hx]
          exact hy⟩
      exact z
  exact key src.1 [] o1 (fun _ h => h) ho (by simp) (by simp)
def ar7 (p : D → D → D → D → D → D → D → DM → DVK → Prop) : DSp := fun ds M Q => ∃ a b c d e f g, ds = [a, b, c, d, e, f, g] ∧ p a b c d e f g M Q
def ar8 (p : D → D → D → D → D → D → D → D → DM → DVK → Prop) : DSp := fun ds M Q => ∃ a b c d e f g h, ds = [a, b, c, d, e, f, g, h] ∧ p a b c d e f g h M Q
theorem len7 {p} {ds : List D} {M : DM} {Q : DVK} (h : ar7 p ds M Q) : ds.length = 7 := by obtain ⟨_, _, _, _, _, _, _, rfl, _⟩ := h; rfl
theorem len8 {p} {ds : List D} {M : DM} {Q : DVK} (h : ar8 p ds M Q) : ds.length = 8 := by obtain ⟨_, _, _, _, _, _, _, _, rfl, _⟩ := h; rfl
theorem rangeD0 (n : Nat) : rangeD 0 n = (List.range n).map fun k => D.int ((k : Nat) : Int) := by simp [rangeD]
theorem rangeD_cons (lo : Int) (n : Nat) : rangeD lo (n + 1) = D.int lo :: rangeD (lo + 1) n := by
  simp only [rangeD, List.range_succ_eq_map, List.map_cons, List.map_map, Function.comp_def, Int.natCast_zero, Int.add_zero]
  congr 1
  refine List.map_congr_left fun i _ => ?_
  congr 1
  simp
  omega
theorem mem_rangeD {lo : Int} {n : Nat} {d : D} (h : d ∈ rangeD lo n) : ∃ i : Nat, i < n ∧ d = .int (lo + (i : Nat)) := by
  unfold rangeD at h
  obtain ⟨i, hi, rfl⟩ := List.mem_map.mp h
  exact ⟨i, List.mem_range.mp hi, rfl⟩
theorem rangeD_len (n : Int) : (rangeD 0 n.toNat).length = n.toNat := by simp [rangeD]
end DL
/-! sets of texts: sorted(set(xs)), len(set(xs)) of a list of texts -/
namespace DL
open PySem PySem.Spec PyProof.Rows L2
/-- what a set's element is told by -/
def decS (v : Value) : Str := match v with
  | .str x _ => x
  | _ => Str.empty
theorem decS_is {P : Program} {w : World} {k : Str} {v : Value} (h : (PySem.strKind P w).is k v = true) : decS v = k := by
  obtain ⟨t, rfl⟩ := Value.isStrOf_shape (show Value.isStrOf k v = true from h)
  rfl
theorem is_decS {P : Program} {w : World} {k : Str} (t : Tok) : (PySem.strKind P w).is k (.str k t) = true := by
  show Value.isStrOf k (.str k t) = true
  simp [Value.isStrOf]
/-- the elements: texts with their hashes -/
def ElS (w : World) (e : Int × Value) : Prop := ∃ x t, e.2 = Value.str x t ∧ e.1 = hashStr w x
def keyS (e : Int × Value) : Str := decS e.2
/-- the set of texts at a -/
def SetT (w : World) (h : Heap) (a : Addr) (S : Str → Bool) (n : Nat) : Prop :=
  ∃ o es ep t, h.get? a = some o ∧ o.ExactSet ∧ o.data = .set es ep t ∧ (∀ e ∈ es.toList, ElS w e) ∧ (es.toList.map keyS).Nodup ∧ (∀ k, S k = true ↔ k ∈ es.toList.map keyS) ∧
    es.size < scanBound ∧ t.fits es.size = true ∧ es.size = n ∧ Ris t.place.toList ∧ (w.params.followText "set-order" = true ∨ t.led = true)
section
variable {P : Program} {w : World} {h h' : Heap} {a : Addr} {S : Str → Bool} {n : Nat}
theorem SetT.at (R : SetT w h a S n) (k : ∀ o, h.get? a = some o → h'.get? a = some o) : SetT w h' a S n := let ⟨o, es, ep, t, ho, r⟩ := R; ⟨o, es, ep, t, k o ho, r⟩
theorem SetT.congr {S' : Str → Bool} (R : SetT w h a S n) (e : ∀ k, S' k = S k) : SetT w h a S' n := by
  rw [show S' = S from funext e]
  exact R
theorem elS_elems {l : List (Int × Value)} (g : ∀ e ∈ l, ElS w e) : ElemsOf (PySem.strKind P w) l := fun e he => by
  obtain ⟨x, t, h1, h2⟩ := g e he
  refine ⟨⟨x, ?_, h2⟩, ?_⟩
  · rw [h1]
    exact is_decS t
  · rw [h1]
    rfl
theorem elS_is {e : Int × Value} (g : ElS w e) (k : Str) : (PySem.strKind P w).is k e.2 = true ↔ keyS e = k := by
  obtain ⟨x, t, h1, _⟩ := g
  unfold keyS
  rw [h1]
  constructor
  · intro z
    exact decS_is (P := P) (w := w) z
  · intro z
    have z : x = k := z
    rw [← z]
    exact is_decS t
theorem elS_mem {l : List (Int × Value)} (g : ∀ e ∈ l, ElS w e) (k : Str) : k ∈ l.map keyS ↔ ∃ e ∈ l, (PySem.strKind P w).is k e.2 = true := by
  rw [List.mem_map]
  exact ⟨fun ⟨e, he, q⟩ => ⟨e, he, (elS_is (g e he) k).2 q⟩, fun ⟨e, he, q⟩ => ⟨e, he, (elS_is (P := P) (g e he) k).1 q⟩⟩
theorem setT_new {h : Heap} {a : Addr} (ho : h.get? a = some { cls := .type "set", dict := none, data := .set #[] 0 (.fresh 0 0 (!w.params.followText "set-order")) }) : SetT w h a (fun _ => false) 0 := by
  refine ⟨_, #[], 0, _, ho, ⟨rfl, rfl, rfl⟩, rfl, fun e he => by simp at he, by simp, fun k => by simp, by decide, rfl, rfl, List.Pairwise.nil, ?_⟩
  show _ ∨ (!w.params.followText "set-order") = true
  cases w.params.followText "set-order"
  · exact .inr rfl
  · exact .inl rfl
end
section
variable {P : Program} {w : World} {A : Around} {E : Value → Shared → Prop} {s : Shared} {a : Addr} {S : Str → Bool} {n : Nat}
/-- what is stored, and the table laid anew where it is too full -/
theorem setT_tail {g : Bool → Sem Unit} (hg : ∀ (b : Bool) (s₁ : Shared) (Q' : Unit → Shared → Prop), Q' () s₁ → wpAny (model P w) A (g b) Q' E s₁)
    {o : Obj} {es es1 : Array (Int × Value)} {ep : Nat} {t t2 : SetTable} (ho : s.heap.get? a = some o) (hex : o.ExactSet) (hd : o.data = .set es ep t)
    {S' : Str → Bool} (g1 : ∀ e ∈ es1.toList, ElS w e) (nd1 : (es1.toList.map keyS).Nodup) (m1 : ∀ k, S' k = true ↔ k ∈ es1.toList.map keyS)
    (hb1 : es1.size < scanBound) (hf2 : t2.fits es1.size = true) (hr : Ris t2.place.toList) (hl : w.params.followText "set-order" = true ∨ t2.led = true) {wasDummy : Bool} {R : Option Bool → Shared → Prop}
    (hR : ∀ h', Heap.SameBut a s.heap h' → SetT w h' a S' es1.size → R (some true) { s with heap := h' }) :
    wpAny (model P w) A (do
        storeSet a es1 t2
        if (!wasDummy && t2.tooFull) = true then do
            g (relayAll t2 es1 (SetTable.grown es1.size)).2.2
            storeSet a (relayAll t2 es1 (SetTable.grown es1.size)).1 (relayAll t2 es1 (SetTable.grown es1.size)).2.1
            pure (some true)
          else pure (some true)) R E s := by
  have first := store_at (es' := es1) (t' := t2) ho hd
  have same := Heap.SameBut.update s.heap a (Obj.putSet es1 t2)
  refine wpAny_bind (wpAny_storeSet_of ho hd ?_ (fits_of_scanBound hb1))
  split
  · have pm := relayAll_perm t2 es1 (SetTable.grown es1.size)
    have hf3 := relayAll_fits t2 es1 (SetTable.grown es1.size)
    have hr3 := relayAll_ris t2 es1 (SetTable.grown es1.size)
    have hl3 := relayAll_led t2 es1 (SetTable.grown es1.size)
    generalize relayAll t2 es1 (SetTable.grown es1.size) = Z at pm hf3 hr3 hl3 ⊢
    obtain ⟨es2, t3, gave⟩ := Z
    dsimp only at pm hf3 hr3 hl3 ⊢
    have sz : es2.size = es1.size := by rw [← Array.length_toList, pm.length_eq, Array.length_toList]
    have bd : es2.size < scanBound := by rw [sz]; exact hb1
    refine wpAny_bind (hg _ _ _ (wpAny_bind (wpAny_storeSet_of first rfl ?_ (fits_of_scanBound bd))))
    refine wpAny_pure (hR _ (same.trans (Heap.SameBut.update _ a _)) ⟨_, es2, _, t3, store_at (es' := es2) (t' := t3) first rfl, hex, rfl, fun e he => g1 e (pm.mem_iff.mp he), (pm.map keyS).nodup_iff.mpr nd1, fun k => (m1 k).trans (pm.map keyS).mem_iff.symm, bd, hf3, sz, hr3, ?_⟩)
    rcases hl with z | z
    · exact .inl z
    · exact .inr (by rw [hl3]; exact z)
  · exact wpAny_pure (hR _ same ⟨_, es1, _, t2, first, hex, rfl, g1, nd1, m1, hb1, hf2, rfl, hr, hl⟩)
theorem setT_add {k : Str} {tk : Tok} {Q : Bool → Shared → Prop} (R : SetT w s.heap a S n) (room : n + 1 < scanBound)
    (hQ : ∀ h', Heap.SameBut a s.heap h' → SetT w h' a (fun j => S j || decide (j = k)) (if S k = true then n else n + 1) → Q (!S k) { s with heap := h' }) :
    wpAny (model P w) A (setAddHashed a (.str k tk) ((PySem.strKind P w).hash k)) Q E s := by
  obtain ⟨o, es, ep, t, ho, hex, hd, g, nd, hm, hb, hf, hn, hr, hl⟩ := R
  have hkey : (PySem.strKind P w).is k (.str k tk) = true := is_decS tk
  have hsc : (Value.str k tk).scannable = true := rfl
  have hel : ElemsOf (PySem.strKind P w) es.toList := elS_elems g
  unfold setAddHashed setAddHashedIn
  refine wpAny_holding (wpAny_bind (wpAny_setState_of ho hd hf ?_))
  dsimp only
  rw [byScan_of hsc hb hel]
  simp only [↓reduceIte]
  unfold setAddByScan
  refine wpAny_bind (wpAny_bind (wpAny_rule (wpAny_bind (wpAny_setScan_of hkey ho hd hf hel ?_))))
  cases hfi : List.findIdx? (fun e => (PySem.strKind P w).is k e.2) es.toList with
  | some j =>
    dsimp only
    obtain ⟨hj, pj, _⟩ := List.findIdx?_eq_some_iff_getElem.mp hfi
    have there : S k = true := (hm k).2 ((elS_mem (P := P) (w := w) g k).2 ⟨es.toList[j], List.getElem_mem hj, pj⟩)
    have q := hQ s.heap (Heap.SameBut.refl a s.heap) ⟨o, es, ep, t, ho, hex, hd, g, nd, fun i => by
      rw [Bool.or_eq_true, decide_eq_true_eq, ← hm i]
      exact ⟨fun z => z.elim id (fun e => e ▸ there), .inl⟩, hb, hf, by rw [if_pos there]; exact hn, hr, hl⟩
    rw [there] at q
    exact wpAny_pure (wpAny_pure q)
  | none =>
    dsimp only
    have out : k ∉ es.toList.map keyS := fun z => by
      obtain ⟨e, he, q⟩ := (elS_mem (P := P) (w := w) g k).1 z
      have c := List.findIdx?_eq_none_iff.mp hfi e he
      rw [q] at c
      cases c
    have notS : S k = false := by
      cases q : S k with
      | false => rfl
      | true => exact absurd ((hm k).1 q) out
    have gave1 : ∀ (b : Bool) {s₁ : Shared} {Q' : Unit → Shared → Prop}, Q' () s₁ → wpAny (model P w) A (match b with | true => rule "set.scan.the-table-gave-way" | false => pure ()) Q' E s₁ :=
      fun b s₁ Q' q => by cases b <;> first | exact wpAny_pure q | exact wpAny_rule q
    have pm := layNew_perm t es ((PySem.strKind P w).hash k) (.str k tk)
    have hf1 := layNew_fits t es ((PySem.strKind P w).hash k) (.str k tk)
    have hr1 := layNew_ris t es ((PySem.strKind P w).hash k) (.str k tk) hr
    have hl1 := layNew_led t es ((PySem.strKind P w).hash k) (.str k tk)
    generalize layNew t es ((PySem.strKind P w).hash k) (.str k tk) = Z at pm hf1 hr1 hl1 ⊢
    obtain ⟨es1, t1, wasDummy, gave⟩ := Z
    dsimp only at pm hf1 hr1 hl1 ⊢
    rw [Array.toList_push] at pm
    have pc : es1.toList.Perm (((PySem.strKind P w).hash k, Value.str k tk) :: es.toList) := pm.trans (List.perm_append_singleton _ _)
    have pk : (es1.toList.map keyS).Perm (k :: es.toList.map keyS) := pc.map keyS
    have g1 : ∀ e ∈ es1.toList, ElS w e := fun e he => by
      rcases List.mem_cons.mp (pc.mem_iff.mp he) with z | z
      · rw [z]
        exact ⟨k, tk, rfl, rfl⟩
      · exact g e z
    have nd1 : (es1.toList.map keyS).Nodup := pk.nodup_iff.mpr (List.nodup_cons.mpr ⟨out, nd⟩)
    have m1 : ∀ i, (S i || decide (i = k)) = true ↔ i ∈ es1.toList.map keyS := fun i => by
      rw [Bool.or_eq_true, decide_eq_true_eq, hm i, pk.mem_iff, List.mem_cons]
      exact Or.comm
    have sz : es1.size = n + 1 := by rw [← Array.length_toList, pc.length_eq, List.length_cons, Array.length_toList, hn]
    have bd : es1.size < scanBound := by rw [sz]; exact room
    have hled : w.params.followText "set-order" = true ∨ t1.led = true := by
      rcases hl with z | z
      · exact .inl z
      · exact .inr (by rw [hl1]; exact z)
    have fin : ∀ h', Heap.SameBut a s.heap h' → SetT w h' a (fun j => S j || decide (j = k)) es1.size → Q true { s with heap := h' } := fun h' sb r => by
      have q := hQ h' sb
      rw [notS] at q
      rw [sz] at r
      exact q r
    refine wpAny_bind (gave1 _ ?_)
    split
    · refine wpAny_bind ?_
      rw [hashByValue_scannable 8 hsc]
      refine wpAny_pure (setT_tail (fun b s₁ Q' q => by cases b <;> first | exact wpAny_pure q | exact wpAny_rule q) ho hex hd g1 nd1 m1 bd ?_ ?_ ?_ fun h' sb r => ?_)
      · first | (split <;> first | exact hf1 | exact SetTable.fits_plain_off hf1) | exact hf1
      · first | (split <;> exact hr1) | exact hr1
      · first | (split <;> exact hled) | exact hled
      · dsimp only
        exact wpAny_pure (fin h' sb r)
    · refine wpAny_bind (wpAny_pure ?_)
      simp only [↓reduceIte]
      refine setT_tail (fun b s₁ Q' q => by cases b <;> first | exact wpAny_pure q | exact wpAny_rule q) ho hex hd g1 nd1 m1 bd hf1 hr1 hled fun h' sb r => ?_
      dsimp only
      exact wpAny_pure (fin h' sb r)
end
section
variable {P : Program} {w : World} {A : Around} {E : Value → Shared → Prop} {s : Shared}
/-- the loop of set(xs): what stands behind the i-th draw -/
theorem setT_update {I : Addr} {fp wr : List Addr} {G : Array GenState → Array GenState → Prop} {n : Nat} {Pv : Nat → Value → Prop} {St : Nat → Shared → Prop} {R : Result → Shared → Prop}
    (W : WalksS P w A.in1 I fp wr G n Pv St) (S : Addr) (hSf : S ∉ fp) (xs : List Str) (hn : n = xs.length) (hb : xs.length + 1 < scanBound) (hval : ∀ i v, Pv i v → ∃ x t, xs[i]? = some x ∧ v = .str x t) :
    ∀ (k i : Nat) (s : Shared), n - i = k → i ≤ n → St i s → (∃ c, c ≤ i ∧ SetT w s.heap S (fun j => decide (j ∈ xs.take i)) c) →
      (∀ s' c, Moved (S :: wr) G s s' → c ≤ n → SetT w s'.heap S (fun j => decide (j ∈ xs)) c → R (.ok (.ret .none)) s') →
      codeAny (model P w) A (.builtin "set.update.loop" ⟨[.ref S, .ref I], []⟩) R s := by
  have hSw : S ∉ wr := fun z => hSf (W.sub _ z)
  have more : ∀ b ∈ wr, b ∈ S :: wr := fun b z => List.mem_cons_of_mem _ z
  intro k
  induction k with
  | zero =>
    intro i s hk hi hst ⟨c, hc, hS⟩ hR
    obtain rfl : i = n := by omega
    refine codeAny_builtin F.entry_set_update_loop ?_
    rw [Around.under_plainId F.plain_set_update_loop _]
    refine wpAny_bind (m := pyNext (.ref I)) (W.done s _ _ hst fun s' hm => ?_)
    rw [List.take_of_length_le (by omega)] at hS
    exact wpAny_pure (hR s' c (hm.mono more) hc (hS.at fun o e => hm.heap S o hSw e))
  | succ k ih =>
    intro i s hk hi hst ⟨c, hc, hS⟩ hR
    have lt : i < n := by omega
    refine codeAny_builtin F.entry_set_update_loop ?_
    rw [Around.under_plainId F.plain_set_update_loop _]
    refine wpAny_bind (m := pyNext (.ref I)) (W.item i s _ _ lt hst fun v s' hP hst' hm => ?_)
    obtain ⟨x, t, hx, rfl⟩ := hval i v hP
    have hS1 : SetT w s'.heap S (fun j => decide (j ∈ xs.take i)) c := hS.at fun o e => hm.heap S o hSw e
    refine wpAny_bind (m := holding [Value.str x t] (setAdd S (.str x t))) (wpAny_holding ?_)
    unfold setAdd
    refine wpAny_holding (wpAny_bind ((PySem.strKind P w).pyHash (k := x) (is_decS t) ?_))
    refine setT_add (s := { s' with toks := s'.toks + 1 }) hS1 (by omega) fun h' hsb hS2 => ?_
    have hS3 : SetT w h' S (fun j => decide (j ∈ xs.take (i + 1))) (if decide (x ∈ xs.take i) = true then c else c + 1) := hS2.congr fun j => by
      rw [List.take_add_one, hx]
      simp [List.mem_append]
    have hc3 : (if decide (x ∈ xs.take i) = true then c else c + 1) ≤ i + 1 := by split <;> omega
    refine wpAny_pure ⟨plainId_quiet F.plain_set_update_loop _, ih (i + 1) _ (by omega) lt (W.frame _ s' _ _ hst' (Nat.le_succ _) fun b hb o e => ?_) ⟨_, hc3, hS3⟩ fun s'' c2 hm2 hc2 hS4 => ?_⟩
    · rw [hsb.2 b (fun z : b = S => hSf (by rw [← z]; exact hb))]
      exact e
    · refine hR s'' c2 (Moved.trans W.gtrans ((hm.mono more).then_heap (Nat.le_succ _) fun b o hb e => ?_) hm2) hc2 hS4
      rw [hsb.2 b (fun z : b = S => hb (by rw [z]; exact List.mem_cons_self))]
      exact e
set_option maxHeartbeats 3200000 in
/-- set(xs), a list of texts -/
theorem call_set_listT {l : Addr} {items : Array Value} (xs : List Str) {Q : Value → Shared → Prop} (hh : A.handled = none) (hl : s.heap.IsList l items) (hsz : items.size = xs.length) (hval : ∀ (i : Nat) (v : Value), items[i]? = some v → ∃ x t, xs[i]? = some x ∧ v = .str x t) (hb : xs.length + 1 < scanBound)
    (h : ∀ (h' : Heap) (tk c : Nat), SetT w h' s.heap.objs.size (fun j => decide (j ∈ xs)) c → c ≤ xs.length → (∀ b o, s.heap.get? b = some o → h'.get? b = some o) → Q (.ref s.heap.objs.size) { s with heap := h', toks := tk }) :
    wpAny (model P w) A (call (.type "set") [.ref l]) Q E s := by
  obtain ⟨c, tl, hmro⟩ := F.called_set.mro
  have hmade := F.called_set.made
  have hsub := F.called_set.sub
  have h1 := F.called_set.notType
  have h2 := F.called_set.canCreate
  have hct := F.typeCall_set_1 (.ref l)
  refine wpAny_call (codeAny_of_tree (show wpAny _ _ (callAny (.type "set") _) _ _ _ from wpAny_pure ⟨Code.quiet_builtin _ (by decide +kernel), codeAny_builtin F.entry_type_call ?_⟩))
  rw [Around.under_plain (weight_type_call_type "set" [.ref l] []) rfl]
  repeat (any_goals (first | assumption | wp_step))
  obtain ⟨nw, hnw⟩ : ∃ nw : Obj, nw = { cls := .type "set", dict := none, data := .set #[] 0 (.fresh 0 0 (!w.params.followText "set-order")) } := ⟨_, rfl⟩
  refine codeAny_mono (code_set_led1 (.ref l) (E := E) (Q₁ := fun obj s₁ => obj = .ref s.heap.objs.size ∧ s₁ = { s with heap := s.heap.push nw }) ⟨rfl, by rw [hnw]⟩) fun r s₁ hr => ?_
  cases r with
  | error e => exact hr
  | ok fl =>
    cases fl with
    | ret obj =>
      obtain ⟨rfl, rfl⟩ := hr
      have hS : (s.heap.push nw).get? s.heap.objs.size = some nw := Heap.get?_push_size _ (by rw [hnw]; rfl)
      have hT : Shared.TypeIs { s with heap := s.heap.push nw } (.ref s.heap.objs.size) "set" := ⟨_, hS, by rw [hnw]⟩
      have hli := F.called_set.init.lookup
      have hbi := F.called_set.init.bind (.ref s.heap.objs.size)
      repeat (any_goals (first | assumption | wp_step))
      refine codeAny_mono (codeAny_call_builtin (R := wants (fun r s₂ => r = .none ∧ ∃ h' tk c, s₂ = { s with heap := h', toks := tk } ∧ SetT w h' s.heap.objs.size (fun j => decide (j ∈ xs)) c ∧ c ≤ xs.length ∧
          (∀ b o, s.heap.get? b = some o → h'.get? b = some o)) E) F.called_set.init.plain F.entry_set_init (check_set_init_1 hT ?_)) fun r₂ s₂ hr₂ => ?_
      · obtain ⟨ol, hol, hcl, nl, hdl⟩ := hl
        obtain ⟨ocls, odict, odata, oslots⟩ := ol
        simp only at hcl hdl
        subst hcl hdl
        have hol' : (s.heap.push nw).get? l = some { cls := .type "list", dict := odict, data := .seq items nl, slots := oslots } := Heap.get?_push_of_some _ hol
        have hsls := F.sub_list_set
        have hslf := F.sub_list_frozenset
        have hne : (Value.type "list" == Value.type "dict") = false := by decide
        have hl1 : (s.heap.push nw).IsList l items := ⟨_, hol', rfl, nl, rfl⟩
        have hlS : l < s.heap.objs.size := Heap.lt_size hol
        have hnone : A.in1.in1.in1.handled = none := by simp [hh]
        have szp : (s.heap.push nw).objs.size = s.heap.objs.size + 1 := Heap.size_push _ _
        have hneI : l ≠ (s.heap.push nw).objs.size := by
          rw [szp]
          exact Nat.ne_of_lt (Nat.lt_succ_of_lt hlS)
        have hSf : s.heap.objs.size ∉ [(s.heap.push nw).objs.size, l] := by
          simp only [List.mem_cons, List.not_mem_nil, or_false, not_or]
          rw [szp]
          exact ⟨Nat.ne_of_lt (Nat.lt_succ_self _), Nat.ne_of_gt hlS⟩
        subst hnw
        unfold Builtin.«set.__init__» noKeywords Builtin.Frozenset.updateFrom
        generalize hPI : pyIter = PI
        wp_walk
        subst hPI
        refine wpAny_pyIter_list hl1 ?_
        refine wpAny_bind (wpAny_runValue ?_)
        refine setT_update ((Walks.list hnone _ l hneI items).toS) s.heap.objs.size hSf xs hsz hb hval (items.size - 0) 0 _ (by omega) (Nat.zero_le _) ⟨⟨_, Heap.get?_push_size _ rfl, rfl, rfl⟩, (hl1.push _)⟩ ?hS0 ?hR
        case hS0 =>
          refine ⟨0, Nat.le_refl 0, (setT_new (w := w) ?_).congr fun k => by simp⟩
          exact Heap.get?_push_of_some _ hS
        case hR =>
          intro s' c' hm hc' hS'
          obtain ⟨h', g2, d', tk', os'⟩ := s'
          obtain rfl : g2 = s.gens := hm.gens
          obtain rfl : d' = s.drawn := hm.drawn
          obtain rfl : os' = s.os := hm.os
          rw [hsz] at hc'
          refine wpAny_pure (wpAny_pure ⟨rfl, h', tk', c', rfl, hS', hc', fun b o e => ?_⟩)
          have hb0 : b < s.heap.objs.size := Heap.lt_size e
          refine hm.heap b o ?_ (Heap.get?_push_of_some _ (Heap.get?_push_of_some _ e))
          simp only [List.mem_cons, List.not_mem_nil, or_false, not_or]
          rw [szp]
          exact ⟨Nat.ne_of_lt hb0, Nat.ne_of_lt (Nat.lt_succ_of_lt hb0)⟩
      · cases r₂ with
        | error e => exact hr₂
        | ok fl₂ =>
          cases fl₂ with
          | ret r =>
            obtain ⟨rfl, h', tk, c', rfl, hS', hc', hk'⟩ := hr₂
            repeat (any_goals (first | assumption | wp_step))
            exact h _ _ _ hS' hc' hk'
          | _ => exact hr₂.elim
    | _ => exact hr.elim
end
end DL
/-! sorted(set(a list of texts)), len(set(a list of texts)) -/
namespace DL
open PySem PySem.Spec PyProof.Rows L2
/-- texts in their order -/
abbrev LeS (a b : Str) : Prop := a.cps.toList ≤ b.cps.toList
theorem leS_trans {a b c : Str} (h : LeS a b) (k : LeS b c) : LeS a c := List.le_trans h k
theorem leS_total (a b : Str) : LeS a b ∨ LeS b a := List.le_total _ _
theorem leS_anti {a b : Str} (h : LeS a b) (k : LeS b a) : a = b := by
  have e : a.cps.toList = b.cps.toList := List.le_antisymm h k
  cases a
  cases b
  simp only [Str.mk.injEq]
  exact Array.toList_inj.mp e
theorem sortedS_uniq : ∀ {as bs : List Str}, as.Pairwise LeS → bs.Pairwise LeS → as.Nodup → bs.Nodup → (∀ k, k ∈ as ↔ k ∈ bs) → as = bs
  | [], [], _, _, _, _, _ => rfl
  | [], b :: bs, _, _, _, _, h => by
    have := (h b).mpr (by simp)
    cases this
  | a :: as, [], _, _, _, _, h => by
    have := (h a).mp (by simp)
    cases this
  | a :: as, b :: bs, h1, h2, n1, n2, h => by
    rw [List.pairwise_cons] at h1 h2
    rw [List.nodup_cons] at n1 n2
    have e : a = b := by
      rcases List.mem_cons.mp ((h a).mp (by simp)) with e | ha
      · exact e
      · rcases List.mem_cons.mp ((h b).mpr (by simp)) with e | hb
        · exact e.symm
        · exact leS_anti (h1.1 b hb) (h2.1 a ha)
    subst e
    congr 1
    refine sortedS_uniq h1.2 h2.2 n1.2 n2.2 fun k => ⟨fun hk => ?_, fun hk => ?_⟩
    · rcases List.mem_cons.mp ((h k).mp (by simp [hk])) with e | z
      · exact absurd (e ▸ hk) n1.1
      · exact z
    · rcases List.mem_cons.mp ((h k).mpr (by simp [hk])) with e | z
      · exact absurd (e ▸ hk) n2.1
      · exact z
section
variable {P : Program} {w : World} {A : Around} {E : Value → Shared → Prop} {s : Shared}
inductive TxtsAre : List Value → List Str → Prop
  | nil : TxtsAre [] []
  | cons (x : Str) (t : Tok) {us : List Value} {xs : List Str} : TxtsAre us xs → TxtsAre (Value.str x t :: us) (x :: xs)
theorem TxtsAre.length : ∀ {us : List Value} {xs : List Str}, TxtsAre us xs → us.length = xs.length
  | _, _, .nil => rfl
  | _, _, .cons _ _ h => congrArg (· + 1) h.length
theorem txts_of : ∀ (us : List Value), (∀ v ∈ us, ∃ x t, v = Value.str x t) → TxtsAre us (us.map decS)
  | [], _ => .nil
  | u :: us, h => by
    obtain ⟨x, t, rfl⟩ := h u (by simp)
    exact .cons x t (txts_of us fun v hv => h v (by simp [hv]))
theorem txts_each {us : List Value} {xs : List Str} (h : TxtsAre us xs) : PySem.W.EachIs (fun v k => ∃ t, v = Value.str k t) us xs := by
  induction h with
  | nil => exact .nil
  | cons k t _ ih => exact .cons ⟨t, rfl⟩ ih
theorem each_txts {us : List Value} {xs : List Str} (h : PySem.W.EachIs (fun v k => ∃ t, v = Value.str k t) us xs) : TxtsAre us xs := by
  induction h with
  | nil => exact .nil
  | cons r _ ih =>
    obtain ⟨t, rfl⟩ := r
    exact .cons _ t ih
/-- sorted(a set of texts) -/
theorem sorted_setT {a : Addr} {S : Str → Bool} {n : Nat} {Q : Value → Shared → Prop} (R : SetT w s.heap a S n) (hh : A.handled = none) (hu : A.units + 40 < cLine)
    (hQ : ∀ s' p (out : Array Value) (c : Nat) (xs : List Str), (∀ b o, s.heap.get? b = some o → s'.heap.get? b = some o) → s'.gens = s.gens → s'.os = s.os → s.heap.objs.size ≤ p →
      s'.heap.get? p = some (seqObj "list" out c) → TxtsAre out.toList xs → xs.Pairwise LeS → xs.Nodup → (∀ k, k ∈ xs ↔ S k = true) → xs.length = n → Q (.ref p) s') :
    wpAny (model P w) A (call (.builtin "sorted") [.ref a]) Q E s := by
  obtain ⟨o, es, ep, t, ho, hex, hd, g, nd, hm, hb, hf, hn, hr, hl⟩ := R
  refine Calls.call_function_entry kind_sorted plain_sorted entry_sorted (args_sorted1 _) ?_
  unfold Builtin.«sorted»
  refine wpAny_bind (m := checkCount "sorted" 1 1 _) (wpAny_pure ?_)
  refine wpAny_bind (collect_set (A := A.in1) hh ⟨o, ho, hex.1, hd⟩ hf hb hr hl fun s1 vs k1 hz g1 o1 pm => ?_)
  have hvl : vs.length = n := by rw [pm.length_eq, List.length_map, Array.length_toList]; exact hn
  have hnl : n ≤ sizeLine := by
    rw [← hn, sizeLine_eq]
    unfold scanBound at hb
    omega
  have hT := txts_of vs fun v hv => by
    obtain ⟨e, he, q⟩ := List.mem_map.mp (pm.mem_iff.mp hv)
    obtain ⟨x, tk, h1, _⟩ := g e he
    exact ⟨x, tk, by rw [← q]; exact h1⟩
  have pk : (vs.map decS).Perm (es.toList.map keyS) := by
    have q := pm.map decS
    rw [List.map_map] at q
    exact q
  have hoL : (s1.heap.push (seqObj "list" vs.toArray 0)).get? s1.heap.objs.size = some (seqObj "list" vs.toArray 0) := Heap.get?_push_size _ rfl
  generalize hbs : vs.map decS = bs at hT pk
  have hbl : bs.length = n := by rw [← hT.length, hvl]
  refine wpAny_bind (wpAny_newList ?_ (by rw [hvl]; exact hnl))
  refine wpAny_bind (wpAny_holding (PySem.W.list_sort_data (enc := fun k : Str => .str k) (bs := bs) (R := fun v k => ∃ t, v = Value.str k t) hoL (txts_each hT) ((txts_each hT).mono fun v k ⟨t, e⟩ => ⟨[], by rw [e]; exact .str k t, by simp⟩)
    (PySem.W.AllAlike.of fun _ _ => by simp [PySem.W.alike]) (PySem.W.Sortable.others fun _ => ⟨(fun z => by cases z), fun _ z => by cases z⟩) (by rw [hbl]; exact hnl) (fun b _ => by
      simp only [PyData.depth]
      show A.units + 1 + 1 + 0 < cLine
      omega) fun out hol ho2 => ?_))
  have ho3 := each_txts ho2
  obtain ⟨c, hc⟩ := sortedHeap_at (vs := vs) (out := List.toArray out) hoL
  have hperm : (bs.mergeSort (PySem.W.dataLe false fun k : Str => .str k)).Perm bs := List.mergeSort_perm _ _
  have pn := hperm.trans pk
  have hle : (bs.mergeSort (PySem.W.dataLe false fun k : Str => .str k)).Pairwise LeS := by
    have e : PySem.W.dataLe false (fun k : Str => PyData.str k) = fun a b => decide (a.cps.toList ≤ b.cps.toList) := PySem.W.dataLe_str fun k => k
    rw [e]
    have := List.pairwise_mergeSort (le := fun a b : Str => decide (a.cps.toList ≤ b.cps.toList)) (fun a b c h1 h2 => decide_eq_true (leS_trans (of_decide_eq_true h1) (of_decide_eq_true h2))) (fun a b => by
      rcases leS_total a b with z | z
      · rw [decide_eq_true (show a.cps.toList ≤ b.cps.toList from z)]; rfl
      · rw [decide_eq_true (show b.cps.toList ≤ a.cps.toList from z), Bool.or_true]) bs
    exact this.imp fun h => of_decide_eq_true h
  refine wpAny_pure ⟨_, rfl, hQ _ s1.heap.objs.size (List.toArray out) c _ (fun b u e => ?_) g1 o1 hz hc (by simpa using ho3) hle (pn.nodup_iff.mpr nd) (fun k => by rw [pn.mem_iff, ← hm k]) ?_⟩
  · have q := k1 b u e
    have hlt := Heap.lt_size q
    show (sortedHeap (s1.heap.push (seqObj "list" vs.toArray 0)) s1.heap.objs.size vs (List.toArray out)).get? b = some u
    rw [sortedHeap_old (Nat.ne_of_lt hlt) (by rw [size_push']; exact Nat.lt_succ_of_lt hlt)]
    exact Heap.get?_push_of_some _ q
  · rw [hperm.length_eq, hbl]
end
section
variable {X : Cx}
/-- sorted(set(e)), e a list of texts -/
def dSortSetT (te : DTE) : DTE := fun m M Q => te m M fun d M1 => ∃ xs : List Str, dItems d M1 = some (xs.map D.str) ∧ d ≠ .tup (xs.map D.str) ∧ xs.length ≤ 4000 ∧ ∀ (rs : List Str) (p : Addr), rs.Pairwise LeS → rs.Nodup → (∀ k, k ∈ rs ↔ k ∈ xs) → rs.length ≤ xs.length → M1 p = none → Q (.ref p) (mput M1 p (.lst (rs.map D.str)))
theorem vals_texts : ∀ {its : List Value} {xs : List Str}, Vals (xs.map V.str) its → its.length = xs.length ∧ ∀ (i : Nat) (v : Value), its[i]? = some v → ∃ x t, xs[i]? = some x ∧ v = Value.str x t
  | [], [], _ => ⟨rfl, fun i v e => by simp at e⟩
  | u :: us, x :: xs, .cons h l => by
    obtain ⟨t, rfl⟩ := (show ∃ t, u = Value.str x t from h)
    obtain ⟨h1, h2⟩ := vals_texts (its := us) (xs := xs) l
    refine ⟨by rw [List.length_cons, List.length_cons, h1], fun i v e => ?_⟩
    cases i with
    | zero =>
      simp at e
      exact ⟨x, t, rfl, e.symm⟩
    | succ i => exact h2 i v (by simpa using e)
theorem txts_vals : ∀ {us : List Value} {xs : List Str}, TxtsAre us xs → Vals (xs.map V.str) us
  | _, _, .nil => .nil
  | _, _, .cons x t h => .cons ⟨t, rfl⟩ (txts_vals h)
theorem repL_strs {K : PySem.W.Frag} {H : Hp} : ∀ {xs : List Str}, RepL K H (xs.map D.str) (xs.map V.str)
  | [] => .nil
  | x :: xs => .cons (.str x) repL_strs
/-- set(e) has come, e a list of texts: the walk goes on with the set at its place -/
theorem set_texts {pins : List (Addr × Obj)} {σ : SL} {H1 : Hp} {M1 : DM} {s1 : Shared} {d : D} {v : Value} {x : V} {xs : List Str} {Q : Value → Shared → Prop} {A : Around} {E : Value → Shared → Prop} (I1 : Inv X pins σ H1 s1) (r1 : RelV x v) (rd : Rep X.K H1 d x) (m1 : RM X.K H1 M1) (hd : dItems d M1 = some (xs.map D.str)) (hnt : d ≠ .tup (xs.map D.str)) (hl : xs.length ≤ 4000) (hA : A.handled = none)
    (h : ∀ (h' : Heap) (tk c : Nat), SetT X.w h' s1.heap.objs.size (fun j => decide (j ∈ xs)) c → c ≤ xs.length → Inv X pins σ H1 { s1 with heap := h', toks := tk } → Q (.ref s1.heap.objs.size) { s1 with heap := h', toks := tk }) :
    wpAny (model X.prog X.w) A (call (.type "set") [v]) Q E s1 := by
  obtain ⟨l, vs, rfl, hz, rl, hS⟩ := lst_of rd m1 hd hnt
  have evs := strs_rep rl
  subst evs
  cases r1
  obtain ⟨its, ri, pl, _⟩ := I1.list hS
  obtain ⟨e1, e2⟩ := vals_texts ri
  refine call_set_listT xs hA pl.isList (by simpa using e1) (fun i v e => e2 i v (by simpa using e)) (by unfold scanBound; omega) fun h' tk c hR hcl hk => h h' tk c hR hcl (I1.kept hk)
theorem d_sortSetT {e : Expr} {te : DTE} {p p2 q pos : Pos} (hc : X.calm = true) (hu : X.A.units + 64 < cLine) (hg : Gl X "sorted") (hm : X.mg "sorted" = none) (hg2 : Gl X "set") (hm2 : X.mg "set" = none) (he : DE X e te)
    (na : starEach [e] X.env = (false, eval e X.env) :: starEach [] X.env := by rfl) : DE X (.Call (.Name "sorted" p) [.Call (.Name "set" p2) [e] [] q] [] pos) (dSortSetT te) := by
  refine ⟨fun pins s σ H Q I ⟨m, M, Q', r, h, kk⟩ => ?_⟩
  refine Call_ (ld_blt I hg hm boot_sorted ?_)
  refine PyProof.Rows.callWith_builtin1 (PyProof.Rows.args_cons ?_ rfl) rfl rfl
  refine Call_ (ld_blt I hg2 hm2 boot_set ?_)
  refine PyProof.Rows.callWith_type1 (PyProof.Rows.args_cons (thn (he.run pins s σ H (fun v H1 => ∃ d M1, Grow H H1 ∧ Rep X.K H1 d v ∧ RM X.K H1 M1 ∧ ∃ xs : List Str, dItems d M1 = some (xs.map D.str) ∧ d ≠ .tup (xs.map D.str) ∧ xs.length ≤ 4000 ∧ ∀ (rs : List Str) (p : Addr), rs.Pairwise LeS → rs.Nodup → (∀ k, k ∈ rs ↔ k ∈ xs) → rs.length ≤ xs.length → M1 p = none → Q' (.ref p) (mput M1 p (.lst (rs.map D.str)))) I
    ⟨m, M, _, r, h, fun d v M1 H1 g1 r1 m1 q1 => ⟨d, M1, g1, r1, m1, q1⟩⟩) fun v s1 ⟨x, H1, I1, r1, d, M1, g1, rd, m1, xs, hd, hnt, hl, q1⟩ => PyProof.Rows.args_nil ?_) na) na rfl
  refine set_texts I1 r1 rd m1 hd hnt hl (I1.ok.hd hc) fun h' tk c hR hcl I2 => ?_
  refine PyProof.Rows.args_nil ?_
  generalize hs2 : ({ s1 with heap := h', toks := tk } : Shared) = s2 at I2 ⊢
  have hR2 : SetT X.w s2.heap s1.heap.objs.size (fun j => decide (j ∈ xs)) c := by rw [← hs2]; exact hR
  refine sorted_setT (s := s2) hR2 (I2.ok.hd hc) (by omega) fun s' p out c2 rs k g o hp hg hi hs hnd hmm hln => ?_
  have hlen : (rs.map V.str).length ≤ sizeLine := by rw [List.length_map, hln, sizeLine_eq]; omega
  have hn : H1 p = none := I2.hok.fresh hp
  have J : Inv X pins σ (upd H1 p (.lst (rs.map V.str))) { s2 with heap := s'.heap, gens := s'.gens, drawn := s'.drawn, toks := s'.toks } :=
    I2.call (ch := []) (Un.laid k hp hn) (I2.hok.laid k hp ⟨hlen, out.toList, c2, txts_vals hi, hg⟩) (by rw [g]; exact I2.bare) (fun _ z => nomatch z)
  have e : s' = { s2 with heap := s'.heap, gens := s'.gens, drawn := s'.drawn, toks := s'.toks } := by
    cases s'
    cases s2
    cases o
    rfl
  rw [e]
  exact ⟨.ref p, _, J, rfl, kk _ _ _ _ (g1.trans (.new hn)) (.ref _) (m1.newLst hn hlen repL_strs) (q1 rs p hs hnd (fun k => by rw [hmm k, decide_eq_true_iff]) (by omega) (m1.free hn))⟩
/-- len(set(e)), e a list of texts -/
def dLenSetT (te : DTE) : DTE := fun m M Q => te m M fun d M1 => ∃ xs : List Str, dItems d M1 = some (xs.map D.str) ∧ d ≠ .tup (xs.map D.str) ∧ xs.length ≤ 4000 ∧ ∀ (rs : List Str), rs.Nodup → (∀ k, k ∈ rs ↔ k ∈ xs) → Q (.int rs.length) M1
theorem d_lenSetT {e : Expr} {te : DTE} {p p2 q pos : Pos} (hc : X.calm = true) (hg : Gl X "len") (hm : X.mg "len" = none) (hg2 : Gl X "set") (hm2 : X.mg "set" = none) (he : DE X e te)
    (na : starEach [e] X.env = (false, eval e X.env) :: starEach [] X.env := by rfl) : DE X (.Call (.Name "len" p) [.Call (.Name "set" p2) [e] [] q] [] pos) (dLenSetT te) := by
  refine ⟨fun pins s σ H Q I ⟨m, M, Q', r, h, kk⟩ => ?_⟩
  refine Call_ (ld_blt I hg hm boot_len ?_)
  refine PyProof.Rows.callWith_builtin1 (PyProof.Rows.args_cons ?_ rfl) rfl rfl
  refine Call_ (ld_blt I hg2 hm2 boot_set ?_)
  refine PyProof.Rows.callWith_type1 (PyProof.Rows.args_cons (thn (he.run pins s σ H (fun v H1 => ∃ d M1, Grow H H1 ∧ Rep X.K H1 d v ∧ RM X.K H1 M1 ∧ ∃ xs : List Str, dItems d M1 = some (xs.map D.str) ∧ d ≠ .tup (xs.map D.str) ∧ xs.length ≤ 4000 ∧ ∀ (rs : List Str), rs.Nodup → (∀ k, k ∈ rs ↔ k ∈ xs) → Q' (.int rs.length) M1) I
    ⟨m, M, _, r, h, fun d v M1 H1 g1 r1 m1 q1 => ⟨d, M1, g1, r1, m1, q1⟩⟩) fun v s1 ⟨x, H1, I1, r1, d, M1, g1, rd, m1, xs, hd, hnt, hl, q1⟩ => PyProof.Rows.args_nil ?_) na) na rfl
  refine set_texts I1 r1 rd m1 hd hnt hl (I1.ok.hd hc) fun h' tk c hR hcl I2 => ?_
  refine PyProof.Rows.args_nil ?_
  generalize hs2 : ({ s1 with heap := h', toks := tk } : Shared) = s2 at I2 ⊢
  have hR2 : SetT X.w s2.heap s1.heap.objs.size (fun j => decide (j ∈ xs)) c := by rw [← hs2]; exact hR
  obtain ⟨o, es, ep, t, ho, hex, hdt, g, nd, hmm, hb, hf, hn, _⟩ := hR2
  have hq := q1 (es.toList.map keyS) nd fun k => by rw [← hmm k, decide_eq_true_iff]
  rw [List.length_map, Array.length_toList] at hq
  refine call_len_set ho hex hdt hf (by unfold scanBound at hb; omega) ?_
  exact ⟨.int es.size, H1, (I2.tok _).tok _, ⟨_, rfl⟩, kk _ _ _ _ g1 (.int _) m1 hq⟩
end
end DL
/-! DL31: dicts whose keys are tuples: d[k], k in d, d[k] = v, {}, len. -/
namespace DL
open PySem PySem.Spec PyProof.Rows L2
section
variable {X : Cx} {pos : Pos}
/-- d[k] -/
def dDIx (w : World) : DR2 := fun x y M Q => ∃ a kvs v, x = .ref a ∧ M a = some (.dct w kvs) ∧ isKey y ∧ dget kvs y = some v ∧ Q v M
theorem x_dix {w : World} (hw : X.w = w) (hu : X.A.units + 9 < cLine) : IxR X (upR2 X.K (dDIx w)) := by
  subst hw
  intro value slice pins s σ H x y v u Q I rx ry ⟨d, e, M, Q', r1, r2, m, ⟨a, kvs, v0, h1, h2, ⟨⟨ks, ek⟩, hok, hdp⟩, h3, q⟩, k⟩ hop
  subst h1
  subst ek
  cases r1
  obtain rfl : v = Value.ref a := rx
  cases r2 with
  | @tup _ b vs hf z l =>
    obtain rfl : u = Value.ref b := ry
    obtain ⟨es, g1, hz, rkv⟩ := m.dct h2
    obtain ⟨hs, xs, pr, dd⟩ := dict_of I g1 rkv
    have rk : Rep X.K H (.tup ks) (.ref b) := .tup hf z l
    rcases dget_at (k := .tup ks) rkv with ⟨n1, n2⟩ | ⟨d, y', n1, n2, rd⟩
    · rw [n1] at h3
      cases h3
    · rw [n1] at h3
      cases h3
      have ra := atV_at (k := nk (.tup ks)) pr
      rw [n2] at ra
      cases ha : atKey xs (nk (.tup ks)) with
      | none => rw [ha] at ra; exact ra.elim
      | some p =>
        rw [ha] at ra
        refine subscriptTail_builtinR (x := p.2) dd.typeIs PySem.F.slot_dict_getitem.lookup (wpAny_getItem_heap (knd := nestedKind X.prog X.w) (Q := fun r s' => r = p.2 ∧ EP X pins σ Q r s') ?_ ⟨Rep.nested I rk rfl hok, hdp⟩ dd ha ⟨rfl, y', H, I.tok _, ra, k _ _ M H (.refl H) rd m q⟩) hop
        show X.A.units + 1 + 8 < cLine
        omega
def dDIn (w : World) : DR2 := fun x y M Q => ∃ a kvs, y = .ref a ∧ M a = some (.dct w kvs) ∧ isKey x ∧ Q (.bl (dhas kvs x)) M
def dDNotIn (w : World) : DR2 := fun x y M Q => ∃ a kvs, y = .ref a ∧ M a = some (.dct w kvs) ∧ isKey x ∧ Q (.bl (!dhas kvs x)) M
theorem o_inD {w : World} (hw : X.w = w) (hu : X.A.units + 9 < cLine) : DOp X (compareOp .In) (dDIn w) := by
  subst hw
  intro pins s σ H x y v u Q I rx ry ⟨d, e, M, Q', r1, r2, m, ⟨a, kvs, h1, h2, ⟨⟨ks, ek⟩, hok, hdp⟩, q⟩, k⟩
  subst h1
  subst ek
  cases r2
  obtain rfl : u = Value.ref a := ry
  cases r1 with
  | @tup _ b vs hf z l =>
    obtain rfl : v = Value.ref b := rx
    obtain ⟨es, g1, hz, rkv⟩ := m.dct h2
    obtain ⟨hs, xs, pr, dd⟩ := dict_of I g1 rkv
    have rk : Rep X.K H (.tup ks) (.ref b) := .tup hf z l
    refine wpAny_in_heap (knd := nestedKind X.prog X.w) ?_ ⟨Rep.nested I rk rfl hok, hdp⟩ hs dd ?_
    · show X.A.units + 1 + 8 < cLine
      omega
    · rw [any_at pr, has_any rkv]
      exact ⟨.bl _, H, I.tok _, rfl, k _ _ M H (.refl H) (.bl _) m q⟩
theorem o_notinD {w : World} (hw : X.w = w) (hu : X.A.units + 9 < cLine) : DOp X (compareOp .NotIn) (dDNotIn w) := by
  subst hw
  intro pins s σ H x y v u Q I rx ry ⟨d, e, M, Q', r1, r2, m, ⟨a, kvs, h1, h2, ⟨⟨ks, ek⟩, hok, hdp⟩, q⟩, k⟩
  subst h1
  subst ek
  cases r2
  obtain rfl : u = Value.ref a := ry
  cases r1 with
  | @tup _ b vs hf z l =>
    obtain rfl : v = Value.ref b := rx
    obtain ⟨es, g1, hz, rkv⟩ := m.dct h2
    obtain ⟨hs, xs, pr, dd⟩ := dict_of I g1 rkv
    have rk : Rep X.K H (.tup ks) (.ref b) := .tup hf z l
    refine wpAny_notIn_heap (knd := nestedKind X.prog X.w) ?_ ⟨Rep.nested I rk rfl hok, hdp⟩ hs dd ?_
    · show X.A.units + 1 + 8 < cLine
      omega
    · rw [any_at pr, has_any rkv]
      exact ⟨.bl _, H, I.tok _, rfl, k _ _ M H (.refl H) (.bl _) m q⟩
/-- d[k] = v -/
def dSetD (w : World) : D → D → D → DM → (DM → Prop) → Prop := fun o i v M Q => ∃ a kvs, o = .ref a ∧ M a = some (.dct w kvs) ∧ isKey i ∧ (dput kvs i v).length ≤ sizeLine ∧ Q (mput M a (.dct w (dput kvs i v)))
theorem s_dct {w : World} (hw : X.w = w) (hu : X.A.units + 9 < cLine) : DSet X (dSetD w) := by
  subst hw
  intro pins s σ H o i v ov iv u Q I ro ri rv ⟨d, e, y, M, Q', r1, r2, r3, m, ⟨a, kvs, h1, h2, ⟨⟨ks, ek⟩, hok, hdp⟩, hsz, q⟩, k⟩
  subst h1
  subst ek
  cases r1
  obtain rfl : ov = Value.ref a := ro
  cases r2 with
  | @tup _ b vs hf z l =>
    obtain rfl : iv = Value.ref b := ri
    obtain ⟨es, g1, hz, rkv⟩ := m.dct h2
    obtain ⟨hs, xs, pr, dd⟩ := dict_of I g1 rkv
    have rk : Rep X.K H (.tup ks) (.ref b) := .tup hf z l
    have hl : xs.length ≤ sizeLine := by rw [← pr.length]; exact hz
    have rkv2 := rkv.store rk hok hdp r3
    refine wpAny_setItem_heap (knd := nestedKind X.prog X.w) (hsz := hl) ?_ ⟨Rep.nested I rk rfl hok, hdp⟩ dd fun h' dd' hsb => ?_
    · show X.A.units + 1 + 8 < cLine
      omega
    obtain ⟨o', _, _, ho', _⟩ := id dd'
    refine ⟨_, d_write I (by rw [g1]; exact True.intro) hsb ⟨o', ho'⟩ (dict_new hs (EsXs.store pr rv) dd'), k _ _ (.dct g1) (m.putDct g1 (by rw [← rkv2.len]; exact hsz) rkv2) q⟩
/-- {} -/
def dDNew (w : World) : DTE := fun _ M Q => ∀ p, M p = none → Q (.ref p) (mput M p (.dct w []))
theorem pe_dnewH {w : World} (hw : X.w = w) : PE X (.Dict [] [] pos) (fun _ H Q => ∀ p, H p = none → Q (.ref p) (upd H p (DictO w p []))) := by
  subst hw
  exact ⟨fun pins s σ H Q I h => wpAny_Dict_empty ⟨.ref s.heap.objs.size, _, I.laid (a := s.heap.objs.size) (o := DictO X.w s.heap.objs.size []) (t' := s.toks) (fun _ _ q => Heap.get?_push_of_some _ q) (Nat.le_refl _) (empty_dict s.heap I.big), rfl, h _ (I.hok.fresh (Nat.le_refl _))⟩⟩
theorem d_dnew {w : World} (hw : X.w = w) : DE X (.Dict [] [] pos) (dDNew w) :=
  imE (pe_dnewH hw) fun σ H Q ⟨m, M, Q', r, q, kk⟩ p hp => kk _ _ _ _ (.new hp) (.ref p) (r.mem.newDct hp) (q p (r.mem.free hp))
end
end DL
/-! DL32: a comprehension whose items take draws, item by item. -/
namespace DL
open PySem PySem.Spec PyProof.Rows L2
theorem lc_drawT {α β : Type} (f : α → D) (k : β → D) (R : α → β → Prop) {xs : List α} {src : Src} {g : DTG} {te : DTE} {m0 : DSt} {Qd : Addr → List D → DM → Prop} {M : DM} {p : Addr} {o1 : DO} (hx : src.1 = xs.map f) (hsrc : src.2 = none) (ho : DrO o1)
    (step : ∀ x ∈ xs, ∀ (r : Addr) (l : DO) (o : DO), p ≠ r → M r = none → DrO o → ∀ C1 : D → DM → Prop, (∀ o' y, DrO o' → R x y → C1 (k y) (mput (mput M p o') r l)) → g (f x) m0 (mput (mput M p o) r l) fun m1 M1 => te m1 M1 C1)
    (fin : ∀ r o ys, p ≠ r → mput M p o r = none → DrO o → Paired R xs ys → Qd r (ys.map k) (mput (mput M p o) r (.lst (ys.map k)))) :
    ∀ r, mput M p o1 r = none → dLcGo src g dYes te m0 r (Qd r) src.1 [] (mput (mput M p o1) r (.lst [])) := fun r hr => by
  have hpr : p ≠ r := ne_of_fresh mput_same hr
  have hrM : M r = none := by rw [mput_ne hpr.symm] at hr; exact hr
  have key : ∀ (rest dn : List α) (ys : List β) (o : DO), dn ++ rest = xs → DrO o → Paired R dn ys → dLcGo src g dYes te m0 r (Qd r) (rest.map f) (ys.map k) (mput (mput M p o) r (.lst (ys.map k))) := by
    intro rest
    induction rest with
    | nil =>
      intro dn ys o hd ho hp
      rw [List.append_nil] at hd
      subst hd
      refine ⟨fun a e => ?_, fin r o ys hpr (by rw [mput_ne hpr.symm]; exact hrM) ho hp⟩
      rw [hsrc] at e
      cases e
    | cons x rest ih =>
      intro dn ys o hd ho hp
      refine ⟨fun a e => (by rw [hsrc] at e; cases e), ?_⟩
      have z := step x (by rw [← hd]; simp) r (.lst (ys.map k)) o hpr hrM ho (fun y M3 => M3 r = some (.lst (ys.map k)) ∧ dLcGo src g dYes te m0 r (Qd r) (rest.map f) (ys.map k ++ [y]) (mput M3 r (.lst (ys.map k ++ [y])))) fun o' y ho' hy => ⟨mput_same, by
        rw [mput_mput]
        have e : ys.map k ++ [k y] = (ys ++ [y]).map k := by rw [List.map_append]; rfl
        rw [e]
        exact ih (dn ++ [x]) (ys ++ [y]) o' (by rw [← hd]; simp) ho' (hp.snoc hy)⟩
      exact z
  rw [hx]
  exact key xs [] [] o1 rfl ho .nil
theorem Paired.len {α β : Type} {R : α → β → Prop} : ∀ {xs : List α} {ys : List β}, Paired R xs ys → xs.length = ys.length
  | _, _, .nil => rfl
  | _, _, .cons _ t => congrArg (· + 1) (Paired.len t)
theorem Paired.mem_right {α β : Type} {R : α → β → Prop} : ∀ {xs : List α} {ys : List β}, Paired R xs ys → ∀ y ∈ ys, ∃ x ∈ xs, R x y
  | _, _, .nil, y, h => by cases h
  | _, _, .cons a t, y, h => by
    rcases List.mem_cons.mp h with rfl | h
    · exact ⟨_, by simp, a⟩
    · obtain ⟨x, h1, h2⟩ := Paired.mem_right t y h
      exact ⟨x, by simp [h1], h2⟩
theorem Paired.map_eq {α β γ : Type} {R : α → β → Prop} (f : α → γ) (g : β → γ) (h : ∀ x y, R x y → g y = f x) : ∀ {xs : List α} {ys : List β}, Paired R xs ys → ys.map g = xs.map f
  | _, _, .nil => rfl
  | _, _, .cons a t => by rw [List.map_cons, List.map_cons, h _ _ a, Paired.map_eq f g h t]
theorem srcV_it {a : D} {xs : List D} {M : DM} (h : dItems a M = some xs) : SrcV (xs, dAt a) M := by
  intro p hp
  cases a with
  | ref q =>
    have e : q = p := Option.some.inj hp
    subst e
    rw [dItems_rf] at h
    cases c : M q with
    | none => rw [c] at h; cases h
    | some o =>
      rw [c] at h
      cases o with
      | lst ys =>
        cases h
        rfl
      | _ => cases h
  | _ => cases hp
theorem items_up {M N : DM} {b : D} {xs : List D} (h : dItems b M = some xs) (l : MLe M N) : dItems b N = some xs := by
  cases b with
  | ref r =>
    cases q : M r with
    | none => simp [dItems, q] at h
    | some o =>
      cases o with
      | lst ys =>
        simp [dItems, q] at h
        exact dItems_ref (by rw [l _ _ q, h])
      | _ => simp [dItems, q] at h
  | _ => first | exact h | cases h
theorem range_gets {α β : Type} (f : α → β) (d : α) (l : List α) : (List.range l.length).map (fun k => f (l.getD k d)) = l.map f := by
  refine List.ext_getElem (by rw [List.length_map, List.length_range, List.length_map]) fun i h1 h2 => ?_
  rw [List.length_map, List.length_range] at h1
  rw [List.getElem_map, List.getElem_range, List.getElem_map]
  simp [List.getD_eq_getElem?_getD, List.getElem?_eq_getElem h1]
end DL
/-! DL33: the order of data; sorted(xs, key=len). -/
namespace DL
open PySem PySem.Spec PyProof.Rows L2
open PySem.W (dataLt dataLe keyToks alike)
/-! ### the order -/
def dlt (a b : D) : Bool := dataLt a.py b.py
theorem dlt_irr (a : D) : dlt a a = false := PySem.W.dataLt_self _
theorem dlt_trans {a b c : D} (h : dlt a b = true) (k : dlt b c = true) : dlt a c = true := lex_trans _ _ _ h k
theorem dlt_neg {a b c : D} (h : dlt a c = true) : dlt a b = true ∨ dlt b c = true := lex_negTrans _ _ _ h
theorem dlt_asym {a b : D} (h : dlt a b = true) : dlt b a = false := by
  cases e : dlt b a with
  | false => rfl
  | true =>
    have := dlt_trans h e
    rw [dlt_irr] at this
    cases this
/-- not less: transitive -/
theorem dle_trans {a b c : D} (h : dlt b a = false) (k : dlt c b = false) : dlt c a = false := by
  cases e : dlt c a with
  | false => rfl
  | true =>
    rcases dlt_neg (b := b) e with z | z
    · rw [k] at z
      cases z
    · rw [h] at z
      cases z
theorem dlt_le {a b c : D} (h : dlt a b = true) (k : dlt c b = false) : dlt a c = true := by
  rcases dlt_neg (b := c) h with z | z
  · exact z
  · rw [k] at z
    cases z
theorem dle_lt {a b c : D} (h : dlt b a = false) (k : dlt b c = true) : dlt a c = true := by
  rcases dlt_neg (b := a) k with z | z
  · rw [h] at z
    cases z
  · exact z
/-- three ways -/
theorem dlt_tri {a b : D} (ha : alike a.py b.py = true) (h : dlt a b = false) (k : dlt b a = false) : D.eqv a b = true := by
  cases e : D.eqv a b with
  | true => rfl
  | false =>
    have z := (PySem.W.toks_eqv a.py b.py ha).2 e
    have et : keyToks a.py = keyToks b.py := lex_total _ _ h k
    have z1 := z [] [Sum.inl 0]
    rw [et, PySem.W.lex_pre] at z1
    have y2 : PyProof.Rows.lexLt PyProof.Rows.itemOrd (keyToks b.py) (keyToks b.py) = false := lex_irrefl _
    rw [y2] at z1
    cases z1
theorem sort_pair {α : Type} (g : α → D) (xs : List α) : (xs.mergeSort (dataLe false fun x => (g x).py)).Pairwise fun a b => dlt (g b) (g a) = false := by
  have e : ∀ a b : α, dataLe false (fun x => (g x).py) a b = !dlt (g b) (g a) := fun a b => rfl
  have z := List.pairwise_mergeSort (le := dataLe false fun x => (g x).py) (fun a b c h k => by
    rw [e] at h k ⊢
    rw [Bool.not_eq_true'] at h k ⊢
    exact dle_trans h k) (fun a b => by
    rw [e, e]
    cases h : dlt (g b) (g a) with
    | false => rfl
    | true => rw [dlt_asym h]; rfl) xs
  exact z.imp fun {a b} h => by
    rw [e, Bool.not_eq_true'] at h
    exact h
/-! ### sorted(xs, key=len), the items tuples -/
def gLen : D → D
  | .tup ys => .int (ys.length : Nat)
  | _ => .non
section
variable {X : Cx}
theorem lenKeyRun {pins : List (Addr × Obj)} {σ : SL} {H : Hp} {M : DM} {s : Shared} {xs : List D} (hx : ∀ x ∈ xs, ∃ ys, x = .tup ys) : KeyRun X pins σ H M s (.builtin "len") xs gLen := by
  intro Hj s' d v x hdm un gr J rm rd ru
  obtain ⟨ys, rfl⟩ := hx d hdm
  cases rd with
  | @tup _ b vs hf z l =>
    obtain rfl : x = Value.ref b := ru
    obtain ⟨its, r', pl, hz⟩ := J.tuple hf
    have hlen := r'.length
    have hn := line63
    refine PyProof.Rows.len_tuple pl (by simp only [List.size_toArray]; omega) ⟨.int ys.length, Hj, rfl, J.bare, Un.refl, J.hok, ⟨s'.toks + 1, ?_⟩, .refl _, .int _, rm⟩
    rw [List.size_toArray, ← hlen, ← l.length]
def sortLenB (Q : DVK) (d : D) (M1 : DM) : Prop := ∃ xs : List (List D), dItems d M1 = some (xs.map D.tup) ∧ d ≠ .tup (xs.map D.tup) ∧ ∀ p, M1 p = none → Q (.ref p) (mput M1 p (.lst ((xs.map D.tup).mergeSort (dataLe false fun x => D.py (gLen x)))))
def dSortLen (t : DTE) : DTE := fun m M Q => t m M (sortLenB Q)
def sortLenP (Q : DVK) : List D → DM → Prop
  | [d], M1 => sortLenB Q d M1
  | _, _ => False
theorem d_sortLen {k : Nat} {e : Expr} {p p2 kp pos : Pos} {t : DTE} (hr : Room k X.A.in1.in1) (hg : Gl X "len") (hm : X.mg "len" = none) (hgs : Gl X "sorted") (hms : X.mg "sorted" = none) (ha : DE X e t)
    (he : backTo pos (starEach [e] X.env) = [(false, eval e X.env)] := by rfl) (hpl : (backTo pos (starEach [e] X.env)).any (·.1) = false := by rfl)
    (hall : (backToKw pos (keywordEach [⟨some (Str.ofString "key"), .Name "len" p2, kp⟩] X.env)).all (·.1.isSome) = true := by rfl) (hnone : (backToKw pos (keywordEach [⟨some (Str.ofString "key"), .Name "len" p2, kp⟩] X.env)).any (·.1.isNone) = false := by rfl)
    (hks : (backToKw pos (keywordEach [⟨some (Str.ofString "key"), .Name "len" p2, kp⟩] X.env)).filterMap (·.1) = [Str.ofString "key"] := by rfl)
    (hs0 : starEach [e] X.env = [(false, eval e X.env)] := by rfl) :
    DE X (.Call (.Name "sorted" p) [e] [⟨some (Str.ofString "key"), .Name "len" p2, kp⟩] pos) (dSortLen t) := by
  have hu : X.A.in1.in1.units + 40 < cLine := by
    have := hr.un
    omega
  refine ⟨fun pins s σ H Q I ⟨m, M, Q', r, q, kk⟩ => ?_⟩
  refine wpAny_Call_Name_kw (ld_blt I hgs hms boot_sorted ?_ (by decide) (by decide))
  refine PyProof.Rows.callWith_kw (thn ((da_cons ha da_nil hs0 : DA X [e] _).run pos pins s σ H (fun vs H1 => ∃ ds M1, Grow H H1 ∧ RepL X.K H1 ds vs ∧ RM X.K H1 M1 ∧ sortLenP Q' ds M1) I
    ⟨m, M, sortLenP Q', r, q, fun ds vs M1 H1 g1 l1 m1 q1 => ⟨ds, M1, g1, l1, m1, q1⟩⟩) fun us s1 ⟨vs, H1, I1, r1, ds, M1, g1, l1, m1, q1⟩ => ?_) he hpl hall hnone
  obtain ⟨d, rfl, q1⟩ : ∃ d, ds = [d] ∧ sortLenB Q' d M1 := by
    match ds, q1 with
    | [d], q1 => exact ⟨d, rfl, q1⟩
  obtain ⟨xs, hd, hnt, q1⟩ := q1
  obtain ⟨v, rfl, rv⟩ := repL_one l1
  obtain ⟨u, rfl, ru⟩ := vals1 r1
  show wpAny _ _ (evalAll ((do let v ← eval (.Name "len" p2) X.env; standAt pos; pure v) :: [])) _ _ s1
  refine wpAny_evalAll_cons (wpAny_bind (ld_blt I1 hg hm boot_len (wpAny_bind (wpAny_standAt (wpAny_pure ?_)))))
  refine wpAny_evalAll_nil ?_
  rw [hks]
  have hxt : ∀ x ∈ xs.map D.tup, ∃ ys, x = .tup ys := fun x hx => by
    obtain ⟨y, _, rfl⟩ := List.mem_map.mp hx
    exact ⟨y, rfl⟩
  have hxk : ∀ x ∈ (xs.map D.tup).map gLen, ∃ n : Int, x = .int n := fun x hx => by
    obtain ⟨y, hy, rfl⟩ := List.mem_map.mp hx
    obtain ⟨ys, rfl⟩ := hxt y hy
    exact ⟨_, rfl⟩
  refine sort_core I1 rv ru m1 hd hnt (fun a => ksk_t4 _ a) (lenKeyRun hxt) hu ?_ ?_ ?_ q1 fun d v M' H' g3 => kk d v M' H' (g1.trans g3)
  · refine List.all_eq_true.mpr fun x hx => ?_
    obtain ⟨n, rfl⟩ := hxk x hx
    simp
  · intro d hd d' hd'
    obtain ⟨x, hx, rfl⟩ := List.mem_map.mp hd
    obtain ⟨y, hy, rfl⟩ := List.mem_map.mp hd'
    obtain ⟨n, rfl⟩ := hxk x hx
    obtain ⟨k, rfl⟩ := hxk y hy
    simp [D.py, alike]
  · refine .inl (.inr fun d hd => ?_)
    obtain ⟨x, hx, rfl⟩ := List.mem_map.mp hd
    obtain ⟨n, rfl⟩ := hxk x hx
    exact ⟨(fun z => by cases z), fun xs z => by cases z⟩
end
end DL
/-! DL34: sorted of tuples of any lengths. -/
namespace DL
open PySem PySem.Spec PyProof.Rows L2
open PySem.W
theorem sorted_dataO {β : Type} {prog : Program} {w : World} {A : Around} {E : Value → Shared → Prop} {s : Shared} {vs : List Value} {bs : List β} {R : Value → β → Prop} {enc : β → PyData} {l : Addr} {Q : Value → Shared → Prop} (hl : s.heap.IsList l vs.toArray) (e : EachIs R vs bs) (er : EachIs (fun v b => ∃ as, Reads s.heap v (enc b) as) vs bs) (hal : AllAlike (bs.map enc)) (hk : SortOk (bs.map enc)) (hL : bs.length ≤ sizeLine)
    (hu : ∀ b, b ∈ bs → A.units + 2 + (enc b).depth < cLine) (h : ∀ out, out.length = bs.length → EachIs R out (bs.mergeSort (dataLe false enc)) → Q (.ref (s.heap.objs.size + 1)) { s with heap := sortedAll s.heap vs (List.toArray out) }) :
    wpAny (model prog w) A (call (.builtin "sorted") [.ref l]) Q E s := by
  have er' : EachIs (fun v b => ∃ as, Reads (sortingHeap (copyHeap s.heap vs) (s.heap.objs.size + 1) vs) v (enc b) as) vs bs := er.mono fun _ _ ⟨as, r⟩ => ⟨as, PyProof.Rows.Reads.keeps (fun _ _ => sorting_copy_old) r⟩
  exact sorted_vals hl (sortsAt_tups (s := { s with heap := sortingHeap (copyHeap s.heap vs) (s.heap.objs.size + 1) vs }) (each_map (R := fun v d => ∃ as, Reads (sortingHeap (copyHeap s.heap vs) (s.heap.objs.size + 1) vs) v d as) enc er') hal hk (bound_map hu)) (by rw [e.length]; exact hL)
    (h _ (by rw [sortVals_length false rfl]; exact e.length) (sortVals_data false e er' hal))
variable {X : Cx}
def rSortO : DCR := fun ds M Q => ∃ d xs, ds = [d] ∧ dItems d M = some xs ∧ d ≠ .tup xs ∧ xs.all (dOk 32) = true ∧ AllAlike (xs.map D.py) ∧ SortOk (xs.map D.py) ∧ ∀ p, M p = none → Q (.ref p) (mput M p (.lst (srtD xs)))
theorem c_sortO (hu : X.A.units + 40 < cLine) : DCall X (.builtin "sorted") rSortO := by
  intro pins s σ H vs us Q I r ⟨ds, M, Q', l, m, ⟨d, xs, e, h, h2, h3, h4, h5, q⟩, k⟩
  subst e
  obtain ⟨v, e, rv⟩ := repL_one l
  subst e
  obtain ⟨a, ws, rfl, z, l3, h6⟩ := lst_of rv m h h2
  obtain ⟨its, r2, pl, _⟩ := I.list h6
  rw [Vals.ref1 r]
  have hz : xs.length ≤ sizeLine := by rw [l3.length]; exact z
  refine sorted_dataO (vs := its) (bs := xs) (enc := D.py) pl.isList (rel_each l3 r2) (reads_each I l3 r2 h3) h4 h5 hz (fun b hb => ?_) fun out ho hr => ?_
  · have := (dOk_lay 32 b (List.all_eq_true.mp h3 b hb)).2
    omega
  · obtain ⟨vs', h7, h8⟩ := each_rel hr
    obtain ⟨ep, he'⟩ := PyProof.Rows.sortedAll_at s.heap its out.toArray
    have hlen : vs'.length ≤ sizeLine := by rw [← h8.length, List.length_mergeSort]; exact hz
    have hp := I.hok.fresh (Nat.le_succ s.heap.objs.size)
    refine ⟨.ref _, upd H (s.heap.objs.size + 1) (.lst vs'), I.laid (t' := s.toks) (fun _ _ => PyProof.Rows.sortedAll_old) (Nat.le_succ _) ⟨hlen, out, ep, h7, he'⟩, rfl, ?_⟩
    exact k _ _ _ _ (.new hp) (.ref _) (m.newLst hp hlen h8) (q _ (m.free hp))
end DL
/-! DL35: sets of keys of any depth (tuples): adding, set(xs). -/
namespace DL
open PySem PySem.Spec PyProof.Rows L2
/-- at b stands the tuple that is the key k -/
abbrev NIs (h : Heap) (k : NestedKey) (b : Addr) : Prop := NestedIs h k (.ref b) ∧ k.depth ≤ 8
section
variable {P : Program} {w : World}
/-! ### small questions -/
def ClsAt (P : Program) (w : World) (n : Nat) (s : Shared) (v : Value) : Prop := ∀ (A : Around) (E : Value → Shared → Prop) (Q : Bool → Shared → Prop), Q false s → wpAny (model P w) A (ofAClassStatement n v) Q E s
def HbvAt (P : Program) (w : World) (n : Nat) (s : Shared) (v : Value) : Prop := ∀ (A : Around) (E : Value → Shared → Prop) (Q : Bool → Shared → Prop), (∀ b, Q b s) → wpAny (model P w) A (hashByValue n v) Q E s
theorem clsAt_tup {n : Nat} {s : Shared} {b : Addr} {ob : Obj} {its : Array Value} {m : Nat} (g1 : s.heap.get? b = some ob) (g2 : ob.cls = .type "tuple") (g3 : ob.data = .seq its m) (g4 : ∀ v ∈ its.toList, ClsAt P w n s v) : ClsAt P w (n + 1) s (.ref b) := fun A E Q q => by
  unfold ofAClassStatement
  refine wpAny_bind (wpAny_typeOf (⟨ob, g1, g2⟩ : s.TypeIs (.ref b) "tuple") ?_)
  simp only [beq_self_eq_true, if_true]
  refine wpAny_bind (wpAny_pure ?_)
  simp only [Bool.not_true, Bool.false_eq_true, if_false]
  show wpAny _ _ (seqItems? (.ref b) >>= _) _ _ s
  refine wpAny_bind (wpAny_seqItems g1 g3 (wpAny_bind ?_))
  show wpAny _ _ (forIn its _ _) _ _ s
  rw [← Array.forIn_toList]
  refine wpAny_forIn_list _ (fun us c s1 => c.1 = none ∧ s1 = s ∧ ∀ v ∈ us, ClsAt P w n s v) _ (fun u us c s1 ⟨h1, h2, h3⟩ => ?_) (fun c s1 ⟨h1, h2, _⟩ => ?_) _ _ ⟨rfl, rfl, g4⟩
  · subst h2
    refine wpAny_bind (h3 u (by simp) _ _ _ ?_)
    simp only [Bool.false_eq_true, if_false]
    exact wpAny_pure ⟨rfl, rfl, fun v hv => h3 v (by simp [hv])⟩
  · obtain ⟨c1, c2⟩ := c
    subst h2
    simp only at h1
    subst h1
    exact wpAny_pure q
mutual
theorem nk_cls : ∀ (k : NestedKey) (v : Value) (n : Nat) (s : Shared), NestedIs s.heap k v → k.depth ≤ n → ClsAt P w n s v
  | .none, _, n, s, x, _ => by
    cases x
    cases n <;> exact fun A E Q q => wpAny_pure q
  | .num i, _, n, s, x, _ => by
    cases x <;> cases n <;> exact fun A E Q q => wpAny_pure q
  | .text i, _, n, s, x, _ => by
    cases x
    cases n <;> exact fun A E Q q => wpAny_pure q
  | .tup ks, _, n, s, x, hn => by
    cases x with
    | tup g1 g2 g3 g4 =>
      rw [NestedKey.depth] at hn
      cases n with
      | zero => exact absurd hn (Nat.not_succ_le_zero _)
      | succ n => exact clsAt_tup g1 g2 g3 (nk_clss ks _ n s g4 (Nat.le_of_succ_le_succ hn))
theorem nk_clss : ∀ (ks : List NestedKey) (vs : List Value) (n : Nat) (s : Shared), NestedAll s.heap ks vs → NestedKey.depthAll ks ≤ n → ∀ v ∈ vs, ClsAt P w n s v
  | [], _, n, s, x, _, v, hv => by
    cases x
    cases hv
  | k :: ks, _, n, s, x, hn, v, hv => by
    cases x with
    | cons y ys =>
      rw [NestedKey.depthAll] at hn
      cases hv with
      | head => exact nk_cls k _ n s y (by omega)
      | tail _ hv => exact nk_clss ks _ n s ys (by omega) v hv
end
theorem hbvAt_tup {n : Nat} {s : Shared} {b : Addr} {ob : Obj} {its : Array Value} {m : Nat} (g1 : s.heap.get? b = some ob) (g2 : ob.cls = .type "tuple") (g3 : ob.data = .seq its m) (g4 : ∀ v ∈ its.toList, HbvAt P w n s v) : HbvAt P w (n + 1) s (.ref b) := fun A E Q q => by
  unfold hashByValue
  refine wpAny_bind (wpAny_specialOf (⟨ob, g1, g2⟩ : s.TypeIs (.ref b) "tuple") F.slot_tuple_hash.lookup ?_)
  show wpAny _ _ (seqItems? (.ref b) >>= _) _ _ s
  refine wpAny_bind (wpAny_seqItems g1 g3 (wpAny_bind ?_))
  show wpAny _ _ (forIn its _ _) _ _ s
  rw [← Array.forIn_toList]
  refine wpAny_forIn_list _ (fun us c s1 => c.1 = none ∧ s1 = s ∧ ∀ v ∈ us, HbvAt P w n s v) _ (fun u us c s1 ⟨h1, h2, h3⟩ => ?_) (fun c s1 ⟨h1, h2, _⟩ => ?_) _ _ ⟨rfl, rfl, g4⟩
  · subst h2
    refine wpAny_bind (h3 u (by simp) _ _ _ fun y => ?_)
    cases y with
    | true =>
      simp only [Bool.not_true, Bool.false_eq_true, if_false]
      exact wpAny_pure ⟨rfl, rfl, fun v hv => h3 v (by simp [hv])⟩
    | false =>
      simp only [Bool.not_false, if_true]
      exact wpAny_pure (wpAny_pure (q false))
  · obtain ⟨c1, c2⟩ := c
    subst h2
    simp only at h1
    subst h1
    exact wpAny_pure (q true)
mutual
theorem nk_hbv : ∀ (k : NestedKey) (v : Value) (n : Nat) (s : Shared), NestedIs s.heap k v → HbvAt P w n s v
  | .none, _, n, s, x => by
    cases x
    cases n <;> exact fun A E Q q => wpAny_pure (q _)
  | .num i, _, n, s, x => by
    cases x <;> cases n <;> exact fun A E Q q => wpAny_pure (q _)
  | .text i, _, n, s, x => by
    cases x
    cases n <;> exact fun A E Q q => wpAny_pure (q _)
  | .tup ks, _, n, s, x => by
    cases x with
    | tup g1 g2 g3 g4 =>
      cases n with
      | zero => exact fun A E Q q => wpAny_pure (q _)
      | succ n => exact hbvAt_tup g1 g2 g3 (nk_hbvs ks _ n s g4)
theorem nk_hbvs : ∀ (ks : List NestedKey) (vs : List Value) (n : Nat) (s : Shared), NestedAll s.heap ks vs → ∀ v ∈ vs, HbvAt P w n s v
  | [], _, n, s, x, v, hv => by
    cases x
    cases hv
  | k :: ks, _, n, s, x, v, hv => by
    cases x with
    | cons y ys =>
      cases hv with
      | head => exact nk_hbv k _ n s y
      | tail _ hv => exact nk_hbvs ks _ n s ys v hv
end
end
section
variable {P : Program} {w : World} {A : Around} {E : Value → Shared → Prop} {s : Shared}
/-- a search among such keys shows nothing -/
theorem nk_unseen {k : NestedKey} {b : Addr} {ys : List Value} {Q : Bool → Shared → Prop} (hb : NIs s.heap k b) (hy : ∀ y ∈ ys, ∃ j c, y = Value.ref c ∧ NIs s.heap j c) (q : Q false s) : wpAny (model P w) A (searchCouldBeSeen (.ref b) ys) Q E s := by
  unfold searchCouldBeSeen
  refine wpAny_bind (wpAny_forIn_list _ (fun us c s1 => c.1 = none ∧ s1 = s ∧ ∀ y ∈ us, ∃ j e, y = Value.ref e ∧ NIs s.heap j e) _ (fun u us c s1 ⟨h1, h2, h3⟩ => ?_) (fun c s1 ⟨h1, h2, _⟩ => ?_) _ _ ⟨rfl, rfl, hy⟩)
  · subst h2
    obtain ⟨j, e, rfl, he⟩ := h3 u (by simp)
    have h4 := fun v hv => h3 v (List.mem_cons_of_mem _ hv)
    dsimp only
    split
    · exact wpAny_pure ⟨rfl, rfl, h4⟩
    · refine wpAny_bind (quiet_key k _ 8 s1 hb.1 hb.2 _ _ _ ?_)
      simp only [Bool.not_true, Bool.false_eq_true, if_false]
      refine wpAny_bind (quiet_key j _ 8 s1 he.1 he.2 _ _ _ ?_)
      simp only [Bool.not_true, Bool.false_eq_true, if_false]
      refine wpAny_bind (nk_cls k _ 8 s1 hb.1 hb.2 _ _ _ ?_)
      simp only [Bool.false_eq_true, if_false]
      refine wpAny_bind (nk_cls j _ 8 s1 he.1 he.2 _ _ _ ?_)
      simp only [Bool.false_eq_true, if_false]
      exact wpAny_pure ⟨rfl, rfl, h4⟩
  · obtain ⟨c1, c2⟩ := c
    subst h2
    simp only at h1
    subst h1
    exact wpAny_pure q
/-! ### what a set holds: the tuples' places and keys, in the table's order -/
abbrev Held := List (Addr × NestedKey)
abbrev hRow (w : World) (p : Addr × NestedKey) : Int × Value := (p.2.hash w, .ref p.1)
abbrev hHash (w : World) (p : Addr × NestedKey) : Int := p.2.hash w
structure SetN (w : World) (h : Heap) (a : Addr) (C : Held) (es : Array (Int × Value)) (ep : Nat) (t : SetTable) : Prop where
  ob : ∃ o, h.get? a = some o ∧ o.ExactSet ∧ o.data = .set es ep t
  rows : es.toList = C.map (hRow w)
  tab : TabOk t (C.map (hHash w))
  nd : (C.map (·.2)).Nodup
  keys : ∀ p ∈ C, NIs h p.2 p.1
  led : w.params.followText "set-order" = true ∨ t.led = true
  room : C.length * 5 < t.mask * 3
  few : C.length < 64
variable {a : Addr} {C : Held} {es : Array (Int × Value)} {ep : Nat} {t : SetTable}
theorem rows_size {C : Held} {es : Array (Int × Value)} (e : es.toList = C.map (hRow w)) : es.size = C.length := by
  rw [← Array.length_toList, e, List.length_map]
theorem SetN.len (S : SetN w s.heap a C es ep t) : es.size = C.length := rows_size S.rows
theorem SetN.placed (S : SetN w s.heap a C es ep t) : t.place.size = C.length := by
  rw [S.tab.sz, List.length_map]
theorem fits_of {t : SetTable} {n : Nat} (h1 : t.dummies = #[]) (h2 : t.place.size = n) (h3 : n ≤ t.mask) : t.fits n = true := by
  simp [SetTable.fits, SetTable.fill, h1, h2, h3]
theorem SetN.fit (S : SetN w s.heap a C es ep t) : t.fits es.size = true :=
  fits_of S.tab.dm (S.placed.trans S.len.symm) (by
    have h1 := S.room
    have h2 := S.len
    omega)
theorem row_at {C : Held} {es : Array (Int × Value)} (e : es.toList = C.map (hRow w)) {i : Nat} {p : Addr × NestedKey} (h : C[i]? = some p) : es[i]? = some (hRow w p) := by
  rw [← Array.getElem?_toList, e, List.getElem?_map, h]
  rfl
/-- the c-th step of the way of the hash z -/
abbrev prb (m : Nat) (z : Int) (c : Nat) : SetTable.Probe := nth m (runAt m (SetTable.bits z % (m + 1)) (SetTable.bits z)) c
theorem nth_dummy (m : Nat) : ∀ (n : Nat) (p : SetTable.Probe), p.dummy = none → (nth m p n).dummy = none
  | 0, _, h => h
  | n + 1, p, h => nth_dummy m n (adv m p) (by
    unfold adv
    split <;> exact h)
/-- the search for the key k, from the c-th step on; K is the first empty step -/
theorem look_on (S : SetN w s.heap a C es ep t) {x : Addr} {k : NestedKey} (hx : NIs s.heap k x) (hu : A.units + 8 < cLine) {K : Nat} {Q : SetFound → Shared → Prop}
    (free : way t.mask (k.hash w) K ∉ t.place.toList) (taken : ∀ c, c < K → way t.mask (k.hash w) c ∈ t.place.toList) (few : K < 10 * SetTable.turns t.mask)
    (yes : k ∈ C.map (·.2) → Q (.there none) s) (no : k ∉ C.map (·.2) → Q (.free (way t.mask (k.hash w) K) false) s) :
    ∀ (f c : Nat) (st : Option SetTable.Probe), st.getD (t.probeStart (k.hash w)) = prb t.mask (k.hash w) c → c ≤ K → K < f + c →
      (∀ (i : Nat) (p : Addr × NestedKey), C[i]? = some p → p.2 = k → ∃ c1, c ≤ c1 ∧ c1 < K ∧ t.place.toList[i]? = some (way t.mask (k.hash w) c1)) →
      wpAny (model P w) A (setSearchFrom a (.ref x) (k.hash w) true f st) Q E s := by
  intro f
  induction f with
  | zero => intro c st _ h1 h2; omega
  | succ f ih =>
    intro c st e0 hc hf ahead
    obtain ⟨o, g1, g2, g3⟩ := S.ob
    generalize hz : k.hash w = z at *
    have step : ∀ q, nth t.mask (prb t.mask z c) q = prb t.mask z (c + q) := fun q => (nth_add t.mask c _ q).symm
    have stepj : ∀ q, (nth t.mask (prb t.mask z c) q).j = way t.mask z (c + q) := fun q => congrArg (·.j) (step q)
    have end0 : way t.mask z (c + (K - c)) = way t.mask z K := by rw [Nat.add_sub_cancel' hc]
    have hashes : ∀ (i : Nat) p, C[i]? = some p → (es[i]?.map (·.1)).getD 0 = p.2.hash w := fun i p hp => by
      rw [row_at S.rows hp]
      rfl
    rw [setSearchFrom_succ]
    refine wpAny_bind (wpAny_setState_of g1 g3 S.fit ?_)
    dsimp only
    refine L2.wp_if_neg (by unfold SetTable.gaveWay; rw [mask_odd S.tab.mok]; decide) ?_
    try refine wpAny_bind (wpAny_pure ?_)
    rcases go_spec t S.tab.ris S.tab.dm (fun i => (es[i]?.map (·.1)).getD 0) z (10 * SetTable.turns t.mask) (K - c) (prb t.mask z c) (nth_dummy _ _ _ rfl) (by omega)
      (fun q hq => by rw [stepj]; exact taken _ (by omega)) (by rw [stepj, end0]; exact free) with ⟨q, i, hq, hi, hh, skip, met⟩ | ⟨skip, met⟩
    · rw [stepj] at hi
      rw [step (q + 1)] at met
      have met2 : t.probe (fun i => (es[i]?.map (·.1)).getD 0) z (st.getD (t.probeStart z)) = some (.candidate (way t.mask z (c + q)) i (prb t.mask z (c + (q + 1)))) := by
        rw [e0, ← stepj]
        exact met
      rw [met2]
      dsimp only
      have hil : i < C.length := by
        rw [← S.placed, ← Array.length_toList]
        exact (List.getElem?_eq_some_iff.mp hi).1
      obtain ⟨p, hp⟩ : ∃ p, C[i]? = some p := ⟨_, List.getElem?_eq_getElem hil⟩
      have pin : p ∈ C := List.mem_of_getElem? hp
      have body : wpAny (model P w) A (searchRest a (.ref x) z true f es t (way t.mask z (c + q)) i (prb t.mask z (c + (q + 1)))) Q E s := by
        unfold searchRest
        rw [row_at S.rows hp]
        dsimp only
        refine wpAny_bind (wpAny_holding ((nestedKind P w).eqBool hu (S.keys p pin) hx ?_))
        refine wpAny_bind (wpAny_setState_of g1 g3 S.fit ?_)
        dsimp only
        have live : t.slot (way t.mask z (c + q)) = .live i := slot_live S.tab.ris hi
        by_cases hk : p.2 = k
        · refine L2.wp_if_pos (by rw [decide_eq_true hk]; rfl) (wpAny_pure (yes (List.mem_map.mpr ⟨p, pin, hk⟩)))
        · refine L2.wp_if_neg (by rw [decide_eq_false hk]; decide) ?_
          try refine wpAny_bind (wpAny_pure ?_)
          rw [sameMem]
          dsimp only
          simp only [if_true, live, row_at S.rows hp]
          refine wpAny_bind (wpAny_isSame_ref_self (wpAny_bind (wpAny_pure ?_)))
          simp only [if_true]
          refine L2.wp_if_neg (by rw [decide_eq_false hk]; decide) ?_
          refine ih (c + (q + 1)) _ rfl (by omega) (by omega) fun i0 p0 h0 hk0 => ?_
          obtain ⟨c1, b1, b2, b3⟩ := ahead i0 p0 h0 hk0
          refine ⟨c1, ?_, b2, b3⟩
          rcases Nat.lt_trichotomy c1 (c + q) with lt | eq | gt
          · refine absurd ((hashes i0 p0 h0).trans (by rw [hk0, hz])) (skip (c1 - c) i0 (by omega) ?_)
            rw [stepj, Nat.add_sub_cancel' b1]
            exact b3
          · rw [eq] at b3
            have l2 := slot_live S.tab.ris b3
            rw [live] at l2
            injection l2 with l2
            subst l2
            rw [hp] at h0
            cases h0
            exact absurd hk0 hk
          · omega
      by_cases hl : t.led = true
      · refine L2.wp_if_neg (by rw [hl]; decide) ?_
        try refine wpAny_bind (wpAny_pure ?_)
        exact body
      · refine L2.wp_if_pos (by rw [Bool.not_eq_true] at hl; rw [hl]; rfl) (wpAny_bind (nk_unseen hx (fun y hy => ?_) ?_))
        · obtain ⟨e, he, rfl⟩ := List.mem_map.mp hy
          have he2 : e ∈ es.toList := by
            have : e ∈ es ∧ e.1 = z := by simpa using he
            simpa using this.1
          rw [S.rows] at he2
          obtain ⟨p2, hp2, rfl⟩ := List.mem_map.mp he2
          exact ⟨p2.2, p2.1, rfl, S.keys p2 hp2⟩
        · refine L2.wp_if_neg (by decide) ?_
          try refine wpAny_bind (wpAny_pure ?_)
          exact body
    · have met2 : t.probe (fun i => (es[i]?.map (·.1)).getD 0) z (st.getD (t.probeStart z)) = some (.empty (way t.mask z K) none) := by
        rw [e0, ← end0, ← stepj]
        exact met
      rw [met2]
      dsimp only
      refine wpAny_pure (no fun hm => ?_)
      obtain ⟨p0, h0, hk0⟩ := List.mem_map.mp hm
      obtain ⟨i0, hi0, e1⟩ := List.getElem_of_mem h0
      have h1 : C[i0]? = some p0 := by rw [List.getElem?_eq_getElem hi0, e1]
      obtain ⟨c1, b1, b2, b3⟩ := ahead i0 p0 h1 hk0
      refine skip (c1 - c) i0 (by omega) ?_ ((hashes i0 p0 h1).trans (by rw [hk0, hz]))
      rw [stepj, Nat.add_sub_cancel' b1]
      exact b3
/-- the search as adding asks for it -/
theorem look_for (S : SetN w s.heap a C es ep t) {x : Addr} {k : NestedKey} (hx : NIs s.heap k x) (hu : A.units + 8 < cLine) {Q : SetFound → Shared → Prop} (yes : k ∈ C.map (·.2) → Q (.there none) s)
    (no : ∀ K, k ∉ C.map (·.2) → way t.mask (k.hash w) K ∉ t.place.toList → (∀ c, c < K → way t.mask (k.hash w) c ∈ t.place.toList) → Q (.free (way t.mask (k.hash w) K) false) s) :
    wpAny (model P w) A (setSearch a (.ref x) (k.hash w) true) Q E s := by
  have h1 := S.room
  have h2 := S.placed
  obtain ⟨K, b1, b2, b3⟩ := S.tab.first (by rw [List.length_map]; omega) (k.hash w)
  have h3 : 10 * SetTable.turns t.mask ≤ 1420 := by
    unfold SetTable.turns
    rcases S.tab.mok with e | e | e <;> omega
  refine look_on S hx hu b2 b3 b1 yes (fun z => no K z b2 b3) 100000 0 none rfl (Nat.zero_le _) (by omega) fun i p hp hk => ?_
  have hi : (C.map (hHash w))[i]? = some (k.hash w) := by
    rw [List.getElem?_map, hp, ← hk]
    rfl
  have hil : i < t.place.toList.length := by
    rw [Array.length_toList, h2]
    exact (List.getElem?_eq_some_iff.mp hp).1
  have hj := List.getElem?_eq_getElem hil
  obtain ⟨c, c1, c2⟩ := S.tab.before b2 hi hj
  exact ⟨c, Nat.zero_le _, c1, hj.trans (congrArg some c2.symm)⟩
/-! ### adding -/
theorem nis_set {h h' : Heap} {k : NestedKey} {b a : Addr} {o : Obj} {es : Array (Int × Value)} {ep : Nat} {t : SetTable} (x : NIs h k b) (ho : h.get? a = some o) (hd : o.data = .set es ep t) (hs : Heap.SameBut a h h') : NIs h' k b :=
  ⟨NestedIs.at (fun c oc vs n hc hv => by
    refine (hs.2 c fun e => ?_).trans hc
    subst e
    rw [ho] at hc
    cases hc
    rw [hd] at hv
    cases hv) k _ x.1, x.2⟩
theorem nis_keep {h h' : Heap} {k : NestedKey} {b : Addr} (x : NIs h k b) (hk : ∀ c o, h.get? c = some o → h'.get? c = some o) : NIs h' k b := ⟨NestedIs.at (fun c oc _ _ hc _ => hk c oc hc) k _ x.1, x.2⟩
theorem held_put (C : Held) (n : Nat) (p : Addr × NestedKey) : (C.take n ++ p :: C.drop n).Perm (p :: C) := by
  have h : (C.take n ++ p :: C.drop n).Perm (p :: (C.take n ++ C.drop n)) := List.perm_middle
  rwa [List.take_append_drop] at h
/-- the rows in another order -/
theorem rows_ordered {C : Held} {es : Array (Int × Value)} {ord : Array Nat} (e : es.toList = C.map (hRow w)) (po : ord.toList.Perm (List.range C.length)) :
    ∃ C2 : Held, (ord.filterMap (es[·]?)).toList = C2.map (hRow w) ∧ C2.Perm C ∧ C2.map (hHash w) = ord.toList.map fun i => (es.map (·.1)).getD i 0 := by
  have gen : ∀ l : List Nat, (∀ i ∈ l, i < C.length) → l.filterMap (fun i => es[i]?) = (l.filterMap fun i => C[i]?).map (hRow w) ∧ (l.filterMap fun i => C[i]?).map (hHash w) = l.map fun i => (es.map (·.1)).getD i 0 := by
    intro l
    induction l with
    | nil => exact fun _ => ⟨rfl, rfl⟩
    | cons i l ih =>
      intro hl
      obtain ⟨e1, e2⟩ := ih fun j hj => hl j (by simp [hj])
      obtain ⟨p, hp⟩ : ∃ p, C[i]? = some p := ⟨_, List.getElem?_eq_getElem (hl i (by simp))⟩
      have hr := row_at e hp
      have hg : (es.map (·.1)).getD i 0 = p.2.hash w := by simp [Array.getD_eq_getD_getElem?, hr]
      rw [List.filterMap_cons_some hr, List.filterMap_cons_some hp, List.map_cons, List.map_cons, List.map_cons, e1, e2, hg]
      exact ⟨rfl, rfl⟩
  obtain ⟨e1, e2⟩ := gen ord.toList fun i hi => List.mem_range.mp (po.mem_iff.mp hi)
  refine ⟨_, by rw [← e1]; simp, ?_, e2⟩
  have all : ∀ n, n ≤ C.length → (List.range n).filterMap (fun i => C[i]?) = C.take n := by
    intro n
    induction n with
    | zero => exact fun _ => rfl
    | succ n ih =>
      intro hn
      have hp := List.getElem?_eq_getElem (l := C) hn
      rw [List.range_succ, List.filterMap_append, ih (Nat.le_of_lt hn), List.filterMap_cons_some hp, List.take_succ, hp]
      rfl
  have h1 := po.filterMap fun i => C[i]?
  rwa [all _ (Nat.le_refl _), List.take_length] at h1
/-- the table is laid anew -/
theorem laid_anew {o : Obj} (g1 : s.heap.get? a = some o) (g2 : o.ExactSet) (g3 : o.data = .set es ep t) (rows : es.toList = C.map (hRow w)) (pl : t.place.size = C.length) (dm : t.dummies = #[]) (fl : C.length ≤ t.mask) (nd : (C.map (·.2)).Nodup) (keys : ∀ p ∈ C, NIs s.heap p.2 p.1)
    (led : w.params.followText "set-order" = true ∨ t.led = true) (few : C.length < 64) {want M : Nat} (hw : SetTable.sizeAbove want - 1 = M) (hM : MaskOk M) (hw2 : SetTable.sizeAbove want ≤ 128) (room : C.length * 5 < M * 3) {Q : Unit → Shared → Prop}
    (q : ∀ h' C' es' ep' t', Heap.SameBut a s.heap h' → SetN w h' a C' es' ep' t' → C'.Perm C → Q () { s with heap := h' }) : wpAny (model P w) A (setRelay a want) Q E s := by
  have sz := rows_size rows
  obtain ⟨t1, ord, e1, po, T, em, el, _, _⟩ := relaid_ok t (hs := es.map (·.1)) (wanted := want) hw hM (by rw [Array.size_map, sz]; omega)
  rw [Array.size_map, sz] at po
  obtain ⟨C2, r1, r2, r3⟩ := rows_ordered rows po
  rw [← r3] at T
  have sz2 : (ord.filterMap (es[·]?)).size = C.length := (rows_size r1).trans r2.length_eq
  rw [setRelay_eq]
  refine wpAny_bind (wpAny_setState_of g1 g3 (fits_of dm (pl.trans sz.symm) (by omega)) ?_)
  dsimp only
  refine L2.wp_if_neg (by rw [sizeLine_eq]; omega) ?_
  try refine wpAny_bind (wpAny_pure ?_)
  rw [e1]
  dsimp only
  refine wpAny_bind (L2.wp_if_neg (by rw [sz2, sz]; simp) ?_)
  try refine wpAny_bind (wpAny_pure ?_)
  refine wpAny_pure (wpAny_storeSet_of g1 g3 ?_ (by rw [sz2, sizeLine_eq]; omega))
  have same : Heap.SameBut a s.heap (s.heap.update a (Obj.putSet (ord.filterMap (es[·]?)) t1)) := Heap.SameBut.update ..
  exact q _ C2 _ (ep + 1) t1 same ⟨⟨_, store_at g1 g3, ⟨g2.1, g2.2.1, g2.2.2⟩, rfl⟩, r1, T, (r2.map (·.2)).nodup_iff.mpr nd, fun p hp => nis_set (keys p (r2.mem_iff.mp hp)) g1 g3 same, by rw [el]; exact led, by rw [r2.length_eq, em]; exact room, by rw [r2.length_eq]; exact few⟩ r2
end
end DL
/-! DL36: adding to a set of tuples; set(xs), a list of tuples. -/
namespace DL
open PySem PySem.Spec PyProof.Rows L2
section
variable {P : Program} {w : World} {A : Around} {E : Value → Shared → Prop} {s : Shared} {a : Addr} {C : Held} {es : Array (Int × Value)} {ep : Nat} {t : SetTable}
theorem add_to (S : SetN w s.heap a C es ep t) {x : Addr} {k : NestedKey} (hx : NIs s.heap k x) (hu : A.units + 8 < cLine) (few : k ∉ C.map (·.2) → C.length + 1 < 64) {Q : Bool → Shared → Prop}
    (q : ∀ b h' C' es' ep' t', Heap.SameBut a s.heap h' → SetN w h' a C' es' ep' t' → (k ∈ C.map (·.2) → C' = C) → (k ∉ C.map (·.2) → C'.Perm ((x, k) :: C)) → Q b { s with heap := h' }) :
    wpAny (model P w) A (setAddHashed a (.ref x) (k.hash w)) Q E s := by
  obtain ⟨o, g1, g2, g3⟩ := S.ob
  have sz := S.len
  have room := S.room
  unfold setAddHashed
  refine wpAny_holding ?_
  rw [show (100000 : Nat) = 99999 + 1 from rfl, setAddHashedIn_succ]
  refine wpAny_bind (wpAny_setState_of g1 g3 S.fit ?_)
  dsimp only
  refine L2.wp_if_neg (by simp [byScan, Value.scannable]) ?_
  try refine wpAny_bind (wpAny_pure ?_)
  refine wpAny_bind (look_for S hx hu (fun hm => ?_) fun K hm b2 b3 => ?_)
  · exact wpAny_pure (q false s.heap C es ep t (.refl a s.heap) S (fun _ => rfl) fun z => absurd hm z)
  dsimp only
  refine wpAny_bind (wpAny_setState_of g1 g3 S.fit ?_)
  dsimp only
  have few1 := few hm
  obtain ⟨p1, p2, p3, p4, p5, p6, _, _, p9⟩ := S.tab.put b2 b3
  generalize t.put (way t.mask (k.hash w) K) = pt at p1 p3 p4 p5 p6 p9 ⊢
  obtain ⟨t1, n⟩ := pt
  dsimp only at p1 p3 p4 p5 p6 p9 ⊢
  subst p1
  -- whatever is asked of the hash: the table differs in one mark alone
  have tail : ∀ (t2 : SetTable), t2.place = t1.place → t2.dummies = t1.dummies → t2.mask = t1.mask → t2.led = t1.led →
      wpAny (model P w) A (do
        storeSet a (SetTable.insertAt es (SetTable.below t.place (way t.mask (k.hash w) K)) (k.hash w, Value.ref x)) t2
        if (!false && t2.tooFull) = true then setRelay a (SetTable.grown (es.size + 1))
        return true) Q E s := by
    intro t2 d1 d2 d3 d4
    generalize hn : SetTable.below t.place (way t.mask (k.hash w) K) = n at p2 p3
    have pm := held_put C n (x, k)
    have rows : (SetTable.insertAt es n (k.hash w, Value.ref x)).toList = (C.take n ++ (x, k) :: C.drop n).map (hRow w) := by
      rw [SetTable.toList_insertAt, S.rows, List.map_append, List.map_cons, List.map_take, List.map_drop]
    have hh : (C.take n ++ (x, k) :: C.drop n).map (hHash w) = (C.map (hHash w)).take n ++ k.hash w :: (C.map (hHash w)).drop n := by
      rw [List.map_append, List.map_cons, List.map_take, List.map_drop]
    rw [← hh] at p3
    generalize SetTable.insertAt es n (k.hash w, Value.ref x) = es1 at rows ⊢
    generalize C.take n ++ (x, k) :: C.drop n = C1 at pm rows p3
    have len1 : C1.length = C.length + 1 := pm.length_eq
    have nd1 : (C1.map (·.2)).Nodup := (pm.map (·.2)).nodup_iff.mpr (List.nodup_cons.mpr ⟨hm, S.nd⟩)
    have sz1 : es1.size = C.length + 1 := (rows_size rows).trans len1
    refine wpAny_bind (wpAny_storeSet_of g1 g3 ?_ (by rw [sz1, sizeLine_eq]; omega))
    have same : Heap.SameBut a s.heap (s.heap.update a (Obj.putSet es1 t2)) := Heap.SameBut.update ..
    have k1 := store_at (es' := es1) (t' := t2) g1 g3
    generalize s.heap.update a (Obj.putSet es1 t2) = h1 at same k1 ⊢
    have keys1 : ∀ p ∈ C1, NIs h1 p.2 p.1 := fun p hp => by
      rcases List.mem_cons.mp (pm.mem_iff.mp hp) with e | hp
      · rw [e]
        exact nis_set hx g1 g3 same
      · exact nis_set (S.keys p hp) g1 g3 same
    have T2 : TabOk t2 (C1.map (hHash w)) := ⟨by rw [d1]; exact p3.ris, by rw [d2]; exact p3.dm, by rw [d1]; exact p3.sz, by rw [d3]; exact p3.mok, by rw [d1, d3]; exact p3.bd, by rw [d1, d3]; exact p3.reach⟩
    have led1 : w.params.followText "set-order" = true ∨ t2.led = true := by
      rw [d4, p5]
      exact S.led
    have m2 : t2.mask = t.mask := d3.trans p4
    have fill2 : t2.fill = C.length + 1 := by
      have h1 := T2.sz
      rw [List.length_map, len1] at h1
      simp [SetTable.fill, T2.dm, h1]
    by_cases full : t2.tooFull = true
    · have full2 : (C.length + 1) * 5 ≥ t.mask * 3 := by
        unfold SetTable.tooFull at full
        rw [decide_eq_true_eq, fill2, m2] at full
        exact full
      first
        | refine L2.wp_if_pos (by rw [full]; rfl) (wpAny_bind ?_)
        | refine wpAny_bind (L2.wp_if_pos (by rw [full]; rfl) ?_)
      rw [sz]
      have anew : ∀ M, SetTable.sizeAbove (SetTable.grown (C.length + 1)) = M + 1 → MaskOk M → M + 1 ≤ 128 → (C.length + 1) * 5 < M * 3 → C.length + 1 ≤ t.mask →
          wpAny (model P w) A (setRelay a (SetTable.grown (C.length + 1))) (fun _ s1 => wpAny (model P w) A (pure true) Q E s1) E { s with heap := h1 } := fun M c1 c2 c3 c4 c5 =>
        laid_anew (s := { s with heap := h1 }) (M := M) k1 ⟨g2.1, g2.2.1, g2.2.2⟩ rfl rows (by rw [T2.sz, List.length_map]) T2.dm (by rw [len1, m2]; exact c5) nd1 keys1 led1 (by rw [len1]; exact few1) (by rw [c1]; rfl) c2 (by rw [c1]; exact c3) (by rw [len1]; exact c4)
          fun h2 C2 es2 ep2 t3 same2 S2 pm2 => wpAny_pure (q true h2 C2 es2 ep2 t3 (same.trans same2) S2 (fun z => absurd z hm) fun _ => pm2.trans pm)
      rcases S.tab.mok with e | e | e
      · obtain hC : C.length = 4 := by rw [e] at room full2; omega
        exact anew 31 (by rw [hC]; exact size_20) (.inr (.inl rfl)) (by decide) (by omega) (by omega)
      · obtain hC : C.length = 18 := by rw [e] at room full2; omega
        exact anew 127 (by rw [hC]; exact size_76) (.inr (.inr rfl)) (by decide) (by omega) (by omega)
      · rw [e] at full2
        omega
    · rw [Bool.not_eq_true] at full
      first
        | refine L2.wp_if_neg (by rw [full]; decide) ?_
        | refine wpAny_bind (L2.wp_if_neg (by rw [full]; decide) ?_)
      try refine wpAny_bind (wpAny_pure ?_)
      refine wpAny_pure (q true h1 C1 es1 (ep + 1) t2 same ⟨⟨_, k1, ⟨g2.1, g2.2.1, g2.2.2⟩, rfl⟩, rows, T2, nd1, keys1, led1, ?_, by rw [len1]; exact few1⟩ (fun z => absurd z hm) fun _ => pm)
      unfold SetTable.tooFull at full
      rw [decide_eq_false_iff_not, fill2] at full
      rw [len1]
      omega
  by_cases pl : t1.plain = true
  · first
      | refine L2.wp_if_pos pl (wpAny_bind (nk_hbv k _ 8 s hx.1 _ _ _ fun y => ?_))
      | (refine wpAny_bind ?_; refine L2.wp_if_pos pl (nk_hbv k _ 8 s hx.1 _ _ _ fun y => ?_))
    cases y with
    | true => exact tail t1 rfl rfl rfl rfl
    | false => exact tail { t1 with plain := false } rfl rfl rfl rfl
  · first
      | refine L2.wp_if_neg pl (wpAny_bind (wpAny_pure ?_))
      | (refine wpAny_bind ?_; refine L2.wp_if_neg pl (wpAny_pure ?_))
    exact tail t1 rfl rfl rfl rfl
end
end DL
/-! DL37: set(xs), a list of tuples. -/
namespace DL
open PySem PySem.Spec PyProof.Rows L2
section
variable {P : Program} {w : World} {A : Around} {E : Value → Shared → Prop} {s : Shared}
/-- what is held behind the first n things of ks -/
structure HeldOf (ks : Held) (n : Nat) (C : Held) : Prop where
  sub : ∀ p ∈ C, p ∈ ks
  all : ∀ p ∈ ks.take n, p.2 ∈ C.map (·.2)
/-- few different keys -/
def FewK (ks : Held) : Prop := ∃ D : List NestedKey, D.length < 64 ∧ ∀ p ∈ ks, p.2 ∈ D
theorem nodup_le {α : Type} [DecidableEq α] : ∀ {xs ys : List α}, xs.Nodup → (∀ x ∈ xs, x ∈ ys) → xs.length ≤ ys.length
  | [], _, _, _ => Nat.zero_le _
  | x :: xs, ys, h, k => by
    rw [List.nodup_cons] at h
    have h1 : xs.length ≤ (ys.erase x).length := nodup_le h.2 fun y hy => by
      refine (List.mem_erase_of_ne fun e => ?_).mpr (k y (by simp [hy]))
      exact h.1 (e ▸ hy)
    have h2 := List.length_erase_of_mem (k x (by simp))
    have h3 := List.length_pos_of_mem (k x (by simp))
    rw [List.length_cons]
    omega
theorem setN_new {h : Heap} {a : Addr} (g : h.get? a = some { cls := .type "set", dict := none, data := .set #[] 0 (.fresh 0 0 (!w.params.followText "set-order")) }) : SetN w h a [] #[] 0 (.fresh 0 0 (!w.params.followText "set-order")) := by
  refine ⟨⟨_, g, ⟨rfl, rfl, rfl⟩, rfl⟩, rfl, ⟨List.Pairwise.nil, rfl, rfl, .inl rfl, (fun _ z => nomatch z), fun _ _ _ z => by simp at z⟩, List.nodup_nil, (fun _ z => nomatch z), ?_, (by decide : 0 * 5 < 7 * 3), (by decide : 0 < 64)⟩
  show _ ∨ (!w.params.followText "set-order") = true
  cases w.params.followText "set-order"
  · exact .inr rfl
  · exact .inl rfl
theorem SetN.same {h h' : Heap} {a : Addr} {C : Held} {es : Array (Int × Value)} {ep : Nat} {t : SetTable} (S : SetN w h a C es ep t) (k : ∀ o, h.get? a = some o → h'.get? a = some o) (n : ∀ p ∈ C, NIs h' p.2 p.1) : SetN w h' a C es ep t :=
  let ⟨o, ho, r⟩ := S.ob; ⟨⟨o, k o ho, r⟩, S.rows, S.tab, S.nd, n, S.led, S.room, S.few⟩
/-- the loop of set(xs) -/
theorem setN_update {I : Addr} {fp wr : List Addr} {G : Array GenState → Array GenState → Prop} {n : Nat} {Pv : Nat → Value → Prop} {St : Nat → Shared → Prop} {R : Result → Shared → Prop}
    (W : WalksS P w A.in1 I fp wr G n Pv St) (S : Addr) (hSf : S ∉ fp) (ks : Held) (hn : n = ks.length) (fk : FewK ks) (hval : ∀ i v, Pv i v → ∃ p, ks[i]? = some p ∧ v = .ref p.1)
    (h0 : Heap) (hk : ∀ p ∈ ks, NIs h0 p.2 p.1) (nS : h0.get? S = none) (nw : ∀ b ∈ wr, h0.get? b = none) (hu : A.in1.units + 8 < cLine) :
    ∀ (k i : Nat) (s : Shared), n - i = k → i ≤ n → St i s → (∀ b o, h0.get? b = some o → s.heap.get? b = some o) → (∃ C es ep t, SetN w s.heap S C es ep t ∧ HeldOf ks i C) →
      (∀ s' C es ep t, Moved (S :: wr) G s s' → SetN w s'.heap S C es ep t → HeldOf ks n C → (∀ b o, h0.get? b = some o → s'.heap.get? b = some o) → R (.ok (.ret .none)) s') →
      codeAny (model P w) A (.builtin "set.update.loop" ⟨[.ref S, .ref I], []⟩) R s := by
  have hSw : S ∉ wr := fun z => hSf (W.sub _ z)
  have more : ∀ b ∈ wr, b ∈ S :: wr := fun b z => List.mem_cons_of_mem _ z
  have moved : ∀ {s1 s2 : Shared}, Moved wr G s1 s2 → (∀ b o, h0.get? b = some o → s1.heap.get? b = some o) → ∀ b o, h0.get? b = some o → s2.heap.get? b = some o := fun hm hp b o e =>
    hm.heap b o (fun z => by rw [nw b z] at e; cases e) (hp b o e)
  intro k
  induction k with
  | zero =>
    intro i s hk2 hi hst hp ⟨C, es, ep, t, hS, g⟩ hR
    obtain rfl : i = n := by omega
    refine codeAny_builtin F.entry_set_update_loop ?_
    rw [Around.under_plainId F.plain_set_update_loop _]
    refine wpAny_bind (m := pyNext (.ref I)) (W.done s _ _ hst fun s' hm => ?_)
    have hp2 := moved hm hp
    exact wpAny_pure (hR s' C es ep t (hm.mono more) (hS.same (fun o e => hm.heap S o hSw e) fun p z => nis_keep (hk p (g.sub p z)) hp2) g hp2)
  | succ k ih =>
    intro i s hk2 hi hst hp ⟨C, es, ep, t, hS, g⟩ hR
    have lt : i < n := by omega
    refine codeAny_builtin F.entry_set_update_loop ?_
    rw [Around.under_plainId F.plain_set_update_loop _]
    refine wpAny_bind (m := pyNext (.ref I)) (W.item i s _ _ lt hst fun v s' hP hst' hm => ?_)
    obtain ⟨p, ep1, rfl⟩ := hval i v hP
    have pin : p ∈ ks := List.mem_of_getElem? ep1
    have hp2 := moved hm hp
    have hS1 : SetN w s'.heap S C es ep t := hS.same (fun o e => hm.heap S o hSw e) fun q z => nis_keep (hk q (g.sub q z)) hp2
    have hx : NIs s'.heap p.2 p.1 := nis_keep (hk p pin) hp2
    refine wpAny_bind (m := holding [Value.ref p.1] (setAdd S (.ref p.1))) (wpAny_holding ?_)
    unfold setAdd
    refine wpAny_holding (wpAny_bind ((nestedKind P w).pyHash hu hx ?_))
    refine add_to (s := { s' with toks := s'.toks + p.2.draws }) hS1 hx hu (fun hno => ?_) fun b h' C2 es2 ep2 t2 hsb hS2 c1 c2 => ?_
    · obtain ⟨D, d1, d2⟩ := fk
      have := nodup_le (xs := p.2 :: C.map (·.2)) (ys := D) (List.nodup_cons.mpr ⟨hno, hS1.nd⟩) fun y hy => by
        rcases List.mem_cons.mp hy with e | hy
        · rw [e]
          exact d2 p pin
        · obtain ⟨q, hq, rfl⟩ := List.mem_map.mp hy
          exact d2 q (g.sub q hq)
      rw [List.length_cons, List.length_map] at this
      omega
    have g2 : HeldOf ks (i + 1) C2 := by
      have tk : ks.take (i + 1) = ks.take i ++ [p] := by rw [List.take_add_one, ep1]; rfl
      by_cases hm : p.2 ∈ C.map (·.2)
      · rw [c1 hm]
        refine ⟨g.sub, fun q hq => ?_⟩
        rw [tk] at hq
        rcases List.mem_append.mp hq with z | z
        · exact g.all q z
        · rw [List.mem_singleton.mp z]
          exact hm
      · have pm := c2 hm
        refine ⟨fun q hq => ?_, fun q hq => ?_⟩
        · rcases List.mem_cons.mp (pm.mem_iff.mp hq) with e | z
          · rw [e]
            exact pin
          · exact g.sub q z
        · rw [(pm.map (·.2)).mem_iff, List.map_cons]
          rw [tk] at hq
          rcases List.mem_append.mp hq with z | z
          · exact List.mem_cons_of_mem _ (g.all q z)
          · rw [List.mem_singleton.mp z]
            exact List.mem_cons_self
    have hp3 : ∀ b o, h0.get? b = some o → h'.get? b = some o := fun b o e => (hsb.2 b fun z => by rw [z, nS] at e; cases e).trans (hp2 b o e)
    refine wpAny_pure ⟨plainId_quiet F.plain_set_update_loop _, ih (i + 1) _ (by omega) lt (W.frame _ s' _ _ hst' (Nat.le_add_right _ _) fun b hb o e => ?_) hp3 ⟨C2, es2, ep2, t2, hS2, g2⟩ fun s2 C3 es3 ep3 t3 hm3 hS3 g3 hp4 => ?_⟩
    · rw [hsb.2 b (fun z : b = S => hSf (by rw [← z]; exact hb))]
      exact e
    · refine hR s2 C3 es3 ep3 t3 (Moved.trans W.gtrans ((hm.mono more).then_heap (Nat.le_add_right _ _) fun b o hb e => ?_) hm3) hS3 g3 hp4
      rw [hsb.2 b (fun z : b = S => hb (by rw [z]; exact List.mem_cons_self))]
      exact e
set_option maxHeartbeats 3200000 in
/-- set(xs), a list of tuples -/
theorem call_setN {l : Addr} {items : Array Value} (ks : Held) {Q : Value → Shared → Prop} (hh : A.handled = none) (hl : s.heap.IsList l items) (hit : items.toList = ks.map fun p => Value.ref p.1) (hk : ∀ p ∈ ks, NIs s.heap p.2 p.1) (fk : FewK ks) (hu : A.units + 11 < cLine)
    (h : ∀ (h' : Heap) (tk : Nat) C es ep t, SetN w h' s.heap.objs.size C es ep t → HeldOf ks ks.length C → (∀ b o, s.heap.get? b = some o → h'.get? b = some o) → Q (.ref s.heap.objs.size) { s with heap := h', toks := tk }) :
    wpAny (model P w) A (call (.type "set") [.ref l]) Q E s := by
  have hsz : items.size = ks.length := by rw [← Array.length_toList, hit, List.length_map]
  have hval : ∀ (i : Nat) (v : Value), items[i]? = some v → ∃ p, ks[i]? = some p ∧ v = .ref p.1 := fun i v e => by
    rw [← Array.getElem?_toList, hit, List.getElem?_map] at e
    cases q : ks[i]? with
    | none => rw [q] at e; cases e
    | some p =>
      rw [q] at e
      exact ⟨p, rfl, (Option.some.inj e).symm⟩
  obtain ⟨c, tl, hmro⟩ := F.called_set.mro
  have hmade := F.called_set.made
  have hsub := F.called_set.sub
  have h1 := F.called_set.notType
  have h2 := F.called_set.canCreate
  have hct := F.typeCall_set_1 (.ref l)
  refine wpAny_call (codeAny_of_tree (show wpAny _ _ (callAny (.type "set") _) _ _ _ from wpAny_pure ⟨Code.quiet_builtin _ (by decide +kernel), codeAny_builtin F.entry_type_call ?_⟩))
  rw [Around.under_plain (weight_type_call_type "set" [.ref l] []) rfl]
  repeat (any_goals (first | assumption | wp_step))
  obtain ⟨nw, hnw⟩ : ∃ nw : Obj, nw = { cls := .type "set", dict := none, data := .set #[] 0 (.fresh 0 0 (!w.params.followText "set-order")) } := ⟨_, rfl⟩
  refine codeAny_mono (code_set_led1 (.ref l) (E := E) (Q₁ := fun obj s₁ => obj = .ref s.heap.objs.size ∧ s₁ = { s with heap := s.heap.push nw }) ⟨rfl, by rw [hnw]⟩) fun r s₁ hr => ?_
  cases r with
  | error e => exact hr
  | ok fl =>
    cases fl with
    | ret obj =>
      obtain ⟨rfl, rfl⟩ := hr
      have hS : (s.heap.push nw).get? s.heap.objs.size = some nw := Heap.get?_push_size _ (by rw [hnw]; rfl)
      have hT : Shared.TypeIs { s with heap := s.heap.push nw } (.ref s.heap.objs.size) "set" := ⟨_, hS, by rw [hnw]⟩
      have hli := F.called_set.init.lookup
      have hbi := F.called_set.init.bind (.ref s.heap.objs.size)
      repeat (any_goals (first | assumption | wp_step))
      refine codeAny_mono (codeAny_call_builtin (R := wants (fun r s₂ => r = .none ∧ ∃ h' tk C es ep t, s₂ = { s with heap := h', toks := tk } ∧ SetN w h' s.heap.objs.size C es ep t ∧ HeldOf ks ks.length C ∧
          (∀ b o, s.heap.get? b = some o → h'.get? b = some o)) E) F.called_set.init.plain F.entry_set_init (check_set_init_1 hT ?_)) fun r₂ s₂ hr₂ => ?_
      · obtain ⟨ol, hol, hcl, nl, hdl⟩ := hl
        obtain ⟨ocls, odict, odata, oslots⟩ := ol
        simp only at hcl hdl
        subst hcl hdl
        have hol' : (s.heap.push nw).get? l = some { cls := .type "list", dict := odict, data := .seq items nl, slots := oslots } := Heap.get?_push_of_some _ hol
        have hsls := F.sub_list_set
        have hslf := F.sub_list_frozenset
        have hne : (Value.type "list" == Value.type "dict") = false := by decide
        have hl1 : (s.heap.push nw).IsList l items := ⟨_, hol', rfl, nl, rfl⟩
        have hlS : l < s.heap.objs.size := Heap.lt_size hol
        have hnone : A.in1.in1.in1.handled = none := by simp [hh]
        have szp : (s.heap.push nw).objs.size = s.heap.objs.size + 1 := Heap.size_push _ _
        have hneI : l ≠ (s.heap.push nw).objs.size := by
          rw [szp]
          exact Nat.ne_of_lt (Nat.lt_succ_of_lt hlS)
        have hSf : s.heap.objs.size ∉ [(s.heap.push nw).objs.size, l] := by
          simp only [List.mem_cons, List.not_mem_nil, or_false, not_or]
          rw [szp]
          exact ⟨Nat.ne_of_lt (Nat.lt_succ_self _), Nat.ne_of_gt hlS⟩
        have beyond : ∀ b, s.heap.objs.size ≤ b → s.heap.get? b = none := fun b hb => by
          cases q : s.heap.get? b with
          | none => rfl
          | some o => exact absurd (Nat.lt_of_lt_of_le (Heap.lt_size q) hb) (Nat.lt_irrefl _)
        subst hnw
        unfold Builtin.«set.__init__» noKeywords Builtin.Frozenset.updateFrom
        generalize hPI : pyIter = PI
        wp_walk
        subst hPI
        refine wpAny_pyIter_list hl1 ?_
        refine wpAny_bind (wpAny_runValue ?_)
        refine setN_update ((Walks.list hnone _ l hneI items).toS) s.heap.objs.size hSf ks hsz fk hval s.heap hk (beyond _ (Nat.le_refl _)) (fun b hb => beyond b (by
          rw [List.mem_singleton.mp hb, szp]
          exact Nat.le_succ _)) ?hu (items.size - 0) 0 _ (by omega) (Nat.zero_le _) ⟨⟨_, Heap.get?_push_size _ rfl, rfl, rfl⟩, (hl1.push _)⟩ (fun b o e => Heap.get?_push_of_some _ (Heap.get?_push_of_some _ e)) ?hS0 ?hR
        case hu =>
          show A.units + 1 + 1 + 1 + 8 < cLine
          omega
        case hS0 => exact ⟨[], #[], 0, _, setN_new (w := w) (Heap.get?_push_of_some _ hS), (fun _ z => nomatch z), fun p z => by simp at z⟩
        case hR =>
          intro s' C es ep t hm hS' g' hp
          obtain ⟨h', g2, d', tk', os'⟩ := s'
          obtain rfl : g2 = s.gens := hm.gens
          obtain rfl : d' = s.drawn := hm.drawn
          obtain rfl : os' = s.os := hm.os
          rw [hsz] at g'
          exact wpAny_pure (wpAny_pure ⟨rfl, h', tk', C, es, ep, t, rfl, hS', g', hp⟩)
      · cases r₂ with
        | error e => exact hr₂
        | ok fl₂ =>
          cases fl₂ with
          | ret r =>
            obtain ⟨rfl, h', tk, C, es, ep, t, rfl, hS', g', hk'⟩ := hr₂
            repeat (any_goals (first | assumption | wp_step))
            exact h _ _ _ _ _ _ hS' g' hk'
          | _ => exact hr₂.elim
    | _ => exact hr.elim
end
end DL
/-! DL38: len(set(a list of tuples)), sorted(set(a list of tuples)). -/
namespace DL
open PySem PySem.Spec PyProof.Rows L2
open PySem.W (EachIs AllAlike Sortable dataLe sorted_data alike alikeAll)
theorem perm_map_inv {α β : Type} {f : α → β} : ∀ {l : List α} {us : List β}, us.Perm (l.map f) → ∃ l2 : List α, l2.Perm l ∧ us = l2.map f
  | [], us, h => ⟨[], .nil, h.eq_nil⟩
  | a :: l, us, h => by
    have hm : f a ∈ us := h.mem_iff.mpr (by simp)
    obtain ⟨s, t, rfl⟩ := List.append_of_mem hm
    have h2 : (s ++ t).Perm (l.map f) := (List.perm_middle.symm.trans h).cons_inv
    obtain ⟨l2, p2, e2⟩ := perm_map_inv h2
    obtain ⟨x, y, rfl, rfl, rfl⟩ := List.append_eq_map_iff.mp e2
    exact ⟨x ++ a :: y, List.perm_middle.trans (p2.cons a), by simp⟩
/-- what a set's places hold -/
abbrev zHeld (z : Addr × D) : Addr × NestedKey := (z.1, nk z.2)
section
variable {X : Cx} {pins : List (Addr × Obj)} {σ : SL} {H1 : Hp} {M1 : DM} {s1 : Shared}
theorem tups_held (I : Inv X pins σ H1 s1) : ∀ {xs : List D} {vs : List V} {us : List Value}, RepL X.K H1 xs vs → Vals vs us → (∀ x ∈ xs, isKey x) → ∃ Z : List (Addr × D), us = Z.map (fun z => Value.ref z.1) ∧ Z.map (·.2) = xs ∧ ∀ z ∈ Z, Rep X.K H1 z.2 (.ref z.1) ∧ NIs s1.heap (nk z.2) z.1
  | [], _, _, .nil, .nil, _ => ⟨[], rfl, rfl, fun _ z => nomatch z⟩
  | x :: xs, _, _, .cons a l, .cons r rs, hk => by
    obtain ⟨Z, e1, e2, e3⟩ := tups_held I l rs fun y hy => hk y (by simp [hy])
    obtain ⟨⟨ks, rfl⟩, hok, hdp⟩ := hk x (by simp)
    cases a with
    | @tup _ b vs hf z l2 =>
      obtain rfl := show _ = Value.ref b from r
      refine ⟨(b, .tup ks) :: Z, by rw [List.map_cons, e1], by rw [List.map_cons, e2], fun w hw => ?_⟩
      rcases List.mem_cons.mp hw with rfl | hw
      · exact ⟨.tup hf z l2, Rep.nested I (.tup hf z l2) rfl hok, hdp⟩
      · exact e3 w hw
/-- few different things -/
def FewD (xs : List D) : Prop := ∃ ys : List D, ys.length < 64 ∧ ∀ x ∈ xs, x ∈ ys
theorem FewD.short {xs : List D} (h : xs.length < 64) : FewD xs := ⟨xs, h, fun _ h => h⟩
theorem sub_held {xs : List D} {Z : List (Addr × D)} (hZ : ∀ z ∈ Z, z.2 ∈ xs) : ∀ {C : Held}, (∀ p ∈ C, p ∈ Z.map zHeld) → ∃ Y : List (Addr × D), C = Y.map zHeld ∧ ∀ z ∈ Y, z ∈ Z
  | [], _ => ⟨[], rfl, fun _ z => nomatch z⟩
  | p :: C, h => by
    obtain ⟨Y, e, e2⟩ := sub_held hZ (C := C) fun q hq => h q (by simp [hq])
    obtain ⟨z, hz, rfl⟩ := List.mem_map.mp (h p (by simp))
    refine ⟨z :: Y, by rw [List.map_cons, ← e], fun w hw => ?_⟩
    rcases List.mem_cons.mp hw with rfl | hw
    · exact hz
    · exact e2 w hw
/-- set(e) has come, e a list of tuples: the walk goes on with the set at its place -/
theorem set_tups {d : D} {v : Value} {x : V} {xs : List D} {Q : Value → Shared → Prop} {A : Around} {E : Value → Shared → Prop} (I1 : Inv X pins σ H1 s1) (r1 : RelV x v) (rd : Rep X.K H1 d x) (m1 : RM X.K H1 M1) (hd : dItems d M1 = some xs) (hnt : d ≠ .tup xs) (hk : ∀ x ∈ xs, isKey x) (few : FewD xs) (hA : A.handled = none) (hu : A.units + 11 < cLine)
    (h : ∀ (h' : Heap) (tk : Nat) (Y : List (Addr × D)) es ep t, SetN X.w h' s1.heap.objs.size (Y.map zHeld) es ep t → (Y.map (·.2)).Nodup → (∀ k, k ∈ Y.map (·.2) ↔ k ∈ xs) → (∀ z ∈ Y, Rep X.K H1 z.2 (.ref z.1)) → Inv X pins σ H1 { s1 with heap := h', toks := tk } → Q (.ref s1.heap.objs.size) { s1 with heap := h', toks := tk }) :
    wpAny (model X.prog X.w) A (call (.type "set") [v]) Q E s1 := by
  obtain ⟨l, vs, rfl, hz, rl, hS⟩ := lst_of rd m1 hd hnt
  cases r1
  obtain ⟨its, ri, pl, _⟩ := I1.list hS
  obtain ⟨Z, e1, e2, e3⟩ := tups_held I1 rl ri hk
  have hZ : ∀ z ∈ Z, z.2 ∈ xs := fun z hz => by rw [← e2]; exact List.mem_map.mpr ⟨z, hz, rfl⟩
  have kinj : ∀ {a b : D}, a ∈ xs → b ∈ xs → nk a = nk b → a = b := fun ha hb e => nk_inj (hk _ ha).2.1 (hk _ hb).2.1 e
  refine call_setN (Z.map zHeld) hA pl.isList (by rw [e1, List.map_map]; rfl) (fun p hp => ?_) ?_ hu fun h' tk C es ep t hC g kept => ?_
  · obtain ⟨z, hz, rfl⟩ := List.mem_map.mp hp
    exact (e3 z hz).2
  · obtain ⟨ys, y1, y2⟩ := few
    refine ⟨ys.map nk, by rw [List.length_map]; exact y1, fun p hp => ?_⟩
    obtain ⟨z, hz, rfl⟩ := List.mem_map.mp hp
    exact List.mem_map.mpr ⟨z.2, y2 _ (hZ z hz), rfl⟩
  obtain ⟨Y, rfl, hY⟩ := sub_held hZ g.sub
  have nd := hC.nd
  rw [List.map_map] at nd
  have all := g.all
  rw [List.take_length, List.map_map] at all
  refine h h' tk Y es ep t hC ?_ (fun k => ⟨fun hk2 => ?_, fun hk2 => ?_⟩) (fun z hz => (e3 z (hY z hz)).1) (I1.kept kept)
  · have : ((Y.map (·.2)).map nk).Nodup := by rw [List.map_map]; exact nd
    exact L2.nodup_of_map this
  · obtain ⟨z, hz, rfl⟩ := List.mem_map.mp hk2
    exact hZ z (hY z hz)
  · rw [← e2] at hk2
    obtain ⟨z, hz, rfl⟩ := List.mem_map.mp hk2
    obtain ⟨y, hy, e⟩ := List.mem_map.mp (all (zHeld z) (List.mem_map.mpr ⟨z, hz, rfl⟩))
    have e : nk y.2 = nk z.2 := e
    exact List.mem_map.mpr ⟨y, hy, kinj (hZ y (hY y hy)) (hZ z hz) e⟩
end
section
variable {X : Cx}
/-- len(set(e)), e a list of tuples -/
def dLenSetN (te : DTE) : DTE := fun m M Q => te m M fun d M1 => ∃ xs : List D, dItems d M1 = some xs ∧ d ≠ .tup xs ∧ (∀ x ∈ xs, isKey x) ∧ FewD xs ∧ ∀ rs : List D, rs.Nodup → (∀ k, k ∈ rs ↔ k ∈ xs) → Q (.int rs.length) M1
theorem d_lenSetN {e : Expr} {te : DTE} {p p2 q pos : Pos} (hc : X.calm = true) (hu : X.A.units + 40 < cLine) (hg : Gl X "len") (hm : X.mg "len" = none) (hg2 : Gl X "set") (hm2 : X.mg "set" = none) (he : DE X e te)
    (na : starEach [e] X.env = (false, eval e X.env) :: starEach [] X.env := by rfl) : DE X (.Call (.Name "len" p) [.Call (.Name "set" p2) [e] [] q] [] pos) (dLenSetN te) := by
  refine ⟨fun pins s σ H Q I ⟨m, M, Q', r, h, kk⟩ => ?_⟩
  refine Call_ (ld_blt I hg hm boot_len ?_)
  refine PyProof.Rows.callWith_builtin1 (PyProof.Rows.args_cons ?_ rfl) rfl rfl
  refine Call_ (ld_blt I hg2 hm2 boot_set ?_)
  refine PyProof.Rows.callWith_type1 (PyProof.Rows.args_cons (thn (he.run pins s σ H (fun v H1 => ∃ d M1, Grow H H1 ∧ Rep X.K H1 d v ∧ RM X.K H1 M1 ∧ ∃ xs : List D, dItems d M1 = some xs ∧ d ≠ .tup xs ∧ (∀ x ∈ xs, isKey x) ∧ FewD xs ∧ ∀ rs : List D, rs.Nodup → (∀ k, k ∈ rs ↔ k ∈ xs) → Q' (.int rs.length) M1) I
    ⟨m, M, _, r, h, fun d v M1 H1 g1 r1 m1 q1 => ⟨d, M1, g1, r1, m1, q1⟩⟩) fun v s1 ⟨x, H1, I1, r1, d, M1, g1, rd, m1, xs, hd, hnt, hk, few, q1⟩ => PyProof.Rows.args_nil ?_) na) na rfl
  refine set_tups I1 r1 rd m1 hd hnt hk few (I1.ok.hd hc) (by omega) fun h' tk Y es ep t hS nd mem _ I2 => ?_
  refine PyProof.Rows.args_nil ?_
  generalize hs2 : ({ s1 with heap := h', toks := tk } : Shared) = s2 at I2 ⊢
  have hS2 : SetN X.w s2.heap s1.heap.objs.size (Y.map zHeld) es ep t := by rw [← hs2]; exact hS
  have hq := q1 (Y.map (·.2)) nd mem
  have hsz := hS2.len
  have hfew := hS2.few
  rw [List.length_map] at hq hsz hfew
  obtain ⟨o, g1', g2', g3'⟩ := hS2.ob
  refine call_len_set g1' g2' g3' hS2.fit (by omega) ?_
  exact ⟨.int es.size, H1, (I2.tok _).tok _, ⟨_, rfl⟩, kk _ _ _ _ g1 (.int _) m1 (by rw [hsz]; exact hq)⟩
end
end DL
/-! DL39: sorted(a dict with texts as keys); >= and <= of data. -/
namespace DL
open PySem PySem.Spec PyProof.Rows L2
theorem rising_le : ∀ (p : Str) (ys : List Str), risingS p ys = true → LeS p (ys.headD p) ∧ ys.Pairwise LeS ∧ ∀ y ∈ ys, LeS p y
  | p, [], _ => ⟨List.le_refl _, .nil, fun _ h => nomatch h⟩
  | p, y :: ys, h => by
    rw [risingS, Bool.and_eq_true, Bool.not_eq_true', ltCps_eq, decide_eq_false_iff_not] at h
    obtain ⟨h1, h2⟩ := h
    have h3 : LeS p y := List.not_lt.mp h1
    obtain ⟨_, h5, h6⟩ := rising_le y ys h2
    refine ⟨h3, List.pairwise_cons.mpr ⟨h6, h5⟩, fun z hz => ?_⟩
    rcases List.mem_cons.mp hz with rfl | hz
    · exact h3
    · exact leS_trans h3 (h6 z hz)
theorem sorted_le {ys : List Str} (h : sortedS ys = true) : ys.Pairwise LeS := by
  cases ys with
  | nil => exact .nil
  | cons y ys =>
    obtain ⟨_, h5, h6⟩ := rising_le y ys h
    exact List.pairwise_cons.mpr ⟨h6, h5⟩
section
variable {X : Cx}
theorem RepK.strs {K : PySem.W.Frag} {H : Hp} : ∀ {kvs : List (D × D)} {es : List (Key × V)} {ks : List Str}, RepK K H kvs es → kvs.map (·.1) = ks.map D.str → es.map (·.1) = ks.map Sum.inr
  | _, _, [], .nil, _ => rfl
  | _, _, [], .cons _ _, e => by simp at e
  | _, _, k :: ks, .nil, e => by simp at e
  | _, _, k :: ks, .cons (k := k1) _ l, e => by
    rw [List.map_cons, List.map_cons] at e
    injection e with e1 e2
    rw [List.map_cons, List.map_cons, l.strs e2]
    cases k1 with
    | inl i => cases e1
    | inr x =>
      injection e1 with e1
      show Sum.inr x :: _ = _
      rw [e1]
/-- sorted(d), d a dict with texts as keys -/
def rSortDK : DCR := fun ds M Q => ∃ d kvs ks, ds = [d] ∧ dDict d M = some kvs ∧ kvs.map (·.1) = ks.map D.str ∧ ks.length < 64 ∧ ∀ (ys : List Str) (p : Addr), ys.Perm ks → ys.Pairwise LeS → M p = none → Q (.ref p) (mput M p (.lst (ys.map D.str)))
theorem c_sortDK (hcalm : X.calm = true) : DCall X (.builtin "sorted") rSortDK := by
  intro pins s σ H vs us Q I r ⟨ds, M, Q', l, m, ⟨d, kvs, ks, e, h, h2, h3, q⟩, k⟩
  subst e
  obtain ⟨v, e, rv⟩ := repL_one l
  subst e
  obtain ⟨p, es, rfl, hr, z, l2⟩ := dict_at rv m h
  refine call_sortedD hcalm pins s σ H _ us Q I r ⟨p, es, ks, rfl, hr, l2.strs h2, h3, fun ys a hp hs hn => ?_⟩
  have hlen : (ys.map V.str).length ≤ sizeLine := by rw [List.length_map, hp.length_eq, sizeLine_eq]; omega
  exact k _ _ _ _ (.new hn) (.ref a) (m.newLst hn hlen repL_strs) (q ys a hp (sorted_le hs) (m.free hn))
/-- x >= y, x <= y, of data that are alike -/
def dGeD : DR2 := fun x y M Q => (dOk 64 x = true ∧ dOk 64 y = true) ∧ x ≠ .non ∧ PySem.W.alike x.py y.py = true ∧ Q (.bl (!PySem.W.dataLt x.py y.py)) M
def dLeD : DR2 := fun x y M Q => (dOk 64 x = true ∧ dOk 64 y = true) ∧ x ≠ .non ∧ PySem.W.alike x.py y.py = true ∧ Q (.bl (!PySem.W.dataLt y.py x.py)) M
theorem o_geD (hu : X.A.units + 64 < cLine) : DOp X (compareOp .GtE) dGeD := by
  intro pins s σ H x y v u Q I rx ry ⟨d, e, M, Q', r1, r2, m, ⟨⟨h1, h2⟩, hn, ha, q⟩, k⟩
  obtain ⟨as, q1⟩ := Dp.reads I _ x v (r1.dp h1) rx
  obtain ⟨bs, q2⟩ := Dp.reads I _ y u (r2.dp h2) ry
  have hd := (dOk_lay 64 d h1).2
  exact PySem.W.ge_data q1 q2 ha (py_none hn h1) (Nat.lt_of_le_of_lt (Nat.add_le_add_left (Nat.le_trans (Nat.min_le_left _ _) hd) _) hu) ⟨.bl _, H, I, rfl, k _ _ M H (.refl H) (.bl _) m q⟩
theorem o_leD (hu : X.A.units + 64 < cLine) : DOp X (compareOp .LtE) dLeD := by
  intro pins s σ H x y v u Q I rx ry ⟨d, e, M, Q', r1, r2, m, ⟨⟨h1, h2⟩, hn, ha, q⟩, k⟩
  obtain ⟨as, q1⟩ := Dp.reads I _ x v (r1.dp h1) rx
  obtain ⟨bs, q2⟩ := Dp.reads I _ y u (r2.dp h2) ry
  have hd := (dOk_lay 64 d h1).2
  exact PySem.W.le_data q1 q2 ha (py_none hn h1) (Nat.lt_of_le_of_lt (Nat.add_le_add_left (Nat.le_trans (Nat.min_le_left _ _) hd) _) hu) ⟨.bl _, H, I, rfl, k _ _ M H (.refl H) (.bl _) m q⟩
end
end DL
namespace Law
open PySem PySem.Spec PyProof.Rows L2 DL
local macro_rules | `(tactic| walk_at "rd") => `(tactic| simp only [dSeq, dSet, dIf, dTst, dOp, dVar, dC, dRet, dRetN, dNext, dDrop, dBreak, dCont, dAnd, dOr, dNot, dAndV, dOrV, dNotV, dIfE, dTup, dLstF, dLst, dCons, dNil, dCB, dCall, dUn, dNegI,
  dI, dI0, dEq, dNe, dIs, dIsNot, dIn, dNotIn, dIx, isN_non, isN_bl, isN_int, isN_str, isN_tup, isN_lst, isN_rf, DL.rLen, rInt, rAbs, rMax2, rMin2, DL.rGcd, rTuple, rList, rIs, rIsT, ar0, ar1, ar2, ar3, ar4, ar5, ar6, ar7, ar8, dEnds, dMt, dMt0, mAppend, mPop, mReverse, dSetL, dPut, dAsg, dgName, dgTup, dgCons, dgNil,
  dFor, diSeq, diRng1, diRng2, dLcF, dLc, dwipe, dFz,
  dstart, List.map_cons, List.map_nil, List.length_cons, List.length_nil, List.cons_append, List.nil_append, List.append_nil, List.replicate, Nat.reduceAdd, Nat.reduceSub, Nat.reduceLeDiff, Int.reduceNeg, List.set_cons_zero, List.set_cons_succ,
  List.getElem?_cons_zero, List.getElem?_cons_succ, Option.some.injEq, exists_eq_left', exists_eq_left, exists_eq_right, exists_eq, exists_and_left, exists_and_right, D.int.injEq, D.bl.injEq, D.str.injEq, D.tup.injEq, D.lst.injEq, D.ref.injEq, D.ty.injEq, D.dct.injEq,
  List.cons.injEq, and_assoc, and_true, true_and, and_self, reduceCtorEq, false_and, and_false, if_true, if_false, if_pos, ite_true, ite_false, Bool.false_eq_true, decide_eq_true_eq, Bool.not_eq_true', decide_eq_false_iff_not, Bool.not_true, Bool.not_false, decide_true, decide_false,
  eqv_int, eqv_str, eqv_bl, dOk_int, dOk_bl, dOk_non, dOk_tup, dOk_lst, dOk_str, List.all_cons, List.all_nil, Bool.and_true, Bool.true_and, Bool.and_self, dItems_tup, dItems_lst, dItems_rf, CMulA, CDivA, CPowA, Int.reduceLT, Int.reduceLE, Int.reducePow, Int.reduceToNat, Int.reduceMul, Int.reduceAdd, Int.reduceSub, Nat.reducePow, true_or, or_true, ne_eq, not_false_eq_true, not_true_eq_false, dAt_tup, dAt_lst, dAt_rf, dLenOf_tup, dLenOf_lst, dLenOf_rf, dLenOf_str, dTyN_non, dTyN_bl, dTyN_int, dTyN_str, dTyN_tup, dTyN_lst, dTyN_dct, dTyN_rf, dIntOf_int, dIntOf_bl, knownT, subT, atI_0, atI_1, atI_2, atI_3, atI_4, atI_5, atI_neg1, mput_same, mput_mput, eqv_non, tyNames, Option.map_some, String.reduceBEq, Bool.or_true, Bool.true_or, Bool.or_false, Bool.false_or, Bool.false_and, Bool.and_false, beq_self_eq_true, BEq.rfl, List.any_cons, List.any_nil, sizeLine_eq, rLenB, Bool.true_eq_false, implies_true, Nat.zero_le, Bool.or_self, String.reduceEq, dAdd_ii, dAdd_ss, dAdd_tt, dMulA_ii, dMulA_si, dIxS_str, dIxS_tup, dIxS_lst, dIxS_ref, dCat, dCatF, dRep, dSl, dNoP, dPart, dJoin, mExtend, mIndex, rAnyL, rAllL, rSumL, rMaxL, rMinL, dLRg, diEnum, rSortD, dLc2F, dLc2, dYes, diEnumT, dSlS, rSortK, dFzS, dTupRev, diRev, diZip, dMulT, zipD, dDc, dDGet1, dLtD, dGtD, rListK, dUpper, diStr, dInS, dSortL, dSortSet, dSortSetT, dLenSetT, dStar, rIntS, rStrI, dKIx, dKIn, dKNotIn, rLenK, dKNew, dFzK, dFzD, dKPut, diKeys, diVals, diItems, mInsert, mPopAt, dKGet1, dKGet2, dKc, dDict_dct, dDict_put, isKb_int, isKb_str, true_implies, false_implies, dDIx, dDIn, dDNotIn, dSetD, dDNew, dSortLen, sortLenB, rSortO, dLenSetN, rSortDK, dGeD, dLeD])
local macro_rules | `(tactic| walk_at "st") => `(tactic| (refine seq_i ?_; simp only [dSet, dIf, dTst, dOp, dVar, dC, dRet, dRetN, dNext, dDrop, dBreak, dCont, dAnd, dOr, dNot, dAndV, dOrV, dNotV, dIfE, dTup, dLstF, dLst, dCons, dNil, dCB, dCall, dUn, dNegI,
  dI, dI0, dEq, dNe, dIs, dIsNot, dIn, dNotIn, dIx, isN_non, isN_bl, isN_int, isN_str, isN_tup, isN_lst, isN_rf, DL.rLen, rInt, rAbs, rMax2, rMin2, DL.rGcd, rTuple, rList, rIs, rIsT, ar0, ar1, ar2, ar3, ar4, ar5, ar6, ar7, ar8, dEnds, dMt, dMt0, mAppend, mPop, mReverse, dSetL, dPut, dAsg, dgName, dgTup, dgCons, dgNil,
  dFor, diSeq, diRng1, diRng2, dLcF, dLc, dwipe, dFz,
  dstart, List.map_cons, List.map_nil, List.length_cons, List.length_nil, List.cons_append, List.nil_append, List.append_nil, List.replicate, Nat.reduceAdd, Nat.reduceSub, Nat.reduceLeDiff, Int.reduceNeg, List.set_cons_zero, List.set_cons_succ,
  List.getElem?_cons_zero, List.getElem?_cons_succ, Option.some.injEq, exists_eq_left', exists_eq_left, exists_eq_right, exists_eq, exists_and_left, exists_and_right, D.int.injEq, D.bl.injEq, D.str.injEq, D.tup.injEq, D.lst.injEq, D.ref.injEq, D.ty.injEq, D.dct.injEq,
  List.cons.injEq, and_assoc, and_true, true_and, and_self, reduceCtorEq, false_and, and_false, if_true, if_false, if_pos, ite_true, ite_false, Bool.false_eq_true, decide_eq_true_eq, Bool.not_eq_true', decide_eq_false_iff_not, Bool.not_true, Bool.not_false, decide_true, decide_false,
  eqv_int, eqv_str, eqv_bl, dOk_int, dOk_bl, dOk_non, dOk_tup, dOk_lst, dOk_str, List.all_cons, List.all_nil, Bool.and_true, Bool.true_and, Bool.and_self, dItems_tup, dItems_lst, dItems_rf, CMulA, CDivA, CPowA, Int.reduceLT, Int.reduceLE, Int.reducePow, Int.reduceToNat, Int.reduceMul, Int.reduceAdd, Int.reduceSub, Nat.reducePow, true_or, or_true, ne_eq, not_false_eq_true, not_true_eq_false, dAt_tup, dAt_lst, dAt_rf, dLenOf_tup, dLenOf_lst, dLenOf_rf, dLenOf_str, dTyN_non, dTyN_bl, dTyN_int, dTyN_str, dTyN_tup, dTyN_lst, dTyN_dct, dTyN_rf, dIntOf_int, dIntOf_bl, knownT, subT, atI_0, atI_1, atI_2, atI_3, atI_4, atI_5, atI_neg1, mput_same, mput_mput, eqv_non, tyNames, Option.map_some, String.reduceBEq, Bool.or_true, Bool.true_or, Bool.or_false, Bool.false_or, Bool.false_and, Bool.and_false, beq_self_eq_true, BEq.rfl, List.any_cons, List.any_nil, sizeLine_eq, rLenB, Bool.true_eq_false, implies_true, Nat.zero_le, Bool.or_self, String.reduceEq, dAdd_ii, dAdd_ss, dAdd_tt, dMulA_ii, dMulA_si, dIxS_str, dIxS_tup, dIxS_lst, dIxS_ref, dCat, dCatF, dRep, dSl, dNoP, dPart, dJoin, mExtend, mIndex, rAnyL, rAllL, rSumL, rMaxL, rMinL, dLRg, diEnum, rSortD, dLc2F, dLc2, dYes, diEnumT, dSlS, rSortK, dFzS, dTupRev, diRev, diZip, dMulT, zipD, dDc, dDGet1, dLtD, dGtD, rListK, dUpper, diStr, dInS, dSortL, dSortSet, dSortSetT, dLenSetT, dStar, rIntS, rStrI, dKIx, dKIn, dKNotIn, rLenK, dKNew, dFzK, dFzD, dKPut, diKeys, diVals, diItems, mInsert, mPopAt, dKGet1, dKGet2, dKc, dDict_dct, dDict_put, isKb_int, isKb_str, true_implies, false_implies, dDIx, dDIn, dDNotIn, dSetD, dDNew, dSortLen, sortLenB, rSortO, dLenSetN, rSortDK, dGeD, dLeD]))
local macro_rules | `(tactic| walk_at "p") => `(tactic| simp only [dRet, dOp, dVar, dCall, dCB, dCons, dNil, ar0, ar1, ar2, ar3, ar4, ar5, DL.rLen, dIx, dEnds, dstart, List.map_cons, List.map_nil, List.length_cons, List.length_nil, List.cons_append, List.nil_append, List.replicate, Nat.reduceAdd, Nat.reduceSub, Nat.reduceLeDiff, List.getElem?_cons_zero, List.getElem?_cons_succ, Option.some.injEq, exists_eq_left', exists_eq_left, exists_and_left, exists_and_right, List.cons.injEq, and_assoc, and_true, true_and, D.ref.injEq, D.int.injEq])
local macro_rules | `(tactic| walk_at "s1") => `(tactic| simp only [dSet, dIf, dTst, dOp, dVar, dC, dRet, dRetN, dNext, dDrop, dBreak, dCont, dAnd, dOr, dNot, dAndV, dOrV, dNotV, dIfE, dTup, dLstF, dLst, dCons, dNil, dCB, dCall, dUn, dNegI,
  dI, dI0, dEq, dNe, dIs, dIsNot, dIn, dNotIn, dIx, isN_non, isN_bl, isN_int, isN_str, isN_tup, isN_lst, isN_rf, DL.rLen, rInt, rAbs, rMax2, rMin2, DL.rGcd, rTuple, rList, rIs, rIsT, ar0, ar1, ar2, ar3, ar4, ar5, ar6, ar7, ar8, dEnds, dMt, dMt0, mAppend, mPop, mReverse, dSetL, dPut, dAsg, dgName, dgTup, dgCons, dgNil,
  dFor, diSeq, diRng1, diRng2, dLcF, dLc, dwipe, dFz,
  dstart, List.map_cons, List.map_nil, List.length_cons, List.length_nil, List.cons_append, List.nil_append, List.append_nil, List.replicate, Nat.reduceAdd, Nat.reduceSub, Nat.reduceLeDiff, Int.reduceNeg, List.set_cons_zero, List.set_cons_succ,
  List.getElem?_cons_zero, List.getElem?_cons_succ, Option.some.injEq, exists_eq_left', exists_eq_left, exists_eq_right, exists_eq, exists_and_left, exists_and_right, D.int.injEq, D.bl.injEq, D.str.injEq, D.tup.injEq, D.lst.injEq, D.ref.injEq, D.ty.injEq, D.dct.injEq,
  List.cons.injEq, and_assoc, and_true, true_and, and_self, reduceCtorEq, false_and, and_false, if_true, if_false, if_pos, ite_true, ite_false, Bool.false_eq_true, decide_eq_true_eq, Bool.not_eq_true', decide_eq_false_iff_not, Bool.not_true, Bool.not_false, decide_true, decide_false,
  eqv_int, eqv_str, eqv_bl, dOk_int, dOk_bl, dOk_non, dOk_tup, dOk_lst, dOk_str, List.all_cons, List.all_nil, Bool.and_true, Bool.true_and, Bool.and_self, dItems_tup, dItems_lst, dItems_rf, CMulA, CDivA, CPowA, Int.reduceLT, Int.reduceLE, Int.reducePow, Int.reduceToNat, Int.reduceMul, Int.reduceAdd, Int.reduceSub, Nat.reducePow, true_or, or_true, ne_eq, not_false_eq_true, not_true_eq_false, dAt_tup, dAt_lst, dAt_rf, dLenOf_tup, dLenOf_lst, dLenOf_rf, dLenOf_str, dTyN_non, dTyN_bl, dTyN_int, dTyN_str, dTyN_tup, dTyN_lst, dTyN_dct, dTyN_rf, dIntOf_int, dIntOf_bl, knownT, subT, atI_0, atI_1, atI_2, atI_3, atI_4, atI_5, atI_neg1, mput_same, mput_mput, eqv_non, tyNames, Option.map_some, String.reduceBEq, Bool.or_true, Bool.true_or, Bool.or_false, Bool.false_or, Bool.false_and, Bool.and_false, beq_self_eq_true, BEq.rfl, List.any_cons, List.any_nil, sizeLine_eq, rLenB, Bool.true_eq_false, implies_true, Nat.zero_le, Bool.or_self, String.reduceEq, dAdd_ii, dAdd_ss, dAdd_tt, dMulA_ii, dMulA_si, dIxS_str, dIxS_tup, dIxS_lst, dIxS_ref, dCat, dCatF, dRep, dSl, dNoP, dPart, dJoin, mExtend, mIndex, rAnyL, rAllL, rSumL, rMaxL, rMinL, dLRg, diEnum, rSortD, dLc2F, dLc2, dYes, diEnumT, dSlS, rSortK, dFzS, dTupRev, diRev, diZip, dMulT, zipD, dDc, dDGet1, dLtD, dGtD, rListK, dUpper, diStr, dInS, dSortL, dSortSet, dSortSetT, dLenSetT, dStar, rIntS, rStrI, dKIx, dKIn, dKNotIn, rLenK, dKNew, dFzK, dFzD, dKPut, diKeys, diVals, diItems, mInsert, mPopAt, dKGet1, dKGet2, dKc, dDict_dct, dDict_put, isKb_int, isKb_str, true_implies, false_implies, dDIx, dDIn, dDNotIn, dSetD, dDNew, dSortLen, sortLenB, rSortO, dLenSetN, rSortDK, dGeD, dLeD])
section
variable {P : Program} {w : World} {K : PySem.W.Frag} {mg : Str → Option Value} {base : Heap} {tb : Addr}
def topS (i : Nat) : Stmt := PySem.Challenge.pw_doubtbook_k75_unified_terms.main.body.getD i (.Pass ⟨0, 0, 0, 0⟩)
abbrev s_put_terms : Stmt := topS 1
abbrev N_put_terms : List Str := ["term", "mapping", "variable", "worth"]
theorem sc_put_terms : FnScope N_put_terms ["term", "mapping"] (defScope s_put_terms) := ⟨rfl, rfl, rfl, by decide +kernel, rfl, by decide +kernel, by decide +kernel⟩
abbrev s_resolved : Stmt := topS 2
abbrev N_resolved : List Str := ["term", "bound"]
theorem sc_resolved : FnScope N_resolved ["term", "bound"] (defScope s_resolved) := ⟨rfl, rfl, rfl, by decide +kernel, rfl, by decide +kernel, by decide +kernel⟩
abbrev s_with_variable : Stmt := topS 3
abbrev N_with_variable : List Str := ["bound", "variable", "term", "grown", "known", "worth"]
theorem sc_with_variable : FnScope N_with_variable ["bound", "variable", "term"] (defScope s_with_variable) := ⟨rfl, rfl, rfl, by decide +kernel, rfl, by decide +kernel, by decide +kernel⟩
abbrev s_bound_terms : Stmt := topS 4
abbrev N_bound_terms : List Str := ["terms", "others", "bound", "term", "other", "left", "right"]
theorem sc_bound_terms : FnScope N_bound_terms ["terms", "others"] (defScope s_bound_terms) := ⟨rfl, rfl, rfl, by decide +kernel, rfl, by decide +kernel, by decide +kernel⟩
abbrev s_unified : Stmt := topS 5
abbrev N_unified : List Str := ["terms", "others", "bound", "variable"]
theorem sc_unified : FnScope N_unified ["terms", "others"] (defScope s_unified) := ⟨rfl, rfl, rfl, by decide +kernel, rfl, by decide +kernel, by decide +kernel⟩
abbrev s_l_draws : Stmt := topS 7
abbrev N_l_draws : List Str := ["script", "many", "cells", "left", "draws", "k", "place", "mixed", "cell"]
theorem sc_l_draws : FnScope N_l_draws ["script", "many"] (defScope s_l_draws) := ⟨rfl, rfl, rfl, by decide +kernel, rfl, by decide +kernel, by decide +kernel⟩
abbrev s_l_take : Stmt := topS 8
abbrev N_l_take : List Str := ["draws", "many"]
theorem sc_l_take : FnScope N_l_take ["draws", "many"] (defScope s_l_take) := ⟨rfl, rfl, rfl, by decide +kernel, rfl, by decide +kernel, by decide +kernel⟩
abbrev s_l_pick : Stmt := topS 9
abbrev N_l_pick : List Str := ["draws", "row"]
theorem sc_l_pick : FnScope N_l_pick ["draws", "row"] (defScope s_l_pick) := ⟨rfl, rfl, rfl, by decide +kernel, rfl, by decide +kernel, by decide +kernel⟩
abbrev s_l_same : Stmt := topS 10
abbrev N_l_same : List Str := ["actual", "due", "k"]
theorem sc_l_same : FnScope N_l_same ["actual", "due"] (defScope s_l_same) := ⟨rfl, rfl, rfl, by decide +kernel, rfl, by decide +kernel, by decide +kernel⟩
abbrev s_l_words : Stmt := topS 11
abbrev N_l_words : List Str := ["draws", "many", "words", "k", "size", "word", "j", "other"]
theorem sc_l_words : FnScope N_l_words ["draws", "many"] (defScope s_l_words) := ⟨rfl, rfl, rfl, by decide +kernel, rfl, by decide +kernel, by decide +kernel⟩
abbrev s_l_values : Stmt := topS 12
abbrev N_l_values : List Str := ["draws", "words", "number"]
theorem sc_l_values : FnScope N_l_values ["draws", "words"] (defScope s_l_values) := ⟨rfl, rfl, rfl, by decide +kernel, rfl, by decide +kernel, by decide +kernel⟩
abbrev s_l_term : Stmt := topS 13
abbrev N_l_term : List Str := ["draws", "variables", "values"]
theorem sc_l_term : FnScope N_l_term ["draws", "variables", "values"] (defScope s_l_term) := ⟨rfl, rfl, rfl, by decide +kernel, rfl, by decide +kernel, by decide +kernel⟩
abbrev s_l_after : Stmt := topS 14
abbrev N_l_after : List Str := ["term", "mapping", "pair"]
theorem sc_l_after : FnScope N_l_after ["term", "mapping"] (defScope s_l_after) := ⟨rfl, rfl, rfl, by decide +kernel, rfl, by decide +kernel, by decide +kernel⟩
abbrev s_l_among : Stmt := topS 15
abbrev N_l_among : List Str := ["thing", "row", "other"]
theorem sc_l_among : FnScope N_l_among ["thing", "row"] (defScope s_l_among) := ⟨rfl, rfl, rfl, by decide +kernel, rfl, by decide +kernel, by decide +kernel⟩
abbrev s_l_is_term : Stmt := topS 16
abbrev N_l_is_term : List Str := ["term", "whole"]
theorem sc_l_is_term : FnScope N_l_is_term ["term"] (defScope s_l_is_term) := ⟨rfl, rfl, rfl, by decide +kernel, rfl, by decide +kernel, by decide +kernel⟩
abbrev s_l_classes : Stmt := topS 17
abbrev N_l_classes : List Str := ["terms", "others", "classes", "k", "grown", "rest", "known"]
theorem sc_l_classes : FnScope N_l_classes ["terms", "others"] (defScope s_l_classes) := ⟨rfl, rfl, rfl, by decide +kernel, rfl, by decide +kernel, by decide +kernel⟩
abbrev s_l_class_of : Stmt := topS 18
abbrev N_l_class_of : List Str := ["classes", "term", "known"]
theorem sc_l_class_of : FnScope N_l_class_of ["classes", "term"] (defScope s_l_class_of) := ⟨rfl, rfl, rfl, by decide +kernel, rfl, by decide +kernel, by decide +kernel⟩
abbrev s_l_clashes : Stmt := topS 19
abbrev N_l_clashes : List Str := ["classes", "known", "term"]
theorem sc_l_clashes : FnScope N_l_clashes ["classes"] (defScope s_l_clashes) := ⟨rfl, rfl, rfl, by decide +kernel, rfl, by decide +kernel, by decide +kernel⟩
abbrev s_l_is_unifying : Stmt := topS 20
abbrev N_l_is_unifying : List Str := ["terms", "others", "told", "classes", "k", "bound", "left", "pair", "term"]
theorem sc_l_is_unifying : FnScope N_l_is_unifying ["terms", "others", "told"] (defScope s_l_is_unifying) := ⟨rfl, rfl, rfl, by decide +kernel, rfl, by decide +kernel, by decide +kernel⟩
abbrev s_l_terms : Stmt := topS 21
abbrev N_l_terms : List Str := ["draws", "many", "words", "values", "k"]
theorem sc_l_terms : FnScope N_l_terms ["draws", "many", "words", "values"] (defScope s_l_terms) := ⟨rfl, rfl, rfl, by decide +kernel, rfl, by decide +kernel, by decide +kernel⟩
abbrev s_l_behind : Stmt := topS 22
abbrev N_l_behind : List Str := ["draws", "terms", "words", "values", "mapping", "word", "term"]
theorem sc_l_behind : FnScope N_l_behind ["draws", "terms", "words", "values"] (defScope s_l_behind) := ⟨rfl, rfl, rfl, by decide +kernel, rfl, by decide +kernel, by decide +kernel⟩
abbrev s_l_chain : Stmt := topS 23
abbrev N_l_chain : List Str := ["draws", "words", "first", "last", "pairs", "k", "pair"]
theorem sc_l_chain : FnScope N_l_chain ["draws", "words", "first", "last"] (defScope s_l_chain) := ⟨rfl, rfl, rfl, by decide +kernel, rfl, by decide +kernel, by decide +kernel⟩
abbrev s_l_put_is_right : Stmt := topS 24
abbrev N_l_put_is_right : List Str := ["draws", "words", "values", "mapping", "word", "asked", "term", "value"]
theorem sc_l_put_is_right : FnScope N_l_put_is_right ["draws", "words", "values"] (defScope s_l_put_is_right) := ⟨rfl, rfl, rfl, by decide +kernel, rfl, by decide +kernel, by decide +kernel⟩
abbrev s_law : Stmt := topS 25
abbrev N_law : List Str := ["script", "draws", "words", "values", "many", "used", "terms", "pairs", "pair"]
theorem sc_law : FnScope N_law ["script"] (defScope s_law) := ⟨rfl, rfl, rfl, by decide +kernel, rfl, by decide +kernel, by decide +kernel⟩

structure Bi (K : PySem.W.Frag) (mg : Str → Option Value) : Prop where
  b_bool : mg "bool" = none
  b_int : mg "int" = none
  b_isinstance : mg "isinstance" = none
  b_len : mg "len" = none
  b_list : mg "list" = none
  b_max : mg "max" = none
  b_range : mg "range" = none
  b_set : mg "set" = none
  b_sorted : mg "sorted" = none
  b_str : mg "str" = none
  b_tuple : mg "tuple" = none
  b_zip : mg "zip" = none
structure Im (mg : Str → Option Value) : Prop where
  i_ok : True
/-! ### draws -/
abbrev sp_l_draws : DSp := ar2 fun a b M Q => ∃ (ns : List Int) (n : Int), a = .lst (ns.map D.int) ∧ b = .int n ∧ 0 ≤ n ∧ n ≤ 4000 ∧ ∀ p o, M p = none → DrO o → Q (.ref p) (mput M p o)
theorem ok_l_draws (F : Def K mg "_law_draws" s_l_draws ["script", "many"]) (B : Bi K mg) (I : Im mg)  : Cal P w K mg base 1 "_law_draws" ["script", "many"] sp_l_draws := by
  have sc := sc_l_draws
  refine F.cal sc (fun ds M Q h => len2 h) (fun f cdv A outer s H E hr => (ds_cons (ds_setLc (i := 2) rfl sc.nd rfl rfl (sw_true rfl rfl rfl (by decide +kernel)) (own := [("cell", 8)]) (di_seq (d_v 0)) (blkOk_by (N := N_l_draws) (sc := defScope s_l_draws) (by decide +kernel)) (by decide) (fun _ _ _ _ _ => (dg_name (i := 8) sc.nd rfl (Or.inl rfl))) (fun _ _ _ _ _ => dts_nil) (fun _ _ _ _ _ => (d_ct c_int rfl B.b_int boot_int (da_cons (d_v 8) da_nil))))
    (ds_cons (ds_if (dt_cmp (o_eq (hu_eq hr)) (d_cb c_len rfl B.b_len boot_len (da_cons (d_v 2) da_nil)) d_int (nomark _))
    (ds_one (ds_expr (d_mt PySem.F.slot_list_append PySem.F.type_list_append m_append (d_v 2) (da_cons d_int da_nil))))
    ds_nil)
    (ds_cons (ds_set (i := 3) sc.nd rfl (Or.inl rfl) (d_ct c_list rfl B.b_list boot_list (da_cons (d_v 2) da_nil)))
    (ds_cons (ds_set (i := 4) sc.nd rfl (Or.inl rfl) (d_lst da_nil))
    (ds_cons (ds_for PassesOwn.never rfl (di_range1 rfl B.b_range (da_cons (d_v 1) da_nil)) (dg_name (i := 5) sc.nd rfl (Or.inl rfl))
    (ds_cons (ds_set (i := 6) sc.nd rfl (Or.inl rfl) (d_op o_mod (d_v 5) (d_cb c_len rfl B.b_len boot_len (da_cons (d_v 2) da_nil))))
    (ds_one (ds_if (dt_cmp o_ge (d_ix x_ix (d_v 2) (d_v 6) (fun _ _ => rfl)) (d_op o_pow d_int d_int) (nomark _))
    (ds_cons (ds_expr (d_mt PySem.F.slot_list_append PySem.F.type_list_append m_append (d_v 4) (da_cons (d_op o_mod (d_ct c_int rfl B.b_int boot_int (da_cons (d_ix x_ix (d_v 3) (d_v 6) (fun _ _ => rfl)) da_nil)) d_int) da_nil)))
    (ds_one (ds_put (d_op o_div (d_ix x_ix (d_v 3) (d_v 6) (fun _ _ => rfl)) d_int) (d_v 3) (d_v 6) s_lst)))
    (ds_cons (ds_set (i := 7) sc.nd rfl (Or.inl rfl) (d_op o_mod (d_ct c_int rfl B.b_int boot_int (da_cons (d_op o_add (d_op o_add (d_op o_mul (d_ix x_ix (d_v 2) (d_v 6) (fun _ _ => rfl)) d_int) (d_op o_mul (d_v 5) d_int)) d_int) da_nil)) d_int))
    (ds_one (ds_expr (d_mt PySem.F.slot_list_append PySem.F.type_list_append m_append (d_v 4) (da_cons (d_op o_mod (d_ct c_int rfl B.b_int boot_int (da_cons (d_op o_add (d_op o_add (d_op o_mul (d_v 7) (d_v 7)) (d_op o_mul d_int (d_v 7))) (d_v 5)) da_nil)) d_int) da_nil)))))))))
    (ds_cons (ds_expr (d_mt0 PySem.F.slot_list_reverse PySem.F.type_list_reverse m_reverse (d_v 4)))
    (ds_one (ds_ret (d_v 4)))))))))) (fun ds M Q h => ?_)
  obtain ⟨a, b, rfl, ns, n, rfl, rfl, h0, h1, h⟩ := h
  walk_at "st"
  intro _
  refine lc_map ns D.int D.int rfl srcV_none (fun x hx M l C1 h1 => by walk_at "s1"; exact h1) fun c hc => ?_
  refine seq_cut (fun m1 M1 => ∃ cs : List Int, cs ≠ [] ∧ M1 c = some (.lst (cs.map D.int)) ∧ MLe M M1 ∧ m1 = [some (.lst (ns.map D.int)), some (.int n), some (.ref c), none, none, none, none, none, none]) (fun Cn hC => ?_) ?_
  · walk_at "s1"
    split
    · next e =>
      refine ⟨⟨_, rfl⟩, _, rfl, ?_⟩
      have e2 : ns = [] := by
        rw [List.length_map] at e
        exact List.eq_nil_of_length_eq_zero (by omega)
      subst e2
      exact ⟨by decide, hC _ _ ⟨[0], by simp, by rw [mput_same]; rfl, MLe.put (.refl M) hc, rfl⟩⟩
    · next e =>
      refine hC _ _ ⟨ns, fun z => e ?_, mput_same, MLe.put (.refl M) hc, rfl⟩
      rw [z]
      rfl
  rintro _ M1 ⟨cs, hcs, hM1, le1, rfl⟩
  walk_at "st"
  refine ⟨_, by rw [hM1], fun l hl => ?_⟩
  have hcl : c ≠ l := ne_of_fresh hM1 hl
  walk_at "st"
  intro d hd
  have hM2 : mput M1 l (.lst (cs.map D.int)) c = some (.lst (cs.map D.int)) := by rw [mput_ne hcl]; exact hM1
  have hcd : c ≠ d := ne_of_fresh hM2 hd
  have hld : l ≠ d := ne_of_fresh mput_same hd
  have hMl : M l = none := by
    cases q : M l with
    | none => rfl
    | some o => rw [le1 l o q] at hl; cases hl
  have hMd : M d = none := by
    cases q : M d with
    | none => rfl
    | some o => rw [mput_ne hld.symm, le1 d o q] at hd; cases hd
  walk_at "st"
  refine ⟨by omega, by omega, fun _ => ?_⟩
  have hpos : (0 : Int) < (cs.length : Int) := by
    cases cs with
    | nil => exact absurd rfl hcs
    | cons x r => rw [List.length_cons]; omega
  refine for_ind (fun items m1 M2 => ∃ (ls ks : List Int) (x5 x6 x7 x8 : Option D), m1 = [some (.lst (ns.map D.int)), some (.int n), some (.ref c), some (.ref l), some (.ref d), x5, x6, x7, x8] ∧
    M2 c = some (.lst (cs.map D.int)) ∧ M2 l = some (.lst (ls.map D.int)) ∧ ls.length = cs.length ∧ M2 d = some (.lst (ks.map D.int)) ∧ ks.length + items.length ≤ 4000 ∧ MLe M M2 ∧ ∀ z ∈ items, ∃ k : Int, z = .int k ∧ 0 ≤ k ∧ k < 4000) ?_ ?_ _ _ _ ?_
  · rintro m1 M2 ⟨ls, ks, x5, x6, x7, x8, rfl, e1, e2, e3, e4, e5, e6, _⟩
    refine ⟨srcV_none, ?_⟩
    walk_at "rd"
    rw [e4]
    refine ⟨⟨_, rfl⟩, _, rfl, ?_⟩
    rw [← List.map_reverse]
    exact ret_le (MLe.with (MLe.put e6 hMd) mput_same) (h d _ hMd ⟨_, rfl⟩)
  · rintro z items m1 M2 Cn hC ⟨ls, ks, x5, x6, x7, x8, rfl, e1, e2, e3, e4, e5, e6, e7⟩
    refine ⟨srcV_none, ?_⟩
    obtain ⟨k, rfl, k0, k1⟩ := e7 z (by simp)
    rw [List.length_cons] at e5
    have hksz : ks.length < 16777216 := by omega
    have e7' : ∀ z ∈ items, ∃ k : Int, z = .int k ∧ 0 ≤ k ∧ k < 4000 := fun z hz => e7 z (by simp [hz])
    walk_at "st"
    rw [e1]
    refine ⟨_, rfl, by rw [List.length_map]; exact hpos, ?_⟩
    rw [List.length_map]
    have p0 : 0 ≤ k % (cs.length : Int) := Int.emod_nonneg _ (by omega)
    have p1 : k % (cs.length : Int) < cs.length := Int.emod_lt_of_pos _ hpos
    generalize k % (cs.length : Int) = pl at p0 p1
    obtain ⟨cv, _, hcv⟩ := atI_lt p0 p1
    obtain ⟨lv, _, hlv⟩ := atI_lt (xs := ls) p0 (by rw [e3]; exact p1)
    walk_at "s1"
    refine ⟨_, by rw [atI_map, hcv]; rfl, _, rfl, ?_⟩
    split
    · walk_at "st"
      rw [e2, e4]
      refine ⟨⟨_, rfl⟩, _, rfl, _, by rw [atI_map, hlv]; rfl, _, rfl, _, rfl, by rw [List.length_map]; exact hksz, ?_⟩
      have e2' : mput M2 d (.lst (ks.map D.int ++ [.int (lv % 1000)])) l = some (.lst (ls.map D.int)) := by rw [mput_ne hld]; exact e2
      rw [e2']
      refine ⟨_, rfl, _, by rw [atI_map, hlv]; rfl, _, rfl, _, rfl, _, ixN_lt p0 (by rw [List.length_map, e3]; exact p1), ?_⟩
      refine fg_of (hC _ _ ⟨ls.set pl.toNat (lv / 1000), ks ++ [lv % 1000], _, _, _, _, rfl, ?_, ?_, by rw [List.length_set]; exact e3, ?_, by rw [List.length_append, List.length_singleton]; omega, MLe.put (MLe.put e6 hMd) hMl, e7'⟩)
      · rw [mput_ne hcl, mput_ne hcd]
        exact e1
      · rw [mput_same, List.map_set]
      · rw [mput_ne hld.symm, mput_same, List.map_append]
        rfl
    · walk_at "st"
      rw [e1]
      refine ⟨_, rfl, _, by rw [atI_map, hcv]; rfl, _, rfl, ?_⟩
      have m0 : 0 ≤ (cv * 48271 + k * 69621 + 11) % 2147483647 := Int.emod_nonneg _ (by omega)
      have m1 : (cv * 48271 + k * 69621 + 11) % 2147483647 < 2147483647 := Int.emod_lt_of_pos _ (by omega)
      generalize (cv * 48271 + k * 69621 + 11) % 2147483647 = mx at m0 m1
      rw [e4]
      refine ⟨⟨_, rfl⟩, .inl ⟨by omega, by omega⟩, _, rfl, by rw [List.length_map]; exact hksz, ?_⟩
      refine fg_of (hC _ _ ⟨ls, ks ++ [(mx * mx + 3 * mx + k) % 1000003], _, _, _, _, rfl, ?_, ?_, e3, ?_, by rw [List.length_append, List.length_singleton]; omega, MLe.put e6 hMd, e7'⟩)
      · rw [mput_ne hcd]
        exact e1
      · rw [mput_ne hld]
        exact e2
      · rw [mput_same, List.map_append]
        rfl
  · refine ⟨cs, [], _, _, _, _, rfl, ?_, ?_, rfl, mput_same, ?_, MLe.put (MLe.put le1 hMl) hMd, fun z hz => ?_⟩
    · rw [mput_ne hcd]
      exact hM2
    · rw [mput_ne hld]
      exact mput_same
    · simp [rangeD]
      omega
    · simp only [rangeD, List.mem_map, List.mem_range] at hz
      obtain ⟨i, hi, rfl⟩ := hz
      exact ⟨_, rfl, by omega, by omega⟩
/-- the next draw -/
abbrev sp_l_take : DSp := ar2 fun a b M Q => ∃ (p : Addr) (n : Int), a = .ref p ∧ b = .int n ∧ Dr M p ∧ 0 < n ∧ ∀ (o : DO) (r : Int), DrO o → 0 ≤ r → r < n → Q (.int r) (mput M p o)
theorem ok_l_take (F : Def K mg "_law_take" s_l_take ["draws", "many"]) (B : Bi K mg) (I : Im mg)  : Cal P w K mg base 1 "_law_take" ["draws", "many"] sp_l_take := by
  have sc := sc_l_take
  refine F.cal sc (fun ds M Q h => len2 h) (fun f cdv A outer s H E hr => (ds_cons (ds_if (dt_cmp (o_eq (hu_eq hr)) (d_cb c_len rfl B.b_len boot_len (da_cons (d_v 0) da_nil)) d_int (nomark _))
    (ds_one (ds_ret d_int))
    ds_nil)
    (ds_one (ds_ret (d_op o_mod (d_ct c_int rfl B.b_int boot_int (da_cons (d_mt0 PySem.F.slot_list_pop PySem.F.type_list_pop m_pop (d_v 0)) da_nil)) (d_v 1)))))) (fun ds M Q h => ?_)
  obtain ⟨a, b, rfl, p, n, rfl, rfl, ⟨_, e, ks, rfl⟩, hn, h⟩ := h
  walk_at "rd"
  rw [e]
  refine ⟨_, rfl, ?_⟩
  split
  · have z := h _ 0 ⟨ks, rfl⟩ (by omega) hn
    rw [mput_self e] at z
    exact ret_of z
  · next ne =>
    cases q : ks.getLast? with
    | none =>
      rw [List.getLast?_eq_none_iff] at q
      subst q
      exact absurd rfl ne
    | some k =>
      refine ⟨⟨_, rfl⟩, _, rfl, _, by rw [List.getLast?_map, q]; rfl, _, rfl, hn, ?_⟩
      rw [← List.map_dropLast]
      exact ret_of (h _ _ ⟨_, rfl⟩ (Int.emod_nonneg _ (by omega)) (Int.emod_lt_of_pos _ hn))
/-- one of a row -/
abbrev sp_l_pick : DSp := ar2 fun a b M Q => ∃ (p : Addr) (row : List D), a = .ref p ∧ dItems b M = some row ∧ b ≠ .ref p ∧ Dr M p ∧ row ≠ [] ∧
  ∀ (o : DO) (x : D), DrO o → x ∈ row → Q x (mput M p o)
theorem ok_l_pick (F : Def K mg "_law_pick" s_l_pick ["draws", "row"]) (B : Bi K mg) (I : Im mg) (c_l_take : Cal P w K mg base 1 "_law_take" ["draws", "many"] sp_l_take) : Cal P w K mg base 2 "_law_pick" ["draws", "row"] sp_l_pick := by
  have sc := sc_l_pick
  refine F.cal sc (fun ds M Q h => len2 h) (fun f cdv A outer s H E hr => (ds_one (ds_ret (d_ix x_ix (d_v 1) (d_call c_l_take (hr.mono (by first | decide | omega)) rfl (da_cons (d_v 0) (da_cons (d_cb c_len rfl B.b_len boot_len (da_cons (d_v 1) da_nil)) da_nil))) (fun _ _ => rfl))))) (fun ds M Q h => ?_)
  obtain ⟨a, b, rfl, p, row, rfl, hb, hne, e, hr, h⟩ := h
  walk_at "p"
  have hl := len_items hb
  have hpos : (0 : Int) < (row.length : Int) := by
    cases row with
    | nil => exact absurd rfl hr
    | cons x r => rw [List.length_cons]; omega
  refine ⟨_, hl, e, hpos, fun o r ho r0 r1 => ?_⟩
  obtain ⟨x, hx, hat⟩ := atI_lt r0 r1
  exact ⟨row, by rw [items_put hne]; exact hb, x, hat, ret_of (h o x ho hx)⟩

set_option maxHeartbeats 4000000
/-- equal values of the same kinds, of plain data: whether they are equal -/
def spE (n : Nat) : DSp := ar2 fun a b M Q => pln a = true ∧ pln b = true ∧ dOk n a = true ∧ dOk n b = true ∧ Q (.bl (D.eqv a b)) M
def spE' : Nat → DSp
  | 0 => fun _ _ _ => False
  | n + 1 => spE n
abbrev sp_l_same : DSp := ar2 fun a b M Q => pln a = true ∧ pln b = true ∧ dOk 12 a = true ∧ dOk 12 b = true ∧ Q (.bl (D.eqv a b)) M
theorem eqvAll_len : ∀ {xs ys : List D}, PyData.eqvAll (D.pys xs) (D.pys ys) = true → xs.length = ys.length
  | [], [], _ => rfl
  | [], _ :: _, h => by simp [D.pys, PyData.eqvAll] at h
  | _ :: _, [], h => by simp [D.pys, PyData.eqvAll] at h
  | _ :: xs, _ :: ys, h => by
    simp only [D.pys, PyData.eqvAll, Bool.and_eq_true] at h
    rw [List.length_cons, List.length_cons, eqvAll_len h.2]
theorem eqvAll_get : ∀ {xs ys : List D}, xs.length = ys.length → PyData.eqvAll (D.pys xs) (D.pys ys) = (List.range ys.length).all fun k => D.eqv (xs.getD k .non) (ys.getD k .non)
  | [], [], _ => rfl
  | x :: xs, y :: ys, h => by
    have ih := eqvAll_get (xs := xs) (ys := ys) (by simpa using h)
    show (PyData.eqv x.py y.py && PyData.eqvAll (D.pys xs) (D.pys ys)) = _
    rw [ih, List.length_cons, List.range_succ_eq_map, List.all_cons, List.all_map]
    rfl
theorem eqv_tt (xs ys : List D) : D.eqv (.tup xs) (.tup ys) = PyData.eqvAll (D.pys xs) (D.pys ys) := rfl
theorem eqv_ll (xs ys : List D) : D.eqv (.lst xs) (.lst ys) = PyData.eqvAll (D.pys xs) (D.pys ys) := rfl
theorem notin_all (l : List Nat) (f : Nat → Bool) : (!((l.map fun k => D.bl (f k)).any fun z => z.eqv (D.bl false))) = l.all f := by
  induction l with
  | nil => rfl
  | cons x l ih =>
    rw [List.map_cons, List.any_cons, Bool.not_or, ih, List.all_cons, eqv_bl]
    cases f x <;> rfl
theorem l_same_listE {n : Nat} {a b : D} {xs ys : List D} (hl : xs.length = ys.length) (ha : ∀ M, dItems a M = some xs) (hb : ∀ M, dItems b M = some ys) (hp : plns xs = true) (hq : plns ys = true) (hw : xs.all (dOk n) = true) (hx : ys.all (dOk n) = true) {j : Nat} {M : DM} {C1 : D → DM → Prop} (hj : j < ys.length) (q : C1 (.bl (D.eqv (xs.getD j .non) (ys.getD j .non))) M) (m : DSt) (h0 : m[0]? = some (some a)) (h1 : m[1]? = some (some b)) (h2 : m[2]? = some (some (.int j))) :
    dCall (spE n) (dCons (dOp dIx (dVar 0) (dVar 2)) (dCons (dOp dIx (dVar 1) (dVar 2)) dNil)) m M C1 := by
  have hj2 : j < xs.length := by omega
  have ho : dOk n ys[j] = true := List.all_eq_true.mp hx _ (List.getElem_mem hj)
  have hi : atI xs (j : Int) = some xs[j] := by rw [atI_n, List.getElem?_eq_getElem hj2]
  have hk : atI ys (j : Int) = some ys[j] := by rw [atI_n, List.getElem?_eq_getElem hj]
  have e1 : xs.getD j .non = xs[j] := by simp [hj2]
  have e2 : ys.getD j .non = ys[j] := by simp [hj]
  rw [e1, e2] at q
  refine ⟨a, h0, .int j, h2, xs, j, xs[j], ha M, rfl, hi, b, h1, .int j, h2, ys, j, ys[j], hb M, rfl, hk, xs[j], ys[j], rfl, plns_iff.mp hp _ (List.getElem_mem hj2), plns_iff.mp hq _ (List.getElem_mem hj), List.all_eq_true.mp hw _ (List.getElem_mem hj2), ho, q⟩
theorem ok_l_same_step (F : Def K mg "_law_same" s_l_same ["actual", "due"]) (B : Bi K mg) (I : Im mg) (n : Nat) (c_l_same : Cal P w K mg base n "_law_same" ["actual", "due"] (spE' n)) : Cal P w K mg base (n + 1) "_law_same" ["actual", "due"] (spE n) := by
  have sc := sc_l_same
  refine F.cal sc (fun ds M Q h => len2 h) (fun f cdv A outer s H E hr => (ds_cons (ds_if (dt_val (d_cb c_isT rfl B.b_isinstance boot_isinstance (da_cons (d_v 1) (da_cons (d_tup (da_cons (d_ty rfl B.b_tuple boot_tuple) (da_cons (d_ty rfl B.b_list boot_list) da_nil))) da_nil))))
    (ds_cons (ds_if (dt_w (dw_or (dt_cmp (o_ne (hu_eq hr)) (d_cb c_is rfl B.b_isinstance boot_isinstance (da_cons (d_v 0) (da_cons (d_ty rfl B.b_tuple boot_tuple) da_nil))) (d_cb c_is rfl B.b_isinstance boot_isinstance (da_cons (d_v 1) (da_cons (d_ty rfl B.b_tuple boot_tuple) da_nil))) (nomark _)) (dw_or1 (dt_cmp (o_ne (hu_eq hr)) (d_cb c_is rfl B.b_isinstance boot_isinstance (da_cons (d_v 0) (da_cons (d_ty rfl B.b_list boot_list) da_nil))) (d_cb c_is rfl B.b_isinstance boot_isinstance (da_cons (d_v 1) (da_cons (d_ty rfl B.b_list boot_list) da_nil))) (nomark _)))))
    (ds_one (ds_ret d_bl))
    ds_nil)
    (ds_cons (ds_if (dt_cmp (o_ne (hu_eq hr)) (d_cb c_len rfl B.b_len boot_len (da_cons (d_v 0) da_nil)) (d_cb c_len rfl B.b_len boot_len (da_cons (d_v 1) da_nil)) (nomark _))
    (ds_one (ds_ret d_bl))
    ds_nil)
    (ds_one (ds_ret (d_cmp (o_notin (hu_in hr)) d_bl (d_lcF rfl sc.nd (own := [("k", 2)]) (di_range1 rfl B.b_range (da_cons (d_cb c_lenB rfl B.b_len boot_len (da_cons (d_v 1) da_nil)) da_nil)) (blkOk_by (N := N_l_same) (sc := defScope s_l_same) (by decide +kernel)) (by decide) (fun _ _ _ _ _ => (dg_name (i := 2) sc.nd rfl (Or.inl rfl))) (fun _ _ _ _ _ => dts_nil) (fun _ _ _ _ _ => (d_call c_l_same (hr.mono (by first | decide | omega)) rfl (da_cons (d_ix x_ix (d_v 0) (d_v 2) (fun _ _ => rfl)) (da_cons (d_ix x_ix (d_v 1) (d_v 2) (fun _ _ => rfl)) da_nil))))) rfl)))))
    ds_nil)
    (ds_cons (ds_if (dt_w (dw_or (dt_cmp (o_ne (hu_eq hr)) (d_cb c_is rfl B.b_isinstance boot_isinstance (da_cons (d_v 0) (da_cons (d_ty rfl B.b_bool boot_bool) da_nil))) (d_cb c_is rfl B.b_isinstance boot_isinstance (da_cons (d_v 1) (da_cons (d_ty rfl B.b_bool boot_bool) da_nil))) (nomark _)) (dw_or1 (dt_cmp (o_ne (hu_eq hr)) (d_cb c_is rfl B.b_isinstance boot_isinstance (da_cons (d_v 0) (da_cons (d_ty rfl B.b_int boot_int) da_nil))) (d_cb c_is rfl B.b_isinstance boot_isinstance (da_cons (d_v 1) (da_cons (d_ty rfl B.b_int boot_int) da_nil))) (nomark _)))))
    (ds_one (ds_ret d_bl))
    ds_nil)
    (ds_cons (ds_if (dt_w (dw_or (dt_cmp (o_ne (hu_eq hr)) (d_cb c_is rfl B.b_isinstance boot_isinstance (da_cons (d_v 0) (da_cons (d_ty rfl B.b_str boot_str) da_nil))) (d_cb c_is rfl B.b_isinstance boot_isinstance (da_cons (d_v 1) (da_cons (d_ty rfl B.b_str boot_str) da_nil))) (nomark _)) (dw_or1 (dt_cmp (o_ne (hu_eq hr)) (d_cmp o_is (d_v 0) d_non (nomark _)) (d_cmp o_is (d_v 1) d_non (nomark _)) (nomark _)))))
    (ds_one (ds_ret d_bl))
    ds_nil)
    (ds_one (ds_ret (d_cmp (o_eq (hu_eq hr)) (d_v 0) (d_v 1) (nomark _)))))))) (fun ds M Q h => ?_)
  obtain ⟨a, b, rfl, ha, hp, hda, hb, h⟩ := h
  cases b with
  | bl i => cases hp
  | dct i => cases hp
  | ref i => cases hp
  | ty i => cases hp
  | non =>
    cases a with
    | bl i => cases ha
    | dct i => cases ha
    | ref i => cases ha
    | ty i => cases ha
    | non =>
      walk_at "rd"
      exact ret_of h
    | int i =>
      walk_at "rd"
      exact ret_of h
    | str x =>
      walk_at "rd"
      exact ret_of h
    | tup xs =>
      walk_at "rd"
      exact ret_of h
    | lst xs =>
      walk_at "rd"
      exact ret_of h
  | int i =>
    cases a with
    | bl i => cases ha
    | dct i => cases ha
    | ref i => cases ha
    | ty i => cases ha
    | non =>
      walk_at "rd"
      exact ret_of h
    | int j =>
      walk_at "rd"
      rw [eqv_int] at h
      exact ret_of h
    | str x =>
      walk_at "rd"
      exact ret_of h
    | tup xs =>
      walk_at "rd"
      exact ret_of h
    | lst xs =>
      walk_at "rd"
      exact ret_of h
  | str x =>
    have hx : PyData.strOk x = true := by
      rw [dOk_str] at hb
      exact hb
    cases a with
    | bl i => cases ha
    | dct i => cases ha
    | ref i => cases ha
    | ty i => cases ha
    | non =>
      walk_at "rd"
      exact ret_of h
    | int j =>
      walk_at "rd"
      exact ret_of h
    | str y =>
      have hy : PyData.strOk y = true := by
        rw [dOk_str] at hda
        exact hda
      walk_at "rd"
      rw [eqv_str] at h
      exact ⟨hy, hx, ret_of h⟩
    | tup xs =>
      walk_at "rd"
      exact ret_of h
    | lst xs =>
      walk_at "rd"
      exact ret_of h
  | tup ys =>
    cases a with
    | bl i => cases ha
    | dct i => cases ha
    | ref i => cases ha
    | ty i => cases ha
    | non =>
      walk_at "rd"
      exact ret_of h
    | int j =>
      walk_at "rd"
      exact ret_of h
    | str y =>
      walk_at "rd"
      exact ret_of h
    | lst xs =>
      walk_at "rd"
      exact ret_of h
    | tup xs =>
      walk_at "rd"
      rw [eqv_tt] at h
      split
      · next c =>
        have e : PyData.eqvAll (D.pys xs) (D.pys ys) = false := by
          cases q : PyData.eqvAll (D.pys xs) (D.pys ys) with
          | false => rfl
          | true => exact absurd (congrArg Nat.cast (eqvAll_len q)) c
        rw [e] at h
        exact ret_of h
      · next c =>
        have hl : xs.length = ys.length := by omega
        intro hz
        refine ⟨by omega, by omega, fun _ => ?_⟩
        cases n with
        | zero => cases hb
        | succ n =>
          have hx : ys.all (dOk n) = true := hb
          have hw : xs.all (dOk n) = true := hda
          have pa : plns xs = true := ha
          have pb : plns ys = true := hp
          refine lc_map (List.range ys.length) (fun i => D.int (0 + (i : Nat))) (fun k => .bl (D.eqv (xs.getD k .non) (ys.getD k .non))) (by simp [rangeD]) srcV_none (fun x hx' M l C1 h1 => ?_) fun p hp => ?_
          · exact l_same_listE hl (fun _ => rfl) (fun _ => rfl) pa pb hw hx (List.mem_range.mp hx') h1 _ rfl rfl (by simp)
          · simp only [mdel_mput hp]
            refine ⟨by simp, ?_⟩
            rw [notin_all, ← eqvAll_get hl]
            exact ret_of h
  | lst ys =>
    cases a with
    | bl i => cases ha
    | dct i => cases ha
    | ref i => cases ha
    | ty i => cases ha
    | non =>
      walk_at "rd"
      exact ret_of h
    | int j =>
      walk_at "rd"
      exact ret_of h
    | str y =>
      walk_at "rd"
      exact ret_of h
    | tup xs =>
      walk_at "rd"
      exact ret_of h
    | lst xs =>
      walk_at "rd"
      rw [eqv_ll] at h
      split
      · next c =>
        have e : PyData.eqvAll (D.pys xs) (D.pys ys) = false := by
          cases q : PyData.eqvAll (D.pys xs) (D.pys ys) with
          | false => rfl
          | true => exact absurd (congrArg Nat.cast (eqvAll_len q)) c
        rw [e] at h
        exact ret_of h
      · next c =>
        have hl : xs.length = ys.length := by omega
        intro hz
        refine ⟨by omega, by omega, fun _ => ?_⟩
        cases n with
        | zero => cases hb
        | succ n =>
          have hx : ys.all (dOk n) = true := hb
          have hw : xs.all (dOk n) = true := hda
          have pa : plns xs = true := ha
          have pb : plns ys = true := hp
          refine lc_map (List.range ys.length) (fun i => D.int (0 + (i : Nat))) (fun k => .bl (D.eqv (xs.getD k .non) (ys.getD k .non))) (by simp [rangeD]) srcV_none (fun x hx' M l C1 h1 => ?_) fun p hp => ?_
          · exact l_same_listE hl (fun _ => rfl) (fun _ => rfl) pa pb hw hx (List.mem_range.mp hx') h1 _ rfl rfl (by simp)
          · simp only [mdel_mput hp]
            refine ⟨by simp, ?_⟩
            rw [notin_all, ← eqvAll_get hl]
            exact ret_of h
theorem ok_l_same (F : Def K mg "_law_same" s_l_same ["actual", "due"]) (B : Bi K mg) (I : Im mg) : Cal P w K mg base 13 "_law_same" ["actual", "due"] sp_l_same := by
  have z : ∀ n : Nat, Cal P w K mg base (n + 1) "_law_same" ["actual", "due"] (spE n) := by
    intro n
    induction n with
    | zero => exact ok_l_same_step F B I 0 F.nil
    | succ n ih => exact ok_l_same_step F B I (n + 1) ih
  exact z 12
/-! ### words -/
def wok (B : Nat) (w : Str) : Prop := 1 ≤ w.length ∧ w.length ≤ B ∧ (∀ c ∈ w.cps.toList, 97 ≤ c ∧ c ≤ 122) ∧ (w.length ≤ 25 ∨ ∀ c ∈ w.cps.toList, c = 122)
theorem wok_mono {A B : Nat} {w : Str} (h : wok A w) (l : A ≤ B) : wok B w := ⟨h.1, Nat.le_trans h.2.1 l, h.2.2⟩
theorem wok_str {B : Nat} {w : Str} (h : wok B w) : PyData.strOk w = true := by
  unfold PyData.strOk
  rw [← Array.all_toList]
  refine List.all_eq_true.mpr fun c hc => ?_
  have := (h.2.2.1 c hc).2
  exact decide_eq_true (by omega)
theorem alpha_sgn {i : Int} (h0 : 0 ≤ i) (h1 : i < 26) : ∃ c : Nat, sgn "abcdefghijklmnopqrstuvwxyz" i = some (SS [c]) ∧ 97 ≤ c ∧ c ≤ 122 := by
  have z : ∀ n : Fin 26, ∃ c : Nat, sgn "abcdefghijklmnopqrstuvwxyz" ((n.val : Nat) : Int) = some (SS [c]) ∧ 97 ≤ c ∧ c ≤ 122 := by
    intro n
    refine ⟨97 + n.val, ?_, by omega, by omega⟩
    revert n
    decide +kernel
  obtain ⟨n, rfl⟩ := Int.eq_ofNat_of_zero_le h0
  exact z ⟨n, by omega⟩
theorem ss_len (cs : List Nat) : (SS cs).length = cs.length := by simp [Str.length]
theorem srep_z {n c : Nat} (h : c ∈ (srep (Str.ofString "z") n).cps.toList) : c = 122 := by
  have e : (Str.ofString "z").cps.toList = [122] := by decide +kernel
  have h' : c ∈ (List.replicate n [122]).flatten := by simpa [srep, e] using h
  obtain ⟨l, hl, hc⟩ := List.mem_flatten.mp h'
  rw [(List.mem_replicate.mp hl).2] at hc
  simpa using hc
abbrev sp_l_words : DSp := ar2 fun a b M Q => ∃ (p : Addr) (n : Nat), a = .ref p ∧ b = .int n ∧ n ≤ 100 ∧ Dr M p ∧ ∀ (o : DO) (ws : List Str), DrO o → ws.length = n → ws.Nodup → (∀ w ∈ ws, wok (25 + n) w) → Q (.lst (ws.map D.str)) (mput M p o)
theorem ok_l_words (F : Def K mg "_law_words" s_l_words ["draws", "many"]) (B : Bi K mg) (I : Im mg) (c_l_take : Cal P w K mg base 1 "_law_take" ["draws", "many"] sp_l_take) : Cal P w K mg base 2 "_law_words" ["draws", "many"] sp_l_words := by
  have sc := sc_l_words
  refine F.cal sc (fun ds M Q h => len2 h) (fun f cdv A outer s H E hr => (ds_cons (ds_set (i := 2) sc.nd rfl (Or.inl rfl) (d_lst da_nil))
    (ds_cons (ds_for PassesOwn.never rfl (di_range1 rfl B.b_range (da_cons (d_v 1) da_nil)) (dg_name (i := 3) sc.nd rfl (Or.inl rfl))
    (ds_cons (ds_set (i := 4) sc.nd rfl (Or.inl rfl) (d_op o_add d_int (d_call c_l_take (hr.mono (by first | decide | omega)) rfl (da_cons (d_v 0) (da_cons d_int da_nil)))))
    (ds_cons (ds_if (dt_cmp (o_eq (hu_eq hr)) (d_call c_l_take (hr.mono (by first | decide | omega)) rfl (da_cons (d_v 0) (da_cons d_int da_nil))) d_int (nomark _))
    (ds_one (ds_set (i := 4) sc.nd rfl (Or.inl rfl) (d_op o_add (d_op o_add (d_v 4) d_int) (d_call c_l_take (hr.mono (by first | decide | omega)) rfl (da_cons (d_v 0) (da_cons d_int da_nil))))))
    ds_nil)
    (ds_cons (ds_set (i := 5) sc.nd rfl (Or.inl rfl) (d_join d_str (da_cons (d_lcF rfl sc.nd (own := [("j", 6)]) (di_range1 rfl B.b_range (da_cons (d_v 4) da_nil)) (blkOk_by (N := N_l_words) (sc := defScope s_l_words) (by decide +kernel)) (by decide) (fun _ _ _ _ _ => (dg_name (i := 6) sc.nd rfl (Or.inl rfl))) (fun _ _ _ _ _ => dts_nil) (fun _ _ _ _ _ => (d_ix x_ixS d_str (d_call c_l_take (hr.mono (by first | decide | omega)) rfl (da_cons (d_v 0) (da_cons d_int da_nil))) (fun _ _ => rfl)))) da_nil)))
    (ds_cons (ds_if (dt_cmp (o_in (hu_in hr)) (d_v 5) (d_v 2) rfl)
    (ds_one (ds_set (i := 5) sc.nd rfl (Or.inl rfl) (d_op o_mulA d_str (d_op o_add d_int (d_cb (c_max rfl) rfl B.b_max boot_max (da_cons (d_lcF rfl sc.nd (own := [("other", 7)]) (di_seq (d_v 2)) (blkOk_by (N := N_l_words) (sc := defScope s_l_words) (by decide +kernel)) (by decide) (fun _ _ _ _ _ => (dg_name (i := 7) sc.nd rfl (Or.inl rfl))) (fun _ _ _ _ _ => dts_nil) (fun _ _ _ _ _ => (d_cb c_len rfl B.b_len boot_len (da_cons (d_v 7) da_nil)))) da_nil))))))
    ds_nil)
    (ds_one (ds_expr (d_mt PySem.F.slot_list_append PySem.F.type_list_append m_append (d_v 2) (da_cons (d_v 5) da_nil)))))))))
    (ds_one (ds_ret (d_fz (d_v 2))))))) (fun ds M Q h => ?_)
  obtain ⟨a, b, rfl, p, n, rfl, rfl, hn, ⟨o0, e0, ho0⟩, h⟩ := h
  walk_at "st"
  intro q hq
  have hpq : p ≠ q := ne_of_fresh e0 hq
  walk_at "st"
  refine ⟨by omega, by omega, fun _ => ?_⟩
  have hl : (rangeD 0 ((n : Int)).toNat).length = n := by simp [rangeD]
  generalize rangeD 0 ((n : Int)).toNat = items at hl
  refine for_ind (fun items m1 M1 => ∃ (o : DO) (ws : List Str) (x3 x4 x5 x6 x7 : Option D), m1 = [some (.ref p), some (.int n), some (.ref q), x3, x4, x5, x6, x7] ∧ DrO o ∧ M1 = mput (mput M p o) q (.lst (ws.map D.str)) ∧
    ws.length + items.length = n ∧ ws.Nodup ∧ ∀ w ∈ ws, wok (25 + ws.length) w) ?_ ?_ _ _ _ ?_
  · rintro m1 M1 ⟨o, ws, x3, x4, x5, x6, x7, rfl, ho, rfl, e1, e2, e3⟩
    refine ⟨srcV_none, ?_⟩
    walk_at "rd"
    have e1' : ws.length = n := by simpa using e1
    refine ⟨_, rfl, ?_⟩
    rw [mdel_mput (mput_fresh hpq hq)]
    exact ret_of (h o ws ho e1' e2 (by rw [← e1']; exact e3))
  · rintro z items m1 M1 Cn hC ⟨o, ws, x3, x4, x5, x6, x7, rfl, ho, rfl, e1, e2, e3⟩
    refine ⟨srcV_none, ?_⟩
    rw [List.length_cons] at e1
    walk_at "st"
    refine ⟨dr_ne (dr_put ho) hpq, fun o1 r1 ho1 r10 r11 => ?_⟩
    rw [mput_swap hpq]
    have hd : ∀ o', DrO o' → Dr (mput (mput M p o') q (.lst (ws.map D.str))) p := fun o' ho' => dr_ne (dr_put ho') hpq
    refine seq_cut (fun m2 M2 => ∃ (o2 : DO) (s : Nat), DrO o2 ∧ 1 ≤ s ∧ s ≤ 25 ∧ M2 = mput (mput M p o2) q (.lst (ws.map D.str)) ∧ m2 = [some (.ref p), some (.int n), some (.ref q), some z, some (.int s), x5, x6, x7]) (fun Cn2 hC2 => ?_) ?_
    · walk_at "s1"
      refine ⟨hd o1 ho1, fun o2 r2 ho2 r20 r21 => ?_⟩
      rw [mput_swap hpq]
      split
      · refine ⟨hd o2 ho2, fun o3 r3 ho3 r30 r31 => ?_⟩
        rw [mput_swap hpq]
        refine hC2 _ _ ⟨o3, (1 + r1 + 3 + r3).toNat, ho3, by omega, by omega, rfl, ?_⟩
        have e : (((1 + r1 + 3 + r3).toNat : Nat) : Int) = 1 + r1 + 3 + r3 := by omega
        rw [e]
      · refine hC2 _ _ ⟨o2, (1 + r1).toNat, ho2, by omega, by omega, rfl, ?_⟩
        have e : (((1 + r1).toNat : Nat) : Int) = 1 + r1 := by omega
        rw [e]
    rintro m2 M2 ⟨o2, s, ho2, s0, s1, rfl, rfl⟩
    walk_at "st"
    refine ⟨by omega, by omega, fun _ r hr => ?_⟩
    have hpr : p ≠ r := by
      obtain ⟨o', e', _⟩ := hd o2 ho2
      exact ne_of_fresh e' hr
    have hqr : q ≠ r := ne_of_fresh mput_same hr
    have hrM : M r = none := by
      rw [mput_ne hqr.symm, mput_ne hpr.symm] at hr
      exact hr
    have hl2 : (rangeD 0 ((s : Int)).toNat).length = s := by simp [rangeD]
    generalize rangeD 0 ((s : Int)).toNat = its at hl2
    refine lc_ind (fun its acc M3 => ∃ (o3 : DO) (cs : List Nat), DrO o3 ∧ M3 = mput (mput (mput M p o3) q (.lst (ws.map D.str))) r (.lst acc) ∧ acc = (cs.map fun c => SS [c]).map D.str ∧ cs.length + its.length = s ∧ ∀ c ∈ cs, 97 ≤ c ∧ c ≤ 122) ?_ ?_ _ _ _ ?_
    · rintro acc M3 ⟨o3, cs, ho3, rfl, rfl, f1, f2⟩
      refine ⟨srcV_none, ?_⟩
      have f1' : cs.length = s := by simpa using f1
      have hfr : mput (mput M p o3) q (.lst (ws.map D.str)) r = none := by
        rw [mput_ne hqr.symm, mput_ne hpr.symm]
        exact hrM
      rw [mdel_mput hfr]
      refine ⟨cs.map fun c => SS [c], rfl, ?_, ?_⟩
      · rw [len_one, List.length_map]
        show _ + _ * 0 ≤ _
        omega
      rw [DL.join_one]
      have wk : wok 25 (SS cs) := ⟨by rw [ss_len]; omega, by rw [ss_len]; omega, f2, .inl (by rw [ss_len]; omega)⟩
      refine seq_cut (fun m4 M4 => ∃ (w : Str) (x7' : Option D), wok (25 + (ws.length + 1)) w ∧ w ∉ ws ∧ M4 = mput (mput M p o3) q (.lst (ws.map D.str)) ∧ m4 = [some (.ref p), some (.int n), some (.ref q), some z, some (.int s), some (.str w), x6, x7']) (fun Cn4 hC4 => ?_) ?_
      · have hws : (ws.map D.str).all (dOk 63) = true := by
          rw [List.all_map]
          exact List.all_eq_true.mpr fun w hw => by
            show dOk 63 (.str w) = true
            rw [dOk_str]
            exact wok_str (e3 w hw)
        walk_at "s1"
        refine ⟨wok_str wk, hws, ?_⟩
        rw [any_strs]
        split
        · next hin =>
          have hin' : SS cs ∈ ws := by simpa using hin
          intro _
          refine lc_map (ws) D.str (fun w => D.int (w.length : Nat)) rfl (fun a e => by cases e; exact mput_same) (fun w hw M5 l5 C1 h5 => ?_) fun r5 hr5 => ?_
          · walk_at "s1"
            have := (e3 w hw).2.1
            exact ⟨_, by rw [if_pos (by omega)], h5⟩
          · rw [mdel_mput hr5]
            refine ⟨ws.map fun w => ((w.length : Nat) : Int), by rw [List.map_map] <;> rfl, ?_, fun mx hmx hle => ?_⟩
            · rw [List.length_map]
              exact List.length_pos_of_mem hin'
            obtain ⟨w0, hw0, rfl⟩ := List.mem_map.mp hmx
            have b0 := (e3 w0 hw0).2.1
            have e5 : (1 + ((w0.length : Nat) : Int)).toNat = 1 + w0.length := by omega
            rw [e5]
            have e6 : (Str.ofString "z").length = 1 := by decide +kernel
            have e7 : (srep (Str.ofString "z") (1 + w0.length)).length = 1 + w0.length := by rw [srep_len, e6, Nat.one_mul]
            refine ⟨by omega, by omega, by rw [e6]; omega, hC4 _ _ ⟨_, _, ⟨by rw [e7]; omega, by rw [e7]; omega, ?_, .inr ?_⟩, ?_, rfl, rfl⟩⟩
            · intro c hc
              have : c = 122 := srep_z hc
              omega
            · exact fun c hc => srep_z hc
            · intro hm
              have := hle _ (List.mem_map.mpr ⟨_, hm, rfl⟩)
              rw [e7] at this
              omega
        · next hin => exact hC4 _ _ ⟨SS cs, _, wok_mono wk (by omega), by simpa using hin, rfl, rfl⟩
      rintro m4 M4 ⟨w, x7', hw, hnw, rfl, rfl⟩
      walk_at "rd"
      refine ⟨⟨_, rfl⟩, _, rfl, by rw [List.length_map]; omega, fg_of (hC _ _ ⟨o3, ws ++ [w], _, _, _, _, _, rfl, ho3, ?_, by rw [List.length_append, List.length_singleton]; omega, ?_, ?_⟩)⟩
      · rw [List.map_append]
        rfl
      · rw [List.nodup_append]
        refine ⟨e2, by simp, fun a ha b hb => ?_⟩
        have hb' : b = w := by simpa using hb
        rw [hb']
        exact fun e => hnw (e ▸ ha)
      · intro u hu
        rw [List.length_append, List.length_singleton]
        rcases List.mem_append.mp hu with hu | hu
        · exact wok_mono (e3 u hu) (by omega)
        · have hu' : u = w := by simpa using hu
          rw [hu']
          exact hw
    · rintro d its acc M3 Cn5 hC5 ⟨o3, cs, ho3, rfl, rfl, f1, f2⟩
      refine ⟨srcV_none, ?_⟩
      rw [List.length_cons] at f1
      walk_at "s1"
      refine ⟨dr_ne (dr_ne (dr_put ho3) hpq) hpr, fun o4 i ho4 i0 i1 => ?_⟩
      obtain ⟨c, hc, c0, c1⟩ := alpha_sgn i0 i1
      refine ⟨by decide +kernel, _, hc, ?_⟩
      rw [mput_comm hpr.symm, mput_swap hpq]
      refine ⟨mput_same, ?_⟩
      rw [mput_mput]
      refine hC5 _ _ ⟨o4, cs ++ [c], ho4, rfl, by simp, by rw [List.length_append, List.length_singleton]; omega, ?_⟩
      intro e he
      rcases List.mem_append.mp he with he | he
      · exact f2 e he
      · have : e = c := by simpa using he
        omega
    · exact ⟨o2, [], ho2, rfl, rfl, by simpa using hl2, by simp⟩
  · exact ⟨o0, [], _, _, _, _, _, rfl, ho0, by rw [mput_self e0]; rfl, by simpa using hl, by simp, by simp⟩
/-! ### terms, literals, rules -/
def isV (d : D) : Prop := (∃ i, d = .int i) ∨ ∃ s, d = .str s ∧ PyData.strOk s = true
theorem isV_pl {d : D} (h : isV d) : pln d = true := by
  rcases h with ⟨i, rfl⟩ | ⟨s, rfl, _⟩ <;> rfl
theorem isV_ok {d : D} (h : isV d) (n : Nat) : dOk n d = true := by
  rcases h with ⟨i, rfl⟩ | ⟨s, rfl, hs⟩
  · simp
  · rw [dOk_str]; exact hs
inductive Tm where
  | var (x : Str)
  | val (d : D)
def tmD : Tm → D
  | .var x => .tup [.str "var", .str x]
  | .val d => .tup [.str "value", d]
def tmOk : Tm → Prop
  | .var x => PyData.strOk x = true
  | .val d => isV d
/-- a term's word -/
def tmV : Tm → Option Str
  | .var x => some x
  | .val _ => none
inductive Lit where
  | atom (how : D) (name : Str) (ts : List Tm)
  | test (kind : Str) (a b : Tm)
def liD : Lit → D
  | .atom h n ts => .tup [.str "atom", h, .str n, .tup (ts.map tmD)]
  | .test k a b => .tup [.str k, tmD a, tmD b]
theorem tmD_var (x : Str) : tmD (.var x) = .tup [.str "var", .str x] := rfl
theorem tmD_val (d : D) : tmD (.val d) = .tup [.str "value", d] := rfl
theorem liD_atom (h : D) (n : Str) (ts : List Tm) : liD (.atom h n ts) = .tup [.str "atom", h, .str n, .tup (ts.map tmD)] := rfl
theorem liD_test (k : Str) (a b : Tm) : liD (.test k a b) = .tup [.str k, tmD a, tmD b] := rfl
def howK (k : Str) : Prop := k = "once" ∨ k = "always" ∨ k = "ago" ∨ k = "ahead" ∨ k = "soon" ∨ k = "henceforth"
def howOk (d : D) : Prop := d = .tup [.str "now"] ∨ ∃ k, howK k ∧ (d = .tup [.str k, .non] ∨ ∃ i : Int, 0 ≤ i ∧ d = .tup [.str k, .int i])
theorem howK_str {k : Str} (h : howK k) : PyData.strOk k = true := by
  rcases h with rfl | rfl | rfl | rfl | rfl | rfl <;> decide +kernel
theorem howOk_pl {d : D} (h : howOk d) : pln d = true := by
  rcases h with rfl | ⟨k, _, rfl | ⟨i, _, rfl⟩⟩ <;> rfl
theorem howOk_ok {d : D} (h : howOk d) (n : Nat) : dOk (n + 1) d = true := by
  rcases h with rfl | ⟨k, hk, rfl | ⟨i, _, rfl⟩⟩
  · have : PyData.strOk (Str.ofString "now") = true := by decide +kernel
    simp [dOk_tup, dOk_str, this]
  · simp [dOk_tup, dOk_str, howK_str hk]
  · simp [dOk_tup, dOk_str, howK_str hk]
def liOk : Lit → Prop
  | .atom h n ts => howOk h ∧ PyData.strOk n = true ∧ ts.length ≤ 8 ∧ ∀ t ∈ ts, tmOk t
  | .test k a b => (k = "less" ∨ k = "unlike") ∧ tmOk a ∧ tmOk b
def isT : Lit → Bool
  | .atom _ _ _ => false
  | .test _ _ _ => true
def liTs : Lit → List Tm
  | .atom _ _ ts => ts
  | .test _ a b => [a, b]
theorem tmD_pl {t : Tm} (h : tmOk t) : pln (tmD t) = true := by
  cases t with
  | var x => rfl
  | val d =>
    show (true && (pln d && true)) = true
    rw [isV_pl h]
    rfl
theorem sk_var : PyData.strOk (Str.ofString "var") = true := by decide +kernel
theorem sk_value : PyData.strOk (Str.ofString "value") = true := by decide +kernel
theorem sk_atom : PyData.strOk (Str.ofString "atom") = true := by decide +kernel
theorem sk_less : PyData.strOk (Str.ofString "less") = true := by decide +kernel
theorem sk_unlike : PyData.strOk (Str.ofString "unlike") = true := by decide +kernel
theorem kn_value_var : (Str.ofString "value" = Str.ofString "var") = False := eq_false (by decide)
theorem kn_var_value : (Str.ofString "var" = Str.ofString "value") = False := eq_false (by decide)
theorem kn_less_atom : (Str.ofString "less" = Str.ofString "atom") = False := eq_false (by decide)
theorem kn_unlike_atom : (Str.ofString "unlike" = Str.ofString "atom") = False := eq_false (by decide)
theorem tmD_ok {t : Tm} (h : tmOk t) (n : Nat) : dOk (n + 1) (tmD t) = true := by
  cases t with
  | var x =>
    have h' : PyData.strOk x = true := h
    simp [tmD, dOk_tup, dOk_str, sk_var, h']
  | val d => simp [tmD, dOk_tup, dOk_str, sk_value, isV_ok h n]
theorem tms_pl {ts : List Tm} (h : ∀ t ∈ ts, tmOk t) : plns (ts.map tmD) = true := plns_iff.mpr fun x hx => by
  obtain ⟨t, ht, rfl⟩ := List.mem_map.mp hx
  exact tmD_pl (h t ht)
theorem tms_ok {ts : List Tm} (h : ∀ t ∈ ts, tmOk t) (n : Nat) : (ts.map tmD).all (dOk (n + 1)) = true := by
  rw [List.all_map]
  exact List.all_eq_true.mpr fun t ht => tmD_ok (h t ht) n
theorem kind_ok {k : Str} (h : k = "less" ∨ k = "unlike") : PyData.strOk k = true := by
  rcases h with rfl | rfl
  · exact sk_less
  · exact sk_unlike
theorem liD_pl {l : Lit} (h : liOk l) : pln (liD l) = true := by
  cases l with
  | atom w n ts =>
    obtain ⟨h1, h2, _, h3⟩ := h
    show (true && (pln w && (true && (plns (ts.map tmD) && true)))) = true
    rw [howOk_pl h1, tms_pl h3]
    rfl
  | test k a b =>
    obtain ⟨_, h1, h2⟩ := h
    show (true && (pln (tmD a) && (pln (tmD b) && true))) = true
    rw [tmD_pl h1, tmD_pl h2]
    rfl
theorem liD_ok {l : Lit} (h : liOk l) (n : Nat) : dOk (n + 3) (liD l) = true := by
  cases l with
  | atom w m ts =>
    obtain ⟨h1, h2, _, h3⟩ := h
    have e1 := howOk_ok h1 (n + 1)
    have e2 := tms_ok h3 n
    simp [liD, dOk_tup, dOk_str, sk_atom, e1, h2, e2]
  | test k a b =>
    obtain ⟨h0, h1, h2⟩ := h
    simp [liD, dOk_tup, dOk_str, kind_ok h0, tmD_ok h1 (n + 1), tmD_ok h2 (n + 1)]
structure Ru where
  name : Str
  head : List Tm
  body : List Lit
def ruD (r : Ru) : D := .tup [.str r.name, .tup (r.head.map tmD), .tup (r.body.map liD)]
theorem ruD_mk (n : Str) (hd : List Tm) (ls : List Lit) : ruD ⟨n, hd, ls⟩ = .tup [.str n, .tup (hd.map tmD), .tup (ls.map liD)] := rfl
/-- the words of terms, with those that come again -/
def vrs (ts : List Tm) : List Str := ts.filterMap tmV
/-- the words of the atoms -/
def bnd (ls : List Lit) : List Str := (ls.filter fun l => !isT l).flatMap fun l => vrs (liTs l)
structure RuOk (r : Ru) : Prop where
  name : PyData.strOk r.name = true
  head : ∀ t ∈ r.head, tmOk t
  body : ∀ l ∈ r.body, liOk l
  safe : ∀ x ∈ vrs r.head, x ∈ bnd r.body
  hlen : r.head.length ≤ 20
  blen : r.body.length ≤ 20
theorem vrs_app (a b : List Tm) : vrs (a ++ b) = vrs a ++ vrs b := List.filterMap_append ..
theorem mem_vrs {ts : List Tm} {x : Str} : x ∈ vrs ts ↔ Tm.var x ∈ ts := by
  unfold vrs
  rw [List.mem_filterMap]
  constructor
  · rintro ⟨t, h1, h2⟩
    cases t with
    | var y =>
      cases h2
      exact h1
    | val d => cases h2
  · intro h
    exact ⟨_, h, rfl⟩
theorem mem_bnd {ls : List Lit} {x : Str} : x ∈ bnd ls ↔ ∃ w n ts, Lit.atom w n ts ∈ ls ∧ x ∈ vrs ts := by
  unfold bnd
  rw [List.mem_flatMap]
  constructor
  · rintro ⟨l, hl, hx⟩
    rw [List.mem_filter] at hl
    cases l with
    | atom w n ts => exact ⟨w, n, ts, hl.1, hx⟩
    | test k a b => cases hl.2
  · rintro ⟨w, n, ts, hl, hx⟩
    exact ⟨_, List.mem_filter.mpr ⟨hl, rfl⟩, hx⟩

theorem srcV_of {a : D} {xs : List D} {M : DM} (h : dItems a M = some xs) : SrcV (xs, dAt a) M := by
  intro p hp
  cases a with
  | ref q =>
    have e : q = p := Option.some.inj hp
    subst e
    rw [dItems_rf] at h
    cases c : M q with
    | none => rw [c] at h; cases h
    | some o =>
      rw [c] at h
      cases o with
      | lst ys =>
        cases h
        rfl
      | _ => cases h
  | _ => cases hp
theorem items_le {M N : DM} {b : D} {xs : List D} (h : dItems b M = some xs) (l : MLe M N) : dItems b N = some xs := by
  cases b with
  | ref r =>
    cases q : M r with
    | none => simp [dItems, q] at h
    | some o =>
      cases o with
      | lst ys =>
        simp [dItems, q] at h
        exact dItems_ref (by rw [l _ _ q, h])
      | _ => simp [dItems, q] at h
  | _ => first | exact h | cases h
theorem ne_ref_of {a : D} {xs : List D} {M : DM} {q : Addr} (h : dItems a M = some xs) (hq : M q = none) : a ≠ .ref q := fun z => by
  rw [z] at h
  simp [dItems, hq] at h
abbrev sp_l_values : DSp := ar2 fun a b M Q => ∃ (p : Addr) (ws : List Str), a = .ref p ∧ b = .lst (ws.map D.str) ∧ Dr M p ∧ 2 ≤ ws.length ∧ (∀ x ∈ ws, PyData.strOk x = true) ∧ ∀ (o : DO) (vs : List D), DrO o → vs.length = 3 → (∀ v ∈ vs, isV v) → Q (.lst vs) (mput M p o)
theorem ok_l_values (F : Def K mg "_law_values" s_l_values ["draws", "words"]) (B : Bi K mg) (I : Im mg) (c_l_take : Cal P w K mg base 1 "_law_take" ["draws", "many"] sp_l_take) (c_l_pick : Cal P w K mg base 2 "_law_pick" ["draws", "row"] sp_l_pick) : Cal P w K mg base 3 "_law_values" ["draws", "words"] sp_l_values := by
  have sc := sc_l_values
  refine F.cal sc (fun ds M Q h => len2 h) (fun f cdv A outer s H E hr => (ds_cons (ds_set (i := 2) sc.nd rfl (Or.inl rfl) (d_op o_sub (d_call c_l_take (hr.mono (by first | decide | omega)) rfl (da_cons (d_v 0) (da_cons d_int da_nil))) d_int))
    (ds_cons (ds_if (dt_cmp (o_eq (hu_eq hr)) (d_call c_l_take (hr.mono (by first | decide | omega)) rfl (da_cons (d_v 0) (da_cons d_int da_nil))) d_int (nomark _))
    (ds_one (ds_set (i := 2) sc.nd rfl (Or.inl rfl) (d_op o_mul (d_v 2) (d_call c_l_pick (hr.mono (by first | decide | omega)) rfl (da_cons (d_v 0) (da_cons (d_lstF (da_cons d_int (da_cons (d_op o_add (d_op o_pow d_int d_int) d_int) (da_cons (d_op o_add (d_op o_pow d_int d_int) d_int) (da_cons (d_op o_add (d_op o_pow d_int d_int) d_int) (da_cons (d_op o_add (d_op o_pow d_int d_int) d_int) da_nil)))))) da_nil))))))
    ds_nil)
    (ds_one (ds_ret (d_ix x_ix (d_lstF (da_cons (d_lstF (da_cons (d_v 2) (da_cons (d_op o_add (d_v 2) d_int) (da_cons (d_call c_l_pick (hr.mono (by first | decide | omega)) rfl (da_cons (d_v 0) (da_cons (d_v 1) da_nil))) da_nil)))) (da_cons (d_lstF (da_cons (d_ix x_ix (d_v 1) d_int (fun _ _ => rfl)) (da_cons (d_v 2) (da_cons (d_ix x_ix (d_v 1) d_int (fun _ _ => rfl)) da_nil)))) da_nil))) (d_call c_l_take (hr.mono (by first | decide | omega)) rfl (da_cons (d_v 0) (da_cons d_int da_nil))) (fun _ _ => rfl))))))) (fun ds M Q h => ?_)
  obtain ⟨a, b, rfl, p, ws, rfl, rfl, hd, hl, hok, h⟩ := h
  walk_at "st"
  refine ⟨hd, fun o1 r1 ho1 r10 r11 => ?_⟩
  refine seq_cut (fun m1 M1 => ∃ (o : DO) (i : Int), DrO o ∧ M1 = mput M p o ∧ m1 = [some (.ref p), some (.lst (ws.map D.str)), some (.int i)]) (fun Cn hC => ?_) ?_
  · walk_at "s1"
    refine ⟨dr_put ho1, fun o2 r2 ho2 r20 r21 => ?_⟩
    split
    · refine ⟨dr_put ho2, fun o3 x ho3 hx => ?_⟩
      obtain ⟨i, rfl⟩ : ∃ i : Int, x = .int i := by
        simp only [List.mem_cons, List.not_mem_nil, or_false] at hx
        rcases hx with rfl | rfl | rfl | rfl | rfl <;> exact ⟨_, rfl⟩
      exact ⟨i, rfl, .inl ⟨by omega, by omega⟩, hC _ _ ⟨o3, _, ho3, rfl, rfl⟩⟩
    · exact hC _ _ ⟨o2, _, ho2, rfl, rfl⟩
  rintro _ _ ⟨o, i, ho, rfl, rfl⟩
  match ws, hl, hok, h with
  | w0 :: w1 :: wr, hl, hok, h =>
    walk_at "rd"
    refine ⟨dr_put ho, fun o2 x ho2 hx => ?_⟩
    have hxV : isV x := by
      rw [List.mem_cons, List.mem_cons] at hx
      rcases hx with rfl | rfl | hx
      · exact .inr ⟨_, rfl, hok _ (by simp)⟩
      · exact .inr ⟨_, rfl, hok _ (by simp)⟩
      · obtain ⟨y, hy, rfl⟩ := List.mem_map.mp hx
        exact .inr ⟨y, rfl, hok y (by simp [hy])⟩
    refine ⟨dr_put ho2, fun o3 r3 ho3 r30 r31 => ?_⟩
    obtain ⟨z, hz, hat⟩ := atI_lt (xs := [D.lst [.int i, .int (i + 1), x], .lst [.str w0, .int i, .str w1]]) r30 r31
    refine ⟨z, hat, ?_⟩
    simp only [List.mem_cons, List.not_mem_nil, or_false] at hz
    rcases hz with rfl | rfl
    · refine ret_of (h o3 _ ho3 rfl fun v hv => ?_)
      simp only [List.mem_cons, List.not_mem_nil, or_false] at hv
      rcases hv with rfl | rfl | rfl
      · exact .inl ⟨_, rfl⟩
      · exact .inl ⟨_, rfl⟩
      · exact hxV
    · refine ret_of (h o3 _ ho3 rfl fun v hv => ?_)
      simp only [List.mem_cons, List.not_mem_nil, or_false] at hv
      rcases hv with rfl | rfl | rfl
      · exact .inr ⟨_, rfl, hok _ (by simp)⟩
      · exact .inl ⟨_, rfl⟩
      · exact .inr ⟨_, rfl, hok _ (by simp)⟩
abbrev sp_l_term : DSp := ar3 fun a b c M Q => ∃ (p : Addr) (vs : List Str) (vals : List D), a = .ref p ∧ b = .lst (vs.map D.str) ∧ c = .lst vals ∧ Dr M p ∧ vs ≠ [] ∧ vals ≠ [] ∧ (∀ v ∈ vals, isV v) ∧ (∀ x ∈ vs, PyData.strOk x = true) ∧ ∀ (o : DO) (t : Tm), DrO o → tmOk t → (∀ x, tmV t = some x → x ∈ vs) → Q (tmD t) (mput M p o)
theorem ok_l_term (F : Def K mg "_law_term" s_l_term ["draws", "variables", "values"]) (B : Bi K mg) (I : Im mg) (c_l_take : Cal P w K mg base 1 "_law_take" ["draws", "many"] sp_l_take) (c_l_pick : Cal P w K mg base 2 "_law_pick" ["draws", "row"] sp_l_pick) : Cal P w K mg base 3 "_law_term" ["draws", "variables", "values"] sp_l_term := by
  have sc := sc_l_term
  refine F.cal sc (fun ds M Q h => len3 h) (fun f cdv A outer s H E hr => (ds_cons (ds_if (dt_cmp (o_eq (hu_eq hr)) (d_call c_l_take (hr.mono (by first | decide | omega)) rfl (da_cons (d_v 0) (da_cons d_int da_nil))) d_int (nomark _))
    (ds_one (ds_ret (d_tup (da_cons d_str (da_cons (d_call c_l_pick (hr.mono (by first | decide | omega)) rfl (da_cons (d_v 0) (da_cons (d_v 2) da_nil))) da_nil)))))
    ds_nil)
    (ds_one (ds_ret (d_tup (da_cons d_str (da_cons (d_call c_l_pick (hr.mono (by first | decide | omega)) rfl (da_cons (d_v 0) (da_cons (d_v 1) da_nil))) da_nil))))))) (fun ds M Q h => ?_)
  obtain ⟨a, b, c, rfl, p, vs, vals, rfl, rfl, rfl, hd, hvs, hvals, hV, hS, h⟩ := h
  walk_at "rd"
  refine ⟨hd, fun o1 r1 ho1 r10 r11 => ?_⟩
  split
  · refine ⟨dr_put ho1, hvals, fun o2 x ho2 hx => ret_of (h o2 (.val x) ho2 (hV x hx) fun y e => nomatch e)⟩
  · refine ⟨dr_put ho1, by simpa using hvs, fun o2 x ho2 hx => ?_⟩
    obtain ⟨y, hy, rfl⟩ := List.mem_map.mp hx
    exact ret_of (h o2 (.var y) ho2 (hS y hy) fun z e => by cases e; exact hy)
/-! ### unification, plain -/
noncomputable instance tmDec : DecidableEq Tm := fun _ _ => Classical.propDecidable _
abbrev Bd := List (Str × Tm)
/-- the term a variable is bound to, or the term -/
noncomputable def res (b : Bd) (t : Tm) : Tm := match b.find? (fun p => decide (t = .var p.1)) with
  | some p => p.2
  | none => t
noncomputable def wv (b : Bd) (x : Str) (t : Tm) : Bd := (b.map fun p => (p.1, if p.2 = .var x then t else p.2)) ++ [(x, t)]
noncomputable def uni : List (Tm × Tm) → Bd → Option Bd
  | [], b => some b
  | (s, t) :: ps, b =>
    if res b s = res b t then uni ps b
    else match res b s with
      | .var x => uni ps (wv b x (res b t))
      | .val d => match res b t with
        | .var y => uni ps (wv b y (.val d))
        | .val _ => none
/-- the classes of the pairs so far -/
noncomputable def cstep (cs : List (List Tm)) (s t : Tm) : List (List Tm) := cs.filter (fun c => !(decide (s ∈ c) || decide (t ∈ c))) ++ [[s, t] ++ (cs.filter fun c => decide (s ∈ c) || decide (t ∈ c)).flatten]
noncomputable def cls : List (Tm × Tm) → List (List Tm) → List (List Tm)
  | [], cs => cs
  | (s, t) :: ps, cs => cls ps (cstep cs s t)
def Rl (cs : List (List Tm)) (t u : Tm) : Prop := t = u ∨ ∃ c ∈ cs, t ∈ c ∧ u ∈ c
theorem res_val {b : Bd} {d : D} : res b (.val d) = .val d := by
  unfold res
  have : b.find? (fun p => decide (Tm.val d = .var p.1)) = none := List.find?_eq_none.mpr fun p _ => by simp
  rw [this]
theorem res_or {b : Bd} {t : Tm} : (res b t = t ∧ ∀ x, t = .var x → x ∉ b.map (·.1)) ∨ ∃ p ∈ b, t = .var p.1 ∧ res b t = p.2 := by
  unfold res
  cases h : b.find? (fun p => decide (t = .var p.1)) with
  | none =>
    refine .inl ⟨rfl, fun x e hx => ?_⟩
    obtain ⟨p, hp, rfl⟩ := List.mem_map.mp hx
    have := List.find?_eq_none.mp h p hp
    simp [e] at this
  | some p => exact .inr ⟨p, List.mem_of_find?_eq_some h, by simpa using List.find?_some h, rfl⟩
theorem res_free {b : Bd} {x : Str} (h : x ∉ b.map (·.1)) : res b (.var x) = .var x := by
  rcases res_or (b := b) (t := .var x) with ⟨e, _⟩ | ⟨p, hp, e, _⟩
  · exact e
  · injection e with e
    exact absurd (List.mem_map.mpr ⟨p, hp, e.symm⟩) h
theorem res_key {b : Bd} (hn : (b.map (·.1)).Nodup) {p : Str × Tm} (hp : p ∈ b) : res b (.var p.1) = p.2 := by
  rcases res_or (b := b) (t := .var p.1) with ⟨_, h⟩ | ⟨q, hq, e, e2⟩
  · exact absurd (List.mem_map.mpr ⟨p, hp, rfl⟩) (h _ rfl)
  · injection e with e
    have : q = p := by
      clear e2
      induction b with
      | nil => cases hp
      | cons a b ih =>
        rw [List.map_cons, List.nodup_cons] at hn
        rcases List.mem_cons.mp hp with rfl | hp <;> rcases List.mem_cons.mp hq with rfl | hq
        · rfl
        · exact absurd (List.mem_map.mpr ⟨q, hq, e.symm⟩) hn.1
        · exact absurd (List.mem_map.mpr ⟨p, ‹p ∈ b›, e⟩ : q.1 ∈ b.map (·.1)) hn.1
        · exact ih hn.2 hp hq
    rw [e2, this]
/-- what a bound keeps: keys once, no worth is a bound variable -/
structure BdOk (b : Bd) : Prop where
  nd : (b.map (·.1)).Nodup
  free : ∀ p ∈ b, ∀ y, p.2 = .var y → y ∉ b.map (·.1)
theorem BdOk.nil : BdOk [] := ⟨List.nodup_nil, fun _ h => nomatch h⟩
theorem BdOk.again {b : Bd} (B : BdOk b) (t : Tm) : res b (res b t) = res b t := by
  rcases res_or (b := b) (t := t) with ⟨e, _⟩ | ⟨p, hp, _, e⟩
  · rw [e, e]
  · rw [e]
    cases h : p.2 with
    | val d => exact res_val
    | var y => exact res_free (B.free p hp y h)
theorem BdOk.loose {b : Bd} (B : BdOk b) {t : Tm} {x : Str} (h : res b t = .var x) : x ∉ b.map (·.1) := by
  rcases res_or (b := b) (t := t) with ⟨e, k⟩ | ⟨p, hp, _, e⟩
  · exact k x (e.symm.trans h)
  · exact B.free p hp x (e.symm.trans h)
noncomputable def sb (x : Str) (r u : Tm) : Tm := if u = .var x then r else u
theorem wv_keys {b : Bd} {x : Str} {r : Tm} : (wv b x r).map (·.1) = b.map (·.1) ++ [x] := by
  unfold wv
  rw [List.map_append, List.map_map]
  rfl
theorem wv_res {b : Bd} {x : Str} {r : Tm} (hx : x ∉ b.map (·.1)) (t : Tm) : res (wv b x r) t = sb x r (res b t) := by
  have hf : ∀ b : Bd, x ∉ b.map (·.1) → (wv b x r).find? (fun p => decide (t = .var p.1)) = match b.find? (fun p => decide (t = .var p.1)) with
      | some p => some (p.1, if p.2 = .var x then r else p.2)
      | none => if t = .var x then some (x, r) else none := by
    intro b
    induction b with
    | nil =>
      intro _
      by_cases e : t = .var x
      · simp [wv, e]
      · simp [wv, e]
    | cons p b ih =>
      intro hx
      rw [List.map_cons, List.mem_cons, not_or] at hx
      have hw : wv (p :: b) x r = (p.1, if p.2 = .var x then r else p.2) :: wv b x r := rfl
      rw [hw, List.find?_cons, List.find?_cons]
      by_cases e : t = .var p.1
      · simp [e]
      · simp only [e, decide_false]
        exact ih hx.2
  have hb := hf b hx
  have h0 := res_or (b := b) (t := t)
  unfold res at *
  rw [hb]
  cases h : b.find? (fun p => decide (t = .var p.1)) with
  | some p => rfl
  | none =>
    simp only [sb]
    by_cases e : t = .var x
    · simp [e]
    · simp [e]
theorem wv_ok {b : Bd} {x : Str} {r : Tm} (B : BdOk b) (hx : x ∉ b.map (·.1)) (hr : r ≠ .var x) (hrf : ∀ y, r = .var y → y ∉ b.map (·.1)) : BdOk (wv b x r) := by
  refine ⟨?_, fun p hp y e => ?_⟩
  · rw [wv_keys, List.nodup_append]
    refine ⟨B.nd, by simp, fun a ha c hc => ?_⟩
    rw [List.mem_singleton.mp hc]
    exact fun e => hx (e ▸ ha)
  · rw [wv_keys, List.mem_append, List.mem_singleton, not_or]
    unfold wv at hp
    rcases List.mem_append.mp hp with hp | hp
    · obtain ⟨q, hq, rfl⟩ := List.mem_map.mp hp
      dsimp only at e
      by_cases c : q.2 = .var x
      · rw [if_pos c] at e
        exact ⟨hrf y e, fun z => hr (by rw [e, z])⟩
      · rw [if_neg c] at e
        exact ⟨B.free q hq y e, fun z => c (by rw [e, z])⟩
    · rw [List.mem_singleton.mp hp] at e
      exact ⟨hrf y e, fun z => hr (by rw [← z]; exact e)⟩
/-- the bound so far and the classes so far agree -/
structure Agr (b : Bd) (cs : List (List Tm)) : Prop where
  ok : BdOk b
  rel : ∀ t u, res b t = res b u ↔ Rl cs t u
  keys : ∀ p ∈ b, ∃ c ∈ cs, Tm.var p.1 ∈ c
  same : ∀ c ∈ cs, ∀ c' ∈ cs, ∀ t ∈ c, t ∈ c' → ∀ u ∈ c, u ∈ c'
theorem mem_cstep {cs : List (List Tm)} {s t : Tm} {c : List Tm} : c ∈ cstep cs s t ↔ (c ∈ cs ∧ s ∉ c ∧ t ∉ c) ∨ c = [s, t] ++ (cs.filter fun c => decide (s ∈ c) || decide (t ∈ c)).flatten := by
  unfold cstep
  rw [List.mem_append, List.mem_filter, List.mem_singleton]
  simp
theorem mem_new {cs : List (List Tm)} {s t u : Tm} : u ∈ [s, t] ++ (cs.filter fun c => decide (s ∈ c) || decide (t ∈ c)).flatten ↔ Rl cs u s ∨ Rl cs u t := by
  rw [List.mem_append, List.mem_flatten]
  unfold Rl
  constructor
  · rintro (h | ⟨c, hc, hu⟩)
    · simp only [List.mem_cons, List.not_mem_nil, or_false] at h
      rcases h with h | h
      · exact .inl (.inl h)
      · exact .inr (.inl h)
    · rw [List.mem_filter] at hc
      have h2 := hc.2
      simp only [Bool.or_eq_true, decide_eq_true_eq] at h2
      rcases h2 with h2 | h2
      · exact .inl (.inr ⟨c, hc.1, hu, h2⟩)
      · exact .inr (.inr ⟨c, hc.1, hu, h2⟩)
  · rintro ((h | ⟨c, hc, h1, h2⟩) | (h | ⟨c, hc, h1, h2⟩))
    · exact .inl (by simp [h])
    · exact .inr ⟨c, List.mem_filter.mpr ⟨hc, by simp [h2]⟩, h1⟩
    · exact .inl (by simp [h])
    · exact .inr ⟨c, List.mem_filter.mpr ⟨hc, by simp [h2]⟩, h1⟩
theorem Rl_step {cs : List (List Tm)} {s t a b : Tm} : Rl (cstep cs s t) a b ↔ Rl cs a b ∨ ((Rl cs a s ∨ Rl cs a t) ∧ (Rl cs b s ∨ Rl cs b t)) := by
  constructor
  · rintro (h | ⟨c, hc, h1, h2⟩)
    · exact .inl (.inl h)
    · rcases mem_cstep.mp hc with ⟨hc, _⟩ | rfl
      · exact .inl (.inr ⟨c, hc, h1, h2⟩)
      · exact .inr ⟨mem_new.mp h1, mem_new.mp h2⟩
  · rintro ((h | ⟨c, hc, h1, h2⟩) | ⟨h1, h2⟩)
    · exact .inl h
    · by_cases hs : s ∈ c
      · exact .inr ⟨_, mem_cstep.mpr (.inr rfl), mem_new.mpr (.inl (.inr ⟨c, hc, h1, hs⟩)), mem_new.mpr (.inl (.inr ⟨c, hc, h2, hs⟩))⟩
      · by_cases ht : t ∈ c
        · exact .inr ⟨_, mem_cstep.mpr (.inr rfl), mem_new.mpr (.inr (.inr ⟨c, hc, h1, ht⟩)), mem_new.mpr (.inr (.inr ⟨c, hc, h2, ht⟩))⟩
        · exact .inr ⟨c, mem_cstep.mpr (.inl ⟨hc, hs, ht⟩), h1, h2⟩
    · exact .inr ⟨_, mem_cstep.mpr (.inr rfl), mem_new.mpr h1, mem_new.mpr h2⟩
theorem Rl_mono {cs : List (List Tm)} {s t a b : Tm} (h : Rl cs a b) : Rl (cstep cs s t) a b := Rl_step.mpr (.inl h)
theorem Rl_cls : ∀ {ps : List (Tm × Tm)} {cs : List (List Tm)} {a b : Tm}, Rl cs a b → Rl (cls ps cs) a b
  | [], _, _, _, h => h
  | (_, _) :: ps, _, _, _, h => Rl_cls (ps := ps) (Rl_mono h)
theorem Rl_symm {cs : List (List Tm)} {a b : Tm} (h : Rl cs a b) : Rl cs b a := by
  rcases h with h | ⟨c, hc, h1, h2⟩
  · exact .inl h.symm
  · exact .inr ⟨c, hc, h2, h1⟩
/-- a key's class stays -/
theorem in_step {cs : List (List Tm)} {s t u : Tm} (h : ∃ c ∈ cs, u ∈ c) : ∃ c ∈ cstep cs s t, u ∈ c := by
  obtain ⟨c, hc, hu⟩ := h
  rcases Rl_mono (s := s) (t := t) (.inr ⟨c, hc, hu, hu⟩ : Rl cs u u) with _ | ⟨c', hc', h1, _⟩
  · by_cases hs : s ∈ c
    · exact ⟨_, mem_cstep.mpr (.inr rfl), mem_new.mpr (.inl (.inr ⟨c, hc, hu, hs⟩))⟩
    · by_cases ht : t ∈ c
      · exact ⟨_, mem_cstep.mpr (.inr rfl), mem_new.mpr (.inr (.inr ⟨c, hc, hu, ht⟩))⟩
      · exact ⟨c, mem_cstep.mpr (.inl ⟨hc, hs, ht⟩), hu⟩
  · exact ⟨c', hc', h1⟩
theorem same_step {cs : List (List Tm)} {s t : Tm} (h : ∀ c ∈ cs, ∀ c' ∈ cs, ∀ t ∈ c, t ∈ c' → ∀ u ∈ c, u ∈ c') : ∀ c ∈ cstep cs s t, ∀ c' ∈ cstep cs s t, ∀ v ∈ c, v ∈ c' → ∀ u ∈ c, u ∈ c' := by
  -- a class that is left over has nothing of the new one
  have out : ∀ c ∈ cs, s ∉ c → t ∉ c → ∀ v ∈ c, ¬ (Rl cs v s ∨ Rl cs v t) := by
    rintro c hc hs ht v hv ((e | ⟨d, hd, h1, h2⟩) | (e | ⟨d, hd, h1, h2⟩))
    · exact hs (e ▸ hv)
    · exact hs (h d hd c hc v h1 hv s h2)
    · exact ht (e ▸ hv)
    · exact ht (h d hd c hc v h1 hv t h2)
  intro c hc c' hc' v hv hv' u hu
  rcases mem_cstep.mp hc with ⟨k1, k2, k3⟩ | rfl <;> rcases mem_cstep.mp hc' with ⟨l1, l2, l3⟩ | rfl
  · exact h c k1 c' l1 v hv hv' u hu
  · exact absurd (mem_new.mp hv') (out c k1 k2 k3 v hv)
  · exact absurd (mem_new.mp hv) (out c' l1 l2 l3 v hv')
  · exact hu
theorem Agr.trans {b : Bd} {cs : List (List Tm)} (A : Agr b cs) {t u v : Tm} (h : Rl cs t u) (k : Rl cs u v) : Rl cs t v := (A.rel t v).mp (((A.rel t u).mpr h).trans ((A.rel u v).mpr k))
theorem Agr.nil : Agr [] [] := by
  refine ⟨.nil, fun t u => ⟨fun h => .inl h, fun h => ?_⟩, (fun _ h => nomatch h), (fun _ h => nomatch h)⟩
  rcases h with h | ⟨c, hc, _⟩
  · rw [h]
  · cases hc
/-- nothing new -/
theorem Agr.skip {b : Bd} {cs : List (List Tm)} (A : Agr b cs) {s t : Tm} (h : res b s = res b t) : Agr b (cstep cs s t) := by
  refine ⟨A.ok, fun a c => ?_, fun p hp => in_step (A.keys p hp), same_step A.same⟩
  rw [A.rel, Rl_step]
  refine ⟨.inl, fun k => k.elim id fun ⟨h1, h2⟩ => ?_⟩
  have hst := (A.rel s t).mp h
  have k1 : Rl cs a s := h1.elim id fun z => A.trans z (Rl_symm hst)
  have k2 : Rl cs c s := h2.elim id fun z => A.trans z (Rl_symm hst)
  exact A.trans k1 (Rl_symm k2)
/-- x comes to stand for r -/
theorem Agr.bind {b : Bd} {cs : List (List Tm)} (A : Agr b cs) {s t : Tm} {x : Str} {r : Tm} (hne : res b s ≠ res b t) (hx : (res b s = .var x ∧ r = res b t) ∨ (res b t = .var x ∧ r = res b s)) : Agr (wv b x r) (cstep cs s t) := by
  have hxf : x ∉ b.map (·.1) := by
    rcases hx with ⟨h, _⟩ | ⟨h, _⟩ <;> exact A.ok.loose h
  have hrx : r ≠ .var x := by
    rcases hx with ⟨h, e⟩ | ⟨h, e⟩
    · rw [e, ← h]; exact hne.symm
    · rw [e, ← h]; exact hne
  have hrf : ∀ y, r = .var y → y ∉ b.map (·.1) := by
    intro y ey
    rcases hx with ⟨_, e⟩ | ⟨_, e⟩ <;> exact A.ok.loose (e.symm.trans ey)
  -- what is the variable, or r
  have two : ∀ u, (res b u = .var x ∨ res b u = r) ↔ (Rl cs u s ∨ Rl cs u t) := fun u => by
    rw [← A.rel, ← A.rel]
    rcases hx with ⟨h, e⟩ | ⟨h, e⟩
    · rw [h, e]
    · rw [h, e]; exact Or.comm
  have sb2 : ∀ u v : Tm, sb x r u = sb x r v ↔ u = v ∨ ((u = .var x ∨ u = r) ∧ (v = .var x ∨ v = r)) := by
    intro u v
    unfold sb
    by_cases h1 : u = .var x <;> by_cases h2 : v = .var x
    · simp [h1, h2]
    · rw [if_pos h1, if_neg h2]
      constructor
      · intro e
        exact .inr ⟨.inl h1, .inr e.symm⟩
      · rintro (e | ⟨_, e | e⟩)
        · exact absurd (e ▸ h1) h2
        · exact absurd e h2
        · exact e.symm
    · rw [if_neg h1, if_pos h2]
      constructor
      · intro e
        exact .inr ⟨.inr e, .inl h2⟩
      · rintro (e | ⟨e | e, _⟩)
        · exact absurd (e ▸ h2) h1
        · exact absurd e h1
        · exact e
    · rw [if_neg h1, if_neg h2]
      constructor
      · exact .inl
      · rintro (e | ⟨e | e, k | k⟩)
        · exact e
        · exact absurd e h1
        · exact absurd e h1
        · exact absurd k h2
        · rw [e, k]
  refine ⟨wv_ok A.ok hxf hrx hrf, fun u v => ?_, fun p hp => ?_, same_step A.same⟩
  · rw [wv_res hxf, wv_res hxf, sb2, A.rel, Rl_step, two, two]
  · unfold wv at hp
    rcases List.mem_append.mp hp with hp | hp
    · obtain ⟨q, hq, rfl⟩ := List.mem_map.mp hp
      exact in_step (A.keys q hq)
    · rw [List.mem_singleton.mp hp]
      have : Rl cs (.var x) s ∨ Rl cs (.var x) t := (two (.var x)).mp (.inl (res_free hxf))
      exact ⟨_, mem_cstep.mpr (.inr rfl), mem_new.mpr this⟩
def Clash (cs : List (List Tm)) : Prop := ∃ c ∈ cs, ∃ d e, Tm.val d ∈ c ∧ Tm.val e ∈ c ∧ d ≠ e
theorem Agr.noClash {b : Bd} {cs : List (List Tm)} (A : Agr b cs) : ¬ Clash cs := by
  rintro ⟨c, hc, d, e, h1, h2, hne⟩
  have := (A.rel (.val d) (.val e)).mpr (.inr ⟨c, hc, h1, h2⟩)
  rw [res_val, res_val] at this
  injection this with this
  exact hne this
theorem clash_of {cs : List (List Tm)} {d e : D} (h : Rl cs (.val d) (.val e)) (hne : d ≠ e) : Clash cs := by
  rcases h with h | ⟨c, hc, h1, h2⟩
  · injection h with h
    exact absurd h hne
  · exact ⟨c, hc, d, e, h1, h2, hne⟩
theorem uni_agr : ∀ (ps : List (Tm × Tm)) (b : Bd) (cs : List (List Tm)), Agr b cs → (∃ b', uni ps b = some b' ∧ Agr b' (cls ps cs)) ∨ (uni ps b = none ∧ Clash (cls ps cs))
  | [], b, cs, A => .inl ⟨b, rfl, A⟩
  | (s, t) :: ps, b, cs, A => by
    unfold uni
    by_cases h : res b s = res b t
    · rw [if_pos h]
      exact uni_agr ps b _ (A.skip h)
    · rw [if_neg h]
      cases hs : res b s with
      | var x => exact uni_agr ps _ _ (A.bind h (.inl ⟨hs, rfl⟩))
      | val d =>
        cases ht : res b t with
        | var y => exact uni_agr ps _ _ (A.bind h (.inr ⟨ht, hs.symm⟩))
        | val e =>
          refine .inr ⟨rfl, clash_of (d := d) (e := e) (Rl_cls (ps := ps) (Rl_step.mpr (.inr ⟨.inl ?_, .inr ?_⟩))) ?_⟩
          · rw [← A.rel, res_val, hs]
          · rw [← A.rel, res_val, ht]
          · intro z
            exact h (by rw [hs, ht, z])
/-- each pair is told the same -/
theorem pair_rel : ∀ {ps : List (Tm × Tm)} {cs : List (List Tm)} {s t : Tm}, (s, t) ∈ ps → Rl (cls ps cs) s t
  | (s', t') :: ps, cs, s, t, h => by
    rcases List.mem_cons.mp h with e | h
    · cases e
      exact Rl_cls (ps := ps) (Rl_step.mpr (.inr ⟨.inl (.inl rfl), .inr (.inl rfl)⟩))
    · exact pair_rel (ps := ps) h
/-- what stands in the classes stands in the pairs -/
theorem cls_mem : ∀ {ps : List (Tm × Tm)} {cs : List (List Tm)} {c : List Tm} {u : Tm}, c ∈ cls ps cs → u ∈ c → (∃ c' ∈ cs, u ∈ c') ∨ u ∈ ps.map (·.1) ∨ u ∈ ps.map (·.2)
  | [], cs, c, u, hc, hu => .inl ⟨c, hc, hu⟩
  | (s, t) :: ps, cs, c, u, hc, hu => by
    rcases cls_mem (ps := ps) hc hu with ⟨c', hc', hu'⟩ | h | h
    · rcases mem_cstep.mp hc' with ⟨k, _⟩ | rfl
      · exact .inl ⟨c', k, hu'⟩
      · rcases List.mem_append.mp hu' with h | h
        · simp only [List.mem_cons, List.not_mem_nil, or_false] at h
          rcases h with rfl | rfl
          · exact .inr (.inl (by simp))
          · exact .inr (.inr (by simp))
        · obtain ⟨d, hd, hu⟩ := List.mem_flatten.mp h
          exact .inl ⟨d, (List.mem_filter.mp hd).1, hu⟩
    · exact .inr (.inl (by simp [h]))
    · exact .inr (.inr (by simp [h]))
def bpD (p : Str × Tm) : D := .tup [.str p.1, tmD p.2]
def bdE (p : Str × Tm) : D × D := (.str p.1, tmD p.2)
def bdD (b : Bd) : D := .dct (b.map bdE)
abbrev pOk (p : Str × Tm) : Prop := PyData.strOk p.1 = true ∧ tmOk p.2
theorem bpD_mk (p : Str × Tm) : bpD p = .tup [.str p.1, tmD p.2] := rfl
theorem pairE_mk (p : Str × Tm) : (DL.pairD ∘ bdE) p = .tup [.str p.1, tmD p.2] := rfl
theorem bdD_mk (m : Bd) : bdD m = .dct (m.map bdE) := rfl
/-- the lists of the classes -/
def clD (c : List Tm) : D := .lst (c.map tmD)
theorem clD_mk (c : List Tm) : clD c = .lst (c.map tmD) := rfl
local macro_rules | `(tactic| walk_at "rd") => `(tactic| simp only [dSeq, dSet, dIf, dTst, dOp, dVar, dC, dRet, dRetN, dNext, dDrop, dBreak, dCont, dAnd, dOr, dNot, dAndV, dOrV, dNotV, dIfE, dTup, dLstF, dLst, dCons, dNil, dCB, dCall, dUn, dNegI,
  dI, dI0, dEq, dNe, dIs, dIsNot, dIn, dNotIn, dIx, isN_non, isN_bl, isN_int, isN_str, isN_tup, isN_lst, isN_rf, DL.rLen, rInt, rAbs, rMax2, rMin2, DL.rGcd, rTuple, rList, rIs, rIsT, ar0, ar1, ar2, ar3, ar4, ar5, ar6, ar7, ar8, dEnds, dMt, dMt0, mAppend, mPop, mReverse, dSetL, dPut, dAsg, dgName, dgTup, dgCons, dgNil,
  dFor, diSeq, diRng1, diRng2, dLcF, dLc, dwipe, dFz,
  dstart, List.map_cons, List.map_nil, List.length_cons, List.length_nil, List.cons_append, List.nil_append, List.append_nil, List.replicate, Nat.reduceAdd, Nat.reduceSub, Nat.reduceLeDiff, Int.reduceNeg, List.set_cons_zero, List.set_cons_succ,
  List.getElem?_cons_zero, List.getElem?_cons_succ, Option.some.injEq, exists_eq_left', exists_eq_left, exists_eq_right, exists_eq, exists_and_left, exists_and_right, D.int.injEq, D.bl.injEq, D.str.injEq, D.tup.injEq, D.lst.injEq, D.ref.injEq, D.ty.injEq, D.dct.injEq,
  List.cons.injEq, and_assoc, and_true, true_and, and_self, reduceCtorEq, false_and, and_false, if_true, if_false, if_pos, ite_true, ite_false, Bool.false_eq_true, decide_eq_true_eq, Bool.not_eq_true', decide_eq_false_iff_not, Bool.not_true, Bool.not_false, decide_true, decide_false,
  eqv_int, eqv_str, eqv_bl, dOk_int, dOk_bl, dOk_non, dOk_tup, dOk_lst, dOk_str, List.all_cons, List.all_nil, Bool.and_true, Bool.true_and, Bool.and_self, dItems_tup, dItems_lst, dItems_rf, CMulA, CDivA, CPowA, Int.reduceLT, Int.reduceLE, Int.reducePow, Int.reduceToNat, Int.reduceMul, Int.reduceAdd, Int.reduceSub, Nat.reducePow, true_or, or_true, ne_eq, not_false_eq_true, not_true_eq_false, dAt_tup, dAt_lst, dAt_rf, dLenOf_tup, dLenOf_lst, dLenOf_rf, dLenOf_str, dTyN_non, dTyN_bl, dTyN_int, dTyN_str, dTyN_tup, dTyN_lst, dTyN_dct, dTyN_rf, dIntOf_int, dIntOf_bl, knownT, subT, atI_0, atI_1, atI_2, atI_3, atI_4, atI_5, atI_neg1, mput_same, mput_mput, eqv_non, tyNames, Option.map_some, String.reduceBEq, Bool.or_true, Bool.true_or, Bool.or_false, Bool.false_or, Bool.false_and, Bool.and_false, beq_self_eq_true, BEq.rfl, List.any_cons, List.any_nil, sizeLine_eq, rLenB, Bool.true_eq_false, implies_true, Nat.zero_le, Bool.or_self, String.reduceEq, dAdd_ii, dAdd_ss, dAdd_tt, dMulA_ii, dMulA_si, dIxS_str, dIxS_tup, dIxS_lst, dIxS_ref, dCat, dCatF, dRep, dSl, dNoP, dPart, dJoin, mExtend, mIndex, rAnyL, rAllL, rSumL, rMaxL, rMinL, dLRg, diEnum, rSortD, dLc2F, dLc2, dYes, diEnumT, dSlS, rSortK, dFzS, dTupRev, diRev, diZip, dMulT, zipD, dDc, dDGet1, dLtD, dGtD, rListK, dUpper, diStr, dInS, dSortL, dSortSet, dSortSetT, dLenSetT, dStar, rIntS, rStrI, dKIx, dKIn, dKNotIn, rLenK, dKNew, dFzK, dFzD, dKPut, diKeys, diVals, diItems, mInsert, mPopAt, dKGet1, dKGet2, dKc, dDict_dct, dDict_put, isKb_int, isKb_str, true_implies, false_implies, dDIx, dDIn, dDNotIn, dSetD, dDNew, dSortLen, sortLenB, rSortO, dLenSetN, rSortDK, dGeD, dLeD, tmD_var, tmD_val, kn_value_var, kn_var_value, bpD_mk, pairE_mk, bdD_mk, clD_mk])
local macro_rules | `(tactic| walk_at "st") => `(tactic| (refine seq_i ?_; simp only [dSet, dIf, dTst, dOp, dVar, dC, dRet, dRetN, dNext, dDrop, dBreak, dCont, dAnd, dOr, dNot, dAndV, dOrV, dNotV, dIfE, dTup, dLstF, dLst, dCons, dNil, dCB, dCall, dUn, dNegI,
  dI, dI0, dEq, dNe, dIs, dIsNot, dIn, dNotIn, dIx, isN_non, isN_bl, isN_int, isN_str, isN_tup, isN_lst, isN_rf, DL.rLen, rInt, rAbs, rMax2, rMin2, DL.rGcd, rTuple, rList, rIs, rIsT, ar0, ar1, ar2, ar3, ar4, ar5, ar6, ar7, ar8, dEnds, dMt, dMt0, mAppend, mPop, mReverse, dSetL, dPut, dAsg, dgName, dgTup, dgCons, dgNil,
  dFor, diSeq, diRng1, diRng2, dLcF, dLc, dwipe, dFz,
  dstart, List.map_cons, List.map_nil, List.length_cons, List.length_nil, List.cons_append, List.nil_append, List.append_nil, List.replicate, Nat.reduceAdd, Nat.reduceSub, Nat.reduceLeDiff, Int.reduceNeg, List.set_cons_zero, List.set_cons_succ,
  List.getElem?_cons_zero, List.getElem?_cons_succ, Option.some.injEq, exists_eq_left', exists_eq_left, exists_eq_right, exists_eq, exists_and_left, exists_and_right, D.int.injEq, D.bl.injEq, D.str.injEq, D.tup.injEq, D.lst.injEq, D.ref.injEq, D.ty.injEq, D.dct.injEq,
  List.cons.injEq, and_assoc, and_true, true_and, and_self, reduceCtorEq, false_and, and_false, if_true, if_false, if_pos, ite_true, ite_false, Bool.false_eq_true, decide_eq_true_eq, Bool.not_eq_true', decide_eq_false_iff_not, Bool.not_true, Bool.not_false, decide_true, decide_false,
  eqv_int, eqv_str, eqv_bl, dOk_int, dOk_bl, dOk_non, dOk_tup, dOk_lst, dOk_str, List.all_cons, List.all_nil, Bool.and_true, Bool.true_and, Bool.and_self, dItems_tup, dItems_lst, dItems_rf, CMulA, CDivA, CPowA, Int.reduceLT, Int.reduceLE, Int.reducePow, Int.reduceToNat, Int.reduceMul, Int.reduceAdd, Int.reduceSub, Nat.reducePow, true_or, or_true, ne_eq, not_false_eq_true, not_true_eq_false, dAt_tup, dAt_lst, dAt_rf, dLenOf_tup, dLenOf_lst, dLenOf_rf, dLenOf_str, dTyN_non, dTyN_bl, dTyN_int, dTyN_str, dTyN_tup, dTyN_lst, dTyN_dct, dTyN_rf, dIntOf_int, dIntOf_bl, knownT, subT, atI_0, atI_1, atI_2, atI_3, atI_4, atI_5, atI_neg1, mput_same, mput_mput, eqv_non, tyNames, Option.map_some, String.reduceBEq, Bool.or_true, Bool.true_or, Bool.or_false, Bool.false_or, Bool.false_and, Bool.and_false, beq_self_eq_true, BEq.rfl, List.any_cons, List.any_nil, sizeLine_eq, rLenB, Bool.true_eq_false, implies_true, Nat.zero_le, Bool.or_self, String.reduceEq, dAdd_ii, dAdd_ss, dAdd_tt, dMulA_ii, dMulA_si, dIxS_str, dIxS_tup, dIxS_lst, dIxS_ref, dCat, dCatF, dRep, dSl, dNoP, dPart, dJoin, mExtend, mIndex, rAnyL, rAllL, rSumL, rMaxL, rMinL, dLRg, diEnum, rSortD, dLc2F, dLc2, dYes, diEnumT, dSlS, rSortK, dFzS, dTupRev, diRev, diZip, dMulT, zipD, dDc, dDGet1, dLtD, dGtD, rListK, dUpper, diStr, dInS, dSortL, dSortSet, dSortSetT, dLenSetT, dStar, rIntS, rStrI, dKIx, dKIn, dKNotIn, rLenK, dKNew, dFzK, dFzD, dKPut, diKeys, diVals, diItems, mInsert, mPopAt, dKGet1, dKGet2, dKc, dDict_dct, dDict_put, isKb_int, isKb_str, true_implies, false_implies, dDIx, dDIn, dDNotIn, dSetD, dDNew, dSortLen, sortLenB, rSortO, dLenSetN, rSortDK, dGeD, dLeD, tmD_var, tmD_val, kn_value_var, kn_var_value, bpD_mk, pairE_mk, bdD_mk, clD_mk]))
local macro_rules | `(tactic| walk_at "p") => `(tactic| simp only [dRet, dOp, dVar, dCall, dCB, dCons, dNil, ar0, ar1, ar2, ar3, ar4, ar5, DL.rLen, dIx, dEnds, dstart, List.map_cons, List.map_nil, List.length_cons, List.length_nil, List.cons_append, List.nil_append, List.replicate, Nat.reduceAdd, Nat.reduceSub, Nat.reduceLeDiff, List.getElem?_cons_zero, List.getElem?_cons_succ, Option.some.injEq, exists_eq_left', exists_eq_left, exists_and_left, exists_and_right, List.cons.injEq, and_assoc, and_true, true_and, D.ref.injEq, D.int.injEq])
local macro_rules | `(tactic| walk_at "s1") => `(tactic| simp only [dSet, dIf, dTst, dOp, dVar, dC, dRet, dRetN, dNext, dDrop, dBreak, dCont, dAnd, dOr, dNot, dAndV, dOrV, dNotV, dIfE, dTup, dLstF, dLst, dCons, dNil, dCB, dCall, dUn, dNegI,
  dI, dI0, dEq, dNe, dIs, dIsNot, dIn, dNotIn, dIx, isN_non, isN_bl, isN_int, isN_str, isN_tup, isN_lst, isN_rf, DL.rLen, rInt, rAbs, rMax2, rMin2, DL.rGcd, rTuple, rList, rIs, rIsT, ar0, ar1, ar2, ar3, ar4, ar5, ar6, ar7, ar8, dEnds, dMt, dMt0, mAppend, mPop, mReverse, dSetL, dPut, dAsg, dgName, dgTup, dgCons, dgNil,
  dFor, diSeq, diRng1, diRng2, dLcF, dLc, dwipe, dFz,
  dstart, List.map_cons, List.map_nil, List.length_cons, List.length_nil, List.cons_append, List.nil_append, List.append_nil, List.replicate, Nat.reduceAdd, Nat.reduceSub, Nat.reduceLeDiff, Int.reduceNeg, List.set_cons_zero, List.set_cons_succ,
  List.getElem?_cons_zero, List.getElem?_cons_succ, Option.some.injEq, exists_eq_left', exists_eq_left, exists_eq_right, exists_eq, exists_and_left, exists_and_right, D.int.injEq, D.bl.injEq, D.str.injEq, D.tup.injEq, D.lst.injEq, D.ref.injEq, D.ty.injEq, D.dct.injEq,
  List.cons.injEq, and_assoc, and_true, true_and, and_self, reduceCtorEq, false_and, and_false, if_true, if_false, if_pos, ite_true, ite_false, Bool.false_eq_true, decide_eq_true_eq, Bool.not_eq_true', decide_eq_false_iff_not, Bool.not_true, Bool.not_false, decide_true, decide_false,
  eqv_int, eqv_str, eqv_bl, dOk_int, dOk_bl, dOk_non, dOk_tup, dOk_lst, dOk_str, List.all_cons, List.all_nil, Bool.and_true, Bool.true_and, Bool.and_self, dItems_tup, dItems_lst, dItems_rf, CMulA, CDivA, CPowA, Int.reduceLT, Int.reduceLE, Int.reducePow, Int.reduceToNat, Int.reduceMul, Int.reduceAdd, Int.reduceSub, Nat.reducePow, true_or, or_true, ne_eq, not_false_eq_true, not_true_eq_false, dAt_tup, dAt_lst, dAt_rf, dLenOf_tup, dLenOf_lst, dLenOf_rf, dLenOf_str, dTyN_non, dTyN_bl, dTyN_int, dTyN_str, dTyN_tup, dTyN_lst, dTyN_dct, dTyN_rf, dIntOf_int, dIntOf_bl, knownT, subT, atI_0, atI_1, atI_2, atI_3, atI_4, atI_5, atI_neg1, mput_same, mput_mput, eqv_non, tyNames, Option.map_some, String.reduceBEq, Bool.or_true, Bool.true_or, Bool.or_false, Bool.false_or, Bool.false_and, Bool.and_false, beq_self_eq_true, BEq.rfl, List.any_cons, List.any_nil, sizeLine_eq, rLenB, Bool.true_eq_false, implies_true, Nat.zero_le, Bool.or_self, String.reduceEq, dAdd_ii, dAdd_ss, dAdd_tt, dMulA_ii, dMulA_si, dIxS_str, dIxS_tup, dIxS_lst, dIxS_ref, dCat, dCatF, dRep, dSl, dNoP, dPart, dJoin, mExtend, mIndex, rAnyL, rAllL, rSumL, rMaxL, rMinL, dLRg, diEnum, rSortD, dLc2F, dLc2, dYes, diEnumT, dSlS, rSortK, dFzS, dTupRev, diRev, diZip, dMulT, zipD, dDc, dDGet1, dLtD, dGtD, rListK, dUpper, diStr, dInS, dSortL, dSortSet, dSortSetT, dLenSetT, dStar, rIntS, rStrI, dKIx, dKIn, dKNotIn, rLenK, dKNew, dFzK, dFzD, dKPut, diKeys, diVals, diItems, mInsert, mPopAt, dKGet1, dKGet2, dKc, dDict_dct, dDict_put, isKb_int, isKb_str, true_implies, false_implies, dDIx, dDIn, dDNotIn, dSetD, dDNew, dSortLen, sortLenB, rSortO, dLenSetN, rSortDK, dGeD, dLeD, tmD_var, tmD_val, kn_value_var, kn_var_value, bpD_mk, pairE_mk, bdD_mk, clD_mk])
/-! ### the walks of unification -/
theorem tmD_inj {t u : Tm} (h : tmD t = tmD u) : t = u := by
  cases t with
  | var x => cases u with
    | var y =>
      rw [tmD_var, tmD_var] at h
      injection h with h
      simp at h
      rw [h]
    | val e =>
      rw [tmD_var, tmD_val] at h
      injection h with h
      simp [kn_var_value] at h
  | val d => cases u with
    | var y =>
      rw [tmD_var, tmD_val] at h
      injection h with h
      simp [kn_value_var] at h
    | val e =>
      rw [tmD_val, tmD_val] at h
      injection h with h
      simp at h
      rw [h]
theorem eqv_tm {t u : Tm} (ht : tmOk t) (hu : tmOk u) : D.eqv (tmD t) (tmD u) = decide (t = u) := by
  have h := eqv_pl (tmD t) (tmD u) (tmD_pl ht) (tmD_pl hu)
  by_cases e : t = u
  · rw [decide_eq_true e]
    exact h.mpr (by rw [e])
  · rw [decide_eq_false e]
    cases c : D.eqv (tmD t) (tmD u) with
    | false => rfl
    | true => exact absurd (tmD_inj (h.mp c)) e
theorem res_nil (t : Tm) : res [] t = t := rfl
theorem res_cons_pos (p : Str × Tm) (m : Bd) : res (p :: m) (.var p.1) = p.2 := by
  unfold res
  rw [List.find?_cons, decide_eq_true rfl]
theorem res_cons_neg {p : Str × Tm} {m : Bd} {t : Tm} (h : t ≠ .var p.1) : res (p :: m) t = res m t := by
  unfold res
  rw [List.find?_cons, decide_eq_false h]
theorem bd_get : ∀ {m : Bd} {x : Str} {z : D}, (dget (m.map bdE) (.str x)).getD z = if x ∈ m.map (·.1) then tmD (res m (.var x)) else z
  | [], _, _ => rfl
  | p :: m, x, z => by
    have ih := bd_get (m := m) (x := x) (z := z)
    unfold dget at ih ⊢
    rw [List.map_cons, List.find?_cons]
    by_cases e : p.1 = x
    · have e2 : nk (bdE p).1 = nk (D.str x) := by rw [← e]; rfl
      subst e
      rw [decide_eq_true e2, res_cons_pos]
      simp [bdE]
    · have e2 : ¬ nk (bdE p).1 = nk (D.str x) := fun z => e (by
        have z : NestedKey.text p.1 = .text x := z
        injection z)
      have e3 : Tm.var x ≠ .var p.1 := fun z => e (by injection z with z; exact z.symm)
      have e4 : (x ∈ (p :: m).map (·.1)) = (x ∈ m.map (·.1)) := by
        rw [List.map_cons, List.mem_cons]
        simp [Ne.symm e]
      rw [decide_eq_false e2, res_cons_neg e3]
      simp only [e4]
      exact ih
theorem bd_res {m : Bd} {x : Str} : (dget (m.map bdE) (.str x)).getD (tmD (.var x)) = tmD (res m (.var x)) := by
  rw [bd_get]
  split
  · rfl
  · next h => rw [res_free h]
theorem bd_at {m : Bd} {x : Str} (h : x ∈ m.map (·.1)) : dget (m.map bdE) (.str x) = some (tmD (res m (.var x))) := by
  have h1 := bd_get (m := m) (x := x) (z := .non)
  have h2 := bd_get (m := m) (x := x) (z := .bl true)
  rw [if_pos h] at h1 h2
  cases c : dget (m.map bdE) (.str x) with
  | none =>
    rw [c] at h1 h2
    exact nomatch (show D.non = D.bl true from (show D.non = _ from h1).trans (show D.bl true = _ from h2).symm)
  | some v =>
    rw [c] at h1
    exact congrArg some h1
theorem bd_has {m : Bd} {x : Str} : dhas (m.map bdE) (.str x) = decide (x ∈ m.map (·.1)) := by
  unfold dhas
  induction m with
  | nil => rfl
  | cons p m ih =>
    rw [List.map_cons, List.any_cons, ih, List.map_cons]
    by_cases e : p.1 = x
    · rw [← e]
      simp [bdE]
    · have e2 : ¬ nk (bdE p).1 = nk (D.str x) := fun z => e (by
        have z : NestedKey.text p.1 = .text x := z
        injection z)
      rw [decide_eq_false e2]
      simp [Ne.symm e]
abbrev sp_put_terms : DSp := ar2 fun a b M Q => ∃ (t : Tm) (m : Bd), a = tmD t ∧ b = .tup (m.map bpD) ∧ tmOk t ∧ (∀ p ∈ m, pOk p) ∧ m.length ≤ 1000 ∧ Q (tmD (res m t)) M
theorem ok_put_terms (F : Def K mg "put_terms" s_put_terms ["term", "mapping"]) (B : Bi K mg) (I : Im mg)  : Cal P w K mg base 1 "put_terms" ["term", "mapping"] sp_put_terms := by
  have sc := sc_put_terms
  refine F.cal sc (fun ds M Q h => len2 h) (fun f cdv A outer s H E hr => (ds_cons (ds_for PassesOwn.never rfl (di_seq (d_v 1)) (dg_tup (n := 2) rfl (dgs_cons (dg_name (i := 2) sc.nd rfl (Or.inl rfl)) (dgs_cons (dg_name (i := 3) sc.nd rfl (Or.inl rfl)) dgs_nil)))
    (ds_one (ds_if (dt_cmp (o_eq (hu_eq hr)) (d_v 0) (d_tup (da_cons d_str (da_cons (d_v 2) da_nil))) (nomark _))
    (ds_one (ds_ret (d_v 3)))
    ds_nil)))
    (ds_one (ds_ret (d_v 0))))) (fun ds M Q h => ?_)
  obtain ⟨a, b, rfl, t, m, rfl, rfl, ht, hm, hml, h⟩ := h
  walk_at "st"
  intro _
  refine for_ind (fun items m1 M1 => ∃ (rest : Bd) (x2 x3 : Option D), items = rest.map bpD ∧ res rest t = res m t ∧ (∀ p ∈ rest, pOk p) ∧ M1 = M ∧ m1 = [some (tmD t), some (.tup (m.map bpD)), x2, x3]) ?_ ?_ _ _ _ ⟨m, _, _, rfl, rfl, hm, rfl, rfl⟩
  · rintro m1 M1 ⟨rest, x2, x3, hi, he, _, rfl, rfl⟩
    refine ⟨srcV_none, ?_⟩
    cases rest with
    | cons x r => cases hi
    | nil =>
      walk_at "rd"
      rw [res_nil] at he
      rw [← he] at h
      exact ret_of h
  · rintro z items m1 M1 Cn hC ⟨rest, x2, x3, hi, he, hr, rfl, rfl⟩
    refine ⟨srcV_none, ?_⟩
    cases rest with
    | nil => cases hi
    | cons p rest =>
      rw [List.map_cons] at hi
      injection hi with e1 e2
      subst e1
      subst e2
      have hp := hr p (by simp)
      walk_at "rd"
      rw [← tmD_var]
      refine ⟨tmD_ok ht 63, by simp [hp.1, sk_var], ?_⟩
      rw [eqv_tm ht (show tmOk (.var p.1) from hp.1)]
      by_cases e : t = .var p.1
      · rw [decide_eq_true e, if_pos rfl]
        rw [e, res_cons_pos] at he
        rw [he, ← e]
        exact ret_of h
      · rw [decide_eq_false e, if_neg Bool.false_ne_true]
        rw [res_cons_neg e] at he
        exact fg_of (hC _ _ ⟨rest, _, _, rfl, he, fun q hq => hr q (by simp [hq]), rfl, rfl⟩)
abbrev sp_resolved : DSp := ar2 fun a b M Q => ∃ (t : Tm) (m : Bd), a = tmD t ∧ b = bdD m ∧ tmOk t ∧ Q (tmD (res m t)) M
theorem ok_resolved (F : Def K mg "resolved" s_resolved ["term", "bound"]) (B : Bi K mg) (I : Im mg)  : Cal P w K mg base 1 "resolved" ["term", "bound"] sp_resolved := by
  have sc := sc_resolved
  refine F.cal sc (fun ds M Q h => len2 h) (fun f cdv A outer s H E hr => (ds_cons (ds_if (dt_cmp (o_eq (hu_eq hr)) (d_ix x_ix (d_v 0) d_int (fun _ _ => rfl)) d_str (nomark _))
    (ds_one (ds_ret (d_kget2 (hu_1 hr) (d_v 1) (d_ix x_ix (d_v 0) d_int (fun _ _ => rfl)) (d_v 0))))
    ds_nil)
    (ds_one (ds_ret (d_v 0))))) (fun ds M Q h => ?_)
  obtain ⟨a, b, rfl, t, m, rfl, rfl, ht, h⟩ := h
  cases t with
  | var x =>
    rw [← bd_res] at h
    walk_at "rd"
    exact ⟨sk_var, sk_var, ⟨_, rfl⟩, ret_of h⟩
  | val d =>
    rw [res_val] at h
    walk_at "rd"
    exact ⟨sk_value, sk_var, ret_of h⟩
theorem bd_put {b : Bd} {x : Str} {t : Tm} (h : x ∉ b.map (·.1)) : dput (b.map bdE) (.str x) (tmD t) = (b ++ [(x, t)]).map bdE := by
  rw [dput_new (by rw [bd_has]; exact decide_eq_false h), List.map_append]
  rfl
theorem keys_wv (b : Bd) (f : Str × Tm → Tm) : (b.map fun p => (p.1, f p)).map (·.1) = b.map (·.1) := by
  rw [List.map_map]
  rfl
abbrev sp_with_variable : DSp := ar3 fun a b c M Q => ∃ (m : Bd) (x : Str) (t : Tm), a = bdD m ∧ b = .str x ∧ c = tmD t ∧ PyData.strOk x = true ∧ tmOk t ∧ (∀ p ∈ m, pOk p) ∧ (m.map (·.1)).Nodup ∧ x ∉ m.map (·.1) ∧ m.length ≤ 1000 ∧ Q (bdD (wv m x t)) M
theorem ok_with_variable (F : Def K mg "with_variable" s_with_variable ["bound", "variable", "term"]) (B : Bi K mg) (I : Im mg)  : Cal P w K mg base 1 "with_variable" ["bound", "variable", "term"] sp_with_variable := by
  have sc := sc_with_variable
  refine F.cal sc (fun ds M Q h => len3 h) (fun f cdv A outer s H E hr => (ds_cons (ds_setKc (i := 3) rfl sc.nd rfl rfl (sw_trueD rfl rfl rfl (by decide +kernel)) (own := [("known", 4), ("worth", 5)]) (di_items (d_v 0)) (blkOk_by (N := N_with_variable) (sc := defScope s_with_variable) (by decide +kernel)) (by decide) (fun _ _ _ _ _ => (dg_tup (n := 2) rfl (dgs_cons (dg_name (i := 4) sc.nd rfl (Or.inl rfl)) (dgs_cons (dg_name (i := 5) sc.nd rfl (Or.inl rfl)) dgs_nil)))) (fun _ _ _ _ _ => dts_nil) (fun _ _ _ _ _ => (d_v 4)) (fun _ _ _ _ _ => (d_ifE (dt_cmp (o_eq (hu_eq hr)) (d_v 5) (d_tup (da_cons d_str (da_cons (d_v 1) da_nil))) (nomark _)) (d_v 2) (d_v 5))))
    (ds_cons (ds_kput (hu_1 hr) (d_v 2) (d_v 3) (d_v 1))
    (ds_one (ds_ret (d_fzK (d_v 3))))))) (fun ds M Q h => ?_)
  obtain ⟨a, b, c, rfl, m, x, t, rfl, rfl, rfl, hx, ht, hm, hn, hxn, hml, h⟩ := h
  walk_at "st"
  intro _ q hq
  rw [List.map_map]
  refine kc_ind (fun ds acc M1 => ∃ (dn rest : Bd), ds = rest.map (DL.pairD ∘ bdE) ∧ dn ++ rest = m ∧ acc = (dn.map fun p => (p.1, if p.2 = .var x then t else p.2)).map bdE ∧ M1 = mput M q (.dk acc)) ?_ ?_ _ _ _ ⟨[], m, rfl, rfl, rfl, rfl⟩
  · rintro acc M1 ⟨dn, rest, hi, hd, rfl, rfl⟩
    refine ⟨srcV_none, ?_⟩
    cases rest with
    | cons y r => cases hi
    | nil =>
      rw [List.append_nil] at hd
      subst hd
      walk_at "rd"
      refine ⟨_, rfl, by simp; omega, _, rfl, ?_⟩
      rw [bd_put (by rw [keys_wv dn fun p => if p.2 = .var x then t else p.2]; exact hxn), mdel_mput hq]
      exact ret_of h
  · rintro z ds acc M1 Cn hC ⟨dn, rest, hi, hd, rfl, rfl⟩
    refine ⟨srcV_none, ?_⟩
    cases rest with
    | nil => cases hi
    | cons p rest =>
      rw [List.map_cons] at hi
      injection hi with e1 e2
      subst e1
      subst e2
      have hp := hm p (by rw [← hd]; simp)
      have hnew : p.1 ∉ (dn.map fun p => (p.1, if p.2 = .var x then t else p.2)).map (·.1) := by
        rw [keys_wv dn fun p => if p.2 = .var x then t else p.2]
        rw [← hd, List.map_append, List.map_cons, List.nodup_append] at hn
        exact fun z => hn.2.2 _ z p.1 (by simp) rfl
      walk_at "rd"
      rw [← tmD_var, bd_put hnew, bd_put hnew]
      refine ⟨tmD_ok hp.2 63, by simp [hx, sk_var], ?_⟩
      rw [eqv_tm hp.2 (show tmOk (.var x) from hx)]
      by_cases e : p.2 = .var x
      · rw [decide_eq_true e, if_pos rfl]
        refine hC _ _ ⟨dn ++ [p], rest, rfl, by rw [List.append_assoc]; exact hd, ?_, rfl⟩
        rw [List.map_append]
        simp [e]
      · rw [decide_eq_false e, if_neg Bool.false_ne_true]
        refine hC _ _ ⟨dn ++ [p], rest, rfl, by rw [List.append_assoc]; exact hd, ?_, rfl⟩
        rw [List.map_append]
        simp [e]
theorem res_ok {b : Bd} {t : Tm} (hb : ∀ p ∈ b, pOk p) (ht : tmOk t) : tmOk (res b t) := by
  rcases res_or (b := b) (t := t) with ⟨e, _⟩ | ⟨p, hp, _, e⟩
  · rw [e]; exact ht
  · rw [e]; exact (hb p hp).2
theorem wv_pok {b : Bd} {x : Str} {r : Tm} (hb : ∀ p ∈ b, pOk p) (hx : PyData.strOk x = true) (hr : tmOk r) : ∀ p ∈ wv b x r, pOk p := fun p hp => by
  unfold wv at hp
  rcases List.mem_append.mp hp with hp | hp
  · obtain ⟨q, hq, rfl⟩ := List.mem_map.mp hp
    refine ⟨(hb q hq).1, ?_⟩
    dsimp only
    split
    · exact hr
    · exact (hb q hq).2
  · rw [List.mem_singleton.mp hp]
    exact ⟨hx, hr⟩
theorem wv_len {b : Bd} {x : Str} {r : Tm} : (wv b x r).length = b.length + 1 := by
  unfold wv
  simp
theorem zipD_tm : ∀ ts us : List Tm, DL.zipD (ts.map tmD) (us.map tmD) = (ts.zip us).map fun p => D.tup [tmD p.1, tmD p.2]
  | [], _ => rfl
  | _ :: _, [] => rfl
  | t :: ts, u :: us => by
    rw [List.map_cons, List.map_cons, List.zip_cons_cons, List.map_cons, ← zipD_tm ts us]
    rfl
abbrev sp_bound_terms : DSp := ar2 fun a b M Q => ∃ (ts us : List Tm), a = .tup (ts.map tmD) ∧ b = .tup (us.map tmD) ∧ ts.length = us.length ∧ ts.length ≤ 100 ∧ (∀ t ∈ ts, tmOk t) ∧ (∀ t ∈ us, tmOk t) ∧
  (uni (ts.zip us) [] = none → Q .non M) ∧ (∀ b', uni (ts.zip us) [] = some b' → (∀ p ∈ b', pOk p) → b'.length ≤ ts.length → BdOk b' → Q (bdD b') M)
theorem ok_bound_terms (F : Def K mg "bound_terms" s_bound_terms ["terms", "others"]) (B : Bi K mg) (I : Im mg) (c_resolved : Cal P w K mg base 1 "resolved" ["term", "bound"] sp_resolved) (c_with_variable : Cal P w K mg base 1 "with_variable" ["bound", "variable", "term"] sp_with_variable) : Cal P w K mg base 2 "bound_terms" ["terms", "others"] sp_bound_terms := by
  have sc := sc_bound_terms
  refine F.cal sc (fun ds M Q h => len2 h) (fun f cdv A outer s H E hr => (ds_cons (ds_set (i := 2) sc.nd rfl (Or.inl rfl) (d_fzK d_knew))
    (ds_cons (ds_for PassesOwn.never rfl (di_zip rfl B.b_zip (da_cons (d_v 0) (da_cons (d_v 1) da_nil))) (dg_tup (n := 2) rfl (dgs_cons (dg_name (i := 3) sc.nd rfl (Or.inl rfl)) (dgs_cons (dg_name (i := 4) sc.nd rfl (Or.inl rfl)) dgs_nil)))
    (ds_cons (ds_set (i := 5) sc.nd rfl (Or.inl rfl) (d_call c_resolved (hr.mono (by first | decide | omega)) rfl (da_cons (d_v 3) (da_cons (d_v 2) da_nil))))
    (ds_cons (ds_set (i := 6) sc.nd rfl (Or.inl rfl) (d_call c_resolved (hr.mono (by first | decide | omega)) rfl (da_cons (d_v 4) (da_cons (d_v 2) da_nil))))
    (ds_one (ds_if (dt_cmp (o_ne (hu_eq hr)) (d_v 5) (d_v 6) (nomark _))
    (ds_one (ds_if (dt_cmp (o_eq (hu_eq hr)) (d_ix x_ix (d_v 5) d_int (fun _ _ => rfl)) d_str (nomark _))
    (ds_one (ds_set (i := 2) sc.nd rfl (Or.inl rfl) (d_call c_with_variable (hr.mono (by first | decide | omega)) rfl (da_cons (d_v 2) (da_cons (d_ix x_ix (d_v 5) d_int (fun _ _ => rfl)) (da_cons (d_v 6) da_nil))))))
    (ds_one (ds_if (dt_cmp (o_eq (hu_eq hr)) (d_ix x_ix (d_v 6) d_int (fun _ _ => rfl)) d_str (nomark _))
    (ds_one (ds_set (i := 2) sc.nd rfl (Or.inl rfl) (d_call c_with_variable (hr.mono (by first | decide | omega)) rfl (da_cons (d_v 2) (da_cons (d_ix x_ix (d_v 6) d_int (fun _ _ => rfl)) (da_cons (d_v 5) da_nil))))))
    (ds_one (ds_ret d_non))))))
    ds_nil)))))
    (ds_one (ds_ret (d_v 2)))))) (fun ds M Q h => ?_)
  obtain ⟨a, b, rfl, ts, us, rfl, rfl, hl, hl2, ht, hu, hN, hS⟩ := h
  walk_at "st"
  intro q hq
  rw [mdel_mput hq]
  refine ⟨_, rfl, ?_⟩
  walk_at "st"
  rw [zipD_tm]
  intro _
  have hps : ∀ p ∈ ts.zip us, tmOk p.1 ∧ tmOk p.2 := fun p hp => ⟨ht _ (List.of_mem_zip hp).1, hu _ (List.of_mem_zip hp).2⟩
  have hpl : (ts.zip us).length ≤ ts.length := by simp; omega
  generalize hR : uni (ts.zip us) [] = R at hN hS
  refine for_ind (fun items m1 M1 => ∃ (rest : List (Tm × Tm)) (b : Bd) (x3 x4 x5 x6 : Option D), items = rest.map (fun p => D.tup [tmD p.1, tmD p.2]) ∧ uni rest b = R ∧ b.length + rest.length ≤ ts.length ∧ (∀ p ∈ rest, tmOk p.1 ∧ tmOk p.2) ∧ (∀ p ∈ b, pOk p) ∧ BdOk b ∧ M1 = M ∧
    m1 = [some (.tup (ts.map tmD)), some (.tup (us.map tmD)), some (bdD b), x3, x4, x5, x6]) ?_ ?_ _ _ _ ⟨ts.zip us, [], _, _, _, _, rfl, hR, by simpa using hpl, hps, (fun _ h => nomatch h), .nil, rfl, rfl⟩
  · rintro m1 M1 ⟨rest, b, x3, x4, x5, x6, hi, he, hbl, hr, hb, hB, rfl, rfl⟩
    refine ⟨srcV_none, ?_⟩
    cases rest with
    | cons x r => cases hi
    | nil =>
      walk_at "rd"
      exact ret_of (hS b he.symm hb (by simpa using hbl) hB)
  · rintro z items m1 M1 Cn hC ⟨rest, b, x3, x4, x5, x6, hi, he, hbl, hr, hb, hB, rfl, rfl⟩
    refine ⟨srcV_none, ?_⟩
    cases rest with
    | nil => cases hi
    | cons p rest =>
      rw [List.map_cons] at hi
      injection hi with e1 e2
      subst e1
      subst e2
      obtain ⟨s, t⟩ := p
      have hp := hr (s, t) (by simp)
      rw [List.length_cons] at hbl
      have h1 := res_ok hb hp.1
      have h2 := res_ok hb hp.2
      have hr2 : ∀ p ∈ rest, tmOk p.1 ∧ tmOk p.2 := fun p hp => hr p (by simp [hp])
      unfold uni at he
      walk_at "rd"
      refine ⟨s, rfl, b, rfl, hp.1, t, rfl, b, rfl, hp.2, tmD_ok h1 63, tmD_ok h2 63, ?_⟩
      rw [eqv_tm h1 h2]
      by_cases e : res b s = res b t
      · rw [if_pos e] at he
        rw [decide_eq_true e, if_neg Bool.noConfusion]
        exact fg_of (hC _ _ ⟨rest, b, _, _, _, _, rfl, he, by omega, hr2, hb, hB, rfl, rfl⟩)
      · rw [if_neg e] at he
        rw [decide_eq_false e, if_pos rfl]
        cases hs : res b s with
        | var x =>
          rw [hs] at he h1
          have he : uni rest (wv b x (res b t)) = R := he
          have hxf := hB.loose hs
          refine ⟨_, rfl, _, rfl, by rw [dOk_str]; exact sk_var, sk_var, ?_⟩
          rw [if_pos (by rw [eqv_str]; simp)]
          refine ⟨_, rfl, _, rfl, b, rfl, x, rfl, res b t, rfl, h1, h2, hb, hB.nd, hxf, by omega, fg_of (hC _ _ ⟨rest, wv b x (res b t), _, _, _, _, rfl, he, by rw [wv_len]; omega, hr2, wv_pok hb h1 h2, ?_, rfl, rfl⟩)⟩
          exact wv_ok hB hxf (fun z => e (by rw [hs, z])) fun y hy => hB.loose hy
        | val d =>
          rw [hs] at he h1
          refine ⟨_, rfl, _, rfl, by rw [dOk_str]; exact sk_value, sk_var, ?_⟩
          rw [if_neg (by rw [eqv_str]; simp [kn_value_var])]
          cases ht2 : res b t with
          | var y =>
            rw [ht2] at he h2
            have he : uni rest (wv b y (.val d)) = R := he
            have hyf := hB.loose ht2
            refine ⟨_, rfl, _, rfl, by rw [dOk_str]; exact sk_var, sk_var, ?_⟩
            rw [if_pos (by rw [eqv_str]; simp)]
            refine ⟨_, rfl, _, rfl, b, rfl, y, rfl, .val d, rfl, h2, h1, hb, hB.nd, hyf, by omega, fg_of (hC _ _ ⟨rest, wv b y (.val d), _, _, _, _, rfl, he, by rw [wv_len]; omega, hr2, wv_pok hb h2 h1, ?_, rfl, rfl⟩)⟩
            exact wv_ok hB hyf (fun z => nomatch z) fun _ z => nomatch z
          | val c =>
            rw [ht2] at he h2
            have he : none = R := he
            refine ⟨_, rfl, _, rfl, by rw [dOk_str]; exact sk_value, sk_var, ?_⟩
            rw [if_neg (by rw [eqv_str]; simp [kn_value_var])]
            exact ret_of (hN he.symm)
theorem bd_keys (b : Bd) : (b.map bdE).map (·.1) = (b.map (·.1)).map D.str := by
  rw [List.map_map, List.map_map]
  rfl
/-- what unified tells: the names in their order, each with its worth -/
abbrev sp_unified : DSp := ar2 fun a b M Q => ∃ (ts us : List Tm), a = .tup (ts.map tmD) ∧ b = .tup (us.map tmD) ∧ ts.length = us.length ∧ ts.length ≤ 60 ∧ (∀ t ∈ ts, tmOk t) ∧ (∀ t ∈ us, tmOk t) ∧
  (uni (ts.zip us) [] = none → Q .non M) ∧ (∀ (b' : Bd) (ys : List Str), uni (ts.zip us) [] = some b' → (∀ p ∈ b', pOk p) → ys.Perm (b'.map (·.1)) → ys.Pairwise LeS → Q (.tup (ys.map fun y => bpD (y, res b' (.var y)))) M)
theorem ok_unified (F : Def K mg "unified" s_unified ["terms", "others"]) (B : Bi K mg) (I : Im mg) (c_bound_terms : Cal P w K mg base 2 "bound_terms" ["terms", "others"] sp_bound_terms) : Cal P w K mg base 3 "unified" ["terms", "others"] sp_unified := by
  have sc := sc_unified
  refine F.cal sc (fun ds M Q h => len2 h) (fun f cdv A outer s H E hr => (ds_cons (ds_set (i := 2) sc.nd rfl (Or.inr rfl) (d_call c_bound_terms (hr.mono (by first | decide | omega)) rfl (da_cons (d_v 0) (da_cons (d_v 1) da_nil))))
    (ds_cons (ds_if (dt_cmp o_is (d_v 2) d_non (nomark _))
    (ds_one (ds_ret d_non))
    ds_nil)
    (ds_one (ds_ret (d_ct c_tuple rfl B.b_tuple boot_tuple (da_cons (d_lcF rfl sc.nd (own := [("variable", 3)]) (di_seq (d_fz (d_cb (c_sortDK rfl) rfl B.b_sorted boot_sorted (da_cons (d_v 2) da_nil)))) (blkOk_by (N := N_unified) (sc := defScope s_unified) (by decide +kernel)) (by decide) (fun _ _ _ _ _ => (dg_name (i := 3) sc.nd rfl (Or.inl rfl))) (fun _ _ _ _ _ => dts_nil) (fun _ _ _ _ _ => (d_tup (da_cons (d_v 3) (da_cons (d_kix (hu_1 hr) (d_v 2) (d_v 3) (fun _ _ => rfl)) da_nil))))) da_nil))))))) (fun ds M Q h => ?_)
  obtain ⟨a, b, rfl, ts, us, rfl, rfl, hl, hl2, ht, hu, hN, hS⟩ := h
  walk_at "st"
  refine ⟨ts, rfl, us, rfl, hl, by omega, ht, hu, fun hn => ?_, fun b' hs hb hbl hB => ?_⟩
  · walk_at "rd"
    exact ret_of (hN hn)
  · walk_at "rd"
    rw [if_neg (fun z => nomatch z)]
    refine ⟨b'.map (·.1), bd_keys b', by rw [List.length_map]; omega, fun ys q hp hle hq => ⟨_, rfl, fun _ => ?_⟩⟩
    rw [mdel_mput hq]
    refine lc_map ys D.str (fun y => bpD (y, res b' (.var y))) rfl srcV_none (fun y hy M5 l5 C1 h5 => ?_) fun r hr => ?_
    · have hk := hp.mem_iff.mp hy
      walk_at "rd"
      exact ⟨_, bd_at hk, h5⟩
    · rw [mdel_mput hr]
      exact ret_of (hS b' ys hs hb hp hle)
abbrev sp_l_after : DSp := ar2 fun a b M Q => ∃ (t : Tm) (m : Bd), a = tmD t ∧ dItems b M = some (m.map bpD) ∧ tmOk t ∧ (∀ p ∈ m, pOk p) ∧ m.length ≤ 1000 ∧ Q (tmD (res m t)) M
theorem ok_l_after (F : Def K mg "_law_after" s_l_after ["term", "mapping"]) (B : Bi K mg) (I : Im mg)  : Cal P w K mg base 1 "_law_after" ["term", "mapping"] sp_l_after := by
  have sc := sc_l_after
  refine F.cal sc (fun ds M Q h => len2 h) (fun f cdv A outer s H E hr => (ds_cons (ds_for PassesOwn.never rfl (di_seq (d_v 1)) (dg_name (i := 2) sc.nd rfl (Or.inl rfl))
    (ds_one (ds_if (dt_cmp (o_eq (hu_eq hr)) (d_v 0) (d_tup (da_cons d_str (da_cons (d_ix x_ix (d_v 2) d_int (fun _ _ => rfl)) da_nil))) (nomark _))
    (ds_one (ds_ret (d_ix x_ix (d_v 2) d_int (fun _ _ => rfl))))
    ds_nil)))
    (ds_one (ds_ret (d_v 0))))) (fun ds M Q h => ?_)
  obtain ⟨a, b, rfl, t, m, rfl, hb, ht, hm, hml, h⟩ := h
  walk_at "st"
  refine ⟨_, hb, fun _ => ?_⟩
  refine for_ind (fun items m1 M1 => ∃ (rest : Bd) (x2 : Option D), items = rest.map bpD ∧ res rest t = res m t ∧ (∀ p ∈ rest, pOk p) ∧ M1 = M ∧ m1 = [some (tmD t), some b, x2]) ?_ ?_ _ _ _ ⟨m, _, rfl, rfl, hm, rfl, rfl⟩
  · rintro m1 M1 ⟨rest, x2, hi, he, _, rfl, rfl⟩
    refine ⟨srcV_of hb, ?_⟩
    cases rest with
    | cons x r => cases hi
    | nil =>
      walk_at "rd"
      rw [res_nil] at he
      rw [← he] at h
      exact ret_of h
  · rintro z items m1 M1 Cn hC ⟨rest, x2, hi, he, hr, rfl, rfl⟩
    refine ⟨srcV_of hb, ?_⟩
    cases rest with
    | nil => cases hi
    | cons p rest =>
      rw [List.map_cons] at hi
      injection hi with e1 e2
      subst e1
      subst e2
      have hp := hr p (by simp)
      walk_at "rd"
      rw [← tmD_var]
      refine ⟨tmD_ok ht 63, by simp [hp.1, sk_var], ?_⟩
      rw [eqv_tm ht (show tmOk (.var p.1) from hp.1)]
      by_cases e : t = .var p.1
      · rw [decide_eq_true e, if_pos rfl]
        rw [e, res_cons_pos] at he
        rw [he, ← e]
        exact ret_of h
      · rw [decide_eq_false e, if_neg Bool.false_ne_true]
        rw [res_cons_neg e] at he
        exact fg_of (hC _ _ ⟨rest, _, rfl, he, fun q hq => hr q (by simp [hq]), rfl, rfl⟩)
theorem any_tm {t : Tm} {c : List Tm} (ht : tmOk t) (hc : ∀ u ∈ c, tmOk u) : (c.any fun u => D.eqv (tmD u) (tmD t)) = decide (t ∈ c) := by
  induction c with
  | nil => rfl
  | cons u c ih =>
    rw [List.any_cons, ih fun v hv => hc v (by simp [hv]), eqv_tm (hc u (by simp)) ht]
    by_cases e : u = t
    · simp [e]
    · simp [e, Ne.symm e]
theorem any_tmD {t : Tm} {c : List Tm} (ht : tmOk t) (hc : ∀ u ∈ c, tmOk u) : ((c.map tmD).any fun z => z.eqv (tmD t)) = decide (t ∈ c) := by
  rw [List.any_map]
  exact any_tm ht hc
theorem any_decs {t : Tm} : ∀ {c : List Tm}, ((c.map fun u => D.bl (decide (t = u))).any fun z => z.eqv (.bl true)) = decide (t ∈ c)
  | [] => rfl
  | u :: c => by
    rw [List.map_cons, List.any_cons, any_decs, eqv_bl]
    by_cases e : t = u <;> simp [e]
abbrev sp_l_among : DSp := ar2 fun a b M Q => ∃ (t : Tm) (c : List Tm), a = tmD t ∧ b = .lst (c.map tmD) ∧ tmOk t ∧ (∀ u ∈ c, tmOk u) ∧ Q (.bl (decide (t ∈ c))) M
theorem ok_l_among (F : Def K mg "_law_among" s_l_among ["thing", "row"]) (B : Bi K mg) (I : Im mg) (c_l_same : Cal P w K mg base 13 "_law_same" ["actual", "due"] sp_l_same) : Cal P w K mg base 14 "_law_among" ["thing", "row"] sp_l_among := by
  have sc := sc_l_among
  refine F.cal sc (fun ds M Q h => len2 h) (fun f cdv A outer s H E hr => (ds_one (ds_ret (d_cmp (o_in (hu_in hr)) d_bl (d_lcF rfl sc.nd (own := [("other", 2)]) (di_seq (d_v 1)) (blkOk_by (N := N_l_among) (sc := defScope s_l_among) (by decide +kernel)) (by decide) (fun _ _ _ _ _ => (dg_name (i := 2) sc.nd rfl (Or.inl rfl))) (fun _ _ _ _ _ => dts_nil) (fun _ _ _ _ _ => (d_call c_l_same (hr.mono (by first | decide | omega)) rfl (da_cons (d_v 0) (da_cons (d_v 2) da_nil))))) rfl)))) (fun ds M Q h => ?_)
  obtain ⟨a, b, rfl, t, c, rfl, rfl, ht, hc, h⟩ := h
  walk_at "rd"
  intro _
  refine lc_map c tmD (fun u => .bl (decide (t = u))) rfl srcV_none (fun u hu M5 l5 C1 h5 => ?_) fun p hp => ?_
  · walk_at "rd"
    refine ⟨tmD_pl ht, tmD_pl (hc u hu), tmD_ok ht 11, tmD_ok (hc u hu) 11, ?_⟩
    rw [eqv_tm ht (hc u hu)]
    exact h5
  · rw [mdel_mput hp]
    rw [any_decs]
    exact ⟨by rw [List.all_map]; exact List.all_eq_true.mpr fun x _ => dOk_bl .., ret_of h⟩
abbrev sp_l_is_term : DSp := ar1 fun a M Q => ∃ (t : Tm), a = tmD t ∧ tmOk t ∧ Q (.bl true) M
theorem ok_l_is_term (F : Def K mg "_law_is_term" s_l_is_term ["term"]) (B : Bi K mg) (I : Im mg) (c_l_same : Cal P w K mg base 13 "_law_same" ["actual", "due"] sp_l_same) : Cal P w K mg base 14 "_law_is_term" ["term"] sp_l_is_term := by
  have sc := sc_l_is_term
  refine F.cal sc (fun ds M Q h => len1 h) (fun f cdv A outer s H E hr => (ds_cons (ds_if (dt_w (dw_or (dt_not (dt_val (d_cb c_is rfl B.b_isinstance boot_isinstance (da_cons (d_v 0) (da_cons (d_ty rfl B.b_tuple boot_tuple) da_nil))))) (dw_or1 (dt_cmp (o_ne (hu_eq hr)) (d_cb c_len rfl B.b_len boot_len (da_cons (d_v 0) da_nil)) d_int (nomark _)))))
    (ds_one (ds_ret d_bl))
    ds_nil)
    (ds_cons (ds_if (dt_val (d_call c_l_same (hr.mono (by first | decide | omega)) rfl (da_cons (d_ix x_ix (d_v 0) d_int (fun _ _ => rfl)) (da_cons d_str da_nil))))
    (ds_one (ds_ret (d_cb c_is rfl B.b_isinstance boot_isinstance (da_cons (d_ix x_ix (d_v 0) d_int (fun _ _ => rfl)) (da_cons (d_ty rfl B.b_str boot_str) da_nil)))))
    ds_nil)
    (ds_cons (ds_set (i := 1) sc.nd rfl (Or.inl rfl) (d_and (d_cb c_is rfl B.b_isinstance boot_isinstance (da_cons (d_ix x_ix (d_v 0) d_int (fun _ _ => rfl)) (da_cons (d_ty rfl B.b_int boot_int) da_nil))) (d_one (d_not (d_cb c_is rfl B.b_isinstance boot_isinstance (da_cons (d_ix x_ix (d_v 0) d_int (fun _ _ => rfl)) (da_cons (d_ty rfl B.b_bool boot_bool) da_nil)))))))
    (ds_one (ds_ret (d_and (d_call c_l_same (hr.mono (by first | decide | omega)) rfl (da_cons (d_ix x_ix (d_v 0) d_int (fun _ _ => rfl)) (da_cons d_str da_nil))) (d_one (d_or (d_v 1) (d_one (d_cb c_is rfl B.b_isinstance boot_isinstance (da_cons (d_ix x_ix (d_v 0) d_int (fun _ _ => rfl)) (da_cons (d_ty rfl B.b_str boot_str) da_nil))))))))))))) (fun ds M Q h => ?_)
  obtain ⟨a, rfl, t, rfl, ht, h⟩ := h
  cases t with
  | var x =>
    walk_at "rd"
    rw [if_neg (by simp)]
    exact ⟨rfl, rfl, sk_var, sk_var, ret_of h⟩
  | val d =>
    rcases ht with ⟨i, rfl⟩ | ⟨s, rfl, hs⟩
    · walk_at "rd"
      rw [if_neg (by simp)]
      exact ⟨rfl, rfl, sk_value, sk_var, rfl, rfl, sk_value, sk_value, ret_of h⟩
    · walk_at "rd"
      rw [if_neg (by simp)]
      exact ⟨rfl, rfl, sk_value, sk_var, rfl, rfl, sk_value, sk_value, ret_of h⟩
abbrev csLen (cs : List (List Tm)) : Nat := (cs.map List.length).sum
abbrev sp_l_class_of : DSp := ar2 fun a b M Q => ∃ (cs : List (List Tm)) (t : Tm), a = .lst (cs.map clD) ∧ b = tmD t ∧ tmOk t ∧ (∀ c ∈ cs, ∀ u ∈ c, tmOk u) ∧ (∃ c ∈ cs, t ∈ c) ∧ ∀ c ∈ cs, t ∈ c → Q (clD c) M
theorem ok_l_class_of (F : Def K mg "_law_class_of" s_l_class_of ["classes", "term"]) (B : Bi K mg) (I : Im mg)  : Cal P w K mg base 1 "_law_class_of" ["classes", "term"] sp_l_class_of := by
  have sc := sc_l_class_of
  refine F.cal sc (fun ds M Q h => len2 h) (fun f cdv A outer s H E hr => (ds_cons (ds_for PassesOwn.never rfl (di_seq (d_v 0)) (dg_name (i := 2) sc.nd rfl (Or.inl rfl))
    (ds_one (ds_if (dt_cmp (o_in (hu_in hr)) (d_v 1) (d_v 2) rfl)
    (ds_one (ds_ret (d_v 2)))
    ds_nil)))
    (ds_one (ds_ret (d_lstF (da_cons (d_v 1) da_nil)))))) (fun ds M Q h => ?_)
  obtain ⟨a, b, rfl, cs, t, rfl, rfl, ht, hc, hex, h⟩ := h
  walk_at "st"
  intro _
  refine for_ind (fun items m1 M1 => ∃ (rest : List (List Tm)) (x2 : Option D), items = rest.map clD ∧ (∀ c ∈ rest, c ∈ cs) ∧ (∃ c ∈ rest, t ∈ c) ∧ M1 = M ∧ m1 = [some (.lst (cs.map clD)), some (tmD t), x2]) ?_ ?_ _ _ _ ⟨cs, _, rfl, fun _ h => h, hex, rfl, rfl⟩
  · rintro m1 M1 ⟨rest, x2, hi, _, hex, rfl, rfl⟩
    refine ⟨srcV_none, ?_⟩
    cases rest with
    | cons x r => cases hi
    | nil =>
      obtain ⟨c, hc, _⟩ := hex
      cases hc
  · rintro z items m1 M1 Cn hC ⟨rest, x2, hi, hr, hex, rfl, rfl⟩
    refine ⟨srcV_none, ?_⟩
    cases rest with
    | nil => cases hi
    | cons c rest =>
      rw [List.map_cons] at hi
      injection hi with e1 e2
      subst e1
      subst e2
      have hco := hr c (by simp)
      have hcs := hc c hco
      walk_at "rd"
      refine ⟨tmD_ok ht 62, tms_ok hcs 62, ?_⟩
      rw [any_tmD ht hcs]
      by_cases e : t ∈ c
      · rw [decide_eq_true e, if_pos rfl]
        exact ret_of (h c hco e)
      · rw [decide_eq_false e, if_neg Bool.false_ne_true]
        obtain ⟨c', hc', hm⟩ := hex
        rcases List.mem_cons.mp hc' with z | hc'
        · exact absurd (z ▸ hm) e
        · exact fg_of (hC _ _ ⟨rest, _, rfl, fun d hd => hr d (by simp [hd]), ⟨c', hc', hm⟩, rfl, rfl⟩)
theorem csLen_split (f : List Tm → Bool) : ∀ cs : List (List Tm), csLen (cs.filter fun c => !f c) + (cs.filter f).flatten.length = csLen cs
  | [] => rfl
  | c :: cs => by
    have ih := csLen_split f cs
    have e : csLen (c :: cs) = c.length + csLen cs := by simp [csLen]
    rw [e]
    cases h : f c with
    | true =>
      rw [List.filter_cons_of_neg (by simp [h]), List.filter_cons_of_pos h, List.flatten_cons, List.length_append]
      omega
    | false =>
      rw [List.filter_cons_of_pos (by simp [h]), List.filter_cons_of_neg (by simp [h])]
      have e2 : csLen (c :: cs.filter fun c => !f c) = c.length + csLen (cs.filter fun c => !f c) := by simp [csLen]
      rw [e2]
      omega
theorem csLen_app (a b : List (List Tm)) : csLen (a ++ b) = csLen a + csLen b := by simp [csLen]
theorem csLen_step (cs : List (List Tm)) (s t : Tm) : csLen (cstep cs s t) = csLen cs + 2 := by
  have h := csLen_split (fun c => decide (s ∈ c) || decide (t ∈ c)) cs
  unfold cstep
  rw [csLen_app]
  have e : csLen [[s, t] ++ (cs.filter fun c => decide (s ∈ c) || decide (t ∈ c)).flatten] = 2 + (cs.filter fun c => decide (s ∈ c) || decide (t ∈ c)).flatten.length := by simp [csLen]; omega
  omega
theorem cstep_ok {cs : List (List Tm)} {s t : Tm} (h : ∀ c ∈ cs, ∀ u ∈ c, tmOk u) (hs : tmOk s) (ht : tmOk t) : ∀ c ∈ cstep cs s t, ∀ u ∈ c, tmOk u := by
  intro c hc u hu
  rcases mem_cstep.mp hc with ⟨k, _⟩ | rfl
  · exact h c k u hu
  · rcases List.mem_append.mp hu with hu | hu
    · simp only [List.mem_cons, List.not_mem_nil, or_false] at hu
      rcases hu with rfl | rfl
      · exact hs
      · exact ht
    · obtain ⟨d, hd, hu⟩ := List.mem_flatten.mp hu
      exact h d (List.mem_filter.mp hd).1 u hu
abbrev sp_l_classes : DSp := ar2 fun a b M Q => ∃ (ts us : List Tm), a = .tup (ts.map tmD) ∧ b = .tup (us.map tmD) ∧ ts.length = us.length ∧ ts.length ≤ 60 ∧ (∀ t ∈ ts, tmOk t) ∧ (∀ t ∈ us, tmOk t) ∧ Q (.lst ((cls (ts.zip us) []).map clD)) M
theorem ok_l_classes (F : Def K mg "_law_classes" s_l_classes ["terms", "others"]) (B : Bi K mg) (I : Im mg)  : Cal P w K mg base 1 "_law_classes" ["terms", "others"] sp_l_classes := by
  have sc := sc_l_classes
  refine F.cal sc (fun ds M Q h => len2 h) (fun f cdv A outer s H E hr => (ds_cons (ds_set (i := 2) sc.nd rfl (Or.inl rfl) (d_lstF da_nil))
    (ds_cons (ds_for PassesOwn.never rfl (di_range1 rfl B.b_range (da_cons (d_cb c_lenB rfl B.b_len boot_len (da_cons (d_v 0) da_nil)) da_nil)) (dg_name (i := 3) sc.nd rfl (Or.inl rfl))
    (ds_cons (ds_set (i := 4) sc.nd rfl (Or.inl rfl) (d_lstF (da_cons (d_ix x_ix (d_v 0) (d_v 3) (fun _ _ => rfl)) (da_cons (d_ix x_ix (d_v 1) (d_v 3) (fun _ _ => rfl)) da_nil))))
    (ds_cons (ds_set (i := 5) sc.nd rfl (Or.inl rfl) (d_lst da_nil))
    (ds_cons (ds_for PassesOwn.never rfl (di_seq (d_v 2)) (dg_name (i := 6) sc.nd rfl (Or.inl rfl))
    (ds_one (ds_if (dt_w (dw_or (dt_cmp (o_in (hu_in hr)) (d_ix x_ix (d_v 0) (d_v 3) (fun _ _ => rfl)) (d_v 6) rfl) (dw_or1 (dt_cmp (o_in (hu_in hr)) (d_ix x_ix (d_v 1) (d_v 3) (fun _ _ => rfl)) (d_v 6) rfl))))
    (ds_one (ds_set (i := 4) sc.nd rfl (Or.inl rfl) (d_catF (d_v 4) (d_v 6))))
    (ds_one (ds_expr (d_mt PySem.F.slot_list_append PySem.F.type_list_append m_append (d_v 5) (da_cons (d_v 6) da_nil)))))))
    (ds_one (ds_set (i := 2) sc.nd rfl (Or.inl rfl) (d_catF (d_v 5) (d_lstF (da_cons (d_v 4) da_nil)))))))))
    (ds_one (ds_ret (d_v 2)))))) (fun ds M Q h => ?_)
  obtain ⟨a, b, rfl, ts, us, rfl, rfl, hl, hl2, ht, hu, h⟩ := h
  generalize hR : cls (ts.zip us) [] = R at h
  walk_at "st"
  walk_at "st"
  rw [List.length_map]
  intro _
  refine ⟨by omega, by omega, fun _ => ?_⟩
  rw [Int.toNat_natCast]
  refine for_ind (fun items m1 M1 => ∃ (j : Nat) (cs : List (List Tm)) (x3 x4 x5 x6 : Option D), items = rangeD (j : Int) (ts.length - j) ∧ j ≤ ts.length ∧ cls ((ts.zip us).drop j) cs = R ∧ csLen cs = 2 * j ∧ cs.length ≤ j ∧ (∀ c ∈ cs, ∀ u ∈ c, tmOk u) ∧ M1 = M ∧
    m1 = [some (.tup (ts.map tmD)), some (.tup (us.map tmD)), some (.lst (cs.map clD)), x3, x4, x5, x6]) ?_ ?_ _ _ _ ⟨0, [], _, _, _, _, rfl, Nat.zero_le _, hR, rfl, Nat.zero_le _, (fun _ h => nomatch h), rfl, rfl⟩
  · rintro m1 M1 ⟨j, cs, x3, x4, x5, x6, hi, hj, he, hc1, hc2, hok, rfl, rfl⟩
    refine ⟨srcV_none, ?_⟩
    have hj2 : j = ts.length := by
      rcases Nat.lt_or_ge j ts.length with z | z
      · rw [show ts.length - j = (ts.length - (j + 1)) + 1 by omega, rangeD_cons] at hi
        cases hi
      · omega
    rw [List.drop_eq_nil_of_le (by simp; omega)] at he
    have he : cs = R := he
    subst he
    walk_at "rd"
    exact ret_of h
  · rintro z items m1 M1 Cn hC ⟨j, cs, x3, x4, x5, x6, hi, hj, he, hc1, hc2, hok, rfl, rfl⟩
    refine ⟨srcV_none, ?_⟩
    have hj2 : j < ts.length := by
      rcases Nat.lt_or_ge j ts.length with z | z
      · exact z
      · rw [show ts.length - j = 0 by omega] at hi
        cases hi
    rw [show ts.length - j = (ts.length - (j + 1)) + 1 by omega, rangeD_cons] at hi
    injection hi with e1 e2
    subst e1
    subst e2
    have hz : j < (ts.zip us).length := by simp; omega
    have hj3 : j < us.length := by omega
    obtain ⟨s, hs⟩ : ∃ s, s = ts[j] := ⟨_, rfl⟩
    obtain ⟨t, htt⟩ : ∃ t, t = us[j] := ⟨_, rfl⟩
    have a1 : atI (ts.map tmD) ((j : Nat) : Int) = some (tmD s) := by rw [atI_n, List.getElem?_map, List.getElem?_eq_getElem hj2, hs]; rfl
    have a2 : atI (us.map tmD) ((j : Nat) : Int) = some (tmD t) := by rw [atI_n, List.getElem?_map, List.getElem?_eq_getElem hj3, htt]; rfl
    have os : tmOk s := by rw [hs]; exact ht _ (List.getElem_mem hj2)
    have ot : tmOk t := by rw [htt]; exact hu _ (List.getElem_mem hj3)
    have he : cls ((ts.zip us).drop (j + 1)) (cstep cs s t) = R := by
      rw [List.drop_eq_getElem_cons hz, List.getElem_zip, ← hs, ← htt] at he
      exact he
    walk_at "st"
    refine ⟨_, a1, _, a2, ?_⟩
    walk_at "st"
    intro q hq
    walk_at "st"
    intro _
    obtain ⟨f, hf⟩ : ∃ f : List Tm → Bool, f = fun c => decide (s ∈ c) || decide (t ∈ c) := ⟨_, rfl⟩
    refine for_ind (fun items m1 M1' => ∃ (dn rc : List (List Tm)) (x6 : Option D), items = rc.map clD ∧ dn ++ rc = cs ∧ M1' = mput M1 q (.lst ((dn.filter fun c => !f c).map clD)) ∧
      m1 = [some (.tup (ts.map tmD)), some (.tup (us.map tmD)), some (.lst (cs.map clD)), some (.int j), some (clD ([s, t] ++ (dn.filter f).flatten)), some (.ref q), x6]) ?_ ?_ _ _ _ ⟨[], cs, _, rfl, rfl, rfl, rfl⟩
    · rintro m1 M1' ⟨dn, rc, x6, hi, hd, rfl, rfl⟩
      refine ⟨srcV_none, ?_⟩
      cases rc with
      | cons x r => cases hi
      | nil =>
        rw [List.append_nil] at hd
        subst hd
        have hle : (dn.filter fun c => !f c).length ≤ dn.length := List.length_filter_le ..
        have e : (dn.filter fun c => !f c).map clD ++ [clD ([s, t] ++ (dn.filter f).flatten)] = (cstep dn s t).map clD := by
          unfold cstep
          rw [List.map_append, hf]
          rfl
        have hlen : (cstep dn s t).length ≤ j + 1 := by
          have := congrArg List.length e
          rw [List.length_append, List.length_map, List.length_map, List.length_singleton] at this
          omega
        walk_at "rd"
        rw [show List.map clD (List.filter (fun c => !f c) dn) ++ [D.lst (tmD s :: tmD t :: List.map tmD (List.filter f dn).flatten)] = _ from e]
        refine ⟨by rw [List.length_map]; omega, M1, (MLe.refl _).put hq, hC _ _ ⟨j + 1, cstep dn s t, _, _, _, _, rfl, hj2, he, by rw [csLen_step, hc1]; omega, hlen, cstep_ok hok os ot, rfl, rfl⟩⟩
    · rintro z items m1 M1' Cn2 hC2 ⟨dn, rc, x6, hi, hd, rfl, rfl⟩
      refine ⟨srcV_none, ?_⟩
      cases rc with
      | nil => cases hi
      | cons c rc =>
        rw [List.map_cons] at hi
        injection hi with e1 e2
        subst e1
        subst e2
        have hcs : c ∈ cs := by rw [← hd]; simp
        have hco := hok c hcs
        have hin : decide (s ∈ c) = true ∨ decide (t ∈ c) = true ↔ f c = true := by rw [hf]; simp
        have hsz : (dn.filter f).flatten.length + c.length ≤ csLen cs := by
          have h1 := csLen_split f dn
          have h2 : csLen cs = csLen dn + (c.length + csLen rc) := by
            rw [← hd, csLen_app]
            simp [csLen]
          omega
        have hdl : (dn.filter fun c => !f c).length ≤ cs.length := by
          rw [← hd, List.length_append]
          have : (dn.filter fun c => !f c).length ≤ dn.length := List.length_filter_le ..
          omega
        have hyes : f c = true → Cn2 [some (.tup (ts.map tmD)), some (.tup (us.map tmD)), some (.lst (cs.map clD)), some (.int j), some (.lst (tmD s :: tmD t :: ((dn.filter f).flatten.map tmD ++ c.map tmD))), some (.ref q), some (.lst (c.map tmD))]
            (mput M1 q (.lst ((dn.filter fun c => !f c).map clD))) := fun hf1 => by
          refine hC2 _ _ ⟨dn ++ [c], rc, some (clD c), rfl, by rw [List.append_assoc]; exact hd, ?_, ?_⟩
          · rw [List.filter_append, List.filter_cons_of_neg (by simp [hf1]), List.filter_nil, List.append_nil]
          · rw [List.filter_append, List.filter_cons_of_pos hf1, List.filter_nil, List.flatten_append, clD_mk, List.map_append, List.map_append]
            simp [clD_mk]
        walk_at "rd"
        refine ⟨_, a1, tmD_ok os 62, tms_ok hco 62, ?_⟩
        rw [any_tmD os hco]
        by_cases h1 : s ∈ c
        · rw [decide_eq_true h1, if_pos rfl]
          exact ⟨by rw [List.length_map, List.length_map]; omega, fg_of (hyes (hin.mp (.inl (decide_eq_true h1))))⟩
        · rw [decide_eq_false h1, if_neg Bool.false_ne_true]
          refine ⟨_, a2, tmD_ok ot 62, tms_ok hco 62, ?_⟩
          rw [any_tmD ot hco]
          by_cases h2 : t ∈ c
          · rw [decide_eq_true h2, if_pos rfl]
            exact ⟨by rw [List.length_map, List.length_map]; omega, fg_of (hyes (hin.mp (.inr (decide_eq_true h2))))⟩
          · rw [decide_eq_false h2, if_neg Bool.false_ne_true]
            have hf0 : f c = false := by rw [hf]; simp [h1, h2]
            refine ⟨⟨_, rfl⟩, _, rfl, by rw [List.length_map]; omega, fg_of (hC2 _ _ ⟨dn ++ [c], rc, some (clD c), rfl, by rw [List.append_assoc]; exact hd, ?_, ?_⟩)⟩
            · rw [List.filter_append, List.filter_cons_of_pos (by simp [hf0]), List.filter_nil, List.map_append]
              rfl
            · rw [List.filter_append, List.filter_cons_of_neg (by simp [hf0]), List.filter_nil, List.append_nil]
              rfl
def isVal : Tm → Bool
  | .val _ => true
  | .var _ => false
theorem isVal_iff {t : Tm} : isVal t = true ↔ ∃ d, t = .val d := by
  cases t with
  | var x => exact ⟨(fun z => nomatch z), fun ⟨_, z⟩ => nomatch z⟩
  | val d => exact ⟨fun _ => ⟨d, rfl⟩, fun _ => rfl⟩
theorem two_vals {c : List Tm} {rs : List D} (hn : rs.Nodup) (hm : ∀ k, k ∈ rs ↔ k ∈ (c.filter isVal).map tmD) : 1 < rs.length ↔ Clash [c] := by
  have back : ∀ k ∈ rs, ∃ d, Tm.val d ∈ c ∧ k = tmD (.val d) := fun k hk => by
    obtain ⟨t, ht, rfl⟩ := List.mem_map.mp ((hm k).mp hk)
    obtain ⟨h1, h2⟩ := List.mem_filter.mp ht
    obtain ⟨d, rfl⟩ := isVal_iff.mp h2
    exact ⟨d, h1, rfl⟩
  have forth : ∀ d, Tm.val d ∈ c → tmD (.val d) ∈ rs := fun d hd => (hm _).mpr (List.mem_map.mpr ⟨_, List.mem_filter.mpr ⟨hd, rfl⟩, rfl⟩)
  constructor
  · intro h
    match rs, h, hn, back with
    | a :: b :: r, _, hn, back =>
      obtain ⟨d, h1, rfl⟩ := back a (by simp)
      obtain ⟨e, h2, rfl⟩ := back b (by simp)
      refine ⟨c, by simp, d, e, h1, h2, fun z => ?_⟩
      rw [List.nodup_cons] at hn
      exact hn.1 (by rw [z]; simp)
  · rintro ⟨c', hc', d, e, h1, h2, hne⟩
    rw [List.mem_singleton.mp hc'] at h1 h2
    have k1 := forth d h1
    have k2 := forth e h2
    match rs, k1, k2 with
    | [a], k1, k2 =>
      have z := (List.mem_singleton.mp k1).trans (List.mem_singleton.mp k2).symm
      have z := tmD_inj z
      injection z with z
      exact absurd z hne
    | a :: b :: r, _, _ => simp
theorem clash_cons {c : List Tm} {cs : List (List Tm)} : Clash (c :: cs) ↔ Clash [c] ∨ Clash cs := by
  constructor
  · rintro ⟨c', hc', r⟩
    rcases List.mem_cons.mp hc' with rfl | hc'
    · exact .inl ⟨c', by simp, r⟩
    · exact .inr ⟨c', hc', r⟩
  · rintro (⟨c', hc', r⟩ | ⟨c', hc', r⟩)
    · rw [List.mem_singleton.mp hc'] at r
      exact ⟨c, by simp, r⟩
    · exact ⟨c', by simp [hc'], r⟩
theorem key_val {d : D} (h : isV d) : isKey (tmD (.val d)) := by
  refine ⟨⟨_, rfl⟩, ?_, ?_⟩
  · rcases h with ⟨i, rfl⟩ | ⟨s, rfl, _⟩ <;> rfl
  · rcases h with ⟨i, rfl⟩ | ⟨s, rfl, _⟩ <;> simp [tmD, nk, nks, NestedKey.depth, NestedKey.depthAll]
noncomputable instance (cs : List (List Tm)) : Decidable (Clash cs) := Classical.propDecidable _
abbrev sp_l_clashes : DSp := ar1 fun a M Q => ∃ (cs : List (List Tm)) (ys : List Tm), a = .lst (cs.map clD) ∧ ys.length < 64 ∧ (∀ c ∈ cs, ∀ u ∈ c, u ∈ ys) ∧ (∀ u ∈ ys, tmOk u) ∧ Q (.bl (decide (Clash cs))) M
theorem ok_l_clashes (F : Def K mg "_law_clashes" s_l_clashes ["classes"]) (B : Bi K mg) (I : Im mg)  : Cal P w K mg base 1 "_law_clashes" ["classes"] sp_l_clashes := by
  have sc := sc_l_clashes
  refine F.cal sc (fun ds M Q h => len1 h) (fun f cdv A outer s H E hr => (ds_cons (ds_for PassesOwn.never rfl (di_seq (d_v 0)) (dg_name (i := 1) sc.nd rfl (Or.inl rfl))
    (ds_one (ds_if (dt_cmp o_gt (d_lenSetN rfl (hu_40 hr) rfl B.b_len rfl B.b_set (d_lcF rfl sc.nd (own := [("term", 2)]) (di_seq (d_v 1)) (blkOk_by (N := N_l_clashes) (sc := defScope s_l_clashes) (by decide +kernel)) (by decide) (fun _ _ _ _ _ => (dg_name (i := 2) sc.nd rfl (Or.inl rfl))) (fun _ _ _ _ _ => (dts_one (dt_cmp (o_eq (hu_eq hr)) (d_ix x_ix (d_v 2) d_int (fun _ _ => rfl)) d_str (nomark _)))) (fun _ _ _ _ _ => (d_v 2)))) d_int (nomark _))
    (ds_one (ds_ret d_bl))
    ds_nil)))
    (ds_one (ds_ret d_bl)))) (fun ds M Q h => ?_)
  obtain ⟨a, rfl, cs, ys, rfl, hy, hc, hok, h⟩ := h
  walk_at "st"
  intro _
  refine for_ind (fun items m1 M1 => ∃ (rest : List (List Tm)) (x1 x2 : Option D), items = rest.map clD ∧ (∀ c ∈ rest, c ∈ cs) ∧ (Clash rest ↔ Clash cs) ∧ M1 = M ∧ m1 = [some (.lst (cs.map clD)), x1, x2]) ?_ ?_ _ _ _ ⟨cs, _, _, rfl, fun _ h => h, Iff.rfl, rfl, rfl⟩
  · rintro m1 M1 ⟨rest, x1, x2, hi, _, he, rfl, rfl⟩
    refine ⟨srcV_none, ?_⟩
    cases rest with
    | cons x r => cases hi
    | nil =>
      have hn : ¬ Clash cs := fun z => by
        obtain ⟨c, hc, _⟩ := he.mpr z
        cases hc
      rw [decide_eq_false hn] at h
      walk_at "rd"
      exact ret_of h
  · rintro z items m1 M1 Cn hC ⟨rest, x1, x2, hi, hr, he, rfl, rfl⟩
    refine ⟨srcV_none, ?_⟩
    cases rest with
    | nil => cases hi
    | cons c rest =>
      rw [List.map_cons] at hi
      injection hi with e1 e2
      subst e1
      subst e2
      have hco := hr c (by simp)
      have hcy := hc c hco
      walk_at "rd"
      intro _
      refine lc_pure c tmD isVal tmD rfl srcV_none (fun u hu M5 l5 C1 C2 h1 h2 => ?_) fun p hp => ?_
      · cases u with
        | var x =>
          walk_at "rd"
          exact ⟨sk_var, sk_value, h2 rfl⟩
        | val d =>
          walk_at "rd"
          exact ⟨sk_value, sk_value, h1 rfl⟩
      · rw [mdel_mput hp]
        refine ⟨fun x hx => ?_, ⟨ys.map tmD, by rw [List.length_map]; exact hy, fun x hx => ?_⟩, fun rs hn hm => ?_⟩
        · obtain ⟨t, ht, rfl⟩ := List.mem_map.mp hx
          obtain ⟨h1, h2⟩ := List.mem_filter.mp ht
          obtain ⟨d, rfl⟩ := isVal_iff.mp h2
          exact key_val (hok _ (hcy _ h1))
        · obtain ⟨t, ht, rfl⟩ := List.mem_map.mp hx
          exact List.mem_map.mpr ⟨t, hcy _ (List.mem_filter.mp ht).1, rfl⟩
        · have h2 := two_vals hn hm
          by_cases hlt : 1 < rs.length
          · rw [if_pos (by omega)]
            rw [decide_eq_true (he.mp (clash_cons.mpr (.inl (h2.mp hlt))))] at h
            exact ret_of h
          · rw [if_neg (by omega)]
            refine fg_of (hC _ _ ⟨rest, _, _, rfl, fun d hd => hr d (by simp [hd]), ?_, rfl, rfl⟩)
            rw [← he, clash_cons]
            exact ⟨.inr, fun z => z.elim (fun z => absurd (h2.mpr z) hlt) id⟩
theorem srt_strict {ys : List Str} (h : ys.Pairwise LeS) (n : ys.Nodup) : ys.Pairwise fun a b => a.cps.toList < b.cps.toList := by
  induction ys with
  | nil => exact .nil
  | cons y ys ih =>
    rw [List.pairwise_cons] at h
    rw [List.nodup_cons] at n
    refine List.pairwise_cons.mpr ⟨fun z hz => ?_, ih h.2 n.2⟩
    have hle := h.1 z hz
    refine Classical.byContradiction fun c => n.1 ?_
    rw [leS_anti hle (List.not_lt.mp c)]
    exact hz
theorem res_srt {b : Bd} {ys : List Str} (hp : ys.Perm (b.map (·.1))) (hn : ys.Nodup) (t : Tm) : res (ys.map fun y => (y, res b (.var y))) t = res b t := by
  have hk : (ys.map fun y => (y, res b (.var y))).map (·.1) = ys := by
    rw [List.map_map]
    exact List.map_id' _
  cases t with
  | val d => rw [res_val, res_val]
  | var x =>
    by_cases hx : x ∈ ys
    · have h1 : (x, res b (.var x)) ∈ ys.map fun y => (y, res b (.var y)) := List.mem_map.mpr ⟨x, hx, rfl⟩
      exact res_key (b := ys.map fun y => (y, res b (.var y))) (by rw [hk]; exact hn) h1
    · rw [res_free (by rw [hk]; exact hx), res_free (fun z => hx (hp.mem_iff.mpr z))]
abbrev sp_l_is_unifying : DSp := ar3 fun a b c M Q => ∃ (ts us : List Tm), a = .tup (ts.map tmD) ∧ b = .tup (us.map tmD) ∧ ts.length = us.length ∧ ts.length ≤ 30 ∧ (∀ t ∈ ts, tmOk t) ∧ (∀ t ∈ us, tmOk t) ∧
  ((uni (ts.zip us) [] = none ∧ c = .non) ∨ ∃ (b' : Bd) (ys : List Str), uni (ts.zip us) [] = some b' ∧ (∀ p ∈ b', pOk p) ∧ ys.Perm (b'.map (·.1)) ∧ ys.Pairwise LeS ∧ c = .tup (ys.map fun y => bpD (y, res b' (.var y)))) ∧ Q (.bl true) M
theorem ok_l_is_unifying (F : Def K mg "_law_is_unifying" s_l_is_unifying ["terms", "others", "told"]) (B : Bi K mg) (I : Im mg) (c_l_same : Cal P w K mg base 13 "_law_same" ["actual", "due"] sp_l_same) (c_l_after : Cal P w K mg base 1 "_law_after" ["term", "mapping"] sp_l_after) (c_l_among : Cal P w K mg base 14 "_law_among" ["thing", "row"] sp_l_among) (c_l_is_term : Cal P w K mg base 14 "_law_is_term" ["term"] sp_l_is_term) (c_l_classes : Cal P w K mg base 1 "_law_classes" ["terms", "others"] sp_l_classes) (c_l_class_of : Cal P w K mg base 1 "_law_class_of" ["classes", "term"] sp_l_class_of) (c_l_clashes : Cal P w K mg base 1 "_law_clashes" ["classes"] sp_l_clashes) : Cal P w K mg base 15 "_law_is_unifying" ["terms", "others", "told"] sp_l_is_unifying := by
  have sc := sc_l_is_unifying
  refine F.cal sc (fun ds M Q h => len3 h) (fun f cdv A outer s H E hr => (ds_cons (ds_set (i := 3) sc.nd rfl (Or.inl rfl) (d_call c_l_classes (hr.mono (by first | decide | omega)) rfl (da_cons (d_v 0) (da_cons (d_v 1) da_nil))))
    (ds_cons (ds_if (dt_val (d_call c_l_clashes (hr.mono (by first | decide | omega)) rfl (da_cons (d_v 3) da_nil)))
    (ds_one (ds_ret (d_cmp o_is (d_v 2) d_non (nomark _))))
    ds_nil)
    (ds_cons (ds_if (dt_not (dt_val (d_cb c_is rfl B.b_isinstance boot_isinstance (da_cons (d_v 2) (da_cons (d_ty rfl B.b_tuple boot_tuple) da_nil)))))
    (ds_one (ds_ret d_bl))
    ds_nil)
    (ds_cons (ds_for PassesOwn.never rfl (di_range1 rfl B.b_range (da_cons (d_cb c_lenB rfl B.b_len boot_len (da_cons (d_v 2) da_nil)) da_nil)) (dg_name (i := 4) sc.nd rfl (Or.inl rfl))
    (ds_cons (ds_if (dt_w (dw_or (dt_not (dt_val (d_cb c_is rfl B.b_isinstance boot_isinstance (da_cons (d_ix x_ix (d_v 2) (d_v 4) (fun _ _ => rfl)) (da_cons (d_ty rfl B.b_tuple boot_tuple) da_nil))))) (dw_or (dt_cmp (o_ne (hu_eq hr)) (d_cb c_len rfl B.b_len boot_len (da_cons (d_ix x_ix (d_v 2) (d_v 4) (fun _ _ => rfl)) da_nil)) d_int (nomark _)) (dw_or1 (dt_not (dt_val (d_cb c_is rfl B.b_isinstance boot_isinstance (da_cons (d_ix x_ix (d_ix x_ix (d_v 2) (d_v 4) (fun _ _ => rfl)) d_int (fun _ _ => rfl)) (da_cons (d_ty rfl B.b_str boot_str) da_nil)))))))))
    (ds_one (ds_ret d_bl))
    ds_nil)
    (ds_one (ds_if (dt_w (dw_or (dt_not (dt_val (d_call c_l_is_term (hr.mono (by first | decide | omega)) rfl (da_cons (d_ix x_ix (d_ix x_ix (d_v 2) (d_v 4) (fun _ _ => rfl)) d_int (fun _ _ => rfl)) da_nil)))) (dw_or1 (dt_w (dw_and (dt_cmp o_gt (d_v 4) d_int (nomark _)) (dw_and1 (dt_cmp (o_geD (hu_eq hr)) (d_ix x_ix (d_ix x_ix (d_v 2) (d_op o_sub (d_v 4) d_int) (fun _ _ => rfl)) d_int (fun _ _ => rfl)) (d_ix x_ix (d_ix x_ix (d_v 2) (d_v 4) (fun _ _ => rfl)) d_int (fun _ _ => rfl)) (nomark _))))))))
    (ds_one (ds_ret d_bl))
    ds_nil))))
    (ds_cons (ds_setLcF (i := 5) rfl sc.nd rfl rfl (sw_true rfl rfl rfl (by decide +kernel)) (own := [("pair", 7)]) (di_seq (d_v 2)) (blkOk_by (N := N_l_is_unifying) (sc := defScope s_l_is_unifying) (by decide +kernel)) (by decide) (fun _ _ _ _ _ => (dg_name (i := 7) sc.nd rfl (Or.inl rfl))) (fun _ _ _ _ _ => dts_nil) (fun _ _ _ _ _ => (d_tup (da_cons d_str (da_cons (d_ix x_ix (d_v 7) d_int (fun _ _ => rfl)) da_nil)))))
    (ds_cons (ds_for PassesOwn.never rfl (di_range1 rfl B.b_range (da_cons (d_cb c_lenB rfl B.b_len boot_len (da_cons (d_v 2) da_nil)) da_nil)) (dg_name (i := 4) sc.nd rfl (Or.inl rfl))
    (ds_cons (ds_if (dt_w (dw_or (dt_cmp (o_notin (hu_in hr)) (d_ix x_ix (d_v 5) (d_v 4) (fun _ _ => rfl)) (d_catF (d_fz (d_ct c_list rfl B.b_list boot_list (da_cons (d_v 0) da_nil))) (d_fz (d_ct c_list rfl B.b_list boot_list (da_cons (d_v 1) da_nil)))) rfl) (dw_or1 (dt_cmp (o_in (hu_in hr)) (d_ix x_ix (d_ix x_ix (d_v 2) (d_v 4) (fun _ _ => rfl)) d_int (fun _ _ => rfl)) (d_v 5) rfl))))
    (ds_one (ds_ret d_bl))
    ds_nil)
    (ds_one (ds_if (dt_not (dt_val (d_call c_l_among (hr.mono (by first | decide | omega)) rfl (da_cons (d_ix x_ix (d_ix x_ix (d_v 2) (d_v 4) (fun _ _ => rfl)) d_int (fun _ _ => rfl)) (da_cons (d_call c_l_class_of (hr.mono (by first | decide | omega)) rfl (da_cons (d_v 3) (da_cons (d_ix x_ix (d_v 5) (d_v 4) (fun _ _ => rfl)) da_nil))) da_nil)))))
    (ds_one (ds_ret d_bl))
    ds_nil))))
    (ds_cons (ds_set (i := 6) sc.nd rfl (Or.inl rfl) (d_ct c_tuple rfl B.b_tuple boot_tuple (da_cons (d_lcF rfl sc.nd (own := [("term", 8)]) (di_seq (d_v 0)) (blkOk_by (N := N_l_is_unifying) (sc := defScope s_l_is_unifying) (by decide +kernel)) (by decide) (fun _ _ _ _ _ => (dg_name (i := 8) sc.nd rfl (Or.inl rfl))) (fun _ _ _ _ _ => dts_nil) (fun _ _ _ _ _ => (d_call c_l_after (hr.mono (by first | decide | omega)) rfl (da_cons (d_v 8) (da_cons (d_v 2) da_nil))))) da_nil)))
    (ds_one (ds_ret (d_call c_l_same (hr.mono (by first | decide | omega)) rfl (da_cons (d_ct c_tuple rfl B.b_tuple boot_tuple (da_cons (d_lcF rfl sc.nd (own := [("term", 8)]) (di_seq (d_v 1)) (blkOk_by (N := N_l_is_unifying) (sc := defScope s_l_is_unifying) (by decide +kernel)) (by decide) (fun _ _ _ _ _ => (dg_name (i := 8) sc.nd rfl (Or.inl rfl))) (fun _ _ _ _ _ => dts_nil) (fun _ _ _ _ _ => (d_call c_l_after (hr.mono (by first | decide | omega)) rfl (da_cons (d_v 8) (da_cons (d_v 2) da_nil))))) da_nil)) (da_cons (d_v 6) da_nil))))))))))))) (fun ds M Q h => ?_)
  obtain ⟨a, b, c, rfl, ts, us, rfl, rfl, hl, hl2, ht, hu, hcase, h⟩ := h
  have hzs : ∀ p ∈ ts.zip us, p.1 ∈ ts ∧ p.2 ∈ us := fun p hp => List.of_mem_zip hp
  have hmem : ∀ c ∈ cls (ts.zip us) [], ∀ u ∈ c, u ∈ ts ++ us := fun c hc u hu => by
    rcases cls_mem hc hu with ⟨c', hc', _⟩ | h | h
    · cases hc'
    · obtain ⟨p, hp, rfl⟩ := List.mem_map.mp h
      exact List.mem_append_left _ (hzs p hp).1
    · obtain ⟨p, hp, rfl⟩ := List.mem_map.mp h
      exact List.mem_append_right _ (hzs p hp).2
  have hall : ∀ u ∈ ts ++ us, tmOk u := fun u hu2 => (List.mem_append.mp hu2).elim (ht u) (hu u)
  have hagr := uni_agr (ts.zip us) [] [] .nil
  walk_at "st"
  refine ⟨ts, rfl, us, rfl, hl, by omega, ht, hu, ?_⟩
  walk_at "st"
  refine ⟨_, rfl, ts ++ us, by simp; omega, hmem, hall, ?_⟩
  rcases hcase with ⟨hn, rfl⟩ | ⟨b', ys, hs, hb, hp, hle, rfl⟩
  · have hclash : Clash (cls (ts.zip us) []) := by
      rcases hagr with ⟨b', e, _⟩ | ⟨_, z⟩
      · rw [hn] at e
        cases e
      · exact z
    rw [if_pos hclash]
    exact ret_of h
  have A : Agr b' (cls (ts.zip us) []) := by
    rcases hagr with ⟨b2, e, z⟩ | ⟨e, _⟩
    · rw [hs] at e
      cases e
      exact z
    · rw [hs] at e
      cases e
  have hpair : ∀ p ∈ ts.zip us, res b' p.1 = res b' p.2 := fun p hp => (A.rel _ _).mpr (pair_rel hp)
  rw [if_neg A.noClash]
  generalize cls (ts.zip us) [] = C at A hmem
  have hyn : ys.Nodup := hp.nodup_iff.mpr A.ok.nd
  have hst := srt_strict hle hyn
  have hyk : ∀ y ∈ ys, y ∈ b'.map (·.1) := fun y hy => hp.mem_iff.mp hy
  have hyo : ∀ y ∈ ys, PyData.strOk y = true := fun y hy => by
    obtain ⟨p, hp, rfl⟩ := List.mem_map.mp (hyk y hy)
    exact (hb p hp).1
  have hro : ∀ y ∈ ys, tmOk (res b' (.var y)) := fun y hy => res_ok hb (hyo y hy)
  obtain ⟨tl, htl⟩ : ∃ tl, tl = ys.map fun y => bpD (y, res b' (.var y)) := ⟨_, rfl⟩
  have hlen : tl.length = ys.length := by rw [htl, List.length_map]
  have hat : ∀ (j : Nat) (hj : j < ys.length), atI tl ((j : Nat) : Int) = some (.tup [.str ys[j], tmD (res b' (.var ys[j]))]) := fun j hj => by
    rw [atI_n, htl, List.getElem?_map, List.getElem?_eq_getElem hj]
    rfl
  have hin : ∀ y ∈ ys, ∃ c ∈ C, Tm.var y ∈ c := fun y hy => by
    obtain ⟨p, hp, rfl⟩ := List.mem_map.mp (hyk y hy)
    exact A.keys p hp
  have hyl : ys.length ≤ 60 := by
    have h1 := nodup_le (xs := ys.map Tm.var) (ys := ts ++ us) (List.pairwise_map.mpr (hyn.imp fun hne e => hne (by injection e))) fun x hx => by
      obtain ⟨y, hy, rfl⟩ := List.mem_map.mp hx
      obtain ⟨c, hc, hm⟩ := hin y hy
      exact hmem c hc _ hm
    rw [List.length_map, List.length_append] at h1
    omega
  rw [← htl]
  walk_at "st"
  walk_at "st"
  rw [hlen]
  intro _
  refine ⟨by omega, by omega, fun _ => ?_⟩
  rw [Int.toNat_natCast]
  refine for_ind (fun items m1 M1 => ∃ (j : Nat) (x4 : Option D), items = rangeD (j : Int) (ys.length - j) ∧ j ≤ ys.length ∧ M1 = M ∧
    m1 = [some (.tup (ts.map tmD)), some (.tup (us.map tmD)), some (.tup tl), some (.lst (C.map clD)), x4, none, none, none, none]) ?_ ?_ _ _ _ ⟨0, _, rfl, Nat.zero_le _, rfl, rfl⟩
  · rintro m1 M1 ⟨j, x4, hi, hj, rfl, rfl⟩
    refine ⟨srcV_none, ?_⟩
    walk_at "st"
    walk_at "st"
    intro _
    rw [htl]
    refine lc_map ys (fun y => bpD (y, res b' (.var y))) (fun y => tmD (.var y)) rfl srcV_none (fun y hy M5 l5 C1 h5 => ?_) fun q hq => ?_
    · walk_at "rd"
      exact h5
    rw [mdel_mput hq, ← htl]
    have hbl : ((ys.map fun y => tmD (.var y)).length) = ys.length := by rw [List.length_map]
    have hbt : ∀ (j : Nat) (hj : j < ys.length), atI (ys.map fun y => tmD (.var y)) ((j : Nat) : Int) = some (tmD (.var ys[j])) := fun j hj => by
      rw [atI_n, List.getElem?_map, List.getElem?_eq_getElem hj]
      rfl
    walk_at "st"
    rw [hlen]
    intro _
    refine ⟨by omega, by omega, fun _ => ?_⟩
    rw [Int.toNat_natCast]
    refine for_ind (fun items m1 M1' => ∃ (j : Nat) (x4 : Option D), items = rangeD (j : Int) (ys.length - j) ∧ j ≤ ys.length ∧ M1' = M1 ∧
      m1 = [some (.tup (ts.map tmD)), some (.tup (us.map tmD)), some (.tup tl), some (.lst (C.map clD)), x4, some (.lst (ys.map fun y => tmD (.var y))), none, none, none]) ?_ ?_ _ _ _ ⟨0, _, rfl, Nat.zero_le _, rfl, rfl⟩
    · rintro m1 M1' ⟨j, x4, hi, hj, rfl, rfl⟩
      refine ⟨srcV_none, ?_⟩
      walk_at "st"
      walk_at "st"
      intro _
      have hml : (ys.map fun y => (y, res b' (.var y))).length ≤ 1000 := by rw [List.length_map]; omega
      have hmo : ∀ p ∈ ys.map fun y => (y, res b' (.var y)), pOk p := fun p hp => by
        obtain ⟨y, hy, rfl⟩ := List.mem_map.mp hp
        exact ⟨hyo y hy, hro y hy⟩
      have hti : tl = (ys.map fun y => (y, res b' (.var y))).map bpD := by
        rw [htl, List.map_map]
        rfl
      have hpl : ∀ vs : List Tm, (∀ v ∈ vs, tmOk v) → pln (.tup (vs.map fun t => tmD (res b' t))) = true ∧ (vs.map fun t => tmD (res b' t)).all (dOk 11) = true := fun vs hv => by
        have e : (vs.map fun t => tmD (res b' t)) = (vs.map (res b')).map tmD := by rw [List.map_map]; rfl
        have ho : ∀ t ∈ vs.map (res b'), tmOk t := fun t ht => by
          obtain ⟨v, hv2, rfl⟩ := List.mem_map.mp ht
          exact res_ok hb (hv v hv2)
        rw [e]
        exact ⟨tms_pl ho, tms_ok ho 10⟩
      refine lc_map ts tmD (fun t => tmD (res b' t)) rfl srcV_none (fun t ht2 M5 l5 C1 h5 => ?_) fun r hr => ?_
      · walk_at "rd"
        refine ⟨t, rfl, _, hti, ht t ht2, hmo, hml, ?_⟩
        rw [res_srt hp hyn]
        exact h5
      rw [mdel_mput hr]
      intro _
      refine lc_map us tmD (fun t => tmD (res b' t)) rfl srcV_none (fun t ht2 M5 l5 C1 h5 => ?_) fun r2 hr2 => ?_
      · walk_at "rd"
        refine ⟨t, rfl, _, hti, hu t ht2, hmo, hml, ?_⟩
        rw [res_srt hp hyn]
        exact h5
      rw [mdel_mput hr2]
      have e : (us.map fun t => tmD (res b' t)) = ts.map fun t => tmD (res b' t) := by
        refine List.ext_getElem (by rw [List.length_map, List.length_map, hl]) fun i h1 h2 => ?_
        rw [List.length_map] at h1 h2
        rw [List.getElem_map, List.getElem_map]
        have hz : i < (ts.zip us).length := by simp; omega
        have := hpair _ (List.getElem_mem hz)
        rw [List.getElem_zip] at this
        exact congrArg tmD this.symm
      obtain ⟨p1, p2⟩ := hpl us hu
      obtain ⟨p3, p4⟩ := hpl ts ht
      refine ⟨p1, p3, p2, p4, ?_⟩
      rw [e, (eqv_pl _ _ p3 p3).mpr rfl]
      exact ret_of h
    · rintro z items m1 M1' Cn hC ⟨j, x4, hi, hj, rfl, rfl⟩
      refine ⟨srcV_none, ?_⟩
      have hj2 : j < ys.length := by
        rcases Nat.lt_or_ge j ys.length with z | z
        · exact z
        · rw [show ys.length - j = 0 by omega] at hi
          cases hi
      rw [show ys.length - j = (ys.length - (j + 1)) + 1 by omega, rangeD_cons] at hi
      injection hi with e1 e2
      subst e1
      subst e2
      have hy := List.getElem_mem hj2
      have hvo : tmOk (.var ys[j]) := hyo _ hy
      have el : (ys.map fun y => D.tup [D.str (Str.ofString "var"), D.str y]) = (ys.map Tm.var).map tmD := by rw [List.map_map]; rfl
      have hvs : ∀ t ∈ ys.map Tm.var, tmOk t := fun t ht => by
        obtain ⟨y, hy, rfl⟩ := List.mem_map.mp ht
        exact hyo y hy
      have hbt : atI ((ys.map Tm.var).map tmD) ((j : Nat) : Int) = some (tmD (.var ys[j])) := by
        rw [← el]
        exact hbt j hj2
      obtain ⟨c0, hc0, hm0⟩ := hin _ hy
      have hfree : res b' (.var ys[j]) ∉ ys.map Tm.var := fun z => by
        obtain ⟨x, hx, e⟩ := List.mem_map.mp z
        exact A.ok.loose e.symm (hyk x hx)
      have hcl : ∀ c ∈ C, Tm.var ys[j] ∈ c → res b' (.var ys[j]) ∈ c := fun c hc hm => by
        rcases (A.rel (.var ys[j]) (res b' (.var ys[j]))).mp (A.ok.again _).symm with e | ⟨c', hc', h1, h2⟩
        · rw [← e]
          exact hm
        · exact A.same c' hc' c hc _ h1 hm _ h2
      walk_at "rd"
      rw [el]
      refine ⟨_, hbt, fun p hp => ⟨_, rfl, fun p1 hp1 => ⟨_, rfl, by rw [List.length_map, List.length_map]; omega, tmD_ok hvo 62, ?_, ?_⟩⟩⟩
      · rw [← List.map_append]
        exact tms_ok hall 62
      rw [mdel_mput hp] at hp1
      rw [mdel_mput hp, mdel_mput hp1, ← List.map_append, any_tmD hvo hall, decide_eq_true (hmem _ hc0 _ hm0), if_neg (by decide)]
      refine ⟨_, hat j hj2, _, rfl, _, rfl, tmD_ok (hro _ hy) 62, tms_ok hvs 62, ?_⟩
      rw [any_tmD (hro _ hy) hvs, decide_eq_false hfree, if_neg (by decide)]
      refine ⟨_, hat j hj2, _, rfl, _, rfl, _, hbt, C, rfl, .var ys[j], rfl, hvo, fun c hc u hu => hall u (hmem c hc u hu), ⟨c0, hc0, hm0⟩, fun c hc hm => ?_⟩
      have hm2 := hcl c hc hm
      refine ⟨_, rfl, c, rfl, hro _ hy, fun u hu => hall u (hmem c hc u hu), ?_⟩
      rw [if_neg (fun z => z hm2), ← el]
      exact fg_of (hC _ _ ⟨j + 1, some (.int j), rfl, hj2, rfl, rfl⟩)
  · rintro z items m1 M1 Cn hC ⟨j, x4, hi, hj, rfl, rfl⟩
    refine ⟨srcV_none, ?_⟩
    have hj2 : j < ys.length := by
      rcases Nat.lt_or_ge j ys.length with z | z
      · exact z
      · rw [show ys.length - j = 0 by omega] at hi
        cases hi
    rw [show ys.length - j = (ys.length - (j + 1)) + 1 by omega, rangeD_cons] at hi
    injection hi with e1 e2
    subst e1
    subst e2
    have hy := List.getElem_mem hj2
    walk_at "rd"
    refine ⟨_, hat j hj2, _, rfl, ?_⟩
    rw [if_neg (by decide)]
    refine ⟨_, hat j hj2, _, rfl, ?_⟩
    rw [if_neg (by simp)]
    refine ⟨_, hat j hj2, _, rfl, _, rfl, _, rfl, ?_⟩
    rw [if_neg (by decide)]
    refine ⟨_, hat j hj2, _, rfl, _, rfl, _, rfl, hro _ hy, ?_⟩
    have next := hC _ _ ⟨j + 1, some (.int j), rfl, hj2, rfl, rfl⟩
    cases j with
    | zero =>
      rw [if_neg (by omega)]
      exact fg_of next
    | succ i =>
      rw [if_pos (by omega)]
      have hi1 : i < ys.length := by omega
      refine ⟨_, by rw [show (((i + 1 : Nat) : Int) - 1) = ((i : Nat) : Int) by omega]; exact hat i hi1, _, rfl, _, rfl, ?_⟩
      have lt := (List.pairwise_iff_getElem.mp hst) i (i + 1) hi1 hj2 (by omega)
      refine ⟨_, hat (i + 1) hj2, _, rfl, _, rfl, by rw [dOk_str]; exact hyo _ (List.getElem_mem hi1), by rw [dOk_str]; exact hyo _ hy, (fun z => nomatch z), rfl, ?_⟩
      rw [show PySem.W.dataLt (D.str ys[i]).py (D.str ys[i + 1]).py = decide (ys[i].cps.toList < ys[i + 1].cps.toList) from PySem.W.dataLt_str _ _, decide_eq_true lt, if_neg (by decide)]
      exact fg_of next
/-! ### lists of texts: sorted -/
def unS : D → Str
  | .str n => n
  | _ => ""
theorem sort_strs (es : List Str) : ∃ fs : List Str, srtD (es.map D.str) = fs.map D.str ∧ fs.Perm es := by
  have hp := srtD_perm (es.map D.str)
  refine ⟨(srtD (es.map D.str)).map unS, ?_, ?_⟩
  · rw [List.map_map]
    conv => lhs; rw [← List.map_id (srtD (es.map D.str))]
    refine List.map_congr_left fun x hx => ?_
    obtain ⟨e, _, rfl⟩ := List.mem_map.mp (hp.mem_iff.mp hx)
    rfl
  · have := hp.map unS
    rw [List.map_map] at this
    have e : List.map (unS ∘ D.str) es = es := by
      conv => rhs; rw [← List.map_id es]
      exact List.map_congr_left fun x _ => rfl
    rw [e] at this
    exact this
open PySem.W (AllAlike Sortable alike alikeAll) in
theorem strs_alike (es : List Str) : AllAlike ((es.map D.str).map D.py) := by
  intro d hd d' hd'
  simp only [List.mem_map] at hd hd'
  obtain ⟨_, ⟨e, _, rfl⟩, rfl⟩ := hd
  obtain ⟨_, ⟨f, _, rfl⟩, rfl⟩ := hd'
  simp [D.py, alike]
open PySem.W (AllAlike Sortable alike alikeAll) in
theorem strs_sortable (es : List Str) : Sortable ((es.map D.str).map D.py) := by
  refine .inr fun d hd => ?_
  simp only [List.mem_map] at hd
  obtain ⟨_, ⟨e, _, rfl⟩, rfl⟩ := hd
  simp [D.py]
theorem strs_ok {es : List Str} {n : Nat} (h : ∀ e ∈ es, PyData.strOk e = true) : (es.map D.str).all (dOk n) = true := by
  rw [List.all_map]
  refine List.all_eq_true.mpr fun e he => ?_
  show dOk n (.str e) = true
  rw [dOk_str]
  exact h e he
theorem len_app (a b : Str) : (a ++ b).length = a.length + b.length := by
  rw [TL.len_tl, TL.tl_append, List.length_append, ← TL.len_tl, ← TL.len_tl]
theorem strOk_iff {s : Str} : PyData.strOk s = true ↔ ∀ c ∈ TL.tl s, PyData.strOk ⟨#[c]⟩ = true := by
  have e : ∀ s : Str, PyData.strOk s = (TL.tl s).all (fun c => PyData.strOk ⟨#[c]⟩) := by
    intro s
    unfold PyData.strOk
    rw [← Array.all_toList]
    show (s.cps.toList).all _ = (s.cps.toList).all _
    congr 1
    funext c
    simp
  rw [e, List.all_eq_true]
theorem strOk_app {a b : Str} (h : PyData.strOk a = true) (k : PyData.strOk b = true) : PyData.strOk (a ++ b) = true := by
  rw [strOk_iff] at h k ⊢
  rw [TL.tl_append]
  intro c hc
  rcases List.mem_append.mp hc with hc | hc
  · exact h c hc
  · exact k c hc
theorem strOk_cut {a : Str} {lo hi : Option Int} (h : PyData.strOk a = true) : PyData.strOk (cutS a lo hi) = true := by
  rw [strOk_iff] at h ⊢
  intro c hc
  have hc' : c ∈ (a.cps.toList.drop (HT.sIx a.length 0 lo)).take (HT.sIx a.length a.length hi - HT.sIx a.length 0 lo) := hc
  exact h c (List.mem_of_mem_drop (List.mem_of_mem_take hc'))
theorem cutS_le (a : Str) (lo hi : Option Int) : (cutS a lo hi).length ≤ a.length := by
  rw [TL.len_tl, TL.len_tl]
  show ((a.cps.toList.drop _).take _).length ≤ a.cps.toList.length
  rw [List.length_take, List.length_drop]
  omega

theorem tms_of : ∀ {ys : List D}, (∀ y ∈ ys, ∃ t : Tm, y = tmD t ∧ tmOk t) → ∃ ts : List Tm, ys = ts.map tmD ∧ ∀ t ∈ ts, tmOk t
  | [], _ => ⟨[], rfl, by simp⟩
  | y :: ys, h => by
    obtain ⟨t, rfl, ht⟩ := h y (by simp)
    obtain ⟨ts, rfl, hts⟩ := tms_of (ys := ys) fun z hz => h z (by simp [hz])
    refine ⟨t :: ts, rfl, fun x hx => ?_⟩
    rcases List.mem_cons.mp hx with rfl | hx
    · exact ht
    · exact hts x hx
abbrev sp_l_terms : DSp := ar4 fun a b c d M Q => ∃ (p : Addr) (n : Nat) (vs : List Str) (vals : List D), a = .ref p ∧ b = .int n ∧ n ≤ 1000 ∧ c = .lst (vs.map D.str) ∧ d = .lst vals ∧ Dr M p ∧ vs ≠ [] ∧ vals ≠ [] ∧ (∀ v ∈ vals, isV v) ∧ (∀ x ∈ vs, PyData.strOk x = true) ∧
  ∀ (o : DO) (ts : List Tm), DrO o → ts.length = n → (∀ t ∈ ts, tmOk t) → Q (.tup (ts.map tmD)) (mput M p o)
theorem ok_l_terms (F : Def K mg "_law_terms" s_l_terms ["draws", "many", "words", "values"]) (B : Bi K mg) (I : Im mg) (c_l_term : Cal P w K mg base 3 "_law_term" ["draws", "variables", "values"] sp_l_term) : Cal P w K mg base 4 "_law_terms" ["draws", "many", "words", "values"] sp_l_terms := by
  have sc := sc_l_terms
  refine F.cal sc (fun ds M Q h => len4 h) (fun f cdv A outer s H E hr => (ds_one (ds_ret (d_ct c_tuple rfl B.b_tuple boot_tuple (da_cons (d_lcF rfl sc.nd (own := [("k", 4)]) (di_range1 rfl B.b_range (da_cons (d_v 1) da_nil)) (blkOk_by (N := N_l_terms) (sc := defScope s_l_terms) (by decide +kernel)) (by decide) (fun _ _ _ _ _ => (dg_name (i := 4) sc.nd rfl (Or.inl rfl))) (fun _ _ _ _ _ => dts_nil) (fun _ _ _ _ _ => (d_call c_l_term (hr.mono (by first | decide | omega)) rfl (da_cons (d_v 0) (da_cons (d_v 2) (da_cons (d_v 3) da_nil)))))) da_nil))))) (fun ds M Q h => ?_)
  obtain ⟨a, b, c, d, rfl, p, n, vs, vals, rfl, rfl, hn, rfl, rfl, ⟨o0, e0, ho0⟩, hvs, hvals, hV, hS, h⟩ := h
  have eM : M = mput M p o0 := (mput_self e0).symm
  walk_at "rd"
  refine ⟨by omega, by omega, fun _ => ?_⟩
  rw [eM]
  refine lc_draw (fun y => ∃ t : Tm, y = tmD t ∧ tmOk t) rfl ho0 (fun d _ r l o hpr hr ho C1 h1 => ?_) fun r o acc hpr hr ho hl hacc => ?_
  · walk_at "rd"
    refine ⟨vs, rfl, dr_ne (dr_put ho) hpr, hvs, hvals, hV, hS, fun o3 t ho3 ht htv => ?_⟩
    rw [mput_swap hpr]
    exact h1 o3 _ ho3 ⟨t, rfl, ht⟩
  · obtain ⟨ts, hts, hta⟩ := tms_of hacc
    rw [mdel_mput hr]
    subst hts
    rw [rangeD_len, List.length_map] at hl
    exact ret_of (h o ts ho (by omega) hta)
abbrev sp_l_behind : DSp := ar4 fun a b c d M Q => ∃ (p : Addr) (ts : List Tm) (vs : List Str) (vals : List D), a = .ref p ∧ b = .tup (ts.map tmD) ∧ (∀ t ∈ ts, tmOk t) ∧ c = .lst (vs.map D.str) ∧ d = .lst vals ∧ vs.length ≤ 100 ∧ Dr M p ∧ vs ≠ [] ∧ vals ≠ [] ∧ (∀ v ∈ vals, isV v) ∧ (∀ x ∈ vs, PyData.strOk x = true) ∧
  ∀ (o : DO) (us : List Tm), DrO o → us.length = ts.length → (∀ t ∈ us, tmOk t) → Q (.tup (us.map tmD)) (mput M p o)
theorem ok_l_behind (F : Def K mg "_law_behind" s_l_behind ["draws", "terms", "words", "values"]) (B : Bi K mg) (I : Im mg) (c_l_take : Cal P w K mg base 1 "_law_take" ["draws", "many"] sp_l_take) (c_l_term : Cal P w K mg base 3 "_law_term" ["draws", "variables", "values"] sp_l_term) (c_l_after : Cal P w K mg base 1 "_law_after" ["term", "mapping"] sp_l_after) : Cal P w K mg base 4 "_law_behind" ["draws", "terms", "words", "values"] sp_l_behind := by
  have sc := sc_l_behind
  refine F.cal sc (fun ds M Q h => len4 h) (fun f cdv A outer s H E hr => (ds_cons (ds_set (i := 4) sc.nd rfl (Or.inr rfl) (d_lst da_nil))
    (ds_cons (ds_for PassesOwn.never rfl (di_seq (d_v 2)) (dg_name (i := 5) sc.nd rfl (Or.inl rfl))
    (ds_one (ds_if (dt_cmp (o_eq (hu_eq hr)) (d_call c_l_take (hr.mono (by first | decide | omega)) rfl (da_cons (d_v 0) (da_cons d_int da_nil))) d_int (nomark _))
    (ds_one (ds_expr (d_mt PySem.F.slot_list_append PySem.F.type_list_append m_append (d_v 4) (da_cons (d_tup (da_cons (d_v 5) (da_cons (d_call c_l_term (hr.mono (by first | decide | omega)) rfl (da_cons (d_v 0) (da_cons (d_v 2) (da_cons (d_v 3) da_nil)))) da_nil))) da_nil))))
    ds_nil)))
    (ds_one (ds_ret (d_ct c_tuple rfl B.b_tuple boot_tuple (da_cons (d_lcF rfl sc.nd (own := [("term", 6)]) (di_seq (d_v 1)) (blkOk_by (N := N_l_behind) (sc := defScope s_l_behind) (by decide +kernel)) (by decide) (fun _ _ _ _ _ => (dg_name (i := 6) sc.nd rfl (Or.inl rfl))) (fun _ _ _ _ _ => dts_nil) (fun _ _ _ _ _ => (d_call c_l_after (hr.mono (by first | decide | omega)) rfl (da_cons (d_v 6) (da_cons (d_v 4) da_nil))))) da_nil))))))) (fun ds M Q h => ?_)
  obtain ⟨a, b, c, d, rfl, p, ts, vs, vals, rfl, rfl, hts, rfl, rfl, hvl, ⟨o0, e0, ho0⟩, hvs, hvals, hV, hS, h⟩ := h
  have eM : M = mput M p o0 := (mput_self e0).symm
  walk_at "st"
  intro q hq
  have hpq : p ≠ q := ne_of_fresh e0 hq
  walk_at "st"
  intro _
  refine for_ind (fun items m1 M1 => ∃ (o : DO) (rest : List Str) (mp : Bd) (x5 x6 : Option D), items = rest.map D.str ∧ (∀ x ∈ rest, x ∈ vs) ∧ DrO o ∧ (∀ e ∈ mp, pOk e) ∧ mp.length + rest.length ≤ 100 ∧ M1 = mput (mput M p o) q (.lst (mp.map bpD)) ∧
    m1 = [some (.ref p), some (.tup (ts.map tmD)), some (.lst (vs.map D.str)), some (.lst vals), some (.ref q), x5, x6]) ?_ ?_ _ _ _ ⟨o0, vs, [], _, _, rfl, fun _ h => h, ho0, (fun _ h => nomatch h), by simpa using hvl, by rw [← eM]; rfl, rfl⟩
  · rintro m1 M1 ⟨o, rest, mp, x5, x6, hi, _, ho, hmp, hml, rfl, rfl⟩
    refine ⟨srcV_none, ?_⟩
    walk_at "rd"
    intro _
    have hqf : mput M p o q = none := by rw [mput_ne hpq.symm]; exact hq
    refine lc_map ts tmD (fun t => tmD (res mp t)) rfl srcV_none (fun t ht M5 l5 C1 h5 => ?_) fun r hr => ?_
    · walk_at "rd"
      exact ⟨t, rfl, mp, by rw [l5 _ _ mput_same], hts t ht, hmp, by omega, h5⟩
    · rw [mdel_mput hr]
      have e : (ts.map fun t => tmD (res mp t)) = (ts.map (res mp)).map tmD := by rw [List.map_map]; rfl
      rw [e]
      refine ret_le ((MLe.refl _).put hqf) (h o (ts.map (res mp)) ho (List.length_map ..) fun t ht => ?_)
      obtain ⟨v, hv, rfl⟩ := List.mem_map.mp ht
      exact res_ok hmp (hts v hv)
  · rintro z items m1 M1 Cn hC ⟨o, rest, mp, x5, x6, hi, hr, ho, hmp, hml, rfl, rfl⟩
    refine ⟨srcV_none, ?_⟩
    cases rest with
    | nil => cases hi
    | cons x rest =>
      rw [List.map_cons] at hi
      injection hi with e1 e2
      subst e1
      subst e2
      rw [List.length_cons] at hml
      have hd : ∀ o', DrO o' → Dr (mput (mput M p o') q (.lst (mp.map bpD))) p := fun o' ho' => dr_ne (dr_put ho') hpq
      have hxo := hS x (hr x (by simp))
      have hr2 : ∀ y ∈ rest, y ∈ vs := fun y hy => hr y (by simp [hy])
      walk_at "rd"
      refine ⟨hd o ho, fun o1 r1 ho1 r10 r11 => ?_⟩
      rw [mput_swap hpq]
      split
      · refine ⟨⟨_, by rw [mput_same]⟩, vs, rfl, hd o1 ho1, hvs, hvals, hV, hS, fun o2 t ho2 ht _ => ?_⟩
        rw [mput_swap hpq]
        refine ⟨_, mput_same, by rw [List.length_map]; omega, fg_of (hC _ _ ⟨o2, rest, mp ++ [(x, t)], _, _, rfl, hr2, ho2, fun e he => ?_, by rw [List.length_append, List.length_singleton]; omega, by rw [mput_mput, List.map_append]; rfl, rfl⟩)⟩
        rcases List.mem_append.mp he with he | he
        · exact hmp e he
        · rw [List.mem_singleton.mp he]
          exact ⟨hxo, ht⟩
      · exact fg_of (hC _ _ ⟨o1, rest, mp, _, _, rfl, hr2, ho1, hmp, by omega, rfl, rfl⟩)
def prT (p : Tm × Tm) : D := .tup [tmD p.1, tmD p.2]
abbrev ppOk (p : Tm × Tm) : Prop := tmOk p.1 ∧ tmOk p.2
abbrev sp_l_chain : DSp := ar4 fun a b c d M Q => ∃ (p : Addr) (ws : List Str), a = .ref p ∧ b = .lst (ws.map D.str) ∧ 7 ≤ ws.length ∧ (∀ x ∈ ws, PyData.strOk x = true) ∧ isV c ∧ isV d ∧ Dr M p ∧
  ∀ (o : DO) (ts us : List Tm), DrO o → ts.length = us.length → ts.length ≤ 10 → (∀ t ∈ ts, tmOk t) → (∀ t ∈ us, tmOk t) → Q (.lst [.tup (ts.map tmD), .tup (us.map tmD)]) (mput M p o)
theorem ok_l_chain (F : Def K mg "_law_chain" s_l_chain ["draws", "words", "first", "last"]) (B : Bi K mg) (I : Im mg) (c_l_take : Cal P w K mg base 1 "_law_take" ["draws", "many"] sp_l_take) : Cal P w K mg base 2 "_law_chain" ["draws", "words", "first", "last"] sp_l_chain := by
  have sc := sc_l_chain
  refine F.cal sc (fun ds M Q h => len4 h) (fun f cdv A outer s H E hr => (ds_cons (ds_set (i := 4) sc.nd rfl (Or.inl rfl) (d_lst (da_cons (d_tup (da_cons (d_tup (da_cons d_str (da_cons (d_v 2) da_nil))) (da_cons (d_tup (da_cons d_str (da_cons (d_ix x_ix (d_v 1) d_int (fun _ _ => rfl)) da_nil))) da_nil))) (da_cons (d_tup (da_cons (d_tup (da_cons d_str (da_cons (d_ix x_ix (d_v 1) d_int (fun _ _ => rfl)) da_nil))) (da_cons (d_tup (da_cons d_str (da_cons (d_v 3) da_nil))) da_nil))) da_nil))))
    (ds_cons (ds_for PassesOwn.never rfl (di_range1 rfl B.b_range (da_cons d_int da_nil)) (dg_name (i := 5) sc.nd rfl (Or.inl rfl))
    (ds_cons (ds_set (i := 6) sc.nd rfl (Or.inl rfl) (d_tup (da_cons (d_tup (da_cons d_str (da_cons (d_ix x_ix (d_v 1) (d_v 5) (fun _ _ => rfl)) da_nil))) (da_cons (d_tup (da_cons d_str (da_cons (d_ix x_ix (d_v 1) (d_op o_add (d_v 5) d_int) (fun _ _ => rfl)) da_nil))) da_nil))))
    (ds_one (ds_expr (d_mt PySem.F.slot_list_insert PySem.F.type_list_insert m_insert (d_v 4) (da_cons (d_call c_l_take (hr.mono (by first | decide | omega)) rfl (da_cons (d_v 0) (da_cons (d_op o_add (d_cb c_len rfl B.b_len boot_len (da_cons (d_v 4) da_nil)) d_int) da_nil))) (da_cons (d_ix x_ix (d_lstF (da_cons (d_v 6) (da_cons (d_tup (da_cons (d_ix x_ix (d_v 6) d_int (fun _ _ => rfl)) (da_cons (d_ix x_ix (d_v 6) d_int (fun _ _ => rfl)) da_nil))) da_nil))) (d_call c_l_take (hr.mono (by first | decide | omega)) rfl (da_cons (d_v 0) (da_cons d_int da_nil))) (fun _ _ => rfl)) da_nil)))))))
    (ds_one (ds_ret (d_lstF (da_cons (d_ct c_tuple rfl B.b_tuple boot_tuple (da_cons (d_lcF rfl sc.nd (own := [("pair", 6)]) (di_seq (d_v 4)) (blkOk_by (N := N_l_chain) (sc := defScope s_l_chain) (by decide +kernel)) (by decide) (fun _ _ _ _ _ => (dg_name (i := 6) sc.nd rfl (Or.inl rfl))) (fun _ _ _ _ _ => dts_nil) (fun _ _ _ _ _ => (d_ix x_ix (d_v 6) d_int (fun _ _ => rfl)))) da_nil)) (da_cons (d_ct c_tuple rfl B.b_tuple boot_tuple (da_cons (d_lcF rfl sc.nd (own := [("pair", 6)]) (di_seq (d_v 4)) (blkOk_by (N := N_l_chain) (sc := defScope s_l_chain) (by decide +kernel)) (by decide) (fun _ _ _ _ _ => (dg_name (i := 6) sc.nd rfl (Or.inl rfl))) (fun _ _ _ _ _ => dts_nil) (fun _ _ _ _ _ => (d_ix x_ix (d_v 6) d_int (fun _ _ => rfl)))) da_nil)) da_nil)))))))) (fun ds M Q h => ?_)
  obtain ⟨a, b, c, d, rfl, p, ws, rfl, rfl, hl, hS, hc, hd, ⟨o0, e0, ho0⟩, h⟩ := h
  have eM : M = mput M p o0 := (mput_self e0).symm
  have hw : ∀ k : Nat, k ≤ 6 → ∃ x, atI (ws.map D.str) ((k : Nat) : Int) = some (.str x) ∧ PyData.strOk x = true := fun k hk => by
    have hk2 : k < ws.length := by omega
    exact ⟨ws[k], by rw [atI_n, List.getElem?_map, List.getElem?_eq_getElem hk2]; rfl, hS _ (List.getElem_mem hk2)⟩
  obtain ⟨w0, a0, s0⟩ := hw 0 (by omega)
  obtain ⟨w6, a6, s6⟩ := hw 6 (by omega)
  walk_at "st"
  refine ⟨_, a0, _, a6, fun q hq => ?_⟩
  have hpq : p ≠ q := ne_of_fresh e0 hq
  walk_at "st"
  intro _
  refine for_ind (fun items m1 M1 => ∃ (j : Nat) (o : DO) (ps : List (Tm × Tm)) (x5 x6 : Option D), items = rangeD (j : Int) (6 - j) ∧ j ≤ 6 ∧ DrO o ∧ ps.length = 2 + j ∧ (∀ e ∈ ps, ppOk e) ∧ M1 = mput (mput M p o) q (.lst (ps.map prT)) ∧
    m1 = [some (.ref p), some (.lst (ws.map D.str)), some c, some d, some (.ref q), x5, x6]) ?_ ?_ _ _ _ ⟨0, o0, [(.val c, .var w0), (.var w6, .val d)], _, _, rfl, Nat.zero_le _, ho0, rfl, ?_, by rw [← eM]; rfl, rfl⟩
  · rintro m1 M1 ⟨j, o, ps, x5, x6, hi, hj, ho, hpl, hpo, rfl, rfl⟩
    refine ⟨srcV_none, ?_⟩
    have hj2 : j = 6 := by
      rcases Nat.lt_or_ge j 6 with z | z
      · rw [show 6 - j = (6 - (j + 1)) + 1 by omega, rangeD_cons] at hi
        cases hi
      · omega
    have hqf : mput M p o q = none := by rw [mput_ne hpq.symm]; exact hq
    walk_at "rd"
    intro _
    refine lc_map ps prT (fun e => tmD e.1) rfl (fun a e => by cases e; exact mput_same) (fun e he M5 l5 C1 h5 => ?_) fun r hr => ?_
    · rw [show prT e = .tup [tmD e.1, tmD e.2] from rfl]
      walk_at "rd"
      exact h5
    rw [mdel_mput hr]
    refine ⟨ps.map prT, by rw [mput_same], fun _ => ?_⟩
    refine lc_map ps prT (fun e => tmD e.2) rfl (fun a e => by cases e; exact mput_same) (fun e he M5 l5 C1 h5 => ?_) fun r2 hr2 => ?_
    · rw [show prT e = .tup [tmD e.1, tmD e.2] from rfl]
      walk_at "rd"
      exact h5
    rw [mdel_mput hr2]
    have e1 : (ps.map fun e => tmD e.1) = (ps.map (·.1)).map tmD := by rw [List.map_map]; rfl
    have e2 : (ps.map fun e => tmD e.2) = (ps.map (·.2)).map tmD := by rw [List.map_map]; rfl
    rw [e1, e2]
    refine ret_le ((MLe.refl _).put hqf) (h o (ps.map (·.1)) (ps.map (·.2)) ho (by rw [List.length_map, List.length_map]) (by rw [List.length_map]; omega) (fun t ht => ?_) fun t ht => ?_)
    · obtain ⟨e, he, rfl⟩ := List.mem_map.mp ht
      exact (hpo e he).1
    · obtain ⟨e, he, rfl⟩ := List.mem_map.mp ht
      exact (hpo e he).2
  · rintro z items m1 M1 Cn hC ⟨j, o, ps, x5, x6, hi, hj, ho, hpl, hpo, rfl, rfl⟩
    refine ⟨srcV_none, ?_⟩
    have hj2 : j < 6 := by
      rcases Nat.lt_or_ge j 6 with z | z
      · exact z
      · rw [show 6 - j = 0 by omega] at hi
        cases hi
    rw [show 6 - j = (6 - (j + 1)) + 1 by omega, rangeD_cons] at hi
    injection hi with e1 e2
    subst e1
    subst e2
    obtain ⟨x, ax, sx⟩ := hw j (by omega)
    obtain ⟨y, ay, sy⟩ := hw (j + 1) (by omega)
    have hdr : ∀ o', DrO o' → Dr (mput (mput M p o') q (.lst (ps.map prT))) p := fun o' ho' => dr_ne (dr_put ho') hpq
    have fin : ∀ (o2 : DO) (r : Int) (e : Tm × Tm) (x6 : Option D), DrO o2 → ppOk e → Cn [some (.ref p), some (.lst (ws.map D.str)), some c, some d, some (.ref q), some (.int j), x6] (mput (mput M p o2) q (.lst ((ps.map prT).take r.toNat ++ [prT e] ++ (ps.map prT).drop r.toNat))) := fun o2 r e x6 ho2 he => by
      refine hC _ _ ⟨j + 1, o2, ps.take r.toNat ++ [e] ++ ps.drop r.toNat, _, _, rfl, hj2, ho2, ?_, fun u hu => ?_, by simp [List.map_take, List.map_drop], rfl⟩
      · rw [List.length_append, List.length_append, List.length_take, List.length_drop, List.length_singleton]
        omega
      · simp only [List.mem_append, List.mem_singleton] at hu
        rcases hu with (hu | rfl) | hu
        · exact hpo u (List.mem_of_mem_take hu)
        · exact he
        · exact hpo u (List.mem_of_mem_drop hu)
    walk_at "rd"
    refine ⟨_, ax, _, ay, ⟨_, rfl⟩, hdr o ho, by omega, fun o1 r ho1 r0 r1 => ?_⟩
    rw [List.length_map] at r1
    rw [mput_swap hpq]
    refine ⟨hdr o1 ho1, fun o2 r2 ho2 r20 r21 => ?_⟩
    rw [mput_swap hpq]
    obtain ⟨z, hz, hat⟩ := atI_lt (xs := [prT (.var x, .var y), prT (.var y, .var x)]) r20 r21
    refine ⟨z, hat, _, mput_same, by rw [List.length_map]; omega, r0, by omega, ?_⟩
    rw [mput_mput]
    simp only [List.mem_cons, List.not_mem_nil, or_false] at hz
    rcases hz with rfl | rfl
    · exact fg_of (fin o2 r _ _ ho2 ⟨sx, sy⟩)
    · exact fg_of (fin o2 r _ _ ho2 ⟨sy, sx⟩)
  · intro e he
    simp only [List.mem_cons, List.not_mem_nil, or_false] at he
    rcases he with rfl | rfl
    · exact ⟨hc, s0⟩
    · exact ⟨s6, hd⟩
abbrev sp_l_put_is_right : DSp := ar3 fun a b c M Q => ∃ (p : Addr) (ws : List Str) (vals : List D), a = .ref p ∧ b = .lst (ws.map D.str) ∧ c = .lst vals ∧ ws ≠ [] ∧ ws.length ≤ 100 ∧ vals ≠ [] ∧ vals.length ≤ 100 ∧ (∀ v ∈ vals, isV v) ∧ (∀ x ∈ ws, PyData.strOk x = true) ∧ Dr M p ∧
  ∀ o, DrO o → Q (.bl true) (mput M p o)
theorem ok_l_put_is_right (F : Def K mg "_law_put_is_right" s_l_put_is_right ["draws", "words", "values"]) (B : Bi K mg) (I : Im mg) (c_put_terms : Cal P w K mg base 1 "put_terms" ["term", "mapping"] sp_put_terms) (c_l_take : Cal P w K mg base 1 "_law_take" ["draws", "many"] sp_l_take) (c_l_same : Cal P w K mg base 13 "_law_same" ["actual", "due"] sp_l_same) (c_l_term : Cal P w K mg base 3 "_law_term" ["draws", "variables", "values"] sp_l_term) (c_l_after : Cal P w K mg base 1 "_law_after" ["term", "mapping"] sp_l_after) : Cal P w K mg base 14 "_law_put_is_right" ["draws", "words", "values"] sp_l_put_is_right := by
  have sc := sc_l_put_is_right
  refine F.cal sc (fun ds M Q h => len3 h) (fun f cdv A outer s H E hr => (ds_cons (ds_set (i := 3) sc.nd rfl (Or.inl rfl) (d_lst da_nil))
    (ds_cons (ds_for PassesOwn.never rfl (di_seq (d_fz (d_cb (c_sortD (hu_40 hr)) rfl B.b_sorted boot_sorted (da_cons (d_v 1) da_nil)))) (dg_name (i := 4) sc.nd rfl (Or.inl rfl))
    (ds_one (ds_if (dt_w (dw_and (dt_cmp o_lt (d_cb c_len rfl B.b_len boot_len (da_cons (d_v 3) da_nil)) d_int (nomark _)) (dw_and1 (dt_cmp (o_eq (hu_eq hr)) (d_call c_l_take (hr.mono (by first | decide | omega)) rfl (da_cons (d_v 0) (da_cons d_int da_nil))) d_int (nomark _)))))
    (ds_one (ds_expr (d_mt PySem.F.slot_list_append PySem.F.type_list_append m_append (d_v 3) (da_cons (d_tup (da_cons (d_v 4) (da_cons (d_call c_l_term (hr.mono (by first | decide | omega)) rfl (da_cons (d_v 0) (da_cons (d_v 1) (da_cons (d_v 2) da_nil)))) da_nil))) da_nil))))
    ds_nil)))
    (ds_cons (ds_set (i := 5) sc.nd rfl (Or.inl rfl) (d_catF (d_lcF rfl sc.nd (own := [("word", 4)]) (di_seq (d_v 1)) (blkOk_by (N := N_l_put_is_right) (sc := defScope s_l_put_is_right) (by decide +kernel)) (by decide) (fun _ _ _ _ _ => (dg_name (i := 4) sc.nd rfl (Or.inl rfl))) (fun _ _ _ _ _ => dts_nil) (fun _ _ _ _ _ => (d_tup (da_cons d_str (da_cons (d_v 4) da_nil))))) (d_lcF rfl sc.nd (own := [("value", 7)]) (di_seq (d_catF (d_fz (d_ct c_list rfl B.b_list boot_list (da_cons (d_v 2) da_nil))) (d_fz (d_ct c_list rfl B.b_list boot_list (da_cons (d_v 1) da_nil))))) (blkOk_by (N := N_l_put_is_right) (sc := defScope s_l_put_is_right) (by decide +kernel)) (by decide) (fun _ _ _ _ _ => (dg_name (i := 7) sc.nd rfl (Or.inl rfl))) (fun _ _ _ _ _ => dts_nil) (fun _ _ _ _ _ => (d_tup (da_cons d_str (da_cons (d_v 7) da_nil)))))))
    (ds_cons (ds_for PassesOwn.never rfl (di_seq (d_catF (d_v 5) (d_sl (d_v 5) dp_none (dp_some d_int)))) (dg_name (i := 6) sc.nd rfl (Or.inl rfl))
    (ds_one (ds_if (dt_not (dt_val (d_call c_l_same (hr.mono (by first | decide | omega)) rfl (da_cons (d_call c_put_terms (hr.mono (by first | decide | omega)) rfl (da_cons (d_v 6) (da_cons (d_ct c_tuple rfl B.b_tuple boot_tuple (da_cons (d_v 3) da_nil)) da_nil))) (da_cons (d_call c_l_after (hr.mono (by first | decide | omega)) rfl (da_cons (d_v 6) (da_cons (d_v 3) da_nil))) da_nil)))))
    (ds_one (ds_ret d_bl))
    ds_nil)))
    (ds_one (ds_ret d_bl))))))) (fun ds M Q h => ?_)
  obtain ⟨a, b, c, rfl, p, ws, vals, rfl, rfl, rfl, hws, hwl, hvals, hvl, hV, hS, ⟨o0, e0, ho0⟩, h⟩ := h
  have eM : M = mput M p o0 := (mput_self e0).symm
  walk_at "st"
  intro q hq
  have hpq : p ≠ q := ne_of_fresh e0 hq
  walk_at "st"
  obtain ⟨fs, hfs, hfp⟩ := sort_strs ws
  rw [hfs]
  refine ⟨strs_ok hS, strs_alike ws, strs_sortable ws, fun r hr => ?_⟩
  rw [mdel_mput hr]
  refine ⟨_, rfl, fun _ => ?_⟩
  have hfl : fs.length ≤ 100 := by rw [hfp.length_eq]; exact hwl
  refine for_ind (fun items m1 M1 => ∃ (o : DO) (rest : List Str) (mp : Bd) (x4 : Option D), items = rest.map D.str ∧ (∀ x ∈ rest, x ∈ ws) ∧ DrO o ∧ (∀ e ∈ mp, pOk e) ∧ mp.length + rest.length ≤ 100 ∧ M1 = mput (mput M p o) q (.lst (mp.map bpD)) ∧
    m1 = [some (.ref p), some (.lst (ws.map D.str)), some (.lst vals), some (.ref q), x4, none, none, none]) ?_ ?_ _ _ _ ⟨o0, fs, [], _, rfl, fun x hx => hfp.mem_iff.mp hx, ho0, (fun _ h => nomatch h), by simpa using hfl, by rw [← eM]; rfl, rfl⟩
  · rintro m1 M1 ⟨o, rest, mp, x4, hi, _, ho, hmp, hml, rfl, rfl⟩
    refine ⟨srcV_none, ?_⟩
    have hqf : mput M p o q = none := by rw [mput_ne hpq.symm]; exact hq
    have hmq : dItems (.ref q) (mput (mput M p o) q (.lst (mp.map bpD))) = some (mp.map bpD) := by rw [dItems_rf, mput_same]
    have hS2 : ∀ v ∈ vals ++ ws.map D.str, isV v := fun v hv => by
      rcases List.mem_append.mp hv with hv | hv
      · exact hV v hv
      · obtain ⟨x, hx, rfl⟩ := List.mem_map.mp hv
        exact .inr ⟨x, rfl, hS x hx⟩
    obtain ⟨ak, hak⟩ : ∃ ak : List Tm, ak = ws.map Tm.var ++ (vals ++ ws.map D.str).map Tm.val := ⟨_, rfl⟩
    have hako : ∀ t ∈ ak, tmOk t := fun t ht => by
      rw [hak] at ht
      rcases List.mem_append.mp ht with ht | ht
      · obtain ⟨x, hx, rfl⟩ := List.mem_map.mp ht
        exact hS x hx
      · obtain ⟨v, hv, rfl⟩ := List.mem_map.mp ht
        exact hS2 v hv
    have hakl : ak.length ≤ 300 := by rw [hak]; simp; omega
    have eak : (ws.map fun x => tmD (.var x)) ++ ((vals ++ ws.map D.str).map fun v => tmD (.val v)) = ak.map tmD := by
      rw [hak]
      simp [Function.comp_def]
    generalize hN : mput (mput M p o) q (.lst (mp.map bpD)) = N at hmq
    walk_at "st"
    walk_at "st"
    intro _
    refine lc_map ws D.str (fun x => tmD (.var x)) rfl srcV_none (fun x hx M5 l5 C1 h5 => ?_) fun p1 hp1 => ?_
    · walk_at "rd"
      exact h5
    rw [mdel_mput hp1]
    intro p2 hp2
    rw [mdel_mput hp2]
    refine ⟨_, rfl, fun p3 hp3 => ⟨_, rfl, by rw [List.length_map]; omega, fun _ => ?_⟩⟩
    rw [mdel_mput hp3]
    refine lc_map (vals ++ ws.map D.str) (fun v => v) (fun v => tmD (.val v)) (List.map_id' _).symm srcV_none (fun x hx M5 l5 C1 h5 => ?_) fun p4 hp4 => ?_
    · walk_at "rd"
      exact h5
    rw [mdel_mput hp4]
    refine ⟨by simp; omega, ?_⟩
    rw [eak]
    walk_at "st"
    have e2 : DL.cutD (ak.map tmD) none (some 2) = (ak.take 2).map tmD := by
      rw [List.map_take]
      exact DL.cutD_to _ 2
    have htk : (ak.take 2).length ≤ 2 := by rw [List.length_take]; omega
    rw [e2]
    refine ⟨by rw [List.length_map, List.length_map]; omega, fun _ => ?_⟩
    rw [← List.map_append]
    refine for_ind (fun items m1 M1 => ∃ (rest : List Tm) (x6 : Option D), items = rest.map tmD ∧ (∀ t ∈ rest, tmOk t) ∧ M1 = N ∧
      m1 = [some (.ref p), some (.lst (ws.map D.str)), some (.lst vals), some (.ref q), x4, some (.lst (ak.map tmD)), x6, none]) ?_ ?_ _ _ _ ⟨ak ++ ak.take 2, _, rfl, fun t ht => ?_, rfl, rfl⟩
    · rintro m1 M1 ⟨rest, x6, hi, _, rfl, rfl⟩
      refine ⟨srcV_none, ?_⟩
      walk_at "rd"
      rw [← hN]
      exact ret_le ((MLe.refl _).put hqf) (h o ho)
    · rintro z items m1 M1 Cn hC ⟨rest, x6, hi, hr2, rfl, rfl⟩
      refine ⟨srcV_none, ?_⟩
      cases rest with
      | nil => cases hi
      | cons t rest =>
        rw [List.map_cons] at hi
        injection hi with e1 e2
        subst e1
        subst e2
        have ht := hr2 t (by simp)
        have h1 := tmD_pl (res_ok hmp ht)
        have h2 := tmD_ok (res_ok hmp ht) 11
        walk_at "rd"
        refine ⟨_, hmq, t, rfl, mp, rfl, ht, hmp, by omega, t, rfl, mp, hmq, ht, hmp, by omega, h1, h1, h2, h2, ?_⟩
        rw [(eqv_pl _ _ h1 h1).mpr rfl, if_neg (by decide)]
        exact fg_of (hC _ _ ⟨rest, _, rfl, fun t ht => hr2 t (by simp [ht]), rfl, rfl⟩)
    · rcases List.mem_append.mp ht with ht | ht
      · exact hako t ht
      · exact hako t (List.mem_of_mem_take ht)
  · rintro z items m1 M1 Cn hC ⟨o, rest, mp, x4, hi, hr2, ho, hmp, hml, rfl, rfl⟩
    refine ⟨srcV_none, ?_⟩
    cases rest with
    | nil => cases hi
    | cons x rest =>
      rw [List.map_cons] at hi
      injection hi with e1 e2
      subst e1
      subst e2
      rw [List.length_cons] at hml
      have hd : ∀ o', DrO o' → Dr (mput (mput M p o') q (.lst (mp.map bpD))) p := fun o' ho' => dr_ne (dr_put ho') hpq
      have hxo := hS x (hr2 x (by simp))
      have hr3 : ∀ y ∈ rest, y ∈ ws := fun y hy => hr2 y (by simp [hy])
      walk_at "rd"
      split
      · refine ⟨hd o ho, fun o1 r1 ho1 r10 r11 => ?_⟩
        rw [mput_swap hpq]
        split
        · refine ⟨⟨_, by rw [mput_same]⟩, ws, rfl, hd o1 ho1, hws, hvals, hV, hS, fun o2 t ho2 ht _ => ?_⟩
          rw [mput_swap hpq]
          refine ⟨_, mput_same, by rw [List.length_map]; omega, fg_of (hC _ _ ⟨o2, rest, mp ++ [(x, t)], _, rfl, hr3, ho2, fun e he => ?_, by rw [List.length_append, List.length_singleton]; omega, by rw [mput_mput, List.map_append]; rfl, rfl⟩)⟩
          rcases List.mem_append.mp he with he | he
          · exact hmp e he
          · rw [List.mem_singleton.mp he]
            exact ⟨hxo, ht⟩
        · exact fg_of (hC _ _ ⟨o1, rest, mp, _, rfl, hr3, ho1, hmp, by omega, rfl, rfl⟩)
      · exact fg_of (hC _ _ ⟨o, rest, mp, _, rfl, hr3, ho, hmp, by omega, rfl, rfl⟩)
def prL (e : List Tm × List Tm) : D := .lst [.tup (e.1.map tmD), .tup (e.2.map tmD)]
theorem ok_law {f0 : Addr} {fd0 : FuncData} (F : Fun K "law" "law" s_law f0 fd0) (B : Bi K mg) (I : Im mg) (c_unified : Cal P w K mg base 3 "unified" ["terms", "others"] sp_unified) (c_l_draws : Cal P w K mg base 1 "_law_draws" ["script", "many"] sp_l_draws) (c_l_take : Cal P w K mg base 1 "_law_take" ["draws", "many"] sp_l_take) (c_l_words : Cal P w K mg base 2 "_law_words" ["draws", "many"] sp_l_words) (c_l_values : Cal P w K mg base 3 "_law_values" ["draws", "words"] sp_l_values) (c_l_is_unifying : Cal P w K mg base 15 "_law_is_unifying" ["terms", "others", "told"] sp_l_is_unifying) (c_l_terms : Cal P w K mg base 4 "_law_terms" ["draws", "many", "words", "values"] sp_l_terms) (c_l_behind : Cal P w K mg base 4 "_law_behind" ["draws", "terms", "words", "values"] sp_l_behind) (c_l_chain : Cal P w K mg base 2 "_law_chain" ["draws", "words", "first", "last"] sp_l_chain) (c_l_put_is_right : Cal P w K mg base 14 "_law_put_is_right" ["draws", "words", "values"] sp_l_put_is_right) : FnOk P w K mg base CX0 16 f0 fd0 ["script"] (upSp K sp_law) := by
  have sc := sc_law
  refine fn_ok F sc (fun ds M Q h => len1 h) (fun f cdv A outer s H E hr => (ds_cons (ds_set (i := 1) sc.nd rfl (Or.inl rfl) (d_call c_l_draws (hr.mono (by first | decide | omega)) rfl (da_cons (d_v 0) (da_cons d_int da_nil))))
    (ds_cons (ds_set (i := 2) sc.nd rfl (Or.inl rfl) (d_call c_l_words (hr.mono (by first | decide | omega)) rfl (da_cons (d_v 1) (da_cons d_int da_nil))))
    (ds_cons (ds_set (i := 3) sc.nd rfl (Or.inl rfl) (d_call c_l_values (hr.mono (by first | decide | omega)) rfl (da_cons (d_v 1) (da_cons (d_v 2) da_nil))))
    (ds_cons (ds_set (i := 4) sc.nd rfl (Or.inl rfl) (d_ix x_ix (d_lstF (da_cons d_int (da_cons d_int (da_cons d_int (da_cons d_int (da_cons d_int (da_cons d_int (da_cons d_int (da_cons d_int da_nil))))))))) (d_call c_l_take (hr.mono (by first | decide | omega)) rfl (da_cons (d_v 1) (da_cons d_int da_nil))) (fun _ _ => rfl)))
    (ds_cons (ds_set (i := 5) sc.nd rfl (Or.inl rfl) (d_sl (d_v 2) dp_none (dp_some (d_ix x_ix (d_lstF (da_cons d_int (da_cons d_int (da_cons d_int (da_cons d_int da_nil))))) (d_call c_l_take (hr.mono (by first | decide | omega)) rfl (da_cons (d_v 1) (da_cons d_int da_nil))) (fun _ _ => rfl)))))
    (ds_cons (ds_set (i := 6) sc.nd rfl (Or.inl rfl) (d_call c_l_terms (hr.mono (by first | decide | omega)) rfl (da_cons (d_v 1) (da_cons (d_v 4) (da_cons (d_v 5) (da_cons (d_v 3) da_nil))))))
    (ds_cons (ds_set (i := 7) sc.nd rfl (Or.inl rfl) (d_lst (da_cons (d_lstF (da_cons (d_v 6) (da_cons (d_call c_l_terms (hr.mono (by first | decide | omega)) rfl (da_cons (d_v 1) (da_cons (d_v 4) (da_cons (d_v 5) (da_cons (d_v 3) da_nil))))) da_nil))) (da_cons (d_lstF (da_cons (d_v 6) (da_cons (d_call c_l_behind (hr.mono (by first | decide | omega)) rfl (da_cons (d_v 1) (da_cons (d_v 6) (da_cons (d_v 5) (da_cons (d_v 3) da_nil))))) da_nil))) da_nil))))
    (ds_cons (ds_expr (d_mt PySem.F.slot_list_append PySem.F.type_list_append m_append (d_v 7) (da_cons (d_call c_l_chain (hr.mono (by first | decide | omega)) rfl (da_cons (d_v 1) (da_cons (d_v 2) (da_cons (d_ix x_ix (d_v 3) d_int (fun _ _ => rfl)) (da_cons (d_ix x_ix (d_v 3) d_int (fun _ _ => rfl)) da_nil))))) da_nil)))
    (ds_cons (ds_expr (d_mt PySem.F.slot_list_append PySem.F.type_list_append m_append (d_v 7) (da_cons (d_call c_l_chain (hr.mono (by first | decide | omega)) rfl (da_cons (d_v 1) (da_cons (d_v 2) (da_cons (d_ix x_ix (d_v 3) d_int (fun _ _ => rfl)) (da_cons (d_ix x_ix (d_v 3) d_int (fun _ _ => rfl)) da_nil))))) da_nil)))
    (ds_cons (ds_for PassesOwn.never rfl (di_seq (d_catF (d_v 7) (d_sl (d_v 7) dp_none (dp_some d_int)))) (dg_name (i := 8) sc.nd rfl (Or.inl rfl))
    (ds_one (ds_if (dt_not (dt_val (d_call c_l_is_unifying (hr.mono (by first | decide | omega)) rfl (da_cons (d_ix x_ix (d_v 8) d_int (fun _ _ => rfl)) (da_cons (d_ix x_ix (d_v 8) d_int (fun _ _ => rfl)) (da_cons (d_call c_unified (hr.mono (by first | decide | omega)) rfl (da_cons (d_ix x_ix (d_v 8) d_int (fun _ _ => rfl)) (da_cons (d_ix x_ix (d_v 8) d_int (fun _ _ => rfl)) da_nil))) da_nil))))))
    (ds_one (ds_ret d_bl))
    ds_nil)))
    (ds_one (ds_ret (d_call c_l_put_is_right (hr.mono (by first | decide | omega)) rfl (da_cons (d_v 1) (da_cons (d_v 2) (da_cons (d_v 3) da_nil))))))))))))))))) (fun ds M Q h => ?_)
  obtain ⟨a, rfl, ns, hns, rfl, h⟩ := h
  obtain ⟨d0, hd0⟩ : ∃ d0, d0 = D.lst (ns.map D.int) := ⟨_, rfl⟩
  walk_at "st"
  refine ⟨⟨ns, rfl⟩, fun p o hp ho => ?_⟩
  rw [← hd0]
  walk_at "st"
  refine ⟨9, rfl, by omega, dr_put ho, fun o1 ws ho1 hwl hwn hwo => ?_⟩
  have hws : ∀ x ∈ ws, PyData.strOk x = true := fun x hx => wok_str (hwo x hx)
  walk_at "st"
  refine ⟨ws, rfl, dr_put ho1, by omega, hws, fun o2 vals ho2 hvl hV => ?_⟩
  match vals, hvl, hV with
  | [v0, v1, v2], hvl, hV =>
    have hvn : [v0, v1, v2] ≠ [] := by simp
    walk_at "st"
    refine ⟨dr_put ho2, fun o3 r3 ho3 r30 r31 => ?_⟩
    obtain ⟨z, hz, hat⟩ := atI_lt (xs := [D.int 3, D.int 8, D.int 0, D.int 5, D.int 2, D.int 8, D.int 1, D.int 4]) r30 r31
    obtain ⟨n, rfl, hn⟩ : ∃ n : Nat, z = .int n ∧ n ≤ 8 := by
      simp only [List.mem_cons, List.not_mem_nil, or_false] at hz
      rcases hz with rfl | rfl | rfl | rfl | rfl | rfl | rfl | rfl
      · exact ⟨3, rfl, by omega⟩
      · exact ⟨8, rfl, by omega⟩
      · exact ⟨0, rfl, by omega⟩
      · exact ⟨5, rfl, by omega⟩
      · exact ⟨2, rfl, by omega⟩
      · exact ⟨8, rfl, by omega⟩
      · exact ⟨1, rfl, by omega⟩
      · exact ⟨4, rfl, by omega⟩
    refine ⟨_, hat, ?_⟩
    walk_at "st"
    refine ⟨dr_put ho3, fun o4 r4 ho4 r40 r41 => ?_⟩
    obtain ⟨z, hz, hat⟩ := atI_lt (xs := [D.int 2, D.int 3, D.int 9, D.int 6]) r40 r41
    obtain ⟨k, rfl, hk, hk2⟩ : ∃ k : Nat, z = .int k ∧ k ≤ 9 ∧ 2 ≤ k := by
      simp only [List.mem_cons, List.not_mem_nil, or_false] at hz
      rcases hz with rfl | rfl | rfl | rfl
      · exact ⟨2, rfl, by omega, by omega⟩
      · exact ⟨3, rfl, by omega, by omega⟩
      · exact ⟨9, rfl, by omega, by omega⟩
      · exact ⟨6, rfl, by omega, by omega⟩
    refine ⟨_, hat, ?_⟩
    refine ⟨_, rfl, ?_⟩
    have e1 : DL.cutD (ws.map D.str) none (some (k : Int)) = (ws.take k).map D.str := by rw [List.map_take]; exact DL.cutD_to _ k
    rw [e1]
    have hul : (ws.take k).length ≤ 100 := by rw [List.length_take]; omega
    have hun : ws.take k ≠ [] := fun z => by
      have := congrArg List.length z
      rw [List.length_take, List.length_nil] at this
      omega
    have hus : ∀ x ∈ ws.take k, PyData.strOk x = true := fun x hx => hws x (List.mem_of_mem_take hx)
    generalize ws.take k = ud at hul hun hus
    walk_at "st"
    refine ⟨n, rfl, by omega, ud, rfl, dr_put ho4, hun, hV, hus, fun o5 ts ho5 htl hto => ?_⟩
    walk_at "st"
    refine ⟨n, rfl, by omega, ud, rfl, dr_put ho5, hun, hV, hus, fun o6 us ho6 hul2 huo => ?_⟩
    refine ⟨ts, rfl, hto, ud, rfl, hul, dr_put ho6, hun, hV, hus, fun o7 us2 ho7 hul3 huo2 => ?_⟩
    intro q hq
    have hpq : p ≠ q := ne_of_fresh mput_same hq
    have hv0 : isV v0 := hV v0 (by simp)
    have hv1 : isV v1 := hV v1 (by simp)
    have hd : ∀ (o' : DO) (l : DO), DrO o' → Dr (mput (mput M p o') q l) p := fun o' l ho' => dr_ne (dr_put ho') hpq
    walk_at "st"
    refine ⟨⟨_, rfl⟩, ws, rfl, by omega, hws, hv0, hv0, hd _ _ ho7, fun o8 ca cb ho8 hc1 hc2 hc3 hc4 => ?_⟩
    rw [mput_swap hpq]
    refine ⟨_, mput_same, by simp, ?_⟩
    rw [mput_mput]
    walk_at "st"
    refine ⟨⟨_, rfl⟩, ws, rfl, by omega, hws, hv0, hv1, hd _ _ ho8, fun o9 da db ho9 hd1 hd2 hd3 hd4 => ?_⟩
    rw [mput_swap hpq]
    refine ⟨_, mput_same, by simp, ?_⟩
    rw [mput_mput]
    obtain ⟨L, hL⟩ : ∃ L : List (List Tm × List Tm), L = [(ts, us), (ts, us2), (ca, cb), (da, db)] := ⟨_, rfl⟩
    have hLo : ∀ e ∈ L, e.1.length = e.2.length ∧ e.1.length ≤ 10 ∧ (∀ t ∈ e.1, tmOk t) ∧ ∀ t ∈ e.2, tmOk t := fun e he => by
      rw [hL] at he
      simp only [List.mem_cons, List.not_mem_nil, or_false] at he
      rcases he with rfl | rfl | rfl | rfl
      · exact ⟨show ts.length = us.length by omega, show ts.length ≤ 10 by omega, hto, huo⟩
      · exact ⟨show ts.length = us2.length by omega, show ts.length ≤ 10 by omega, hto, huo2⟩
      · exact ⟨hc1, hc2, hc3, hc4⟩
      · exact ⟨hd1, hd2, hd3, hd4⟩
    have hLl : L.length = 4 := by rw [hL]; rfl
    have eL : ([D.lst [D.tup (List.map tmD ts), D.tup (List.map tmD us)], D.lst [D.tup (List.map tmD ts), D.tup (List.map tmD us2)], D.lst [D.tup (List.map tmD ca), D.tup (List.map tmD cb)]] ++ [D.lst [D.tup (List.map tmD da), D.tup (List.map tmD db)]]) = L.map prL := by rw [hL]; rfl
    rw [eL]
    have hqf : mput M p o9 q = none := by
      rw [mput_ne hpq.symm] at hq ⊢
      exact hq
    generalize hN : mput (mput M p o9) q (.lst (L.map prL)) = N
    have hNq : dItems (.ref q) N = some (L.map prL) := by rw [← hN, dItems_rf, mput_same]
    walk_at "st"
    have e2 : DL.cutD (L.map prL) none (some 3) = (L.take 3).map prL := by
      rw [List.map_take]
      exact DL.cutD_to _ 3
    refine ⟨_, hNq, _, hNq, ?_⟩
    have htk : (L.take 3).length ≤ 3 := by rw [List.length_take]; omega
    rw [e2]
    refine ⟨by rw [List.length_map, List.length_map]; omega, fun _ => ?_⟩
    rw [← List.map_append]
    refine for_ind (fun items m1 M1 => ∃ (rest : List (List Tm × List Tm)) (x8 : Option D), items = rest.map prL ∧ (∀ e ∈ rest, e ∈ L) ∧ M1 = N ∧
      m1 = [some d0, some (.ref p), some (.lst (ws.map D.str)), some (.lst [v0, v1, v2]), some (.int n), some (.lst (ud.map D.str)), some (.tup (ts.map tmD)), some (.ref q), x8]) ?_ ?_ _ _ _ ⟨L ++ L.take 3, _, rfl, fun e he => ?_, rfl, rfl⟩
    · rintro m1 M1 ⟨rest, x8, hi, _, rfl, rfl⟩
      refine ⟨srcV_none, ?_⟩
      walk_at "rd"
      refine ⟨ws, rfl, fun z => ?_, by omega, hV, hws, ?_, fun o' ho' => ret_of (h _)⟩
      · rw [z] at hwl
        cases hwl
      · rw [← hN]
        exact hd _ _ ho9
    · rintro z items m1 M1 Cn hC ⟨rest, x8, hi, hr, rfl, rfl⟩
      refine ⟨srcV_none, ?_⟩
      cases rest with
      | nil => cases hi
      | cons e rest =>
        rw [List.map_cons] at hi
        injection hi with e1 e2
        subst e1
        subst e2
        obtain ⟨as, bs⟩ := e
        obtain ⟨g1, g2, g3, g4⟩ := hLo (as, bs) (hr _ (by simp))
        have g1 : as.length = bs.length := g1
        have g2 : as.length ≤ 10 := g2
        rw [show prL (as, bs) = .lst [.tup (as.map tmD), .tup (bs.map tmD)] from rfl]
        walk_at "rd"
        refine ⟨as, rfl, bs, rfl, g1, by omega, g3, g4, fun hn => ?_, fun b' ys hs hb hp hle => ?_⟩
        · refine ⟨as, rfl, bs, rfl, g1, by omega, g3, g4, .inl hn, ?_⟩
          exact fg_of (hC _ _ ⟨rest, _, rfl, fun e he => hr e (by simp [he]), rfl, rfl⟩)
        · refine ⟨as, rfl, bs, rfl, g1, by omega, g3, g4, .inr ⟨b', hs, hb, ys, hp, hle, rfl⟩, ?_⟩
          exact fg_of (hC _ _ ⟨rest, _, rfl, fun e he => hr e (by simp [he]), rfl, rfl⟩)
    · rcases List.mem_append.mp he with he | he
      · exact he
      · exact List.mem_of_mem_take he
end
theorem dm_put_terms {K : PySem.W.Frag} {h : Heap} {mg : Str → Option Value} (X : K.In h) (G : h.Ns mainGlobals mg) {f : Addr} {oc : Value} {od an : Option Addr} {sl : Array (Option Value)} {kV dc pm cd ct : Value} (a : PySem.W.nsIn K mainGlobals "put_terms" = some (some (.ref f))) (l : K.lookup f = some ⟨oc, od, .func (PySem.W.fnOf "put_terms" "put_terms" (defArgs s_put_terms) (defBody s_put_terms) (defScope s_put_terms) .none kV dc pm an cd ct), sl⟩) (c : PySem.W.codeIn K cd "put_terms" = true) (k : PySem.W.keepIn K (.ref f) = true) : Def K mg "put_terms" s_put_terms ["term", "mapping"] := ⟨_, _, fun_mk (st := s_put_terms) l c k, PySem.W.mg_of X G a, (fun_mk (st := s_put_terms) l c k).binds (ps := ["term", "mapping"]) fun _ _ _ _ _ _ us hl => match us, hl with | [_, _], _ => rfl⟩
theorem dm_resolved {K : PySem.W.Frag} {h : Heap} {mg : Str → Option Value} (X : K.In h) (G : h.Ns mainGlobals mg) {f : Addr} {oc : Value} {od an : Option Addr} {sl : Array (Option Value)} {kV dc pm cd ct : Value} (a : PySem.W.nsIn K mainGlobals "resolved" = some (some (.ref f))) (l : K.lookup f = some ⟨oc, od, .func (PySem.W.fnOf "resolved" "resolved" (defArgs s_resolved) (defBody s_resolved) (defScope s_resolved) .none kV dc pm an cd ct), sl⟩) (c : PySem.W.codeIn K cd "resolved" = true) (k : PySem.W.keepIn K (.ref f) = true) : Def K mg "resolved" s_resolved ["term", "bound"] := ⟨_, _, fun_mk (st := s_resolved) l c k, PySem.W.mg_of X G a, (fun_mk (st := s_resolved) l c k).binds (ps := ["term", "bound"]) fun _ _ _ _ _ _ us hl => match us, hl with | [_, _], _ => rfl⟩
theorem dm_with_variable {K : PySem.W.Frag} {h : Heap} {mg : Str → Option Value} (X : K.In h) (G : h.Ns mainGlobals mg) {f : Addr} {oc : Value} {od an : Option Addr} {sl : Array (Option Value)} {kV dc pm cd ct : Value} (a : PySem.W.nsIn K mainGlobals "with_variable" = some (some (.ref f))) (l : K.lookup f = some ⟨oc, od, .func (PySem.W.fnOf "with_variable" "with_variable" (defArgs s_with_variable) (defBody s_with_variable) (defScope s_with_variable) .none kV dc pm an cd ct), sl⟩) (c : PySem.W.codeIn K cd "with_variable" = true) (k : PySem.W.keepIn K (.ref f) = true) : Def K mg "with_variable" s_with_variable ["bound", "variable", "term"] := ⟨_, _, fun_mk (st := s_with_variable) l c k, PySem.W.mg_of X G a, (fun_mk (st := s_with_variable) l c k).binds (ps := ["bound", "variable", "term"]) fun _ _ _ _ _ _ us hl => match us, hl with | [_, _, _], _ => rfl⟩
theorem dm_bound_terms {K : PySem.W.Frag} {h : Heap} {mg : Str → Option Value} (X : K.In h) (G : h.Ns mainGlobals mg) {f : Addr} {oc : Value} {od an : Option Addr} {sl : Array (Option Value)} {kV dc pm cd ct : Value} (a : PySem.W.nsIn K mainGlobals "bound_terms" = some (some (.ref f))) (l : K.lookup f = some ⟨oc, od, .func (PySem.W.fnOf "bound_terms" "bound_terms" (defArgs s_bound_terms) (defBody s_bound_terms) (defScope s_bound_terms) .none kV dc pm an cd ct), sl⟩) (c : PySem.W.codeIn K cd "bound_terms" = true) (k : PySem.W.keepIn K (.ref f) = true) : Def K mg "bound_terms" s_bound_terms ["terms", "others"] := ⟨_, _, fun_mk (st := s_bound_terms) l c k, PySem.W.mg_of X G a, (fun_mk (st := s_bound_terms) l c k).binds (ps := ["terms", "others"]) fun _ _ _ _ _ _ us hl => match us, hl with | [_, _], _ => rfl⟩
theorem dm_unified {K : PySem.W.Frag} {h : Heap} {mg : Str → Option Value} (X : K.In h) (G : h.Ns mainGlobals mg) {f : Addr} {oc : Value} {od an : Option Addr} {sl : Array (Option Value)} {kV dc pm cd ct : Value} (a : PySem.W.nsIn K mainGlobals "unified" = some (some (.ref f))) (l : K.lookup f = some ⟨oc, od, .func (PySem.W.fnOf "unified" "unified" (defArgs s_unified) (defBody s_unified) (defScope s_unified) .none kV dc pm an cd ct), sl⟩) (c : PySem.W.codeIn K cd "unified" = true) (k : PySem.W.keepIn K (.ref f) = true) : Def K mg "unified" s_unified ["terms", "others"] := ⟨_, _, fun_mk (st := s_unified) l c k, PySem.W.mg_of X G a, (fun_mk (st := s_unified) l c k).binds (ps := ["terms", "others"]) fun _ _ _ _ _ _ us hl => match us, hl with | [_, _], _ => rfl⟩
theorem dm_l_draws {K : PySem.W.Frag} {h : Heap} {mg : Str → Option Value} (X : K.In h) (G : h.Ns mainGlobals mg) {f : Addr} {oc : Value} {od an : Option Addr} {sl : Array (Option Value)} {kV dc pm cd ct : Value} (a : PySem.W.nsIn K mainGlobals "_law_draws" = some (some (.ref f))) (l : K.lookup f = some ⟨oc, od, .func (PySem.W.fnOf "_law_draws" "_law_draws" (defArgs s_l_draws) (defBody s_l_draws) (defScope s_l_draws) .none kV dc pm an cd ct), sl⟩) (c : PySem.W.codeIn K cd "_law_draws" = true) (k : PySem.W.keepIn K (.ref f) = true) : Def K mg "_law_draws" s_l_draws ["script", "many"] := ⟨_, _, fun_mk (st := s_l_draws) l c k, PySem.W.mg_of X G a, (fun_mk (st := s_l_draws) l c k).binds (ps := ["script", "many"]) fun _ _ _ _ _ _ us hl => match us, hl with | [_, _], _ => rfl⟩
theorem dm_l_take {K : PySem.W.Frag} {h : Heap} {mg : Str → Option Value} (X : K.In h) (G : h.Ns mainGlobals mg) {f : Addr} {oc : Value} {od an : Option Addr} {sl : Array (Option Value)} {kV dc pm cd ct : Value} (a : PySem.W.nsIn K mainGlobals "_law_take" = some (some (.ref f))) (l : K.lookup f = some ⟨oc, od, .func (PySem.W.fnOf "_law_take" "_law_take" (defArgs s_l_take) (defBody s_l_take) (defScope s_l_take) .none kV dc pm an cd ct), sl⟩) (c : PySem.W.codeIn K cd "_law_take" = true) (k : PySem.W.keepIn K (.ref f) = true) : Def K mg "_law_take" s_l_take ["draws", "many"] := ⟨_, _, fun_mk (st := s_l_take) l c k, PySem.W.mg_of X G a, (fun_mk (st := s_l_take) l c k).binds (ps := ["draws", "many"]) fun _ _ _ _ _ _ us hl => match us, hl with | [_, _], _ => rfl⟩
theorem dm_l_pick {K : PySem.W.Frag} {h : Heap} {mg : Str → Option Value} (X : K.In h) (G : h.Ns mainGlobals mg) {f : Addr} {oc : Value} {od an : Option Addr} {sl : Array (Option Value)} {kV dc pm cd ct : Value} (a : PySem.W.nsIn K mainGlobals "_law_pick" = some (some (.ref f))) (l : K.lookup f = some ⟨oc, od, .func (PySem.W.fnOf "_law_pick" "_law_pick" (defArgs s_l_pick) (defBody s_l_pick) (defScope s_l_pick) .none kV dc pm an cd ct), sl⟩) (c : PySem.W.codeIn K cd "_law_pick" = true) (k : PySem.W.keepIn K (.ref f) = true) : Def K mg "_law_pick" s_l_pick ["draws", "row"] := ⟨_, _, fun_mk (st := s_l_pick) l c k, PySem.W.mg_of X G a, (fun_mk (st := s_l_pick) l c k).binds (ps := ["draws", "row"]) fun _ _ _ _ _ _ us hl => match us, hl with | [_, _], _ => rfl⟩
theorem dm_l_same {K : PySem.W.Frag} {h : Heap} {mg : Str → Option Value} (X : K.In h) (G : h.Ns mainGlobals mg) {f : Addr} {oc : Value} {od an : Option Addr} {sl : Array (Option Value)} {kV dc pm cd ct : Value} (a : PySem.W.nsIn K mainGlobals "_law_same" = some (some (.ref f))) (l : K.lookup f = some ⟨oc, od, .func (PySem.W.fnOf "_law_same" "_law_same" (defArgs s_l_same) (defBody s_l_same) (defScope s_l_same) .none kV dc pm an cd ct), sl⟩) (c : PySem.W.codeIn K cd "_law_same" = true) (k : PySem.W.keepIn K (.ref f) = true) : Def K mg "_law_same" s_l_same ["actual", "due"] := ⟨_, _, fun_mk (st := s_l_same) l c k, PySem.W.mg_of X G a, (fun_mk (st := s_l_same) l c k).binds (ps := ["actual", "due"]) fun _ _ _ _ _ _ us hl => match us, hl with | [_, _], _ => rfl⟩
theorem dm_l_words {K : PySem.W.Frag} {h : Heap} {mg : Str → Option Value} (X : K.In h) (G : h.Ns mainGlobals mg) {f : Addr} {oc : Value} {od an : Option Addr} {sl : Array (Option Value)} {kV dc pm cd ct : Value} (a : PySem.W.nsIn K mainGlobals "_law_words" = some (some (.ref f))) (l : K.lookup f = some ⟨oc, od, .func (PySem.W.fnOf "_law_words" "_law_words" (defArgs s_l_words) (defBody s_l_words) (defScope s_l_words) .none kV dc pm an cd ct), sl⟩) (c : PySem.W.codeIn K cd "_law_words" = true) (k : PySem.W.keepIn K (.ref f) = true) : Def K mg "_law_words" s_l_words ["draws", "many"] := ⟨_, _, fun_mk (st := s_l_words) l c k, PySem.W.mg_of X G a, (fun_mk (st := s_l_words) l c k).binds (ps := ["draws", "many"]) fun _ _ _ _ _ _ us hl => match us, hl with | [_, _], _ => rfl⟩
theorem dm_l_values {K : PySem.W.Frag} {h : Heap} {mg : Str → Option Value} (X : K.In h) (G : h.Ns mainGlobals mg) {f : Addr} {oc : Value} {od an : Option Addr} {sl : Array (Option Value)} {kV dc pm cd ct : Value} (a : PySem.W.nsIn K mainGlobals "_law_values" = some (some (.ref f))) (l : K.lookup f = some ⟨oc, od, .func (PySem.W.fnOf "_law_values" "_law_values" (defArgs s_l_values) (defBody s_l_values) (defScope s_l_values) .none kV dc pm an cd ct), sl⟩) (c : PySem.W.codeIn K cd "_law_values" = true) (k : PySem.W.keepIn K (.ref f) = true) : Def K mg "_law_values" s_l_values ["draws", "words"] := ⟨_, _, fun_mk (st := s_l_values) l c k, PySem.W.mg_of X G a, (fun_mk (st := s_l_values) l c k).binds (ps := ["draws", "words"]) fun _ _ _ _ _ _ us hl => match us, hl with | [_, _], _ => rfl⟩
theorem dm_l_term {K : PySem.W.Frag} {h : Heap} {mg : Str → Option Value} (X : K.In h) (G : h.Ns mainGlobals mg) {f : Addr} {oc : Value} {od an : Option Addr} {sl : Array (Option Value)} {kV dc pm cd ct : Value} (a : PySem.W.nsIn K mainGlobals "_law_term" = some (some (.ref f))) (l : K.lookup f = some ⟨oc, od, .func (PySem.W.fnOf "_law_term" "_law_term" (defArgs s_l_term) (defBody s_l_term) (defScope s_l_term) .none kV dc pm an cd ct), sl⟩) (c : PySem.W.codeIn K cd "_law_term" = true) (k : PySem.W.keepIn K (.ref f) = true) : Def K mg "_law_term" s_l_term ["draws", "variables", "values"] := ⟨_, _, fun_mk (st := s_l_term) l c k, PySem.W.mg_of X G a, (fun_mk (st := s_l_term) l c k).binds (ps := ["draws", "variables", "values"]) fun _ _ _ _ _ _ us hl => match us, hl with | [_, _, _], _ => rfl⟩
theorem dm_l_after {K : PySem.W.Frag} {h : Heap} {mg : Str → Option Value} (X : K.In h) (G : h.Ns mainGlobals mg) {f : Addr} {oc : Value} {od an : Option Addr} {sl : Array (Option Value)} {kV dc pm cd ct : Value} (a : PySem.W.nsIn K mainGlobals "_law_after" = some (some (.ref f))) (l : K.lookup f = some ⟨oc, od, .func (PySem.W.fnOf "_law_after" "_law_after" (defArgs s_l_after) (defBody s_l_after) (defScope s_l_after) .none kV dc pm an cd ct), sl⟩) (c : PySem.W.codeIn K cd "_law_after" = true) (k : PySem.W.keepIn K (.ref f) = true) : Def K mg "_law_after" s_l_after ["term", "mapping"] := ⟨_, _, fun_mk (st := s_l_after) l c k, PySem.W.mg_of X G a, (fun_mk (st := s_l_after) l c k).binds (ps := ["term", "mapping"]) fun _ _ _ _ _ _ us hl => match us, hl with | [_, _], _ => rfl⟩
theorem dm_l_among {K : PySem.W.Frag} {h : Heap} {mg : Str → Option Value} (X : K.In h) (G : h.Ns mainGlobals mg) {f : Addr} {oc : Value} {od an : Option Addr} {sl : Array (Option Value)} {kV dc pm cd ct : Value} (a : PySem.W.nsIn K mainGlobals "_law_among" = some (some (.ref f))) (l : K.lookup f = some ⟨oc, od, .func (PySem.W.fnOf "_law_among" "_law_among" (defArgs s_l_among) (defBody s_l_among) (defScope s_l_among) .none kV dc pm an cd ct), sl⟩) (c : PySem.W.codeIn K cd "_law_among" = true) (k : PySem.W.keepIn K (.ref f) = true) : Def K mg "_law_among" s_l_among ["thing", "row"] := ⟨_, _, fun_mk (st := s_l_among) l c k, PySem.W.mg_of X G a, (fun_mk (st := s_l_among) l c k).binds (ps := ["thing", "row"]) fun _ _ _ _ _ _ us hl => match us, hl with | [_, _], _ => rfl⟩
theorem dm_l_is_term {K : PySem.W.Frag} {h : Heap} {mg : Str → Option Value} (X : K.In h) (G : h.Ns mainGlobals mg) {f : Addr} {oc : Value} {od an : Option Addr} {sl : Array (Option Value)} {kV dc pm cd ct : Value} (a : PySem.W.nsIn K mainGlobals "_law_is_term" = some (some (.ref f))) (l : K.lookup f = some ⟨oc, od, .func (PySem.W.fnOf "_law_is_term" "_law_is_term" (defArgs s_l_is_term) (defBody s_l_is_term) (defScope s_l_is_term) .none kV dc pm an cd ct), sl⟩) (c : PySem.W.codeIn K cd "_law_is_term" = true) (k : PySem.W.keepIn K (.ref f) = true) : Def K mg "_law_is_term" s_l_is_term ["term"] := ⟨_, _, fun_mk (st := s_l_is_term) l c k, PySem.W.mg_of X G a, (fun_mk (st := s_l_is_term) l c k).binds (ps := ["term"]) fun _ _ _ _ _ _ us hl => match us, hl with | [_], _ => rfl⟩
theorem dm_l_classes {K : PySem.W.Frag} {h : Heap} {mg : Str → Option Value} (X : K.In h) (G : h.Ns mainGlobals mg) {f : Addr} {oc : Value} {od an : Option Addr} {sl : Array (Option Value)} {kV dc pm cd ct : Value} (a : PySem.W.nsIn K mainGlobals "_law_classes" = some (some (.ref f))) (l : K.lookup f = some ⟨oc, od, .func (PySem.W.fnOf "_law_classes" "_law_classes" (defArgs s_l_classes) (defBody s_l_classes) (defScope s_l_classes) .none kV dc pm an cd ct), sl⟩) (c : PySem.W.codeIn K cd "_law_classes" = true) (k : PySem.W.keepIn K (.ref f) = true) : Def K mg "_law_classes" s_l_classes ["terms", "others"] := ⟨_, _, fun_mk (st := s_l_classes) l c k, PySem.W.mg_of X G a, (fun_mk (st := s_l_classes) l c k).binds (ps := ["terms", "others"]) fun _ _ _ _ _ _ us hl => match us, hl with | [_, _], _ => rfl⟩
theorem dm_l_class_of {K : PySem.W.Frag} {h : Heap} {mg : Str → Option Value} (X : K.In h) (G : h.Ns mainGlobals mg) {f : Addr} {oc : Value} {od an : Option Addr} {sl : Array (Option Value)} {kV dc pm cd ct : Value} (a : PySem.W.nsIn K mainGlobals "_law_class_of" = some (some (.ref f))) (l : K.lookup f = some ⟨oc, od, .func (PySem.W.fnOf "_law_class_of" "_law_class_of" (defArgs s_l_class_of) (defBody s_l_class_of) (defScope s_l_class_of) .none kV dc pm an cd ct), sl⟩) (c : PySem.W.codeIn K cd "_law_class_of" = true) (k : PySem.W.keepIn K (.ref f) = true) : Def K mg "_law_class_of" s_l_class_of ["classes", "term"] := ⟨_, _, fun_mk (st := s_l_class_of) l c k, PySem.W.mg_of X G a, (fun_mk (st := s_l_class_of) l c k).binds (ps := ["classes", "term"]) fun _ _ _ _ _ _ us hl => match us, hl with | [_, _], _ => rfl⟩
theorem dm_l_clashes {K : PySem.W.Frag} {h : Heap} {mg : Str → Option Value} (X : K.In h) (G : h.Ns mainGlobals mg) {f : Addr} {oc : Value} {od an : Option Addr} {sl : Array (Option Value)} {kV dc pm cd ct : Value} (a : PySem.W.nsIn K mainGlobals "_law_clashes" = some (some (.ref f))) (l : K.lookup f = some ⟨oc, od, .func (PySem.W.fnOf "_law_clashes" "_law_clashes" (defArgs s_l_clashes) (defBody s_l_clashes) (defScope s_l_clashes) .none kV dc pm an cd ct), sl⟩) (c : PySem.W.codeIn K cd "_law_clashes" = true) (k : PySem.W.keepIn K (.ref f) = true) : Def K mg "_law_clashes" s_l_clashes ["classes"] := ⟨_, _, fun_mk (st := s_l_clashes) l c k, PySem.W.mg_of X G a, (fun_mk (st := s_l_clashes) l c k).binds (ps := ["classes"]) fun _ _ _ _ _ _ us hl => match us, hl with | [_], _ => rfl⟩
theorem dm_l_is_unifying {K : PySem.W.Frag} {h : Heap} {mg : Str → Option Value} (X : K.In h) (G : h.Ns mainGlobals mg) {f : Addr} {oc : Value} {od an : Option Addr} {sl : Array (Option Value)} {kV dc pm cd ct : Value} (a : PySem.W.nsIn K mainGlobals "_law_is_unifying" = some (some (.ref f))) (l : K.lookup f = some ⟨oc, od, .func (PySem.W.fnOf "_law_is_unifying" "_law_is_unifying" (defArgs s_l_is_unifying) (defBody s_l_is_unifying) (defScope s_l_is_unifying) .none kV dc pm an cd ct), sl⟩) (c : PySem.W.codeIn K cd "_law_is_unifying" = true) (k : PySem.W.keepIn K (.ref f) = true) : Def K mg "_law_is_unifying" s_l_is_unifying ["terms", "others", "told"] := ⟨_, _, fun_mk (st := s_l_is_unifying) l c k, PySem.W.mg_of X G a, (fun_mk (st := s_l_is_unifying) l c k).binds (ps := ["terms", "others", "told"]) fun _ _ _ _ _ _ us hl => match us, hl with | [_, _, _], _ => rfl⟩
theorem dm_l_terms {K : PySem.W.Frag} {h : Heap} {mg : Str → Option Value} (X : K.In h) (G : h.Ns mainGlobals mg) {f : Addr} {oc : Value} {od an : Option Addr} {sl : Array (Option Value)} {kV dc pm cd ct : Value} (a : PySem.W.nsIn K mainGlobals "_law_terms" = some (some (.ref f))) (l : K.lookup f = some ⟨oc, od, .func (PySem.W.fnOf "_law_terms" "_law_terms" (defArgs s_l_terms) (defBody s_l_terms) (defScope s_l_terms) .none kV dc pm an cd ct), sl⟩) (c : PySem.W.codeIn K cd "_law_terms" = true) (k : PySem.W.keepIn K (.ref f) = true) : Def K mg "_law_terms" s_l_terms ["draws", "many", "words", "values"] := ⟨_, _, fun_mk (st := s_l_terms) l c k, PySem.W.mg_of X G a, (fun_mk (st := s_l_terms) l c k).binds (ps := ["draws", "many", "words", "values"]) fun _ _ _ _ _ _ us hl => match us, hl with | [_, _, _, _], _ => rfl⟩
theorem dm_l_behind {K : PySem.W.Frag} {h : Heap} {mg : Str → Option Value} (X : K.In h) (G : h.Ns mainGlobals mg) {f : Addr} {oc : Value} {od an : Option Addr} {sl : Array (Option Value)} {kV dc pm cd ct : Value} (a : PySem.W.nsIn K mainGlobals "_law_behind" = some (some (.ref f))) (l : K.lookup f = some ⟨oc, od, .func (PySem.W.fnOf "_law_behind" "_law_behind" (defArgs s_l_behind) (defBody s_l_behind) (defScope s_l_behind) .none kV dc pm an cd ct), sl⟩) (c : PySem.W.codeIn K cd "_law_behind" = true) (k : PySem.W.keepIn K (.ref f) = true) : Def K mg "_law_behind" s_l_behind ["draws", "terms", "words", "values"] := ⟨_, _, fun_mk (st := s_l_behind) l c k, PySem.W.mg_of X G a, (fun_mk (st := s_l_behind) l c k).binds (ps := ["draws", "terms", "words", "values"]) fun _ _ _ _ _ _ us hl => match us, hl with | [_, _, _, _], _ => rfl⟩
theorem dm_l_chain {K : PySem.W.Frag} {h : Heap} {mg : Str → Option Value} (X : K.In h) (G : h.Ns mainGlobals mg) {f : Addr} {oc : Value} {od an : Option Addr} {sl : Array (Option Value)} {kV dc pm cd ct : Value} (a : PySem.W.nsIn K mainGlobals "_law_chain" = some (some (.ref f))) (l : K.lookup f = some ⟨oc, od, .func (PySem.W.fnOf "_law_chain" "_law_chain" (defArgs s_l_chain) (defBody s_l_chain) (defScope s_l_chain) .none kV dc pm an cd ct), sl⟩) (c : PySem.W.codeIn K cd "_law_chain" = true) (k : PySem.W.keepIn K (.ref f) = true) : Def K mg "_law_chain" s_l_chain ["draws", "words", "first", "last"] := ⟨_, _, fun_mk (st := s_l_chain) l c k, PySem.W.mg_of X G a, (fun_mk (st := s_l_chain) l c k).binds (ps := ["draws", "words", "first", "last"]) fun _ _ _ _ _ _ us hl => match us, hl with | [_, _, _, _], _ => rfl⟩
theorem dm_l_put_is_right {K : PySem.W.Frag} {h : Heap} {mg : Str → Option Value} (X : K.In h) (G : h.Ns mainGlobals mg) {f : Addr} {oc : Value} {od an : Option Addr} {sl : Array (Option Value)} {kV dc pm cd ct : Value} (a : PySem.W.nsIn K mainGlobals "_law_put_is_right" = some (some (.ref f))) (l : K.lookup f = some ⟨oc, od, .func (PySem.W.fnOf "_law_put_is_right" "_law_put_is_right" (defArgs s_l_put_is_right) (defBody s_l_put_is_right) (defScope s_l_put_is_right) .none kV dc pm an cd ct), sl⟩) (c : PySem.W.codeIn K cd "_law_put_is_right" = true) (k : PySem.W.keepIn K (.ref f) = true) : Def K mg "_law_put_is_right" s_l_put_is_right ["draws", "words", "values"] := ⟨_, _, fun_mk (st := s_l_put_is_right) l c k, PySem.W.mg_of X G a, (fun_mk (st := s_l_put_is_right) l c k).binds (ps := ["draws", "words", "values"]) fun _ _ _ _ _ _ us hl => match us, hl with | [_, _, _], _ => rfl⟩
theorem dm_law {K : PySem.W.Frag} {h : Heap} {mg : Str → Option Value} (X : K.In h) (G : h.Ns mainGlobals mg) {f : Addr} {oc : Value} {od an : Option Addr} {sl : Array (Option Value)} {kV dc pm cd ct : Value} (a : PySem.W.nsIn K mainGlobals "law" = some (some (.ref f))) (l : K.lookup f = some ⟨oc, od, .func (PySem.W.fnOf "law" "law" (defArgs s_law) (defBody s_law) (defScope s_law) .none kV dc pm an cd ct), sl⟩) (c : PySem.W.codeIn K cd "law" = true) (k : PySem.W.keepIn K (.ref f) = true) : Def K mg "law" s_law ["script"] := ⟨_, _, fun_mk (st := s_law) l c k, PySem.W.mg_of X G a, (fun_mk (st := s_law) l c k).binds (ps := ["script"]) fun _ _ _ _ _ _ us hl => match us, hl with | [_], _ => rfl⟩
set_option maxHeartbeats 0 in
theorem all_mk {P : Program} {w : World} {K : PySem.W.Frag} {h : Heap} {mg : Str → Option Value} {fa : Addr} (X : K.In h) (G : h.Ns mainGlobals mg) (hfa : mg "law" = some (.ref fa))
    {f0 : Addr} {oc0 : Value} {od0 an0 : Option Addr} {sl0 : Array (Option Value)} {kV0 dc0 pm0 cd0 ct0 : Value}
    (a0 : PySem.W.nsIn K mainGlobals "put_terms" = some (some (.ref f0))) (l0 : K.lookup f0 = some ⟨oc0, od0, .func (PySem.W.fnOf "put_terms" "put_terms" (defArgs s_put_terms) (defBody s_put_terms) (defScope s_put_terms) .none kV0 dc0 pm0 an0 cd0 ct0), sl0⟩) (c0 : PySem.W.codeIn K cd0 "put_terms" = true) (k0 : PySem.W.keepIn K (.ref f0) = true)
    {f1 : Addr} {oc1 : Value} {od1 an1 : Option Addr} {sl1 : Array (Option Value)} {kV1 dc1 pm1 cd1 ct1 : Value}
    (a1 : PySem.W.nsIn K mainGlobals "resolved" = some (some (.ref f1))) (l1 : K.lookup f1 = some ⟨oc1, od1, .func (PySem.W.fnOf "resolved" "resolved" (defArgs s_resolved) (defBody s_resolved) (defScope s_resolved) .none kV1 dc1 pm1 an1 cd1 ct1), sl1⟩) (c1 : PySem.W.codeIn K cd1 "resolved" = true) (k1 : PySem.W.keepIn K (.ref f1) = true)
    {f2 : Addr} {oc2 : Value} {od2 an2 : Option Addr} {sl2 : Array (Option Value)} {kV2 dc2 pm2 cd2 ct2 : Value}
    (a2 : PySem.W.nsIn K mainGlobals "with_variable" = some (some (.ref f2))) (l2 : K.lookup f2 = some ⟨oc2, od2, .func (PySem.W.fnOf "with_variable" "with_variable" (defArgs s_with_variable) (defBody s_with_variable) (defScope s_with_variable) .none kV2 dc2 pm2 an2 cd2 ct2), sl2⟩) (c2 : PySem.W.codeIn K cd2 "with_variable" = true) (k2 : PySem.W.keepIn K (.ref f2) = true)
    {f3 : Addr} {oc3 : Value} {od3 an3 : Option Addr} {sl3 : Array (Option Value)} {kV3 dc3 pm3 cd3 ct3 : Value}
    (a3 : PySem.W.nsIn K mainGlobals "bound_terms" = some (some (.ref f3))) (l3 : K.lookup f3 = some ⟨oc3, od3, .func (PySem.W.fnOf "bound_terms" "bound_terms" (defArgs s_bound_terms) (defBody s_bound_terms) (defScope s_bound_terms) .none kV3 dc3 pm3 an3 cd3 ct3), sl3⟩) (c3 : PySem.W.codeIn K cd3 "bound_terms" = true) (k3 : PySem.W.keepIn K (.ref f3) = true)
    {f4 : Addr} {oc4 : Value} {od4 an4 : Option Addr} {sl4 : Array (Option Value)} {kV4 dc4 pm4 cd4 ct4 : Value}
    (a4 : PySem.W.nsIn K mainGlobals "unified" = some (some (.ref f4))) (l4 : K.lookup f4 = some ⟨oc4, od4, .func (PySem.W.fnOf "unified" "unified" (defArgs s_unified) (defBody s_unified) (defScope s_unified) .none kV4 dc4 pm4 an4 cd4 ct4), sl4⟩) (c4 : PySem.W.codeIn K cd4 "unified" = true) (k4 : PySem.W.keepIn K (.ref f4) = true)
    {f5 : Addr} {oc5 : Value} {od5 an5 : Option Addr} {sl5 : Array (Option Value)} {kV5 dc5 pm5 cd5 ct5 : Value}
    (a5 : PySem.W.nsIn K mainGlobals "_law_draws" = some (some (.ref f5))) (l5 : K.lookup f5 = some ⟨oc5, od5, .func (PySem.W.fnOf "_law_draws" "_law_draws" (defArgs s_l_draws) (defBody s_l_draws) (defScope s_l_draws) .none kV5 dc5 pm5 an5 cd5 ct5), sl5⟩) (c5 : PySem.W.codeIn K cd5 "_law_draws" = true) (k5 : PySem.W.keepIn K (.ref f5) = true)
    {f6 : Addr} {oc6 : Value} {od6 an6 : Option Addr} {sl6 : Array (Option Value)} {kV6 dc6 pm6 cd6 ct6 : Value}
    (a6 : PySem.W.nsIn K mainGlobals "_law_take" = some (some (.ref f6))) (l6 : K.lookup f6 = some ⟨oc6, od6, .func (PySem.W.fnOf "_law_take" "_law_take" (defArgs s_l_take) (defBody s_l_take) (defScope s_l_take) .none kV6 dc6 pm6 an6 cd6 ct6), sl6⟩) (c6 : PySem.W.codeIn K cd6 "_law_take" = true) (k6 : PySem.W.keepIn K (.ref f6) = true)
    {f7 : Addr} {oc7 : Value} {od7 an7 : Option Addr} {sl7 : Array (Option Value)} {kV7 dc7 pm7 cd7 ct7 : Value}
    (a7 : PySem.W.nsIn K mainGlobals "_law_pick" = some (some (.ref f7))) (l7 : K.lookup f7 = some ⟨oc7, od7, .func (PySem.W.fnOf "_law_pick" "_law_pick" (defArgs s_l_pick) (defBody s_l_pick) (defScope s_l_pick) .none kV7 dc7 pm7 an7 cd7 ct7), sl7⟩) (c7 : PySem.W.codeIn K cd7 "_law_pick" = true) (k7 : PySem.W.keepIn K (.ref f7) = true)
    {f8 : Addr} {oc8 : Value} {od8 an8 : Option Addr} {sl8 : Array (Option Value)} {kV8 dc8 pm8 cd8 ct8 : Value}
    (a8 : PySem.W.nsIn K mainGlobals "_law_same" = some (some (.ref f8))) (l8 : K.lookup f8 = some ⟨oc8, od8, .func (PySem.W.fnOf "_law_same" "_law_same" (defArgs s_l_same) (defBody s_l_same) (defScope s_l_same) .none kV8 dc8 pm8 an8 cd8 ct8), sl8⟩) (c8 : PySem.W.codeIn K cd8 "_law_same" = true) (k8 : PySem.W.keepIn K (.ref f8) = true)
    {f9 : Addr} {oc9 : Value} {od9 an9 : Option Addr} {sl9 : Array (Option Value)} {kV9 dc9 pm9 cd9 ct9 : Value}
    (a9 : PySem.W.nsIn K mainGlobals "_law_words" = some (some (.ref f9))) (l9 : K.lookup f9 = some ⟨oc9, od9, .func (PySem.W.fnOf "_law_words" "_law_words" (defArgs s_l_words) (defBody s_l_words) (defScope s_l_words) .none kV9 dc9 pm9 an9 cd9 ct9), sl9⟩) (c9 : PySem.W.codeIn K cd9 "_law_words" = true) (k9 : PySem.W.keepIn K (.ref f9) = true)
    {f10 : Addr} {oc10 : Value} {od10 an10 : Option Addr} {sl10 : Array (Option Value)} {kV10 dc10 pm10 cd10 ct10 : Value}
    (a10 : PySem.W.nsIn K mainGlobals "_law_values" = some (some (.ref f10))) (l10 : K.lookup f10 = some ⟨oc10, od10, .func (PySem.W.fnOf "_law_values" "_law_values" (defArgs s_l_values) (defBody s_l_values) (defScope s_l_values) .none kV10 dc10 pm10 an10 cd10 ct10), sl10⟩) (c10 : PySem.W.codeIn K cd10 "_law_values" = true) (k10 : PySem.W.keepIn K (.ref f10) = true)
    {f11 : Addr} {oc11 : Value} {od11 an11 : Option Addr} {sl11 : Array (Option Value)} {kV11 dc11 pm11 cd11 ct11 : Value}
    (a11 : PySem.W.nsIn K mainGlobals "_law_term" = some (some (.ref f11))) (l11 : K.lookup f11 = some ⟨oc11, od11, .func (PySem.W.fnOf "_law_term" "_law_term" (defArgs s_l_term) (defBody s_l_term) (defScope s_l_term) .none kV11 dc11 pm11 an11 cd11 ct11), sl11⟩) (c11 : PySem.W.codeIn K cd11 "_law_term" = true) (k11 : PySem.W.keepIn K (.ref f11) = true)
    {f12 : Addr} {oc12 : Value} {od12 an12 : Option Addr} {sl12 : Array (Option Value)} {kV12 dc12 pm12 cd12 ct12 : Value}
    (a12 : PySem.W.nsIn K mainGlobals "_law_after" = some (some (.ref f12))) (l12 : K.lookup f12 = some ⟨oc12, od12, .func (PySem.W.fnOf "_law_after" "_law_after" (defArgs s_l_after) (defBody s_l_after) (defScope s_l_after) .none kV12 dc12 pm12 an12 cd12 ct12), sl12⟩) (c12 : PySem.W.codeIn K cd12 "_law_after" = true) (k12 : PySem.W.keepIn K (.ref f12) = true)
    {f13 : Addr} {oc13 : Value} {od13 an13 : Option Addr} {sl13 : Array (Option Value)} {kV13 dc13 pm13 cd13 ct13 : Value}
    (a13 : PySem.W.nsIn K mainGlobals "_law_among" = some (some (.ref f13))) (l13 : K.lookup f13 = some ⟨oc13, od13, .func (PySem.W.fnOf "_law_among" "_law_among" (defArgs s_l_among) (defBody s_l_among) (defScope s_l_among) .none kV13 dc13 pm13 an13 cd13 ct13), sl13⟩) (c13 : PySem.W.codeIn K cd13 "_law_among" = true) (k13 : PySem.W.keepIn K (.ref f13) = true)
    {f14 : Addr} {oc14 : Value} {od14 an14 : Option Addr} {sl14 : Array (Option Value)} {kV14 dc14 pm14 cd14 ct14 : Value}
    (a14 : PySem.W.nsIn K mainGlobals "_law_is_term" = some (some (.ref f14))) (l14 : K.lookup f14 = some ⟨oc14, od14, .func (PySem.W.fnOf "_law_is_term" "_law_is_term" (defArgs s_l_is_term) (defBody s_l_is_term) (defScope s_l_is_term) .none kV14 dc14 pm14 an14 cd14 ct14), sl14⟩) (c14 : PySem.W.codeIn K cd14 "_law_is_term" = true) (k14 : PySem.W.keepIn K (.ref f14) = true)
    {f15 : Addr} {oc15 : Value} {od15 an15 : Option Addr} {sl15 : Array (Option Value)} {kV15 dc15 pm15 cd15 ct15 : Value}
    (a15 : PySem.W.nsIn K mainGlobals "_law_classes" = some (some (.ref f15))) (l15 : K.lookup f15 = some ⟨oc15, od15, .func (PySem.W.fnOf "_law_classes" "_law_classes" (defArgs s_l_classes) (defBody s_l_classes) (defScope s_l_classes) .none kV15 dc15 pm15 an15 cd15 ct15), sl15⟩) (c15 : PySem.W.codeIn K cd15 "_law_classes" = true) (k15 : PySem.W.keepIn K (.ref f15) = true)
    {f16 : Addr} {oc16 : Value} {od16 an16 : Option Addr} {sl16 : Array (Option Value)} {kV16 dc16 pm16 cd16 ct16 : Value}
    (a16 : PySem.W.nsIn K mainGlobals "_law_class_of" = some (some (.ref f16))) (l16 : K.lookup f16 = some ⟨oc16, od16, .func (PySem.W.fnOf "_law_class_of" "_law_class_of" (defArgs s_l_class_of) (defBody s_l_class_of) (defScope s_l_class_of) .none kV16 dc16 pm16 an16 cd16 ct16), sl16⟩) (c16 : PySem.W.codeIn K cd16 "_law_class_of" = true) (k16 : PySem.W.keepIn K (.ref f16) = true)
    {f17 : Addr} {oc17 : Value} {od17 an17 : Option Addr} {sl17 : Array (Option Value)} {kV17 dc17 pm17 cd17 ct17 : Value}
    (a17 : PySem.W.nsIn K mainGlobals "_law_clashes" = some (some (.ref f17))) (l17 : K.lookup f17 = some ⟨oc17, od17, .func (PySem.W.fnOf "_law_clashes" "_law_clashes" (defArgs s_l_clashes) (defBody s_l_clashes) (defScope s_l_clashes) .none kV17 dc17 pm17 an17 cd17 ct17), sl17⟩) (c17 : PySem.W.codeIn K cd17 "_law_clashes" = true) (k17 : PySem.W.keepIn K (.ref f17) = true)
    {f18 : Addr} {oc18 : Value} {od18 an18 : Option Addr} {sl18 : Array (Option Value)} {kV18 dc18 pm18 cd18 ct18 : Value}
    (a18 : PySem.W.nsIn K mainGlobals "_law_is_unifying" = some (some (.ref f18))) (l18 : K.lookup f18 = some ⟨oc18, od18, .func (PySem.W.fnOf "_law_is_unifying" "_law_is_unifying" (defArgs s_l_is_unifying) (defBody s_l_is_unifying) (defScope s_l_is_unifying) .none kV18 dc18 pm18 an18 cd18 ct18), sl18⟩) (c18 : PySem.W.codeIn K cd18 "_law_is_unifying" = true) (k18 : PySem.W.keepIn K (.ref f18) = true)
    {f19 : Addr} {oc19 : Value} {od19 an19 : Option Addr} {sl19 : Array (Option Value)} {kV19 dc19 pm19 cd19 ct19 : Value}
    (a19 : PySem.W.nsIn K mainGlobals "_law_terms" = some (some (.ref f19))) (l19 : K.lookup f19 = some ⟨oc19, od19, .func (PySem.W.fnOf "_law_terms" "_law_terms" (defArgs s_l_terms) (defBody s_l_terms) (defScope s_l_terms) .none kV19 dc19 pm19 an19 cd19 ct19), sl19⟩) (c19 : PySem.W.codeIn K cd19 "_law_terms" = true) (k19 : PySem.W.keepIn K (.ref f19) = true)
    {f20 : Addr} {oc20 : Value} {od20 an20 : Option Addr} {sl20 : Array (Option Value)} {kV20 dc20 pm20 cd20 ct20 : Value}
    (a20 : PySem.W.nsIn K mainGlobals "_law_behind" = some (some (.ref f20))) (l20 : K.lookup f20 = some ⟨oc20, od20, .func (PySem.W.fnOf "_law_behind" "_law_behind" (defArgs s_l_behind) (defBody s_l_behind) (defScope s_l_behind) .none kV20 dc20 pm20 an20 cd20 ct20), sl20⟩) (c20 : PySem.W.codeIn K cd20 "_law_behind" = true) (k20 : PySem.W.keepIn K (.ref f20) = true)
    {f21 : Addr} {oc21 : Value} {od21 an21 : Option Addr} {sl21 : Array (Option Value)} {kV21 dc21 pm21 cd21 ct21 : Value}
    (a21 : PySem.W.nsIn K mainGlobals "_law_chain" = some (some (.ref f21))) (l21 : K.lookup f21 = some ⟨oc21, od21, .func (PySem.W.fnOf "_law_chain" "_law_chain" (defArgs s_l_chain) (defBody s_l_chain) (defScope s_l_chain) .none kV21 dc21 pm21 an21 cd21 ct21), sl21⟩) (c21 : PySem.W.codeIn K cd21 "_law_chain" = true) (k21 : PySem.W.keepIn K (.ref f21) = true)
    {f22 : Addr} {oc22 : Value} {od22 an22 : Option Addr} {sl22 : Array (Option Value)} {kV22 dc22 pm22 cd22 ct22 : Value}
    (a22 : PySem.W.nsIn K mainGlobals "_law_put_is_right" = some (some (.ref f22))) (l22 : K.lookup f22 = some ⟨oc22, od22, .func (PySem.W.fnOf "_law_put_is_right" "_law_put_is_right" (defArgs s_l_put_is_right) (defBody s_l_put_is_right) (defScope s_l_put_is_right) .none kV22 dc22 pm22 an22 cd22 ct22), sl22⟩) (c22 : PySem.W.codeIn K cd22 "_law_put_is_right" = true) (k22 : PySem.W.keepIn K (.ref f22) = true)
    {f23 : Addr} {oc23 : Value} {od23 an23 : Option Addr} {sl23 : Array (Option Value)} {kV23 dc23 pm23 cd23 ct23 : Value}
    (a23 : PySem.W.nsIn K mainGlobals "law" = some (some (.ref f23))) (l23 : K.lookup f23 = some ⟨oc23, od23, .func (PySem.W.fnOf "law" "law" (defArgs s_law) (defBody s_law) (defScope s_law) .none kV23 dc23 pm23 an23 cd23 ct23), sl23⟩) (c23 : PySem.W.codeIn K cd23 "law" = true) (k23 : PySem.W.keepIn K (.ref f23) = true)
    (z_bool : PySem.W.nsIn K mainGlobals "bool" = some none)    (z_int : PySem.W.nsIn K mainGlobals "int" = some none)    (z_isinstance : PySem.W.nsIn K mainGlobals "isinstance" = some none)    (z_len : PySem.W.nsIn K mainGlobals "len" = some none)    (z_list : PySem.W.nsIn K mainGlobals "list" = some none)    (z_max : PySem.W.nsIn K mainGlobals "max" = some none)    (z_range : PySem.W.nsIn K mainGlobals "range" = some none)    (z_set : PySem.W.nsIn K mainGlobals "set" = some none)    (z_sorted : PySem.W.nsIn K mainGlobals "sorted" = some none)    (z_str : PySem.W.nsIn K mainGlobals "str" = some none)    (z_tuple : PySem.W.nsIn K mainGlobals "tuple" = some none)    (z_zip : PySem.W.nsIn K mainGlobals "zip" = some none) :
    ∃ fd : FuncData, (∀ (s : Shared) (v : Value), BindsTo s fd ⟨[v], []⟩ [("script", v)]) ∧ ∀ base : Heap, K.In base → base.Ns mainGlobals mg → FnOk P w K mg base CX0 16 fa fd ["script"] (upSp K sp_law) := by
  have e := hfa.symm.trans (PySem.W.mg_of X G a23)
  cases e
  have D_put_terms : Def K mg "put_terms" s_put_terms ["term", "mapping"] := dm_put_terms X G a0 l0 c0 k0
  have D_resolved : Def K mg "resolved" s_resolved ["term", "bound"] := dm_resolved X G a1 l1 c1 k1
  have D_with_variable : Def K mg "with_variable" s_with_variable ["bound", "variable", "term"] := dm_with_variable X G a2 l2 c2 k2
  have D_bound_terms : Def K mg "bound_terms" s_bound_terms ["terms", "others"] := dm_bound_terms X G a3 l3 c3 k3
  have D_unified : Def K mg "unified" s_unified ["terms", "others"] := dm_unified X G a4 l4 c4 k4
  have D_l_draws : Def K mg "_law_draws" s_l_draws ["script", "many"] := dm_l_draws X G a5 l5 c5 k5
  have D_l_take : Def K mg "_law_take" s_l_take ["draws", "many"] := dm_l_take X G a6 l6 c6 k6
  have D_l_pick : Def K mg "_law_pick" s_l_pick ["draws", "row"] := dm_l_pick X G a7 l7 c7 k7
  have D_l_same : Def K mg "_law_same" s_l_same ["actual", "due"] := dm_l_same X G a8 l8 c8 k8
  have D_l_words : Def K mg "_law_words" s_l_words ["draws", "many"] := dm_l_words X G a9 l9 c9 k9
  have D_l_values : Def K mg "_law_values" s_l_values ["draws", "words"] := dm_l_values X G a10 l10 c10 k10
  have D_l_term : Def K mg "_law_term" s_l_term ["draws", "variables", "values"] := dm_l_term X G a11 l11 c11 k11
  have D_l_after : Def K mg "_law_after" s_l_after ["term", "mapping"] := dm_l_after X G a12 l12 c12 k12
  have D_l_among : Def K mg "_law_among" s_l_among ["thing", "row"] := dm_l_among X G a13 l13 c13 k13
  have D_l_is_term : Def K mg "_law_is_term" s_l_is_term ["term"] := dm_l_is_term X G a14 l14 c14 k14
  have D_l_classes : Def K mg "_law_classes" s_l_classes ["terms", "others"] := dm_l_classes X G a15 l15 c15 k15
  have D_l_class_of : Def K mg "_law_class_of" s_l_class_of ["classes", "term"] := dm_l_class_of X G a16 l16 c16 k16
  have D_l_clashes : Def K mg "_law_clashes" s_l_clashes ["classes"] := dm_l_clashes X G a17 l17 c17 k17
  have D_l_is_unifying : Def K mg "_law_is_unifying" s_l_is_unifying ["terms", "others", "told"] := dm_l_is_unifying X G a18 l18 c18 k18
  have D_l_terms : Def K mg "_law_terms" s_l_terms ["draws", "many", "words", "values"] := dm_l_terms X G a19 l19 c19 k19
  have D_l_behind : Def K mg "_law_behind" s_l_behind ["draws", "terms", "words", "values"] := dm_l_behind X G a20 l20 c20 k20
  have D_l_chain : Def K mg "_law_chain" s_l_chain ["draws", "words", "first", "last"] := dm_l_chain X G a21 l21 c21 k21
  have D_l_put_is_right : Def K mg "_law_put_is_right" s_l_put_is_right ["draws", "words", "values"] := dm_l_put_is_right X G a22 l22 c22 k22
  have D_law : Def K mg "law" s_law ["script"] := dm_law X G a23 l23 c23 k23
  have B : Bi K mg := ⟨PySem.W.mg_none_of X G z_bool, PySem.W.mg_none_of X G z_int, PySem.W.mg_none_of X G z_isinstance, PySem.W.mg_none_of X G z_len, PySem.W.mg_none_of X G z_list, PySem.W.mg_none_of X G z_max, PySem.W.mg_none_of X G z_range, PySem.W.mg_none_of X G z_set, PySem.W.mg_none_of X G z_sorted, PySem.W.mg_none_of X G z_str, PySem.W.mg_none_of X G z_tuple, PySem.W.mg_none_of X G z_zip⟩
  have I : Im mg := ⟨True.intro⟩
  refine ⟨PySem.W.fnOf "law" "law" (defArgs s_law) (defBody s_law) (defScope s_law) .none kV23 dc23 pm23 an23 cd23 ct23, fun s v => .of_eq rfl, fun base _ _ => ?_⟩
  have C_put_terms := ok_put_terms (P := P) (w := w) (base := base) D_put_terms B I 
  have C_resolved := ok_resolved (P := P) (w := w) (base := base) D_resolved B I 
  have C_with_variable := ok_with_variable (P := P) (w := w) (base := base) D_with_variable B I 
  have C_bound_terms := ok_bound_terms (P := P) (w := w) (base := base) D_bound_terms B I C_resolved C_with_variable
  have C_unified := ok_unified (P := P) (w := w) (base := base) D_unified B I C_bound_terms
  have C_l_draws := ok_l_draws (P := P) (w := w) (base := base) D_l_draws B I 
  have C_l_take := ok_l_take (P := P) (w := w) (base := base) D_l_take B I 
  have C_l_pick := ok_l_pick (P := P) (w := w) (base := base) D_l_pick B I C_l_take
  have C_l_same := ok_l_same (P := P) (w := w) (base := base) D_l_same B I 
  have C_l_words := ok_l_words (P := P) (w := w) (base := base) D_l_words B I C_l_take
  have C_l_values := ok_l_values (P := P) (w := w) (base := base) D_l_values B I C_l_take C_l_pick
  have C_l_term := ok_l_term (P := P) (w := w) (base := base) D_l_term B I C_l_take C_l_pick
  have C_l_after := ok_l_after (P := P) (w := w) (base := base) D_l_after B I 
  have C_l_among := ok_l_among (P := P) (w := w) (base := base) D_l_among B I C_l_same
  have C_l_is_term := ok_l_is_term (P := P) (w := w) (base := base) D_l_is_term B I C_l_same
  have C_l_classes := ok_l_classes (P := P) (w := w) (base := base) D_l_classes B I 
  have C_l_class_of := ok_l_class_of (P := P) (w := w) (base := base) D_l_class_of B I 
  have C_l_clashes := ok_l_clashes (P := P) (w := w) (base := base) D_l_clashes B I 
  have C_l_is_unifying := ok_l_is_unifying (P := P) (w := w) (base := base) D_l_is_unifying B I C_l_same C_l_after C_l_among C_l_is_term C_l_classes C_l_class_of C_l_clashes
  have C_l_terms := ok_l_terms (P := P) (w := w) (base := base) D_l_terms B I C_l_term
  have C_l_behind := ok_l_behind (P := P) (w := w) (base := base) D_l_behind B I C_l_take C_l_term C_l_after
  have C_l_chain := ok_l_chain (P := P) (w := w) (base := base) D_l_chain B I C_l_take
  have C_l_put_is_right := ok_l_put_is_right (P := P) (w := w) (base := base) D_l_put_is_right B I C_put_terms C_l_take C_l_same C_l_term C_l_after
  exact ok_law (fun_mk (st := s_law) l23 c23 k23) B I C_unified C_l_draws C_l_take C_l_words C_l_values C_l_is_unifying C_l_terms C_l_behind C_l_chain C_l_put_is_right
end Law
open PySem PySem.W PyProof.Rows
set_option maxHeartbeats 0 in
theorem PySem.Challenge.cw_doubtbook_k75_unified_terms_holds : PySem.Challenge.rw_doubtbook_k75_unified_terms.Holds := by
  w_on; o_law; k_head; (case hw => w_witness2)
  k_fill
  refine L2.walk_of (l := PySem.Challenge.rw_doubtbook_k75_unified_terms) (n := 63) (k := 16) (x := "script") (CX := fun _ => L2.CX0) (sp := fun w => DL.upSp _ DL.sp_law) rfl (by decide) rfl ⟨rfl, by decide, by decide⟩ (fun w h Y => PySem.W.kIn_of Y) ?F (fun w H a ns hl hO hS => DL.law_start hl hO hS) (fun _ _ _ _ _ h => h)
  case F =>
    intro w mg fa h KX G hmg
    refine' Law.all_mk KX G hmg ?a0 ?l0 ?c0 ?k0 ?a1 ?l1 ?c1 ?k1 ?a2 ?l2 ?c2 ?k2 ?a3 ?l3 ?c3 ?k3 ?a4 ?l4 ?c4 ?k4 ?a5 ?l5 ?c5 ?k5 ?a6 ?l6 ?c6 ?k6 ?a7 ?l7 ?c7 ?k7 ?a8 ?l8 ?c8 ?k8 ?a9 ?l9 ?c9 ?k9 ?a10 ?l10 ?c10 ?k10 ?a11 ?l11 ?c11 ?k11 ?a12 ?l12 ?c12 ?k12 ?a13 ?l13 ?c13 ?k13 ?a14 ?l14 ?c14 ?k14 ?a15 ?l15 ?c15 ?k15 ?a16 ?l16 ?c16 ?k16 ?a17 ?l17 ?c17 ?k17 ?a18 ?l18 ?c18 ?k18 ?a19 ?l19 ?c19 ?k19 ?a20 ?l20 ?c20 ?k20 ?a21 ?l21 ?c21 ?k21 ?a22 ?l22 ?c22 ?k22 ?a23 ?l23 ?c23 ?k23 ?z_bool ?z_int ?z_isinstance ?z_len ?z_list ?z_max ?z_range ?z_set ?z_sorted ?z_str ?z_tuple ?z_zip
    (case a0 => k_is); (case l0 => k_is); (case c0 => k_is); (case k0 => k_is); (case a1 => k_is); (case l1 => k_is); (case c1 => k_is); (case k1 => k_is); (case a2 => k_is); (case l2 => k_is); (case c2 => k_is); (case k2 => k_is); (case a3 => k_is); (case l3 => k_is); (case c3 => k_is); (case k3 => k_is); (case a4 => k_is); (case l4 => k_is); (case c4 => k_is); (case k4 => k_is); (case a5 => k_is); (case l5 => k_is); (case c5 => k_is); (case k5 => k_is); (case a6 => k_is); (case l6 => k_is); (case c6 => k_is); (case k6 => k_is); (case a7 => k_is); (case l7 => k_is); (case c7 => k_is); (case k7 => k_is); (case a8 => k_is); (case l8 => k_is); (case c8 => k_is); (case k8 => k_is); (case a9 => k_is); (case l9 => k_is); (case c9 => k_is); (case k9 => k_is); (case a10 => k_is); (case l10 => k_is); (case c10 => k_is); (case k10 => k_is); (case a11 => k_is); (case l11 => k_is); (case c11 => k_is); (case k11 => k_is); (case a12 => k_is); (case l12 => k_is); (case c12 => k_is); (case k12 => k_is); (case a13 => k_is); (case l13 => k_is); (case c13 => k_is); (case k13 => k_is); (case a14 => k_is); (case l14 => k_is); (case c14 => k_is); (case k14 => k_is); (case a15 => k_is); (case l15 => k_is); (case c15 => k_is); (case k15 => k_is); (case a16 => k_is); (case l16 => k_is); (case c16 => k_is); (case k16 => k_is); (case a17 => k_is); (case l17 => k_is); (case c17 => k_is); (case k17 => k_is); (case a18 => k_is); (case l18 => k_is); (case c18 => k_is); (case k18 => k_is); (case a19 => k_is); (case l19 => k_is); (case c19 => k_is); (case k19 => k_is); (case a20 => k_is); (case l20 => k_is); (case c20 => k_is); (case k20 => k_is); (case a21 => k_is); (case l21 => k_is); (case c21 => k_is); (case k21 => k_is); (case a22 => k_is); (case l22 => k_is); (case c22 => k_is); (case k22 => k_is); (case a23 => k_is); (case l23 => k_is); (case c23 => k_is); (case k23 => k_is); (case z_bool => k_is); (case z_int => k_is); (case z_isinstance => k_is); (case z_len => k_is); (case z_list => k_is); (case z_max => k_is); (case z_range => k_is); (case z_set => k_is); (case z_sorted => k_is); (case z_str => k_is); (case z_tuple => k_is); (case z_zip => k_is)
