import PyProof.Rows.All
import Wide.All
import OpenK.AllK
import Wide.FinOn
import HandS.ForMost
import HandS.Wide
import HandS.WideBits
import HandS.Gcd
import HandS.Deep
import HandS.IsInst
import KE.KeyNested
import HandS.Lambda
import HandS.TupAny
import HandS.Zip
import HandS.Rev
import HandS.Comp
import HandS.Conv
import HandS.Iter
import HandS.Text
import KE.SortData
import PyProof.StrOps2
import PyProof.Draws
import PyProof.EnumMake
import KE.SortKeyHeap
import HandS.SortKw
import KE.KSortTup
import HandS.Exc
import HandS.TupMul
import HandS.DictComp
import KE.DataCmp
import HandS.JoinGen
import KE.KDictCopyH
import HandS.EndTab
import HandS.EndOwn
import HandS.SetFor
import HandS.Strs
import HandS.Star
import HandS.Dict
import PySem.Challenge.RW_doubtbook_k18_renamed_rules
set_option Elab.async false
set_option linter.all false
set_option maxRecDepth 100000
/-! DL: readings over deep values (D): tuples and frozen lists are plain data, the heap holds only what is still being changed. -/
namespace DL
open PySem PySem.Spec PyProof.Rows L2

inductive D where
  | non
  | bl (b : Bool)
  | int (i : Int)
  | str (x : Str)
  | tup (xs : List D)
  | lst (xs : List D)
  | dct (kvs : List (D × D))
  | ref (a : Addr)
  | ty (n : String)
instance : Inhabited D := ⟨.non⟩
/-- what a mutable address holds -/
inductive DO where
  | lst (xs : List D)
  | dct (w : World) (kvs : List (D × D))
  /-- a table of code objects, all of the name q -/
  | tab (q : Str)
  /-- a dict whose keys are ints and texts -/
  | dk (kvs : List (D × D))
abbrev SL := L2.St
abbrev DSt := List (Option D)
abbrev DM := Addr → Option DO
def mput (M : DM) (a : Addr) (o : DO) : DM := fun b => if b = a then some o else M b
def mdel (M : DM) (a : Addr) : DM := fun b => if b = a then none else M b
theorem mput_same {M : DM} {a : Addr} {o : DO} : mput M a o a = some o := by
  unfold mput
  simp
theorem mput_ne {M : DM} {a b : Addr} {o : DO} (h : b ≠ a) : mput M a o b = M b := by
  unfold mput
  simp [h]
theorem mput_mput {M : DM} {a : Addr} {o o' : DO} : mput (mput M a o) a o' = mput M a o' := by
  funext b
  unfold mput
  split <;> rfl
theorem mdel_mput {M : DM} {a : Addr} {o : DO} (h : M a = none) : mdel (mput M a o) a = M := by
  funext b
  unfold mdel mput
  split
  · next e => rw [e, h]
  · rfl
theorem mput_comm {M : DM} {a b : Addr} {o o' : DO} (h : a ≠ b) : mput (mput M a o) b o' = mput (mput M b o') a o := by
  funext c
  unfold mput
  by_cases h1 : c = a
  · have h2 : ¬ c = b := fun z => h (h1.symm.trans z)
    simp only [if_pos h1, if_neg h2]
  · simp only [if_neg h1]
/-- M is part of N -/
def MLe (M N : DM) : Prop := ∀ a o, M a = some o → N a = some o
theorem MLe.refl (M : DM) : MLe M M := fun _ _ h => h
theorem MLe.put {M N : DM} {a : Addr} {o : DO} (l : MLe M N) (h : M a = none) : MLe M (mput N a o) := fun b p e => by
  have : b ≠ a := fun z => by
    rw [z, h] at e
    cases e
  rw [mput_ne this]
  exact l b p e
theorem MLe.both {M N : DM} {a : Addr} {o : DO} (l : MLe M N) : MLe (mput M a o) (mput N a o) := fun b p e => by
  by_cases h : b = a
  · subst h
    rw [mput_same] at e ⊢
    exact e
  · rw [mput_ne h] at e ⊢
    exact l b p e

/-- a list that nobody will change -/
def FrzL (K : PySem.W.Frag) (H : Hp) (a : Addr) (vs : List V) : Prop :=
  (∃ o, H a = some (.frz o (.lst vs))) ∨
  ∃ (o : Obj) (its : Array Value) (n : Nat), K.lookup a = some o ∧ o.cls = .type "list" ∧ o.dict = none ∧
    o.data = .seq its n ∧ its.size ≤ sizeLine ∧ Vals vs its.toList
theorem FrzL.seq {K : PySem.W.Frag} {H : Hp} {a : Addr} {vs : List V} (h : FrzL K H a vs) : SqL K H a vs := by
  rcases h with ⟨o, h⟩ | h
  · exact .inl (.inr ⟨o, h⟩)
  · exact .inr h

/-- tuples and frozen things stay -/
structure Grow (H H' : Hp) : Prop where
  tups : ∀ b xs, H b = some (.tup xs) → H' b = some (.tup xs)
  frzs : ∀ b o u, H b = some (.frz o u) → H' b = some (.frz o u)
  cods : ∀ b q, H b = some (LamX.CodeO b q) → H' b = some (LamX.CodeO b q)
theorem Grow.refl (H : Hp) : Grow H H := ⟨fun _ _ h => h, fun _ _ _ h => h, fun _ _ h => h⟩
theorem Grow.trans {H H1 H2 : Hp} (a : Grow H H1) (b : Grow H1 H2) : Grow H H2 :=
  ⟨fun c xs h => b.tups c xs (a.tups c xs h), fun c o u h => b.frzs c o u (a.frzs c o u h), fun c q h => b.cods c q (a.cods c q h)⟩
theorem Grow.new {H : Hp} {p : Addr} {o : HO} (h : H p = none) : Grow H (upd H p o) :=
  ⟨fun b xs e => by rw [upd_ne (ne_of_none e h)]; exact e, fun b q u e => by rw [upd_ne (ne_of_none e h)]; exact e, fun b q e => by rw [upd_ne (ne_of_none e h)]; exact e⟩
theorem Grow.put {H : Hp} {p : Addr} {vs : List V} {o : HO} (h : H p = some (.lst vs)) : Grow H (upd H p o) :=
  ⟨fun b xs e => by rw [upd_ne (ne_of e h (by intro z; cases z))]; exact e,
   fun b q u e => by rw [upd_ne (ne_of e h (by intro z; cases z))]; exact e, fun b q e => by rw [upd_ne (ne_of e h (by intro z; cases z))]; exact e⟩
theorem FrzL.grow {K : PySem.W.Frag} {H H' : Hp} {a : Addr} {vs : List V} (h : FrzL K H a vs) (g : Grow H H') : FrzL K H' a vs := by
  rcases h with ⟨o, h⟩ | h
  · exact .inl ⟨o, g.frzs _ _ _ h⟩
  · exact .inr h
theorem sqT_grow {K : PySem.W.Frag} {H H' : Hp} {a : Addr} {vs : List V} (h : SqT K H a vs) (g : Grow H H') : SqT K H' a vs := by
  rcases h with (h | ⟨o, h⟩) | h
  · exact .inl (.inl (g.tups _ _ h))
  · exact .inl (.inr ⟨o, g.frzs _ _ _ h⟩)
  · exact .inr h

def kD : Key → D
  | .inl i => .int i
  | .inr x => .str x
mutual
inductive Rep (K : PySem.W.Frag) (H : Hp) : D → V → Prop
  | non : Rep K H .non .non
  | bl (b : Bool) : Rep K H (.bl b) (.bl b)
  | int (i : Int) : Rep K H (.int i) (.int i)
  | str (x : Str) : Rep K H (.str x) (.str x)
  | tup {xs : List D} {a : Addr} {vs : List V} : SqT K H a vs → vs.length ≤ sizeLine → RepL K H xs vs → Rep K H (.tup xs) (.ref a)
  | lst {xs : List D} {a : Addr} {vs : List V} : FrzL K H a vs → vs.length ≤ sizeLine → RepL K H xs vs → Rep K H (.lst xs) (.ref a)
  | ref (a : Addr) : Rep K H (.ref a) (.ref a)
  | ty (n : String) : Rep K H (.ty n) (.ty n)
  | dct {kvs : List (D × D)} {a : Addr} {o : Obj} {es : List (Key × V)} : H a = some (.frz o (.dK es)) → es.length ≤ sizeLine → RepK K H kvs es → Rep K H (.dct kvs) (.ref a)
inductive RepL (K : PySem.W.Frag) (H : Hp) : List D → List V → Prop
  | nil : RepL K H [] []
  | cons {d : D} {v : V} {ds : List D} {vs : List V} : Rep K H d v → RepL K H ds vs → RepL K H (d :: ds) (v :: vs)
/-- the pairs of a dict whose keys are ints and texts -/
inductive RepK (K : PySem.W.Frag) (H : Hp) : List (D × D) → List (Key × V) → Prop
  | nil : RepK K H [] []
  | cons {k : Key} {d : D} {v : V} {kvs : List (D × D)} {es : List (Key × V)} : Rep K H d v → RepK K H kvs es → RepK K H ((kD k, d) :: kvs) ((k, v) :: es)
end
section
variable {K : PySem.W.Frag} {H H' : Hp}
mutual
theorem Rep.grow {d : D} {v : V} (r : Rep K H d v) (g : Grow H H') : Rep K H' d v := match r with
  | .non => .non
  | .bl b => .bl b
  | .int i => .int i
  | .str x => .str x
  | .tup h z l => .tup (sqT_grow h g) z (l.grow g)
  | .lst h z l => .lst (h.grow g) z (l.grow g)
  | .ref a => .ref a
  | .ty n => .ty n
  | .dct h z l => .dct (g.frzs _ _ _ h) z (l.grow g)
theorem RepL.grow {ds : List D} {vs : List V} (r : RepL K H ds vs) (g : Grow H H') : RepL K H' ds vs := match r with
  | .nil => .nil
  | .cons h l => .cons (h.grow g) (l.grow g)
theorem RepK.grow {kvs : List (D × D)} {es : List (Key × V)} (r : RepK K H kvs es) (g : Grow H H') : RepK K H' kvs es := match r with
  | .nil => .nil
  | .cons h l => .cons (h.grow g) (l.grow g)
end
theorem RepL.length : ∀ {ds : List D} {vs : List V}, RepL K H ds vs → ds.length = vs.length
  | _, _, .nil => rfl
  | _, _, .cons _ l => congrArg (· + 1) l.length
theorem RepL.get : ∀ {ds : List D} {vs : List V} {i : Nat} {d : D}, RepL K H ds vs → ds[i]? = some d → ∃ v, vs[i]? = some v ∧ Rep K H d v
  | _, _, _, _, .nil, e => by simp at e
  | _, _, 0, _, .cons h _, e => by
    simp at e
    subst e
    exact ⟨_, rfl, h⟩
  | _, _, i + 1, d, .cons _ l, e => by
    obtain ⟨v, h1, h2⟩ := RepL.get (i := i) (d := d) l (by simpa using e)
    exact ⟨v, by simpa using h1, h2⟩
theorem RepL.get' : ∀ {ds : List D} {vs : List V} {i : Nat} {v : V}, RepL K H ds vs → vs[i]? = some v → ∃ d, ds[i]? = some d ∧ Rep K H d v
  | _, _, _, _, .nil, e => by simp at e
  | _, _, 0, _, .cons h _, e => by
    simp at e
    subst e
    exact ⟨_, rfl, h⟩
  | _, _, i + 1, d, .cons _ l, e => by
    obtain ⟨v, h1, h2⟩ := RepL.get' (i := i) (v := d) l (by simpa using e)
    exact ⟨v, by simpa using h1, h2⟩
theorem RepL.append : ∀ {ds es : List D} {vs ws : List V}, RepL K H ds vs → RepL K H es ws → RepL K H (ds ++ es) (vs ++ ws)
  | _, _, _, _, .nil, m => m
  | _, _, _, _, .cons h l, m => .cons h (l.append m)
theorem RepL.one {d : D} {v : V} (h : Rep K H d v) : RepL K H [d] [v] := .cons h .nil
theorem RepL.take : ∀ (n : Nat) {ds : List D} {vs : List V}, RepL K H ds vs → RepL K H (ds.take n) (vs.take n)
  | 0, _, _, _ => .nil
  | _ + 1, _, _, .nil => .nil
  | n + 1, _, _, .cons h l => .cons h (RepL.take n l)
theorem RepL.drop : ∀ (n : Nat) {ds : List D} {vs : List V}, RepL K H ds vs → RepL K H (ds.drop n) (vs.drop n)
  | 0, _, _, r => r
  | _ + 1, _, _, .nil => .nil
  | n + 1, _, _, .cons _ l => RepL.drop n l
theorem RepL.reverse : ∀ {ds : List D} {vs : List V}, RepL K H ds vs → RepL K H ds.reverse vs.reverse
  | _, _, .nil => .nil
  | _, _, .cons h l => by
    rw [List.reverse_cons, List.reverse_cons]
    exact l.reverse.append (.one h)
theorem RepL.dropLast {ds : List D} {vs : List V} (r : RepL K H ds vs) : RepL K H ds.dropLast vs.dropLast := by
  rw [List.dropLast_eq_take, List.dropLast_eq_take, r.length]
  exact r.take _
theorem RepL.set : ∀ {ds : List D} {vs : List V} (i : Nat) {d : D} {v : V}, RepL K H ds vs → Rep K H d v → RepL K H (ds.set i d) (vs.set i v)
  | _, _, _, _, _, .nil, _ => .nil
  | _, _, 0, _, _, .cons _ l, r => .cons r l
  | _, _, i + 1, _, _, .cons h l, r => .cons h (RepL.set i l r)
theorem RepL.eraseIdx : ∀ {ds : List D} {vs : List V} (i : Nat), RepL K H ds vs → RepL K H (ds.eraseIdx i) (vs.eraseIdx i)
  | _, _, _, .nil => .nil
  | _, _, 0, .cons _ l => l
  | _, _, i + 1, .cons h l => .cons h (RepL.eraseIdx i l)
theorem repL_ints : ∀ ns : List Int, RepL K H (ns.map D.int) (ns.map V.int)
  | [] => .nil
  | n :: ns => .cons (.int n) (repL_ints ns)
end

/-! ### dicts: the keys are tuples of whole numbers, texts, None and such tuples -/
mutual
def nk : D → NestedKey
  | .int i => .num i
  | .str x => .text x
  | .tup xs => .tup (nks xs)
  | .non => .none
  | .bl _ => .none
  | .lst _ => .none
  | .dct _ => .none
  | .ref _ => .none
  | .ty _ => .none
def nks : List D → List NestedKey
  | [] => []
  | x :: xs => nk x :: nks xs
end
mutual
/-- a key, or a part of one -/
def kOk : D → Bool
  | .int _ => true
  | .str _ => true
  | .tup xs => kOks xs
  | .non => true
  | .bl _ => false
  | .lst _ => false
  | .dct _ => false
  | .ref _ => false
  | .ty _ => false
def kOks : List D → Bool
  | [] => true
  | x :: xs => kOk x && kOks xs
end
/-- the dict at a -/
def DictO (w : World) (a : Addr) (es : List (NestedKey × Addr × V)) : HO := .ext fun h => ∃ xs : List (NestedKey × Addr × Value), Paired (fun p q => p.1 = q.1 ∧ p.2.1 = q.2.1 ∧ RelV p.2.2 q.2.2) es xs ∧
  (∃ o ents ep, h.get? a = some o ∧ o.ExactDict ∧ o.data = .dict ents ep ∧ ents.toList = xs.map fun x => ⟨x.1.hash w, .ref x.2.1, x.2.2⟩) ∧ (xs.map (·.1)).Nodup ∧ (a == sysModules) = false
inductive RepKV (K : PySem.W.Frag) (H : Hp) : List (D × D) → List (NestedKey × Addr × V) → Prop
  | nil : RepKV K H [] []
  | cons {k v : D} {b : Addr} {y : V} {kvs : List (D × D)} {es : List (NestedKey × Addr × V)} : Rep K H k (.ref b) → kOk k = true → (nk k).depth ≤ 8 → Rep K H v y → RepKV K H kvs es → RepKV K H ((k, v) :: kvs) ((nk k, b, y) :: es)
theorem RepKV.grow {K : PySem.W.Frag} {H H' : Hp} (g : Grow H H') : ∀ {kvs : List (D × D)} {es : List (NestedKey × Addr × V)}, RepKV K H kvs es → RepKV K H' kvs es
  | _, _, .nil => .nil
  | _, _, .cons a b c d e => .cons (a.grow g) b c (d.grow g) (RepKV.grow g e)
def RepO (K : PySem.W.Frag) (H : Hp) (a : Addr) : DO → Prop
  | .lst ds => ∃ vs, H a = some (.lst vs) ∧ vs.length ≤ sizeLine ∧ RepL K H ds vs
  | .dct w kvs => ∃ es, H a = some (DictO w a es) ∧ es.length ≤ sizeLine ∧ RepKV K H kvs es
  | .tab q => LamX.TabS H a q
  | .dk kvs => ∃ es, H a = some (.dK es) ∧ es.length ≤ sizeLine ∧ RepK K H kvs es
theorem tab_stay {H H' : Hp} {a : Addr} {q : Str} (h : LamX.TabS H a q) (e : H' a = H a) (g : Grow H H') : LamX.TabS H' a q := by
  obtain ⟨ps, h1, h2, h3⟩ := h
  refine ⟨ps, e.trans h1, h2, fun pos cv hc => ?_⟩
  obtain ⟨c, e1, e2⟩ := h3 pos cv hc
  exact ⟨c, e1, g.cods _ _ e2⟩
theorem RepO.stay {K : PySem.W.Frag} {H H' : Hp} {a : Addr} {o : DO} (h : RepO K H a o) (e : H' a = H a) (g : Grow H H') : RepO K H' a o := by
  cases o with
  | lst ds =>
    obtain ⟨vs, h1, z, l⟩ := h
    exact ⟨vs, e.trans h1, z, l.grow g⟩
  | dct w kvs =>
    obtain ⟨es, h1, z, l⟩ := h
    exact ⟨es, e.trans h1, z, l.grow g⟩
  | tab q => exact tab_stay h e g
  | dk kvs =>
    obtain ⟨es, h1, z, l⟩ := h
    exact ⟨es, e.trans h1, z, l.grow g⟩
/-- the mutable part is borne -/
def RM (K : PySem.W.Frag) (H : Hp) (M : DM) : Prop := ∀ a o, M a = some o → RepO K H a o
structure R (K : PySem.W.Frag) (m : DSt) (M : DM) (σ : SL) (H : Hp) : Prop where
  len : m.length = σ.length
  slot : ∀ (i : Nat) (d : D), m[i]? = some (some d) → ∃ v, σ[i]? = some (some v) ∧ Rep K H d v
  mem : RM K H M
section
variable {K : PySem.W.Frag} {H H' : Hp} {M N : DM} {m : DSt} {σ : SL} {a : Addr}
theorem RM.le (h : RM K H N) (l : MLe M N) : RM K H M := fun a o e => h a o (l a o e)
theorem RepO.some {o : DO} (h : RepO K H a o) : H a ≠ none := by
  cases o with
  | lst ds =>
    obtain ⟨vs, e, _, _⟩ := h
    rw [e]
    intro z
    cases z
  | dct w kvs =>
    obtain ⟨es, e, _⟩ := h
    rw [e]
    intro z
    cases z
  | tab q =>
    obtain ⟨ps, e, _⟩ := h
    rw [e]
    intro z
    cases z
  | dk kvs =>
    obtain ⟨es, e, _⟩ := h
    rw [e]
    intro z
    cases z
theorem RM.free (h : RM K H M) (e : H a = none) : M a = none := by
  cases q : M a with
  | none => rfl
  | some o => exact absurd e (h a o q).some
theorem RM.lst (h : RM K H M) {ds : List D} (e : M a = some (.lst ds)) : ∃ vs, H a = some (.lst vs) ∧ vs.length ≤ sizeLine ∧ RepL K H ds vs := h a _ e
theorem R.grow (r : R K m M σ H) (g : Grow H H') (h : RM K H' N) : R K m N σ H' :=
  ⟨r.len, fun i d e => let ⟨v, h1, h2⟩ := r.slot i d e; ⟨v, h1, h2.grow g⟩, h⟩
/-- an untracked thing has come -/
theorem RM.new {p : Addr} {o : HO} (h : RM K H M) (hp : H p = none) : RM K (upd H p o) M := fun a q e => by
  have ha := h a q e
  have ne : a ≠ p := fun z => ha.some (z ▸ hp)
  cases q with
  | lst ds =>
    exact ha.stay (upd_ne ne) (.new hp)
  | dct w kvs => exact ha.stay (upd_ne ne) (.new hp)
  | tab q => exact ha.stay (upd_ne ne) (.new hp)
  | dk kvs => exact ha.stay (upd_ne ne) (.new hp)
theorem RM.newLst {p : Addr} {ds : List D} {vs : List V} (h : RM K H M) (hp : H p = none) (hz : vs.length ≤ sizeLine) (l : RepL K H ds vs) : RM K (upd H p (.lst vs)) (mput M p (.lst ds)) := fun a q e => by
  by_cases ha : a = p
  · subst ha
    rw [mput_same] at e
    cases e
    exact ⟨vs, upd_same, hz, l.grow (.new hp)⟩
  · rw [mput_ne ha] at e
    exact h.new hp a q e
theorem RM.putLst {p : Addr} {ds : List D} {vs vs0 : List V} (h : RM K H M) (hp : H p = some (.lst vs0)) (hz : vs.length ≤ sizeLine) (l : RepL K H ds vs) : RM K (upd H p (.lst vs)) (mput M p (.lst ds)) := fun a q e => by
  by_cases ha : a = p
  · subst ha
    rw [mput_same] at e
    cases e
    exact ⟨vs, upd_same, hz, l.grow (.put hp)⟩
  · rw [mput_ne ha] at e
    have z := h a q e
    cases q with
    | lst es => exact z.stay (upd_ne ha) (.put hp)
    | dct w kvs => exact z.stay (upd_ne ha) (.put hp)
    | tab q => exact z.stay (upd_ne ha) (.put hp)
    | dk kvs => exact z.stay (upd_ne ha) (.put hp)
/-- a list is frozen: it leaves the mutable part -/
theorem RM.frz {p : Addr} {vs : List V} {o : Obj} (h : RM K H M) (hp : H p = some (.lst vs)) : RM K (upd H p (.frz o (.lst vs))) (mdel M p) := fun a q e => by
  have ha : a ≠ p := fun z => by
    subst z
    unfold mdel at e
    simp at e
  have e' : M a = some q := by
    unfold mdel at e
    rw [if_neg ha] at e
    exact e
  have z := h a q e'
  cases q with
  | lst es => exact z.stay (upd_ne ha) (.put hp)
  | dct w kvs => exact z.stay (upd_ne ha) (.put hp)
  | tab q => exact z.stay (upd_ne ha) (.put hp)
  | dk kvs => exact z.stay (upd_ne ha) (.put hp)
theorem R.set {i : Nat} {d : D} {v : V} (r : R K m M σ H) (h : Rep K H d v) : R K (m.set i (some d)) M (σ.set i (some v)) H := by
  refine ⟨by rw [List.length_set, List.length_set]; exact r.len, fun j e q => ?_, r.mem⟩
  by_cases hj : i = j
  · subst hj
    by_cases hi : i < m.length
    · rw [List.getElem?_set_self hi] at q
      cases q
      exact ⟨v, List.getElem?_set_self (by rw [← r.len]; exact hi), h⟩
    · rw [List.getElem?_eq_none (by rw [List.length_set]; omega)] at q
      cases q
  · rw [List.getElem?_set_ne hj] at q ⊢
    exact r.slot j e q
end

/-! ### the judgements -/
abbrev DVK := D → DM → Prop
abbrev DTE := DSt → DM → DVK → Prop
abbrev DTT := DSt → DM → (Bool → DM → Prop) → Prop
abbrev DTA := DSt → DM → (List D → DM → Prop) → Prop
structure DEnds where
  nx : DSt → DM → Prop
  rt : DVK
  bk : DSt → DM → Prop := fun _ _ => False
  ct : DSt → DM → Prop := fun _ _ => False
abbrev DTS := DEnds → DSt → DM → Prop
abbrev DR2 := D → D → DM → DVK → Prop
def upE (K : PySem.W.Frag) (t : DTE) : TE := fun σ H Q => ∃ m M Q', R K m M σ H ∧ t m M Q' ∧
  ∀ d v M' H', Grow H H' → Rep K H' d v → RM K H' M' → Q' d M' → Q v H'
def upT (K : PySem.W.Frag) (t : DTT) : TT := fun σ H Q => ∃ m M Q', R K m M σ H ∧ t m M Q' ∧
  ∀ b M' H', Grow H H' → RM K H' M' → Q' b M' → Q b H'
def upA (K : PySem.W.Frag) (t : DTA) : TA := fun σ H Q => ∃ m M Q', R K m M σ H ∧ t m M Q' ∧
  ∀ ds vs M' H', Grow H H' → RepL K H' ds vs → RM K H' M' → Q' ds M' → Q vs H'
structure EndsOk (K : PySem.W.Frag) (H : Hp) (D' : DEnds) (D : Ends) : Prop where
  nx : ∀ m M σ H', Grow H H' → R K m M σ H' → D'.nx m M → D.nx σ H'
  bk : ∀ m M σ H', Grow H H' → R K m M σ H' → D'.bk m M → D.bk σ H'
  ct : ∀ m M σ H', Grow H H' → R K m M σ H' → D'.ct m M → D.ct σ H'
  rt : ∀ d v M H', Grow H H' → Rep K H' d v → RM K H' M → D'.rt d M → D.rt v H'
def upS (K : PySem.W.Frag) (t : DTS) : TS := fun D σ H => ∃ m M D', R K m M σ H ∧ t D' m M ∧ EndsOk K H D' D
def upR2 (K : PySem.W.Frag) (r : DR2) : R2 := fun x y H Q => ∃ d e M Q', Rep K H d x ∧ Rep K H e y ∧ RM K H M ∧ r d e M Q' ∧
  ∀ z v M' H', Grow H H' → Rep K H' z v → RM K H' M' → Q' z M' → Q v H'
theorem EndsOk.grow {K : PySem.W.Frag} {H H' : Hp} {D' : DEnds} {D : Ends} (h : EndsOk K H D' D) (g : Grow H H') : EndsOk K H' D' D :=
  ⟨fun m M σ H2 g2 => h.nx m M σ H2 (g.trans g2), fun m M σ H2 g2 => h.bk m M σ H2 (g.trans g2),
   fun m M σ H2 g2 => h.ct m M σ H2 (g.trans g2), fun d v M H2 g2 => h.rt d v M H2 (g.trans g2)⟩
section
variable {X : Cx} {e a b c : Expr} {es : List Expr} {pos : Pos}
abbrev DE (X : Cx) (e : Expr) (t : DTE) : Prop := PE X e (upE X.K t)
abbrev DT (X : Cx) (e : Expr) (t : DTT) : Prop := PT X e (upT X.K t)
abbrev DA (X : Cx) (es : List Expr) (t : DTA) : Prop := PA X es (upA X.K t)
abbrev DS (X : Cx) (s : Stmt) (t : DTS) : Prop := PS X s (upS X.K t)
abbrev DSs (X : Cx) (s : List Stmt) (t : DTS) : Prop := PSs X s (upS X.K t)
abbrev DOp (X : Cx) (f : Value → Value → Sem Value) (r : DR2) : Prop := OpR X f (upR2 X.K r)
theorem imE {t t' : TE} (h : PE X e t) (i : ∀ σ H Q, t' σ H Q → t σ H Q) : PE X e t' := ⟨fun pins s σ H Q I q => h.run pins s σ H Q I (i σ H Q q)⟩
theorem imT {t t' : TT} (h : PT X e t) (i : ∀ σ H Q, t' σ H Q → t σ H Q) : PT X e t' := ⟨fun pins s σ H Q I q => h.run pins s σ H Q I (i σ H Q q)⟩
theorem imW {t t' : TT} (h : PW X e t) (i : ∀ σ H Q, t' σ H Q → t σ H Q) : PW X e t' := ⟨fun wh pins s σ H Q I q => h.run wh pins s σ H Q I (i σ H Q q)⟩
theorem imA {t t' : TA} (h : PA X es t) (i : ∀ σ H Q, t' σ H Q → t σ H Q) : PA X es t' := ⟨fun p pins s σ H Q I q => h.run p pins s σ H Q I (i σ H Q q)⟩
theorem imS {s : Stmt} {t t' : TS} (h : PS X s t) (i : ∀ D σ H, t' D σ H → t D σ H) : PS X s t' := ⟨fun pins s σ H D I q => h.run pins s σ H D I (i D σ H q)⟩
theorem imSs {s : List Stmt} {t t' : TS} (h : PSs X s t) (i : ∀ D σ H, t' D σ H → t D σ H) : PSs X s t' := ⟨fun pins s σ H D I q => h.run pins s σ H D I (i D σ H q)⟩

/-! ### names, constants -/
def dVar (i : Nat) : DTE := fun m M Q => ∃ d, m[i]? = some (some d) ∧ Q d M
def dC (d : D) : DTE := fun _ M Q => Q d M
theorem d_v (i : Nat) {x : Str} (hN : X.N[i]? = some x := by rfl)
    (hv : Vis X.env.scope x := by first | exact Or.inl rfl | exact Or.inr (Or.inl rfl) | exact Or.inr (Or.inr rfl))
    (hd : (x == ("__debug__" : Str)) = false := by decide) (hc : (x == ("__classdict__" : Str)) = false := by decide) : DE X (.Name x pos) (dVar i) :=
  imE (pe_var hN hv hd hc) fun σ H Q ⟨m, M, Q', r, ⟨d, hd, q⟩, k⟩ => by
    obtain ⟨v, hv, rp⟩ := r.slot i d hd
    exact ⟨v, hv, k d v M H (.refl H) rp r.mem q⟩
theorem d_c {v : V} {d : D} (h : PE X e (tC v)) (hr : ∀ K H, Rep K H d v) : DE X e (dC d) :=
  imE h fun σ H Q ⟨m, M, Q', r, q, k⟩ => k d v M H (.refl H) (hr _ _) r.mem q
theorem d_int {i : Int} {j : Nat} : DE X (.Constant (.int i) j pos) (dC (.int i)) := d_c pe_int fun _ _ => .int i
theorem d_bl {i : Bool} {j : Nat} : DE X (.Constant (.bool i) j pos) (dC (.bl i)) := d_c pe_bl fun _ _ => .bl i
theorem d_non {j : Nat} : DE X (.Constant .none j pos) (dC .non) := d_c pe_non fun _ _ => .non
theorem d_str {x : Str} {j : Nat} : DE X (.Constant (.str x) j pos) (dC (.str x)) := d_c pe_str fun _ _ => .str x

/-! ### operators -/
def dOp (r : DR2) (ta tb : DTE) : DTE := fun m M Q => ta m M fun x M1 => tb m M1 fun y M2 => r x y M2 Q
variable {ta tb tc : DTE} {r : DR2}
theorem up_op {σ : SL} {H : Hp} {Q : VK} (h : upE X.K (dOp r ta tb) σ H Q) : tOp (upR2 X.K r) (upE X.K ta) (upE X.K tb) σ H Q := by
  obtain ⟨m, M, Q', rr, q, k⟩ := h
  refine ⟨m, M, _, rr, q, fun d v M1 H1 g1 r1 m1 q1 => ?_⟩
  refine ⟨m, M1, _, rr.grow g1 m1, q1, fun d2 v2 M2 H2 g2 r2 m2 q2 => ?_⟩
  exact ⟨d, d2, M2, Q', r1.grow g2, r2, m2, q2, fun z v3 M3 H3 g3 => k z v3 M3 H3 ((g1.trans g2).trans g3)⟩
theorem d_op {op : Operator} (ho : DOp X (binaryOp op) r) (ha : DE X a ta) (hb : DE X b tb) : DE X (.BinOp a op b pos) (dOp r ta tb) :=
  imE (pe_op ho ha hb) fun σ H Q h => up_op (σ := σ) (H := H) (Q := Q) h
theorem d_cmp {op : CmpOp} (ho : DOp X (compareOp op) r) (ha : DE X a ta) (hb : DE X b tb) (hm : behindInMarks op b = false) : DE X (.Compare a [op] [b] pos) (dOp r ta tb) :=
  imE (pe_cmpR ho ha hb hm) fun σ H Q h => up_op (σ := σ) (H := H) (Q := Q) h
/-- two ints -/
def dI (C : Int → Int → Prop) (g : Int → Int → D) : DR2 := fun x y M Q => ∃ i j, x = .int i ∧ y = .int j ∧ C i j ∧ Q (g i j) M
theorem dop_I {f : Value → Value → Sem Value} {C : Int → Int → Prop} {g : Int → Int → V} {g' : Int → Int → D} (h : OpR X f (rI C g)) (hg : ∀ i j K H, Rep K H (g' i j) (g i j)) : DOp X f (dI C g') := by
  intro pins s σ H x y v u Q I rx ry q
  obtain ⟨d, e, M, Q', r1, r2, m, ⟨i, j, e1, e2, hc, q⟩, k⟩ := q
  subst e1
  subst e2
  cases r1
  cases r2
  exact h pins s σ H _ _ v u Q I rx ry ⟨i, j, rfl, rfl, hc, k _ _ M H (.refl H) (hg i j _ _) m q⟩
def dI0 (g : Int → Int → D) : DR2 := fun x y M Q => ∃ i j, x = .int i ∧ y = .int j ∧ Q (g i j) M
theorem dop_I0 {f : Value → Value → Sem Value} {g : Int → Int → V} {g' : Int → Int → D} (h : OpR X f (rI0 g)) (hg : ∀ i j K H, Rep K H (g' i j) (g i j)) : DOp X f (dI0 g') := by
  intro pins s σ H x y v u Q I rx ry q
  obtain ⟨d, e, M, Q', r1, r2, m, ⟨i, j, e1, e2, q⟩, k⟩ := q
  subst e1
  subst e2
  cases r1
  cases r2
  exact h pins s σ H _ _ v u Q I rx ry ⟨i, j, rfl, rfl, k _ _ M H (.refl H) (hg i j _ _) m q⟩
theorem DOp.or {f : Value → Value → Sem Value} {r r' : DR2} (h : DOp X f r) (h' : DOp X f r') : DOp X f (fun x y M Q => r x y M Q ∨ r' x y M Q) := by
  intro pins s σ H x y v u Q I rx ry q
  obtain ⟨d, e, M, Q', r1, r2, m, q | q, k⟩ := q
  · exact h pins s σ H _ _ v u Q I rx ry ⟨d, e, M, Q', r1, r2, m, q, k⟩
  · exact h' pins s σ H _ _ v u Q I rx ry ⟨d, e, M, Q', r1, r2, m, q, k⟩
abbrev dAddI : DR2 := dI0 fun i j => .int (i + j)
abbrev dSubI : DR2 := dI0 fun i j => .int (i - j)
/-- one side below 2^64, or both of known sizes -/
def CMulA (i j : Int) : Prop := (-18446744073709551616 < i ∧ i < 18446744073709551616) ∨ (-18446744073709551616 < j ∧ j < 18446744073709551616) ∨ CMulW i j
def CDivA (i j : Int) : Prop := (0 < j ∧ j < 1073741824) ∨ CDivW i j
def CPowA (i j : Int) : Prop := (0 ≤ j ∧ j ≤ 1000000) ∧ -9223372036854775808 < i ∧ i < 9223372036854775808
abbrev dMulI : DR2 := dI CMulA fun i j => .int (i * j)
abbrev dDivI : DR2 := dI CDivA fun i j => .int (i / j)
abbrev dModI : DR2 := dI (fun _ j => 0 < j) fun i j => .int (i % j)
abbrev dPowI : DR2 := dI CPowA fun i j => .int (i ^ j.toNat)
abbrev dLtI : DR2 := dI0 fun i j => .bl (decide (i < j))
abbrev dLeI : DR2 := dI0 fun i j => .bl (decide (i ≤ j))
abbrev dGtI : DR2 := dI0 fun i j => .bl (decide (j < i))
abbrev dGeI : DR2 := dI0 fun i j => .bl (decide (j ≤ i))
theorem o_add : DOp X (binaryOp .Add) dAddI := dop_I0 op_add fun _ _ _ _ => .int _
theorem o_sub : DOp X (binaryOp .Sub) dSubI := dop_I0 op_sub fun _ _ _ _ => .int _
theorem opr_or {f : Value → Value → Sem Value} {C C' C2 : Int → Int → Prop} {g : Int → Int → V} (h : OpR X f (rI C g)) (h' : OpR X f (rI C' g)) (hc : ∀ i j, C2 i j → C i j ∨ C' i j) : OpR X f (rI C2 g) := by
  intro pins s σ H x y v u Q I rx ry ⟨i, j, e1, e2, c, q⟩
  rcases hc i j c with c | c
  · exact h pins s σ H x y v u Q I rx ry ⟨i, j, e1, e2, c, q⟩
  · exact h' pins s σ H x y v u Q I rx ry ⟨i, j, e1, e2, c, q⟩
theorem o_mul : DOp X (binaryOp .Mult) dMulI := dop_I (opr_or op_mul op_mulW fun i j c => by
  rcases c with c | c | c
  · exact .inl (.inl ⟨by omega, by omega⟩)
  · exact .inl (.inr ⟨by omega, by omega⟩)
  · exact .inr c) fun _ _ _ _ => .int _
theorem o_div : DOp X (binaryOp .FloorDiv) dDivI := dop_I (opr_or op_fdiv op_fdivW fun _ _ c => c) fun _ _ _ _ => .int _
theorem o_mod : DOp X (binaryOp .Mod) dModI := dop_I op_mod fun _ _ _ _ => .int _
theorem o_pow : DOp X (binaryOp .Pow) dPowI := dop_I (opr_or op_pow op_pow fun i j c => .inl ⟨c.1.1, c.1.2, by have := c.2; omega⟩) fun _ _ _ _ => .int _
theorem o_lt : DOp X (compareOp .Lt) dLtI := dop_I0 op_lt fun _ _ _ _ => .bl _
theorem o_le : DOp X (compareOp .LtE) dLeI := dop_I0 op_le fun _ _ _ _ => .bl _
theorem o_gt : DOp X (compareOp .Gt) dGtI := dop_I0 op_gt fun _ _ _ _ => .bl _
theorem o_ge : DOp X (compareOp .GtE) dGeI := dop_I0 op_ge fun _ _ _ _ => .bl _
end
end DL
namespace DL
open PySem PySem.Spec PyProof.Rows L2
section
variable {X : Cx} {e a b c : Expr} {es : List Expr} {pos : Pos} {te ta tb tc : DTE} {t : DTA}

/-! ### argument lists, displays -/
def dNil : DTA := fun _ M Q => Q [] M
def dCons (te : DTE) (tr : DTA) : DTA := fun m M Q => te m M fun d M1 => tr m M1 fun ds M2 => Q (d :: ds) M2
theorem da_nil : DA X [] dNil := imA pa_nil fun σ H Q ⟨m, M, Q', r, q, k⟩ => k [] [] M H (.refl H) .nil r.mem q
theorem da_cons (ha : DE X e te) (hr : DA X es t) (hs : starEach (e :: es) X.env = (false, eval e X.env) :: starEach es X.env := by rfl) : DA X (e :: es) (dCons te t) :=
  imA (pa_cons ha hr hs) fun σ H Q ⟨m, M, Q', r, q, k⟩ => by
    refine ⟨m, M, _, r, q, fun d v M1 H1 g1 r1 m1 q1 => ?_⟩
    refine ⟨m, M1, _, r.grow g1 m1, q1, fun ds vs M2 H2 g2 r2 m2 q2 => ?_⟩
    exact k _ _ M2 H2 (g1.trans g2) (.cons (r1.grow g2) r2) m2 q2
def dTup (t : DTA) : DTE := fun m M Q => t m M fun ds M1 => ds.length ≤ sizeLine ∧ Q (.tup ds) M1
/-- a list that will be changed -/
def dLst (t : DTA) : DTE := fun m M Q => t m M fun ds M1 => ds.length ≤ sizeLine ∧ ∀ p, M1 p = none → Q (.ref p) (mput M1 p (.lst ds))
/-- a list that stays as it is -/
def dLstF (t : DTA) : DTE := fun m M Q => t m M fun ds M1 => ds.length ≤ sizeLine ∧ Q (.lst ds) M1
theorem d_tup {x1} (h : DA X es t) : DE X (.Tuple es x1 pos) (dTup t) :=
  imE (pe_tup h) fun σ H Q ⟨m, M, Q', r, q, k⟩ => by
    refine ⟨m, M, _, r, q, fun ds vs M1 H1 g1 r1 m1 ⟨z, q1⟩ => ⟨by rw [← r1.length]; exact z, fun p np => ?_⟩⟩
    exact k _ _ M1 _ (g1.trans (.new np)) (.tup (.of upd_same) (by rw [← r1.length]; exact z) (r1.grow (.new np))) (m1.new np) q1
theorem d_lst (h : DA X es t) : DE X (.List es pos) (dLst t) :=
  imE (pe_lst h) fun σ H Q ⟨m, M, Q', r, q, k⟩ => by
    refine ⟨m, M, _, r, q, fun ds vs M1 H1 g1 r1 m1 ⟨z, q1⟩ => ⟨by rw [← r1.length]; exact z, fun p np => ?_⟩⟩
    exact k _ _ _ _ (g1.trans (.new np)) (.ref p) (m1.newLst np (by rw [← r1.length]; exact z) r1) (q1 p (m1.free np))

/-! ### a list is frozen -/
theorem inv_frz {pins : List (Addr × Obj)} {σ : SL} {H : Hp} {s : Shared} {p : Addr} {vs : List V} (I : Inv X pins σ H s) (h : H p = some (.lst vs)) : ∃ o, Inv X pins σ (upd H p (.frz o (.lst vs))) s := by
  obtain ⟨z, its, n, rv, ho⟩ := I.hok p _ h
  have nt : ∀ b o, H b = some o → (∀ ws, o ≠ .lst ws) → b ≠ p := fun b o e d => ne_of e h (d vs)
  refine ⟨{ cls := Value.type "list", data := Data.seq its.toArray n }, I.step (H' := upd H p (.frz { cls := Value.type "list", data := Data.seq its.toArray n } (.lst vs))) (g' := s.gens) (t' := s.toks) (d' := s.drawn) (h' := s.heap) (ch := []) (fun _ y => nomatch y) (fun _ _ _ _ _ q _ => q) (fun _ q _ _ _ y _ => ⟨q.slots, y⟩) (fun b _ _ _ n => ?_)
    (fun _ q _ y => ⟨q, y⟩) (fun b ws y => ?_) (fun b q u y => ?_) (fun b q y => ⟨#[], ?_⟩) (fun _ y => y) (fun b q y => ?_) I.bare⟩
  · rw [upd_ne (fun w => by rw [w, h] at n; cases n)]
    exact n
  · rw [upd_ne (nt b _ y fun _ w => nomatch w)]
    exact y
  · rw [upd_ne (nt b _ y fun _ w => nomatch w)]
    exact y
  · rw [upd_ne (nt b _ y fun _ w => nomatch w), y]
    simp
  · by_cases e : b = p
    · subst e
      rw [upd_same] at y
      cases y
      exact ⟨ho, z, its, n, rv, ho⟩
    · rw [upd_ne e] at y
      refine (I.hok b q y).stay (fun _ _ _ w => w) (fun c w => ?_) fun c ws w => ?_
      · rw [upd_ne (nt c _ w fun _ w => nomatch w)]
        exact w
      · rw [upd_ne (nt c _ w fun _ w => nomatch w)]
        exact w
def tFz (t : TE) : TE := fun σ H Q => t σ H fun v H1 => ∃ p vs, v = .ref p ∧ H1 p = some (.lst vs) ∧ ∀ o, Q v (upd H1 p (.frz o (.lst vs)))
theorem pe_fz {t : TE} (h : PE X e t) : PE X e (tFz t) := by
  refine ⟨fun pins s σ H Q I q => thn (h.run pins s σ H _ I q) fun u s1 ⟨v, H1, I1, r1, p, vs, e1, e2, q1⟩ => ?_⟩
  obtain ⟨o, I2⟩ := inv_frz I1 e2
  exact ⟨v, _, I2, r1, q1 o⟩
/-- the list that comes is frozen: it leaves the mutable part -/
def dFz (t : DTE) : DTE := fun m M Q => t m M fun d M1 => ∃ p ds, d = .ref p ∧ M1 p = some (.lst ds) ∧ Q (.lst ds) (mdel M1 p)
theorem d_fz (h : DE X e te) : DE X e (dFz te) :=
  imE (pe_fz h) fun σ H Q ⟨m, M, Q', r, q, k⟩ => by
    refine ⟨m, M, _, r, q, fun d v M1 H1 g1 r1 m1 ⟨p, ds, e1, e2, q1⟩ => ?_⟩
    subst e1
    cases r1
    obtain ⟨vs, h1, z, l⟩ := m1.lst e2
    refine ⟨p, vs, rfl, h1, fun o => k _ _ _ _ (g1.trans (.put h1)) (.lst (.inl ⟨o, upd_same⟩) z (l.grow (.put h1))) (m1.frz h1) q1⟩
theorem d_lstF (h : DA X es t) : DE X (.List es pos) (dLstF t) :=
  imE (pe_fz (pe_lst h)) fun σ H Q ⟨m, M, Q', r, q, k⟩ => by
    refine ⟨m, M, _, r, q, fun ds vs M1 H1 g1 r1 m1 ⟨z, q1⟩ => ⟨by rw [← r1.length]; exact z, fun p np => ⟨p, vs, rfl, upd_same, fun o => ?_⟩⟩⟩
    rw [upd_upd]
    exact k _ _ _ _ (g1.trans (.new np)) (.lst (.inl ⟨o, upd_same⟩) (by rw [← r1.length]; exact z) (r1.grow (.new np))) (m1.new np) q1

/-! ### tests -/
def dTst (t : DTE) : DTT := fun m M Q => t m M fun d M1 => ∃ k, d = .bl k ∧ Q k M1
theorem up_tst {σ : SL} {H : Hp} {Q : Bool → Hp → Prop} (h : upT X.K (dTst te) σ H Q) : tTest (upE X.K te) σ H Q := by
  obtain ⟨m, M, Q', r, q, k⟩ := h
  refine ⟨m, M, _, r, q, fun d v M1 H1 g1 r1 m1 ⟨y, e1, q1⟩ => ?_⟩
  subst e1
  cases r1
  exact ⟨y, rfl, k y M1 H1 g1 m1 q1⟩
theorem dt_cmp {op : CmpOp} {r : DR2} (ho : DOp X (compareOp op) r) (ha : DE X a ta) (hb : DE X b tb) (hm : behindInMarks op b = false) : DT X (.Compare a [op] [b] pos) (dTst (dOp r ta tb)) :=
  imT (pt_cmpR ho ha hb hm) fun σ H Q h => by
    obtain ⟨m, M, Q', r, q, k⟩ := h
    refine up_op (σ := σ) (H := H) ⟨m, M, _, r, q, fun d v M1 H1 g1 r1 m1 ⟨y, e1, q1⟩ => ?_⟩
    subst e1
    cases r1
    exact ⟨y, rfl, k y M1 H1 g1 m1 q1⟩
theorem dt_val (h : DE X e te) (he : ∀ whole, isTrue e X.env whole = (do let v ← whole; standAt e.pos; holding [v] (truthy v)) := by intro _; rfl) : DT X e (dTst te) :=
  imT (pt_val h he) fun σ H Q h => up_tst (σ := σ) (H := H) (Q := Q) h
variable {pa pb : DTT} {rest : List Expr}
abbrev DW (X : Cx) (e : Expr) (t : DTT) : Prop := PW X e (upT X.K t)
def dAnd (t u : DTT) : DTT := fun m M Q => t m M fun k M1 => if k = true then u m M1 Q else Q false M1
def dOr (t u : DTT) : DTT := fun m M Q => t m M fun k M1 => if k = true then Q true M1 else u m M1 Q
def dNot (t : DTT) : DTT := fun m M Q => t m M fun k M1 => Q (!k) M1
theorem dw_and1 (ha : DT X a pa) : DW X (.BoolOp .And [a] pos) pa := pw_and1 ha
theorem dw_or1 (ha : DT X a pa) : DW X (.BoolOp .Or [a] pos) pa := pw_or1 ha
theorem dw_and (ha : DT X a pa) (hb : DW X (.BoolOp .And (b :: rest) pos) pb) : DW X (.BoolOp .And (a :: b :: rest) pos) (dAnd pa pb) :=
  imW (pw_and ha hb) fun σ H Q ⟨m, M, Q', r, q, k⟩ => by
    refine ⟨m, M, _, r, q, fun y M1 H1 g1 m1 q1 => ?_⟩
    cases y with
    | true => exact ⟨m, M1, Q', r.grow g1 m1, q1, fun z M2 H2 g2 => k z M2 H2 (g1.trans g2)⟩
    | false => exact k _ M1 H1 g1 m1 q1
theorem dw_or (ha : DT X a pa) (hb : DW X (.BoolOp .Or (b :: rest) pos) pb) : DW X (.BoolOp .Or (a :: b :: rest) pos) (dOr pa pb) :=
  imW (pw_or ha hb) fun σ H Q ⟨m, M, Q', r, q, k⟩ => by
    refine ⟨m, M, _, r, q, fun y M1 H1 g1 m1 q1 => ?_⟩
    cases y with
    | false => exact ⟨m, M1, Q', r.grow g1 m1, q1, fun z M2 H2 g2 => k z M2 H2 (g1.trans g2)⟩
    | true => exact k _ M1 H1 g1 m1 q1
theorem dt_w (h : DW X e pa) : DT X e pa := PW.pt h
theorem dt_not (ha : DT X a pa) : DT X (.UnaryOp .Not a pos) (dNot pa) :=
  imT (pt_not ha) fun σ H Q ⟨m, M, Q', r, q, k⟩ => ⟨m, M, _, r, q, fun y M1 H1 g1 m1 q1 => k _ M1 H1 g1 m1 q1⟩
/-- .. as values -/
def dAndV (t u : DTE) : DTE := fun m M Q => t m M fun d M1 => ∃ k, d = .bl k ∧ if k = true then u m M1 Q else Q (.bl false) M1
def dOrV (t u : DTE) : DTE := fun m M Q => t m M fun d M1 => ∃ k, d = .bl k ∧ if k = true then Q (.bl true) M1 else u m M1 Q
def dNotV (t : DTE) : DTE := fun m M Q => t m M fun d M1 => ∃ k, d = .bl k ∧ Q (.bl (!k)) M1
theorem d_one {op : BoolOp} (h : DE X a ta) : DE X (.BoolOp op [a] pos) ta := pe_one h
theorem d_and (ha : DE X a ta) (hb : DE X (.BoolOp .And (b :: rest) pos) tb) : DE X (.BoolOp .And (a :: b :: rest) pos) (dAndV ta tb) :=
  imE (pe_and ha hb) fun σ H Q ⟨m, M, Q', r, q, k⟩ => by
    refine ⟨m, M, _, r, q, fun d v M1 H1 g1 r1 m1 ⟨y, e1, q1⟩ => ?_⟩
    subst e1
    cases r1
    refine ⟨y, rfl, ?_⟩
    cases y with
    | true => exact ⟨m, M1, Q', r.grow g1 m1, q1, fun z w M2 H2 g2 => k z w M2 H2 (g1.trans g2)⟩
    | false => exact k _ _ M1 H1 g1 (.bl _) m1 q1
theorem d_or (ha : DE X a ta) (hb : DE X (.BoolOp .Or (b :: rest) pos) tb) : DE X (.BoolOp .Or (a :: b :: rest) pos) (dOrV ta tb) :=
  imE (pe_or ha hb) fun σ H Q ⟨m, M, Q', r, q, k⟩ => by
    refine ⟨m, M, _, r, q, fun d v M1 H1 g1 r1 m1 ⟨y, e1, q1⟩ => ?_⟩
    subst e1
    cases r1
    refine ⟨y, rfl, ?_⟩
    cases y with
    | false => exact ⟨m, M1, Q', r.grow g1 m1, q1, fun z w M2 H2 g2 => k z w M2 H2 (g1.trans g2)⟩
    | true => exact k _ _ M1 H1 g1 (.bl _) m1 q1
theorem d_not (ha : DE X a ta) : DE X (.UnaryOp .Not a pos) (dNotV ta) :=
  imE (pe_not ha) fun σ H Q ⟨m, M, Q', r, q, k⟩ => by
    refine ⟨m, M, _, r, q, fun d v M1 H1 g1 r1 m1 ⟨y, e1, q1⟩ => ?_⟩
    subst e1
    cases r1
    exact ⟨y, rfl, k _ _ M1 H1 g1 (.bl _) m1 q1⟩
def dIfE (t : DTT) (u v : DTE) : DTE := fun m M Q => t m M fun k M1 => if k = true then u m M1 Q else v m M1 Q
theorem d_ifE (hc : DT X c pa) (ha : DE X a ta) (hb : DE X b tb) : DE X (.IfExp c a b pos) (dIfE pa ta tb) :=
  imE (pe_ifExp hc ha hb) fun σ H Q ⟨m, M, Q', r, q, k⟩ => by
    refine ⟨m, M, _, r, q, fun y M1 H1 g1 m1 q1 => ?_⟩
    cases y with
    | true => exact ⟨m, M1, Q', r.grow g1 m1, q1, fun z w M2 H2 g2 => k z w M2 H2 (g1.trans g2)⟩
    | false => exact ⟨m, M1, Q', r.grow g1 m1, q1, fun z w M2 H2 g2 => k z w M2 H2 (g1.trans g2)⟩
end

/-! ### statements -/
section
variable {X : Cx} {e : Expr} {pos : Pos} {st : Stmt} {rest : List Stmt} {t u : DTS} {te : DTE}
def dNext : DTS := fun D m M => D.nx m M
def dSeq (t u : DTS) : DTS := fun D m M => t { D with nx := u D } m M
theorem ds_nil : DSs X [] dNext := imSs pss_nil fun D σ H ⟨m, M, D', r, q, k⟩ => k.nx m M σ H (.refl H) r q
theorem ds_cons (h1 : DS X st t) (h2 : DSs X rest u) : DSs X (st :: rest) (dSeq t u) :=
  imSs (pss_cons h1 h2) fun D σ H ⟨m, M, D', r, q, k⟩ => by
    refine ⟨m, M, { D' with nx := u D' }, r, q, ⟨fun m1 M1 σ1 H1 g1 r1 q1 => ?_, k.bk, k.ct, k.rt⟩⟩
    exact ⟨m1, M1, D', r1, q1, k.grow g1⟩
theorem ds_one (h1 : DS X st t) : DSs X [st] t := pss_one h1
def dBreak : DTS := fun D m M => D.bk m M
def dCont : DTS := fun D m M => D.ct m M
theorem ds_pass : DS X (.Pass pos) dNext := imS ps_pass fun D σ H ⟨m, M, D', r, q, k⟩ => k.nx m M σ H (.refl H) r q
theorem ds_break : DS X (.Break pos) dBreak := imS ps_break fun D σ H ⟨m, M, D', r, q, k⟩ => k.bk m M σ H (.refl H) r q
theorem ds_cont : DS X (.Continue pos) dCont := imS ps_continue fun D σ H ⟨m, M, D', r, q, k⟩ => k.ct m M σ H (.refl H) r q
def dDrop (te : DTE) : DTS := fun D m M => te m M fun _ M1 => D.nx m M1
theorem ds_expr (he : DE X e te) (hs : swapsWith e none pos.line X.env = pure false := by rfl) : DS X (.Expr e pos) (dDrop te) :=
  imS (ps_expr he hs) fun D σ H ⟨m, M, D', r, q, k⟩ => ⟨m, M, _, r, q, fun d v M1 H1 g1 r1 m1 q1 => k.nx m M1 σ H1 g1 (r.grow g1 m1) q1⟩
def dRet (te : DTE) : DTS := fun D m M => te m M D.rt
theorem ds_ret (he : DE X e te) : DS X (.Return (some e) pos) (dRet te) :=
  imS (ps_ret he) fun D σ H ⟨m, M, D', r, q, k⟩ => ⟨m, M, _, r, q, fun d v M1 H1 g1 r1 m1 q1 => k.rt d v M1 H1 g1 r1 m1 q1⟩
def dRetN : DTS := fun D _ M => D.rt .non M
theorem ds_retN : DS X (.Return none pos) dRetN :=
  imS ps_retN fun D σ H ⟨m, M, D', r, q, k⟩ => k.rt _ _ M H (.refl H) .non r.mem q
def dIf (p : DTT) (t u : DTS) : DTS := fun D m M => p m M fun k M1 => if k = true then t D m M1 else u D m M1
theorem ds_if {c : Expr} {x y : List Stmt} {p : DTT} (hc : DT X c p) (ha : DSs X x t) (hb : DSs X y u) : DS X (.If c x y pos) (dIf p t u) :=
  imS (ps_if hc ha hb) fun D σ H ⟨m, M, D', r, q, k⟩ => by
    refine ⟨m, M, _, r, q, fun z M1 H1 g1 m1 q1 => ?_⟩
    cases z with
    | true => exact ⟨m, M1, D', r.grow g1 m1, q1, k.grow g1⟩
    | false => exact ⟨m, M1, D', r.grow g1 m1, q1, k.grow g1⟩
def dNever : DTS := fun _ _ _ => False
theorem ds_never : DS X st dNever := ⟨fun _ _ _ _ _ _ ⟨_, _, _, _, q, _⟩ => q.elim⟩
theorem dss_never {sts : List Stmt} : DSs X sts dNever := ⟨fun _ _ _ _ _ _ ⟨_, _, _, _, q, _⟩ => q.elim⟩
/-- slot i's list is frozen ahead of a statement -/
def dFzS (i : Nat) (t : DTS) : DTS := fun D m M => ∃ p ds, m[i]? = some (some (.ref p)) ∧ M p = some (.lst ds) ∧ t D (m.set i (some (.lst ds))) (mdel M p)
theorem ds_fz (i : Nat) (h : DS X st t) : DS X st (dFzS i t) := by
  refine ⟨fun pins s σ H D I ⟨m, M, D', r, ⟨p, ds, e1, e2, q⟩, k⟩ => ?_⟩
  obtain ⟨v, h1, h2⟩ := r.slot i _ e1
  cases h2
  obtain ⟨vs, h3, z, l⟩ := r.mem.lst e2
  obtain ⟨o, I2⟩ := inv_frz I h3
  refine h.run pins s σ _ D I2 ⟨_, _, D', ?_, q, k.grow (.put h3)⟩
  have hi : i < m.length := (List.getElem?_eq_some_iff.mp e1).1
  refine ⟨by rw [List.length_set]; exact r.len, fun j d q1 => ?_, r.mem.frz h3⟩
  by_cases hj : i = j
  · subst hj
    rw [List.getElem?_set_self hi] at q1
    cases q1
    exact ⟨_, h1, .lst (.inl ⟨o, upd_same⟩) z (l.grow (.put h3))⟩
  · rw [List.getElem?_set_ne hj] at q1
    obtain ⟨w, h5, h6⟩ := r.slot j d q1
    exact ⟨w, h5, h6.grow (.put h3)⟩

/-! ### targets: ws are the slots that are written -/
abbrev DTG := D → DSt → DM → (DSt → DM → Prop) → Prop
abbrev DTGs := List D → DSt → DM → (DSt → DM → Prop) → Prop
def Off (ws : List Nat) (σ σ' : SL) : Prop := σ'.length = σ.length ∧ ∀ i, i ∉ ws → σ'[i]? = σ[i]?
def upG (K : PySem.W.Frag) (ws : List Nat) (t : DTG) : TG := fun v σ H Q => ∃ d m M Q', Rep K H d v ∧ R K m M σ H ∧ t d m M Q' ∧
  ∀ m' M' σ' H', Grow H H' → R K m' M' σ' H' → Off ws σ σ' → Q' m' M' → Q σ' H'
def upGs (K : PySem.W.Frag) (ws : List Nat) (t : DTGs) : TGs := fun vs σ H Q => ∃ ds m M Q', RepL K H ds vs ∧ R K m M σ H ∧ t ds m M Q' ∧
  ∀ m' M' σ' H', Grow H H' → R K m' M' σ' H' → Off ws σ σ' → Q' m' M' → Q σ' H'
abbrev DG (X : Cx) (ws : List Nat) (tg : Expr) (t : DTG) : Prop := PG X tg (upG X.K ws t)
abbrev DGs (X : Cx) (ws : List Nat) (tgs : List Expr) (t : DTGs) : Prop := PGs X tgs (upGs X.K ws t)
theorem imG {tg : Expr} {t t' : TG} (h : PG X tg t) (i : ∀ v σ H Q, t' v σ H Q → t v σ H Q) : PG X tg t' := ⟨fun pins s σ H v u Q I r q => h.run pins s σ H v u Q I r (i v σ H Q q)⟩
theorem imGs {tg : List Expr} {t t' : TGs} (h : PGs X tg t) (i : ∀ v σ H Q, t' v σ H Q → t v σ H Q) : PGs X tg t' := ⟨fun pins s σ H v u Q I r q => h.run pins s σ H v u Q I r (i v σ H Q q)⟩
def dgName (i : Nat) : DTG := fun d m M Q => Q (m.set i (some d)) M
theorem Off.refl (ws : List Nat) (σ : SL) : Off ws σ σ := ⟨rfl, fun _ _ => rfl⟩
theorem Off.set {i : Nat} {σ : SL} {v : V} : Off [i] σ (σ.set i (some v)) := ⟨List.length_set, fun j h => by
  have : i ≠ j := fun z => h (by simp [z])
  exact List.getElem?_set_ne this⟩
theorem Off.trans {ws us : List Nat} {σ σ1 σ2 : SL} (h : Off ws σ σ1) (k : Off us σ1 σ2) : Off (ws ++ us) σ σ2 :=
  ⟨k.1.trans h.1, fun i hi => (k.2 i fun z => hi (List.mem_append_right _ z)).trans (h.2 i fun z => hi (List.mem_append_left _ z))⟩
theorem dg_name {i : Nat} {x : Str} (hN : X.N.Nodup) (hi : X.N[i]? = some x) (hx : Loc X.env.scope x) (hf : X.fn x = true ∨ X.env.scope.names.lookup x = some .local := by first | exact .inl rfl | exact .inr rfl | assumption) :
    DG X [i] (.Name x pos) (dgName i) :=
  imG (pg_name hN hi hx hf) fun v σ H Q ⟨d, m, M, Q', rd, r, q, k⟩ => k _ _ _ H (.refl H) (r.set rd) .set q
def dgNil : DTGs := fun ds m M Q => ds = [] ∧ Q m M
def dgCons (t : DTG) (u : DTGs) : DTGs := fun ds m M Q => ∃ d r, ds = d :: r ∧ t d m M fun m1 M1 => u r m1 M1 Q
theorem dgs_nil : DGs X [] [] dgNil := imGs pgs_nil fun v σ H Q ⟨ds, m, M, Q', rd, r, ⟨e, q⟩, k⟩ => by
  subst e
  cases rd
  exact ⟨rfl, k _ _ _ H (.refl H) r (.refl _ _) q⟩
theorem dgs_cons {es : List Expr} {ws us : List Nat} {t : DTG} {u : DTGs} (h1 : DG X ws e t) (h2 : DGs X us es u)
    (hs : (assignEach (e :: es) X.env).map (·.2) = assign e X.env :: (assignEach es X.env).map (·.2) := by rfl) : DGs X (ws ++ us) (e :: es) (dgCons t u) :=
  imGs (pgs_cons h1 h2 hs) fun v σ H Q ⟨ds, m, M, Q', rd, r, ⟨d, dr, e, q⟩, k⟩ => by
    subst e
    cases rd with
    | cons r1 rl =>
      refine ⟨_, _, rfl, _, m, M, _, r1, r, q, fun m1 M1 σ1 H1 g1 rr o1 q1 => ?_⟩
      exact ⟨_, m1, M1, _, rl.grow g1, rr, q1, fun m2 M2 σ2 H2 g2 r2 o2 q2 => k m2 M2 σ2 H2 (g1.trans g2) r2 (o1.trans o2) q2⟩
def dgTup (n : Nat) (t : DTGs) : DTG := fun d m M Q => ∃ ds, d = .tup ds ∧ ds.length = n ∧ t ds m M Q
theorem dg_tup {es : List Expr} {k n : Nat} {ws : List Nat} {t : DTGs} (hc : X.calm = true) (h : DGs X ws es t)
    (hn : (assignEach es X.env).length = n := by rfl) (hst : (assignEach es X.env).findIdx? (·.1) = none := by rfl) : DG X ws (.Tuple es k pos) (dgTup n t) :=
  imG (pg_tup hc h hn hst) fun v σ H Q ⟨d, m, M, Q', rd, r, ⟨ds, e, hl, q⟩, k⟩ => by
    subst e
    cases rd with
    | tup hs _ hl2 => exact ⟨_, _, rfl, hs, by rw [← hl2.length]; exact hl, ds, m, M, Q', hl2, r, q, k⟩
def dAsg (te : DTE) (g : DTG) : DTS := fun D m M => te m M fun d M1 => g d m M1 D.nx
theorem ds_asg {tg : Expr} {ws : List Nat} {g : DTG} (he : DE X e te) (hg : DG X ws tg g) (hs : swapsWithSole [tg] e pos.line X.env = pure false := by rfl) (hw : swappedStores [tg] e X.env = pure none := by rfl)
    (h1 : (assignEach [tg] X.env).map (·.2) = [assign tg X.env] := by rfl) : DS X (.Assign [tg] e pos) (dAsg te g) :=
  imS (ps_asg he hg hs hw h1) fun D σ H ⟨m, M, D', r, q, k⟩ => by
    refine ⟨m, M, _, r, q, fun d v M1 H1 g1 r1 m1 q1 => ?_⟩
    exact ⟨d, m, M1, _, r1, r.grow g1 m1, q1, fun m2 M2 σ2 H2 g2 r2 _ q2 => k.nx m2 M2 σ2 H2 (g1.trans g2) r2 q2⟩
def dSet (i : Nat) (te : DTE) : DTS := fun D m M => te m M fun d M1 => D.nx (m.set i (some d)) M1
theorem ds_set {i : Nat} {x : Str} {pos' : Pos} (hN : X.N.Nodup) (hi : X.N[i]? = some x) (hx : Loc X.env.scope x) (he : DE X e te) (hs : swapsWith e (some (.Name x pos')) pos.line X.env = pure false := by rfl)
    (hf : X.fn x = true ∨ X.env.scope.names.lookup x = some .local := by first | exact .inl rfl | exact .inr rfl | assumption) : DS X (.Assign [.Name x pos'] e pos) (dSet i te) :=
  imS (ps_set hN hi hx he hs hf) fun D σ H ⟨m, M, D', r, q, k⟩ =>
    ⟨m, M, _, r, q, fun d v M1 H1 g1 r1 m1 q1 => k.nx _ M1 _ H1 g1 ((r.grow g1 m1).set r1) q1⟩
end

/-! ### what is walked -/
abbrev Src := List D × Option Addr
abbrev DTI := DSt → DM → (Src → DM → Prop) → Prop
def SrcOk (K : PySem.W.Frag) (src : Src) (H0 H : Hp) : Prop := Grow H0 H ∧ ∀ a, src.2 = some a → ∃ vs, H a = some (.lst vs) ∧ RepL K H src.1 vs
structure Stream (K : PySem.W.Frag) (J : It) (src : Src) (H0 : Hp) : Prop where
  small : src.1.length ≤ sizeLine
  go : ∀ i H, SrcOk K src H0 H → i < src.1.length → J.go i H
  yld : ∀ i H x H', SrcOk K src H0 H → i < src.1.length → J.yld i H x H' → Grow H H' ∧ (∀ M, RM K H M → RM K H' M) ∧ ∃ d, src.1[i]? = some d ∧ Rep K H' d x
  stop : ∀ H, SrcOk K src H0 H → J.stop src.1.length H
def upI (K : PySem.W.Frag) (t : DTI) : TI := fun σ H Rr => ∃ m M Q', R K m M σ H ∧ t m M Q' ∧
  ∀ src M' H' J, Grow H H' → RM K H' M' → Q' src M' → Stream K J src H' → Rr J H'
abbrev DI (X : Cx) (tg iter : Expr) (t : DTI) : Prop := PI X tg iter (upI X.K t)
theorem imI {X : Cx} {tg iter : Expr} {t t' : TI} (h : PI X tg iter t) (i : ∀ σ H Q, t' σ H Q → t σ H Q) : PI X tg iter t' := ⟨fun pins s σ H Q I q => h.run pins s σ H Q I (i σ H Q q)⟩
/-- the walked list is as it was -/
def SrcV (src : Src) (M : DM) : Prop := ∀ a, src.2 = some a → M a = some (.lst src.1)
theorem SrcV.ok {K : PySem.W.Frag} {src : Src} {H0 H : Hp} {M : DM} (h : SrcV src M) (g : Grow H0 H) (r : RM K H M) : SrcOk K src H0 H :=
  ⟨g, fun a e => let ⟨vs, h1, _, h2⟩ := r.lst (h a e); ⟨vs, h1, h2⟩⟩
/-- something is forgotten of the mutable part -/
def fg (P : DSt → DM → Prop) : DSt → DM → Prop := fun m M => ∃ M0, MLe M0 M ∧ P m M0
theorem fg_of {P : DSt → DM → Prop} {m : DSt} {M : DM} (h : P m M) : fg P m M := ⟨M, .refl M, h⟩
def dForGo (src : Src) (g : DTG) (tb : DTS) (Z : DEnds) : List D → DSt → DM → Prop
  | [], m, M => SrcV src M ∧ Z.nx m M
  | d :: ds, m, M => SrcV src M ∧ g d m M fun m1 M1 => tb { Z with nx := fg (dForGo src g tb Z ds), ct := fg (dForGo src g tb Z ds), bk := Z.nx } m1 M1
def dFor (t : DTI) (g : DTG) (tb : DTS) : DTS := fun D m M => t m M fun src M1 => src.1.length ≤ sizeLine → dForGo src g tb D src.1 m M1
section
variable {X : Cx} {tg iter : Expr} {pos : Pos} {t : DTI} {g : DTG} {tb : DTS} {ws : List Nat}
theorem R.le {K : PySem.W.Frag} {m : DSt} {M M0 : DM} {σ : SL} {H : Hp} (r : R K m M σ H) (l : MLe M0 M) : R K m M0 σ H := ⟨r.len, r.slot, r.mem.le l⟩
theorem ds_for {body : List Stmt} (hp : PassesOwn (model X.prog X.w) X.A X.env X.xe) (hc : X.calm = true) (hi : DI X tg iter t) (hg : DG X ws tg g) (hb : DSs X body tb)
    (hs : ∀ x, foldedSetIterable iter X.env x = pure x := by intro _; rfl) : DS X (.For tg iter body [] pos) (dFor t g tb) :=
  imS (ps_for hp hc hi hg hb hs) fun D σ H ⟨m, M, D', r, q, k⟩ => by
    refine ⟨m, M, _, r, q, fun src M1 H1 J g1 m1 q1 st => ?_⟩
    refine ⟨fun i n σ H2 => i + n = src.1.length ∧ Grow H1 H2 ∧ ∃ m M, R X.K m M σ H2 ∧ dForGo src g tb D' (src.1.drop i) m M, ⟨src.1.length, by omega, .refl _, m, M1, r.grow g1 m1, q1 st.small⟩, ?_⟩
    rintro i n σ2 H2 ⟨hl, g2, m2, M2, r2, q2⟩
    by_cases hlt : i < src.1.length
    · have hd : src.1.drop i = src.1[i] :: src.1.drop (i + 1) := List.drop_eq_getElem_cons hlt
      rw [hd] at q2
      obtain ⟨sv, q2⟩ := q2
      have so := sv.ok g2 r2.mem
      refine .inr ⟨st.go i H2 so hlt, fun σ' H' => Grow H1 H' ∧ ∃ m M, R X.K m M σ' H' ∧ dForGo src g tb D' (src.1.drop (i + 1)) m M, fun σ' H' ⟨g3, m3, M3, r3, q3⟩ => ⟨n - 1, by omega, by omega, g3, m3, M3, r3, q3⟩, fun x H' y => ?_⟩
      obtain ⟨g3, k3, d, e3, rd⟩ := st.yld i H2 x H' so hlt y
      have ed : d = src.1[i] := by
        rw [List.getElem?_eq_getElem hlt] at e3
        exact (Option.some.inj e3).symm
      subst ed
      refine ⟨_, m2, M2, _, rd, r2.grow g3 (k3 _ r2.mem), q2, fun m4 M4 σ4 H4 g4 r4 _ q4 => ?_⟩
      have g04 : Grow H1 H4 := (g2.trans g3).trans g4
      refine ⟨m4, M4, _, r4, q4, ⟨fun m5 M5 σ5 H5 g5 r5 ⟨M6, l6, q6⟩ => ⟨g04.trans g5, m5, M6, r5.le l6, q6⟩, fun m5 M5 σ5 H5 g5 r5 q5 => k.nx m5 M5 σ5 H5 ((g1.trans g04).trans g5) r5 q5,
        fun m5 M5 σ5 H5 g5 r5 ⟨M6, l6, q6⟩ => ⟨g04.trans g5, m5, M6, r5.le l6, q6⟩, fun d v M5 H5 g5 => k.rt d v M5 H5 ((g1.trans g04).trans g5)⟩⟩
    · have e : i = src.1.length := by omega
      subst e
      rw [List.drop_length] at q2
      obtain ⟨sv, q2⟩ := q2
      exact .inl ⟨st.stop H2 (sv.ok g2 r2.mem), k.nx m2 M2 σ2 H2 (g1.trans g2) r2 q2⟩
def dWhile (c : DTT) (tb : DTS) : DTS := fun D m M => ∃ W : Nat → DSt → DM → Prop, (∃ n, W n m M) ∧ ∀ n m M, W n m M → c m M fun k M1 =>
  if k = true then tb { D with nx := fg fun m' M' => ∃ n', n' < n ∧ W n' m' M', ct := fg fun m' M' => ∃ n', n' < n ∧ W n' m' M', bk := D.nx } m M1 else D.nx m M1
theorem ds_while {c : Expr} {body : List Stmt} {tc : DTT} (hp : PassesOwn (model X.prog X.w) X.A X.env X.xe) (hc : DT X c tc) (hb : DSs X body tb) : DS X (.While c body [] pos) (dWhile tc tb) :=
  imS (ps_while hp hc hb) fun D σ H ⟨m, M, D', r, ⟨W, ⟨n0, w0⟩, turn⟩, k⟩ => by
    refine ⟨fun n σ H1 => Grow H H1 ∧ ∃ m M, R X.K m M σ H1 ∧ W n m M, ⟨n0, .refl _, m, M, r, w0⟩, ?_⟩
    rintro n σ1 H1 ⟨g1, m1, M1, r1, w1⟩
    refine ⟨m1, M1, _, r1, turn n m1 M1 w1, fun y M2 H2 g2 m2 q2 => ?_⟩
    have r2 := r1.grow g2 m2
    cases y with
    | true =>
      refine ⟨fun σ' H' => ∃ n', n' < n ∧ Grow H H' ∧ ∃ m M, R X.K m M σ' H' ∧ W n' m M, fun σ' H' ⟨n', hn, y⟩ => ⟨n', hn, y⟩, ?_⟩
      refine ⟨m1, M2, _, r2, q2, ⟨fun m5 M5 σ5 H5 g5 r5 ⟨M6, l6, n', hn, q6⟩ => ⟨n', hn, (g1.trans g2).trans g5, m5, M6, r5.le l6, q6⟩, fun m5 M5 σ5 H5 g5 r5 q5 => k.nx m5 M5 σ5 H5 ((g1.trans g2).trans g5) r5 q5,
        fun m5 M5 σ5 H5 g5 r5 ⟨M6, l6, n', hn, q6⟩ => ⟨n', hn, (g1.trans g2).trans g5, m5, M6, r5.le l6, q6⟩, fun d v M5 H5 g5 => k.rt d v M5 H5 ((g1.trans g2).trans g5)⟩⟩
    | false => exact k.nx m1 M2 σ1 H2 (g1.trans g2) r2 q2
end
end DL
namespace DL
open PySem PySem.Spec PyProof.Rows L2

/-! ### items of a value -/
def dItems : D → DM → Option (List D)
  | .tup xs, _ => some xs
  | .lst xs, _ => some xs
  | .ref a, M => match M a with
    | some (.lst xs) => some xs
    | _ => none
  | _, _ => none
def dAt : D → Option Addr
  | .ref a => some a
  | _ => none
@[simp] theorem dItems_tup {xs : List D} {M : DM} : dItems (.tup xs) M = some xs := rfl
@[simp] theorem dItems_lst {xs : List D} {M : DM} : dItems (.lst xs) M = some xs := rfl
theorem dItems_ref {xs : List D} {M : DM} {a : Addr} (h : M a = some (.lst xs)) : dItems (.ref a) M = some xs := by
  simp [dItems, h]
theorem items_of {K : PySem.W.Frag} {H : Hp} {M : DM} {d : D} {v : V} {xs : List D} (r : Rep K H d v) (m : RM K H M) (e : dItems d M = some xs) :
    ∃ a vs, v = .ref a ∧ vs.length ≤ sizeLine ∧ RepL K H xs vs ∧ ((SqL K H a vs ∧ (∀ p, d = .ref p → p = a ∧ H a = some (.lst vs)) ∧ ((∃ p, d = .ref p) ∨ FrzL K H a vs)) ∨ (SqT K H a vs ∧ d = .tup xs)) := by
  cases r with
  | tup h z l =>
    cases e
    exact ⟨_, _, rfl, z, l, .inr ⟨h, rfl⟩⟩
  | lst h z l =>
    cases e
    exact ⟨_, _, rfl, z, l, .inl ⟨h.seq, (fun p q => nomatch q), .inr h⟩⟩
  | ref a =>
    have e' : (match M a with | some (.lst xs) => some xs | _ => none) = some xs := e
    cases q : M a with
    | none => rw [q] at e'; cases e'
    | some o =>
      rw [q] at e'
      cases o with
      | lst ys =>
        cases e'
        obtain ⟨vs, h1, z, l⟩ := m.lst q
        exact ⟨a, vs, rfl, z, l, .inl ⟨.of h1, fun p q => by cases q; exact ⟨rfl, h1⟩, .inl ⟨a, rfl⟩⟩⟩
      | dct _ _ => cases e'
      | tab _ => cases e'
      | dk _ => cases e'
  | _ => cases e

/-! ### what a list or tuple gives to a loop -/
section
variable {X : Cx} {tg l : Expr} {te : DTE} {pos p : Pos}
def iSeq (K : PySem.W.Frag) (tl : TE) : TI := fun σ H Rr => tl σ H fun x H1 => ∃ a, x = .ref a ∧ (((∃ xs, SqL K H1 a xs) ∧ Rr (Itl K a) H1) ∨ ((∃ xs, SqT K H1 a xs) ∧ Rr (Itt K a) H1))
theorem pi_seq {tl : TE} (hl : PE X l tl) : PI X tg l (iSeq X.K tl) := by
  refine ⟨fun pins s σ H Rr I h => thn (hl.run pins s σ H _ I h) fun v s1 ⟨x, H1, I1, r1, a, e, q⟩ => ?_⟩
  subst e
  cases r1
  have fp : ∀ b ∈ [s1.heap.objs.size], FpOk X pins H1 b := fun b hb => by
    have e : b = s1.heap.objs.size := by simpa using hb
    subst e
    exact I1.fpOk (Nat.le_refl _) (I1.hok.fresh (Nat.le_refl _))
  rcases q with ⟨⟨xs, hq⟩, q⟩ | ⟨⟨xs, hq⟩, q⟩
  · obtain ⟨its, _, pl, _⟩ := I1.list hq
    exact wpAny_pyIter_list pl.isList ⟨_, [s1.heap.objs.size], _, _, H1, rfl, I1.kept (t' := s1.toks) fun b o e => Heap.get?_push_of_some _ e,
      turn_list a _, ⟨_, Heap.get?_push_size _ rfl, rfl, rfl⟩, fp, q⟩
  · obtain ⟨its, _, pt, _⟩ := I1.tuple hq
    exact wpAny_pyIter_tuple (show s1.heap.IsTuple a its.toArray from pt) ⟨_, [s1.heap.objs.size], _, _, H1, rfl, I1.kept (t' := s1.toks) fun b o e => Heap.get?_push_of_some _ e,
      turn_tuple a _, ⟨_, Heap.get?_push_size _ rfl, rfl, rfl⟩, fp, q⟩
theorem sqL_inj {K : PySem.W.Frag} {H : Hp} {a : Addr} {vs : List V} (h : H a = some (.lst vs)) : SqL K H a vs := .of h
def diSeq (te : DTE) : DTI := fun m M Q => te m M fun d M1 => ∃ xs, dItems d M1 = some xs ∧ Q (xs, dAt d) M1
theorem stream_list {K : PySem.W.Frag} {H0 : Hp} {xs : List D} {at' : Option Addr} {a : Addr} {vs : List V} (z : vs.length ≤ sizeLine) (l : RepL K H0 xs vs)
    (hs : ∀ H, SrcOk K (xs, at') H0 H → ∃ ws, SqL K H a ws ∧ RepL K H xs ws) : Stream K (Itl K a) (xs, at') H0 := by
  refine ⟨by rw [show (xs, at').1 = xs from rfl, l.length]; exact z, fun i H ok hi => ?_, fun i H x H' ok hi y => ?_, fun H ok => ?_⟩
  · obtain ⟨ws, h1, h2⟩ := hs H ok
    obtain ⟨w, e, _⟩ := h2.get (List.getElem?_eq_getElem hi)
    exact ⟨ws, w, h1, e⟩
  · obtain ⟨ws, h1, h2⟩ := hs H ok
    obtain ⟨e1, e2⟩ := y
    subst e1
    obtain ⟨d, e3, rd⟩ := h2.get' (e2 ws h1)
    exact ⟨.refl _, fun _ q => q, d, e3, rd⟩
  · obtain ⟨ws, h1, h2⟩ := hs H ok
    exact ⟨ws, h1, by rw [← h2.length]; exact Nat.le_refl _⟩
theorem stream_tup {K : PySem.W.Frag} {H0 : Hp} {xs : List D} {at' : Option Addr} {a : Addr} {vs : List V} (z : vs.length ≤ sizeLine) (l : RepL K H0 xs vs) (h : SqT K H0 a vs) : Stream K (Itt K a) (xs, at') H0 := by
  refine ⟨by rw [show (xs, at').1 = xs from rfl, l.length]; exact z, fun i H ok hi => ?_, fun i H x H' ok hi y => ?_, fun H ok => ?_⟩
  · obtain ⟨w, e, _⟩ := l.get (List.getElem?_eq_getElem hi)
    exact ⟨vs, w, sqT_grow h ok.1, e⟩
  · obtain ⟨e1, e2⟩ := y
    subst e1
    obtain ⟨d, e3, rd⟩ := l.get' (e2 vs (sqT_grow h ok.1))
    exact ⟨.refl _, fun _ q => q, d, e3, rd.grow ok.1⟩
  · exact ⟨vs, sqT_grow h ok.1, by rw [← l.length]; exact Nat.le_refl _⟩
theorem di_seq (h : DE X l te) : DI X tg l (diSeq te) :=
  imI (pi_seq h) fun σ H Q ⟨m, M, Q', r, q, k⟩ => by
    refine ⟨m, M, _, r, q, fun d v M1 H1 g1 r1 m1 ⟨xs, e, q1⟩ => ?_⟩
    obtain ⟨a, vs, rfl, z, l, ⟨h1, h2, h3⟩ | ⟨h1, h2⟩⟩ := items_of r1 m1 e
    · refine ⟨a, rfl, .inl ⟨⟨vs, h1⟩, k _ M1 H1 _ g1 m1 q1 (stream_list z l fun H2 ok => ?_)⟩⟩
      rcases h3 with ⟨p, hp⟩ | h3
      · subst hp
        obtain ⟨e1, _⟩ := h2 p rfl
        subst e1
        obtain ⟨ws, h5, h6⟩ := ok.2 p rfl
        exact ⟨ws, .of h5, h6⟩
      · exact ⟨vs, (h3.grow ok.1).seq, l.grow ok.1⟩
    · exact ⟨a, rfl, .inr ⟨⟨vs, h1⟩, k _ M1 H1 _ g1 m1 q1 (stream_tup z l h1)⟩⟩
def rangeD (lo : Int) (n : Nat) : List D := (List.range n).map fun i => D.int (lo + (i : Nat))
theorem stream_range {K : PySem.W.Frag} {H0 : Hp} {lo : Int} {n : Nat} (hz : n ≤ sizeLine) : Stream K (Itr lo n) (rangeD lo n, none) H0 := by
  have hl : (rangeD lo n).length = n := by simp [rangeD]
  refine ⟨by rw [show (rangeD lo n, (none : Option Addr)).1 = rangeD lo n from rfl, hl]; exact hz, fun i H ok hi => ?_, fun i H x H' ok hi y => ?_, fun H ok => ?_⟩
  · exact (by rw [← hl]; exact hi : i < n)
  · obtain ⟨e1, e2⟩ := y
    subst e1
    subst e2
    have hi' : i < n := by rw [← hl]; exact hi
    exact ⟨.refl _, fun _ q => q, .int (lo + (i : Nat)), by simp [rangeD, hi'], .int _⟩
  · show n ≤ (rangeD lo n).length
    omega
def diRng1 (t : DTA) : DTI := fun m M Q => t m M fun ds M1 => ∃ j : Int, ds = [.int j] ∧ j ≤ 16777216 ∧ -1000000000 ≤ j ∧ Q (rangeD 0 j.toNat, none) M1
def diRng2 (t : DTA) : DTI := fun m M Q => t m M fun ds M1 => ∃ i j : Int, ds = [.int i, .int j] ∧ (-1000000000 ≤ i ∧ i ≤ 1000000000 ∧ -1000000000 ≤ j ∧ j ≤ 1000000000) ∧ j - i ≤ 16777216 ∧ Q (rangeD i (j - i).toNat, none) M1
theorem repL_one {K : PySem.W.Frag} {H : Hp} {d : D} {vs : List V} (h : RepL K H [d] vs) : ∃ v, vs = [v] ∧ Rep K H d v := by
  cases h with
  | cons a b =>
    cases b
    exact ⟨_, rfl, a⟩
theorem repL_two {K : PySem.W.Frag} {H : Hp} {d e : D} {vs : List V} (h : RepL K H [d, e] vs) : ∃ v w, vs = [v, w] ∧ Rep K H d v ∧ Rep K H e w := by
  cases h with
  | cons a b =>
    obtain ⟨w, e, r⟩ := repL_one b
    subst e
    exact ⟨_, w, rfl, a, r⟩
theorem di_range1 {a : Expr} {t : DTA} (hg : Gl X "range") (hm : X.mg "range" = none) (ha : DA X [a] t) (hs : starEach [a] X.env = [(false, eval a X.env)] := by rfl) : DI X tg (.Call (.Name "range" p) [a] [] pos) (diRng1 t) :=
  imI (pi_range1 hg hm ha hs) fun σ H Q ⟨m, M, Q', r, q, k⟩ => by
    refine ⟨m, M, _, r, q, fun ds vs M1 H1 g1 r1 m1 ⟨j, e, h1, h2, q1⟩ => ?_⟩
    subst e
    obtain ⟨v, e, rv⟩ := repL_one r1
    subst e
    cases rv
    have hsl := sizeLine_eq
    exact ⟨j, rfl, by omega, by omega, k _ M1 H1 _ g1 m1 q1 (stream_range (by omega))⟩
theorem di_range2 {a b : Expr} {t : DTA} (hg : Gl X "range") (hm : X.mg "range" = none) (ha : DA X [a, b] t) (hs : starEach [a, b] X.env = [(false, eval a X.env), (false, eval b X.env)] := by rfl) (hs2 : starEach [b] X.env = [(false, eval b X.env)] := by rfl) :
    DI X tg (.Call (.Name "range" p) [a, b] [] pos) (diRng2 t) :=
  imI (pi_range2 hg hm ha hs hs2) fun σ H Q ⟨m, M, Q', r, q, k⟩ => by
    refine ⟨m, M, _, r, q, fun ds vs M1 H1 g1 r1 m1 ⟨i, j, e, ⟨h1, h2, h3, h4⟩, h5, q1⟩ => ?_⟩
    subst e
    obtain ⟨v, w, e, rv, rw'⟩ := repL_two r1
    subst e
    cases rv
    cases rw'
    have hsl := sizeLine_eq
    exact ⟨i, j, rfl, ⟨by omega, by omega, by omega, by omega⟩, k _ M1 H1 _ g1 m1 q1 (stream_range (by omega))⟩
end

/-! ### comprehensions -/
def dwipe (m : DSt) : List Nat → DSt
  | [] => m
  | v :: vs => (dwipe m vs).set v none
theorem wipe_get (σ : SL) : ∀ (vs : List Nat) (i : Nat), (wipe σ vs)[i]? = if i ∈ vs then (if i < σ.length then some none else none) else σ[i]?
  | [], i => by simp [wipe]
  | v :: vs, i => by
    unfold wipe
    by_cases h : v = i
    · subst h
      by_cases hl : v < σ.length
      · rw [List.getElem?_set_self (by rw [wipe_length]; exact hl)]
        simp [hl]
      · rw [List.getElem?_eq_none (by rw [List.length_set, wipe_length]; omega)]
        simp [hl]
    · rw [List.getElem?_set_ne h, wipe_get σ vs i]
      have : ¬ i = v := fun z => h z.symm
      simp [this]
theorem dwipe_len (m : DSt) : ∀ vs : List Nat, (dwipe m vs).length = m.length
  | [] => rfl
  | v :: vs => by
    unfold dwipe
    rw [List.length_set, dwipe_len m vs]
theorem dwipe_some {m : DSt} {i : Nat} {d : D} : ∀ {vs : List Nat}, (dwipe m vs)[i]? = some (some d) → m[i]? = some (some d) ∧ i ∉ vs
  | [], h => ⟨h, by simp⟩
  | v :: vs, h => by
    unfold dwipe at h
    by_cases hv : v = i
    · subst hv
      by_cases hl : v < (dwipe m vs).length
      · rw [List.getElem?_set_self hl] at h
        cases h
      · rw [List.getElem?_eq_none (by rw [List.length_set]; omega)] at h
        cases h
    · rw [List.getElem?_set_ne hv] at h
      obtain ⟨h1, h2⟩ := dwipe_some h
      have : ¬ i = v := fun z => hv z.symm
      exact ⟨h1, by simp [this, h2]⟩
theorem R.wipe {K : PySem.W.Frag} {m : DSt} {M : DM} {σ : SL} {H : Hp} (r : R K m M σ H) (vs : List Nat) : R K (dwipe m vs) M (wipe σ vs) H := by
  refine ⟨by rw [dwipe_len, wipe_length]; exact r.len, fun i d e => ?_, r.mem⟩
  obtain ⟨h1, h2⟩ := dwipe_some e
  obtain ⟨v, h3, h4⟩ := r.slot i d h1
  exact ⟨v, by rw [wipe_get, if_neg h2]; exact h3, h4⟩
theorem wipe_off {ws vs : List Nat} {σ σ' : SL} (o : Off ws (wipe σ vs) σ') (hs : ∀ i ∈ ws, i ∈ vs) : wipe σ' vs = wipe σ vs := by
  apply List.ext_getElem?
  intro i
  have hl : σ'.length = σ.length := by rw [o.1, wipe_length]
  rw [wipe_get, wipe_get, hl]
  by_cases h : i ∈ vs
  · rw [if_pos h, if_pos h]
  · rw [if_neg h, if_neg h, o.2 i fun z => h (hs i z), wipe_get, if_neg h]
def dLcGo (src : Src) (g : DTG) (tt : DTT) (te : DTE) (m0 : DSt) (p : Addr) (Qd : List D → DM → Prop) : List D → List D → DM → Prop
  | [], acc, M => SrcV src M ∧ Qd acc M
  | d :: ds, acc, M => SrcV src M ∧ g d m0 M fun m1 M1 => tt m1 M1 fun b M2 =>
      if b = true then te m1 M2 fun y M3 => M3 p = some (.lst acc) ∧ dLcGo src g tt te m0 p Qd ds (acc ++ [y]) (mput M3 p (.lst (acc ++ [y])))
      else M2 p = some (.lst acc) ∧ dLcGo src g tt te m0 p Qd ds acc M2
/-- [e for ..]: a list that will be changed, one that stays -/
def dLc (t : DTI) (g : DTG) (tt : DTT) (te : DTE) (vs : List Nat) : DTE := fun m M Q => t m M fun src M1 => src.1.length ≤ sizeLine → ∀ p, M1 p = none → dLcGo src g tt te (dwipe m vs) p (fun _ M2 => Q (.ref p) M2) src.1 [] (mput M1 p (.lst []))
def dLcF (t : DTI) (g : DTG) (tt : DTT) (te : DTE) (vs : List Nat) : DTE := fun m M Q => t m M fun src M1 => src.1.length ≤ sizeLine → ∀ p, M1 p = none → dLcGo src g tt te (dwipe m vs) p (fun acc M2 => Q (.lst acc) (mdel M2 p)) src.1 [] (mput M1 p (.lst []))
abbrev dYes : DTT := fun _ M Q => Q true M
section
variable {X : Cx} {elt tg iter : Expr} {ifs : List Expr} {scope : Scope} {own : List (Str × Nat)} {pos : Pos} {t : DTI} {g : DTG} {tt : DTT} {te : DTE} {ws : List Nat}
abbrev DPTs (X : Cx) (ifs : List Expr) (t : DTT) : Prop := PTs X ifs (upT X.K t)
theorem dts_nil : DPTs X [] dYes := ⟨fun pins s σ H Q I h => pts_nil.run pins s σ H Q I (by
  obtain ⟨m, M, Q', r, q, k⟩ := h
  exact k true M H (.refl H) r.mem q)⟩
theorem dts_one {c : Expr} {t : DTT} (h : DT X c t) : DPTs X [c] t := pts_one h
theorem lc_up {K : PySem.W.Frag} {vs : List Nat} (hsub : ∀ i ∈ ws, i ∈ vs) {σ : SL} {H : Hp} {Q : VK} {Qf : Addr → List D → DM → Prop}
    (fin : ∀ p acc ws M2 H2, Grow H H2 → RM K H2 M2 → H2 p = some (.lst ws) → ws.length ≤ sizeLine → RepL K H2 acc ws → M2 p = some (.lst acc) → Qf p acc M2 → Q (.ref p) H2)
    (m : DSt) (M : DM) (r : R K m M σ H) (q : t m M fun src M1 => src.1.length ≤ sizeLine → ∀ p, M1 p = none → dLcGo src g tt te (dwipe m vs) p (Qf p) src.1 [] (mput M1 p (.lst []))) :
    tLc (upI K t) (upG K ws g) (upT K tt) (upE K te) vs σ H Q := by
  refine ⟨m, M, _, r, q, fun src M1 H1 J g1 m1 q1 st p np => ?_⟩
  have q2 := q1 st.small p (m1.free np)
  have g2 : Grow H1 (upd H1 p (.lst [])) := .new np
  refine ⟨fun i n H2 => i + n = src.1.length ∧ Grow H1 H2 ∧ ∃ acc M2, acc.length ≤ i ∧ M2 p = some (.lst acc) ∧ RM K H2 M2 ∧ dLcGo src g tt te (dwipe m vs) p (Qf p) (src.1.drop i) acc M2,
    ⟨src.1.length, by omega, g2, [], _, Nat.le_refl _, mput_same, m1.newLst np (Nat.zero_le _) .nil, q2⟩, ?_⟩
  rintro i n H2 ⟨hl, g3, acc, M2, ha, hp, m2, q3⟩
  have r2 : R K (dwipe m vs) M2 (wipe σ vs) H2 := (r.wipe vs).grow (g1.trans g3) m2
  by_cases hlt : i < src.1.length
  · rw [List.drop_eq_getElem_cons hlt] at q3
    obtain ⟨sv, q3⟩ := q3
    have so := sv.ok g3 m2
    refine .inr ⟨st.go i H2 so hlt, fun H3 => Grow H1 H3 ∧ ∃ acc M2, acc.length ≤ i + 1 ∧ M2 p = some (.lst acc) ∧ RM K H3 M2 ∧ dLcGo src g tt te (dwipe m vs) p (Qf p) (src.1.drop (i + 1)) acc M2,
      fun H3 ⟨g4, z⟩ => ⟨n - 1, by omega, by omega, g4, z⟩, fun x H3 y => ?_⟩
    obtain ⟨g4, k4, d, e4, rd⟩ := st.yld i H2 x H3 so hlt y
    have ed : d = src.1[i] := by
      rw [List.getElem?_eq_getElem hlt] at e4
      exact (Option.some.inj e4).symm
    subst ed
    refine ⟨_, _, M2, _, rd, r2.grow g4 (k4 _ m2), q3, fun m5 M5 σ5 H5 g5 r5 o5 q5 => ⟨wipe_off o5 hsub, ?_⟩⟩
    refine ⟨m5, M5, _, r5, q5, fun b M6 H6 g6 m6 q6 => ?_⟩
    have g06 : Grow H1 H6 := ((g3.trans g4).trans g5).trans g6
    cases b with
    | true =>
      refine ⟨m5, M6, _, r5.grow g6 m6, q6, fun y v M7 H7 g7 rv m7 ⟨e7, q7⟩ => ?_⟩
      obtain ⟨us, h8, z8, l8⟩ := m7.lst e7
      have hsz : us.length < sizeLine := by
        rw [← l8.length]
        exact Nat.lt_of_le_of_lt ha (Nat.lt_of_lt_of_le hlt st.small)
      refine ⟨us, h8, hsz, (g06.trans g7).trans (.put h8), acc ++ [y], _, by rw [List.length_append]; simp; omega, mput_same, m7.putLst h8 (by rw [List.length_append]; exact hsz) (l8.append (.one rv)), q7⟩
    | false =>
      have q6' : M6 p = some (.lst acc) ∧ dLcGo src g tt te (dwipe m vs) p (Qf p) (src.1.drop (i + 1)) acc M6 := q6
      exact ⟨g06, acc, M6, by omega, q6'.1, m6, q6'.2⟩
  · have e : i = src.1.length := by omega
    subst e
    rw [List.drop_length] at q3
    obtain ⟨us, h8, z8, l8⟩ := m2.lst hp
    exact .inl ⟨st.stop H2 (q3.1.ok g3 m2), fin p acc us M2 H2 (g1.trans g3) m2 h8 z8 l8 hp q3.2⟩
theorem d_lc (hc : X.calm = true) (hN : X.N.Nodup) (hi : DI X tg iter t) (ok : BlkOk X.N X.env.scope scope own) (hsub : ∀ i ∈ ws, i ∈ own.map (·.2))
    (hg : ∀ (s : Shared) (H : Hp) (C : Addr) (cl : List (Str × Addr)) (fp : List Addr), DG (X.blk s H scope (compEnvC scope cl C X.env) fp) ws tg g)
    (ht : ∀ (s : Shared) (H : Hp) (C : Addr) (cl : List (Str × Addr)) (fp : List Addr), DPTs (X.blk s H scope (compEnvC scope cl C X.env) fp) ifs tt)
    (he : ∀ (s : Shared) (H : Hp) (C : Addr) (cl : List (Str × Addr)) (fp : List Addr), DE (X.blk s H scope (compEnvC scope cl C X.env) fp) elt te)
    (hs : ∀ x, foldedSetIterable iter X.env x = pure x := by intro _; rfl) : DE X (.ListComp elt [⟨tg, iter, ifs, 0⟩] scope pos) (dLc t g tt te (own.map (·.2))) :=
  imE (pe_lc hc hN hi ok hg ht he hs) fun σ H Q ⟨m, M, Q', r, q, k⟩ =>
    lc_up (Qf := fun p _ M2 => Q' (.ref p) M2) hsub (fun p acc ws M2 H2 g2 m2 _ _ _ _ q2 => k _ _ M2 H2 g2 (.ref p) m2 q2) m M r q
theorem d_lcF (hc : X.calm = true) (hN : X.N.Nodup) (hi : DI X tg iter t) (ok : BlkOk X.N X.env.scope scope own) (hsub : ∀ i ∈ ws, i ∈ own.map (·.2))
    (hg : ∀ (s : Shared) (H : Hp) (C : Addr) (cl : List (Str × Addr)) (fp : List Addr), DG (X.blk s H scope (compEnvC scope cl C X.env) fp) ws tg g)
    (ht : ∀ (s : Shared) (H : Hp) (C : Addr) (cl : List (Str × Addr)) (fp : List Addr), DPTs (X.blk s H scope (compEnvC scope cl C X.env) fp) ifs tt)
    (he : ∀ (s : Shared) (H : Hp) (C : Addr) (cl : List (Str × Addr)) (fp : List Addr), DE (X.blk s H scope (compEnvC scope cl C X.env) fp) elt te)
    (hs : ∀ x, foldedSetIterable iter X.env x = pure x := by intro _; rfl) : DE X (.ListComp elt [⟨tg, iter, ifs, 0⟩] scope pos) (dLcF t g tt te (own.map (·.2))) :=
  imE (pe_fz (pe_lc hc hN hi ok hg ht he hs)) fun σ H Q ⟨m, M, Q', r, q, k⟩ =>
    lc_up (Qf := fun p acc M2 => Q' (.lst acc) (mdel M2 p)) hsub (fun p acc ws M2 H2 g2 m2 h8 z8 l8 _ q2 =>
      ⟨p, ws, rfl, h8, fun o => k _ _ _ _ (g2.trans (.put h8)) (.lst (.inl ⟨o, upd_same⟩) z8 (l8.grow (.put h8))) (m2.frz h8) q2⟩) m M r q
end

/-! ### defs -/
abbrev DSp := List D → DM → DVK → Prop
def upSp (K : PySem.W.Frag) (dsp : DSp) : Sp := fun vs H Q _ => ∃ ds M Q', RepL K H ds vs ∧ RM K H M ∧ dsp ds M Q' ∧
  ∀ d v M' H', Grow H H' → Rep K H' d v → RM K H' M' → Q' d M' → Q v H'
/-- the def x keeps the promise dsp -/
structure Cal (P : Program) (w : World) (K : PySem.W.Frag) (mg : Str → Option Value) (base : Heap) (k : Nat) (x : Str) (ps : List Str) (dsp : DSp) : Prop where
  ex : ∃ f fd, FnOk P w K mg base CX0 k f fd ps (upSp K dsp) ∧ mg x = some (.ref f) ∧ PySem.W.keepIn K (.ref f) = true ∧ Binds K fd ps []
/-- the def x as the top has left it -/
structure Def (K : PySem.W.Frag) (mg : Str → Option Value) (x : Str) (st : Stmt) (ps : List Str) : Prop where
  ex : ∃ f fd, Fun K x x st f fd ∧ mg x = some (.ref f) ∧ Binds K fd ps []
def dCall (dsp : DSp) (t : DTA) : DTE := fun m M Q => t m M fun ds M1 => dsp ds M1 Q
def ret (Q : DVK) : DVK := fun d M => ∃ M0, MLe M0 M ∧ Q d M0
theorem ret_of {Q : DVK} {d : D} {M : DM} (h : Q d M) : ret Q d M := ⟨M, .refl M, h⟩
theorem ret_le {Q : DVK} {d : D} {M M0 : DM} (l : MLe M0 M) (h : Q d M0) : ret Q d M := ⟨M0, l, h⟩
def dstart (N : List Str) (ds : List D) : DSt := ds.map some ++ List.replicate (N.length - ds.length) none
def dEnds (Q : DVK) : DEnds := { nx := fun _ M => ret Q .non M, rt := ret Q }
section
variable {P : Program} {w : World} {K : PySem.W.Frag} {mg : Str → Option Value} {base : Heap} {k j : Nat} {x : Str} {ps N : List Str} {dsp : DSp} {st : Stmt}
abbrev Ctx (P : Program) (w : World) (K : PySem.W.Frag) (mg : Str → Option Value) (base : Heap) (N : List Str) (x : Str) (st : Stmt) (f : Addr) (cdv : Value) (A : Around) (outer : List Env) (s : Shared) (H : Hp) (E : XK) : Cx :=
  (cxOf CX0 P w K mg base N x (defScope st) f cdv A outer s H E).nox
theorem start_slot {H : Hp} {ds : List D} {vs : List V} {n i : Nat} {d : D} (l : RepL K H ds vs) (e : (ds.map some ++ List.replicate (n - ds.length) none)[i]? = some (some d)) :
    ∃ v, (vs.map some ++ List.replicate (n - vs.length) none)[i]? = some (some v) ∧ Rep K H d v := by
  have hl := l.length
  by_cases hi : i < ds.length
  · rw [List.getElem?_append_left (by simpa using hi)] at e
    rw [List.getElem?_append_left (by simpa [← hl] using hi)]
    rw [List.getElem?_map] at e ⊢
    cases q : ds[i]? with
    | none => rw [q] at e; cases e
    | some d' =>
      rw [q] at e
      cases e
      obtain ⟨v, h1, h2⟩ := l.get q
      exact ⟨v, by rw [h1]; rfl, h2⟩
  · rw [List.getElem?_append_right (by simpa using hi), List.getElem?_replicate] at e
    split at e <;> cases e
/-- THE RULE for a def -/
theorem Def.cal (F : Def K mg x st ps) (S : FnScope N ps (defScope st)) (len : ∀ ds M Q, dsp ds M Q → ds.length = ps.length) {t : DTS}
    (body : ∀ (f : Addr) (cdv : Value) (A : Around) (outer : List Env) (s : Shared) (H : Hp) (E : XK), Room k (A.deeper (envOfC x (defScope st) s.heap.objs.size f cdv)) → DSs (Ctx P w K mg base N x st f cdv A outer s H E) (defBody st) t)
    (rd : ∀ ds M Q, dsp ds M Q → t (dEnds Q) (dstart N ds) M) : Cal P w K mg base (k + 1) x ps dsp := by
  obtain ⟨f, fd, F, hm, hb⟩ := F.ex
  refine ⟨f, fd, F.ok S (fun vs H Q E ⟨ds, M, Q', l, _, q, _⟩ => by rw [← l.length]; exact len ds M Q' q) (fun cdv A outer s H vs Q E hr ⟨ds, M, Q', l, m, q, kk⟩ => ?_), hm, F.kp, hb⟩
  refine ⟨_, body f cdv A outer s H E hr, dstart N ds, M, dEnds Q', ⟨?_, fun i d e => start_slot l e, m⟩, rd ds M Q' q,
    ⟨fun m1 M1 σ1 H1 g1 r1 ⟨M0, le, q1⟩ => kk _ _ M0 H1 g1 .non (r1.mem.le le) q1, fun _ _ _ _ _ _ z => z.elim, fun _ _ _ _ _ _ z => z.elim, fun d v M1 H1 g1 r1 m1 ⟨M0, le, q1⟩ => kk d v M0 H1 g1 r1 (m1.le le) q1⟩⟩
  simp [dstart, L2.start, l.length]
theorem Cal.mono (C : Cal P w K mg base j x ps dsp) (h : j ≤ k) : Cal P w K mg base k x ps dsp :=
  let ⟨f, fd, F, a, b, c⟩ := C.ex; ⟨f, fd, F.mono h, a, b, c⟩
/-- a weaker promise -/
theorem Cal.imp {dsp' : DSp} (C : Cal P w K mg base k x ps dsp) (h : ∀ ds M Q, dsp' ds M Q → dsp ds M Q) : Cal P w K mg base k x ps dsp' :=
  let ⟨f, fd, F, a, b, c⟩ := C.ex; ⟨f, fd, F.imp fun vs H Q E ⟨ds, M, Q', l, m, q, kk⟩ => ⟨ds, M, Q', l, m, h ds M Q' q, kk⟩, a, b, c⟩
end
section
variable {X : Cx} {k : Nat} {x : Str} {ps : List Str} {dsp : DSp} {e : Expr} {es : List Expr} {p pos : Pos} {t : DTA}
theorem call_up {σ : SL} {H : Hp} {Q : VK} (h : upE X.K (dCall dsp t) σ H Q) : tCall (upSp X.K dsp) [] E0 (upA X.K t) σ H Q := by
  obtain ⟨m, M, Q', r, q, kk⟩ := h
  refine ⟨m, M, _, r, q, fun ds vs M1 H1 g1 l1 m1 q1 => ?_⟩
  exact ⟨ds, M1, Q', by rw [List.append_nil]; exact l1, m1, q1, fun d v M2 H2 g2 => kk d v M2 H2 (g1.trans g2)⟩
theorem d_call (C : Cal X.prog X.w X.K X.mg X.base k x ps dsp) (hr : Room k X.A) (hg : Gl X x) (ha : DA X (e :: es) t) (hdb : (x == ("__debug__" : Str)) = false := by decide)
    (he : starEach (e :: es) X.env = (false, eval e X.env) :: starEach es X.env := by rfl) (hpl : (backTo pos (starEach es X.env)).any (·.1) = false := by rfl) : DE X (.Call (.Name x p) (e :: es) [] pos) (dCall dsp t) := by
  obtain ⟨f, fd, F, hm, hk, hb⟩ := C.ex
  exact imE (pe_call F hr hg hm hk hb .nil pass0 ha hdb he hpl) fun σ H Q h => call_up (σ := σ) (H := H) (Q := Q) h
theorem d_call0 (C : Cal X.prog X.w X.K X.mg X.base k x ps dsp) (hr : Room k X.A) (hg : Gl X x) (hdb : (x == ("__debug__" : Str)) = false := by decide) : DE X (.Call (.Name x p) [] [] pos) (dCall dsp dNil) := by
  obtain ⟨f, fd, F, hm, hk, hb⟩ := C.ex
  refine imE (pe_call0 F hr hg hm hk hb .nil pass0 hdb) fun σ H Q ⟨m, M, Q', r, q, kk⟩ => ?_
  exact ⟨[], M, Q', .nil, r.mem, q, kk⟩

/-! ### built-ins -/
abbrev DCR := List D → DM → DVK → Prop
def upC (K : PySem.W.Frag) (dr : DCR) : List V → Hp → VK → Prop := fun vs H Q => ∃ ds M Q', RepL K H ds vs ∧ RM K H M ∧ dr ds M Q' ∧
  ∀ d v M' H', Grow H H' → Rep K H' d v → RM K H' M' → Q' d M' → Q v H'
abbrev DCall (X : Cx) (f : Value) (dr : DCR) : Prop := CallR X f (upC X.K dr)
def dCB (dr : DCR) (t : DTA) : DTE := fun m M Q => t m M fun ds M1 => dr ds M1 Q
theorem cb_up {dr : DCR} {σ : SL} {H : Hp} {Q : VK} (h : upE X.K (dCB dr t) σ H Q) : tCB (upC X.K dr) (upA X.K t) σ H Q := by
  obtain ⟨m, M, Q', r, q, kk⟩ := h
  exact ⟨m, M, _, r, q, fun ds vs M1 H1 g1 l1 m1 q1 => ⟨ds, M1, Q', l1, m1, q1, fun d v M2 H2 g2 => kk d v M2 H2 (g1.trans g2)⟩⟩
theorem d_cb {id : String} {dr : DCR} (hc : DCall X (.builtin id) dr) (hg : Gl X x) (hm : X.mg x = none) (hv : bootBuiltins x = some (.builtin id)) (ha : DA X (e :: es) t) (hn : x ≠ "__name__" := by decide) (hdb : (x == ("__debug__" : Str)) = false := by decide)
    (he : starEach (e :: es) X.env = (false, eval e X.env) :: starEach es X.env := by rfl) (hpl : (backTo pos (starEach es X.env)).any (·.1) = false := by rfl) : DE X (.Call (.Name x p) (e :: es) [] pos) (dCB dr t) :=
  imE (pe_callB hc hg hm hv ha hn hdb he hpl) fun σ H Q h => cb_up (σ := σ) (H := H) (Q := Q) h
theorem d_ct {T : String} {dr : DCR} (hc : DCall X (.type T) dr) (hg : Gl X x) (hm : X.mg x = none) (hv : bootBuiltins x = some (.type T)) (ha : DA X (e :: es) t) (hn : x ≠ "__name__" := by decide) (hdb : (x == ("__debug__" : Str)) = false := by decide)
    (he : starEach (e :: es) X.env = (false, eval e X.env) :: starEach es X.env := by rfl) (hpl : (backTo pos (starEach es X.env)).any (·.1) = false := by rfl) : DE X (.Call (.Name x p) (e :: es) [] pos) (dCB dr t) :=
  imE (pe_callTy hc hg hm hv ha hn hdb he hpl) fun σ H Q h => cb_up (σ := σ) (H := H) (Q := Q) h
/-- a built-in function that a name of the module holds -/
theorem d_cm {id : String} {dr : DCR} (hc : DCall X (.builtin id) dr) (hg : Gl X x) (hm : X.mg x = some (.builtin id)) (ha : DA X (e :: es) t) (hdb : (x == ("__debug__" : Str)) = false := by decide)
    (he : starEach (e :: es) X.env = (false, eval e X.env) :: starEach es X.env := by rfl) (hpl : (backTo pos (starEach es X.env)).any (·.1) = false := by rfl) : DE X (.Call (.Name x p) (e :: es) [] pos) (dCB dr t) :=
  imE (pe_callBfun hc hg hm ha hdb he hpl) fun σ H Q h => cb_up (σ := σ) (H := H) (Q := Q) h
end
end DL
namespace DL
open PySem PySem.Spec PyProof.Rows L2

/-! ### data: what == reads -/
mutual
def D.py : D → PyData
  | .non => .none
  | .bl b => .bool b
  | .int i => .int i
  | .str x => .str x
  | .tup xs => .tuple (D.pys xs)
  | .lst xs => .list (D.pys xs)
  | .dct _ => .none
  | .ref _ => .none
  | .ty _ => .none
def D.pys : List D → List PyData
  | [] => []
  | x :: xs => D.py x :: D.pys xs
end
/-- plain data, at most n deep -/
def dOk : Nat → D → Bool
  | _, .non => true
  | _, .bl _ => true
  | _, .int _ => true
  | _, .str x => PyData.strOk x
  | n + 1, .tup xs => xs.all (dOk n)
  | n + 1, .lst xs => xs.all (dOk n)
  | _, _ => false
def D.eqv (x y : D) : Bool := PyData.eqv x.py y.py
theorem pys_len : ∀ xs : List D, (D.pys xs).length = xs.length
  | [] => rfl
  | _ :: xs => congrArg (· + 1) (pys_len xs)
theorem pys_map : ∀ xs : List D, D.pys xs = xs.map D.py
  | [] => by simp [D.pys]
  | x :: xs => by simp [D.pys, pys_map xs]
theorem lay_all : ∀ {n : Nat} {xs : List D}, (∀ x ∈ xs, x.py.canLay0 = true ∧ x.py.depth ≤ n) → PyData.canLayAll0 (D.pys xs) = true ∧ PyData.depthAll (D.pys xs) ≤ n
  | n, [], _ => by simp [D.pys, PyData.canLayAll0, PyData.depthAll]
  | n, x :: xs, h => by
    obtain ⟨h1, h2⟩ := h x (by simp)
    obtain ⟨h3, h4⟩ := lay_all (n := n) (xs := xs) fun y hy => h y (by simp [hy])
    simp only [D.pys, PyData.canLayAll0, PyData.depthAll, h1, h3, Bool.and_self, true_and]
    omega
theorem dOk_lay : ∀ (n : Nat) (d : D), dOk n d = true → d.py.canLay0 = true ∧ d.py.depth ≤ n
  | n, .non, _ => by simp [D.py, PyData.canLay0, PyData.depth]
  | n, .bl _, _ => by simp [D.py, PyData.canLay0, PyData.depth]
  | n, .int _, _ => by simp [D.py, PyData.canLay0, PyData.depth]
  | n, .str x, h => by
    have h' : PyData.strOk x = true := by
      cases n <;> exact h
    simp [D.py, PyData.canLay0, PyData.depth, h']
  | 0, .tup xs, h => by cases h
  | 0, .lst xs, h => by cases h
  | n + 1, .tup xs, h => by
    have h' : xs.all (dOk n) = true := h
    have z := lay_all (n := n) (xs := xs) fun x hx => dOk_lay n x (List.all_eq_true.mp h' x hx)
    simp only [D.py, PyData.canLay0, PyData.depth]
    exact ⟨z.1, Nat.succ_le_succ z.2⟩
  | n + 1, .lst xs, h => by
    have h' : xs.all (dOk n) = true := h
    have z := lay_all (n := n) (xs := xs) fun x hx => dOk_lay n x (List.all_eq_true.mp h' x hx)
    simp only [D.py, PyData.canLay0, PyData.depth]
    exact ⟨z.1, Nat.succ_le_succ z.2⟩
  | n, .dct _, h => by cases n <;> cases h
  | n, .ref _, h => by cases n <;> cases h
  | n, .ty _, h => by cases n <;> cases h
theorem dOk_shaped {n : Nat} {d : D} (h : dOk n d = true) (hn : n ≤ 64) : SeqAt.shaped d.py = true := by
  obtain ⟨h1, h2⟩ := dOk_lay n d h
  unfold SeqAt.shaped
  rw [h1, Bool.true_and]
  exact decide_eq_true (Nat.le_trans h2 hn)
theorem dOk_mono : ∀ {n m : Nat} {d : D}, dOk n d = true → n ≤ m → dOk m d = true
  | _, m, .non, _, _ => by cases m <;> rfl
  | _, m, .bl _, _, _ => by cases m <;> rfl
  | _, m, .int _, _, _ => by cases m <;> rfl
  | n, m, .str x, h, _ => by
    have h' : PyData.strOk x = true := by cases n <;> exact h
    cases m <;> exact h'
  | 0, _, .tup _, h, _ => by cases h
  | 0, _, .lst _, h, _ => by cases h
  | n + 1, 0, .tup xs, h, l => by omega
  | n + 1, 0, .lst xs, h, l => by omega
  | n + 1, m + 1, .tup xs, h, l => by
    have h' : xs.all (dOk n) = true := h
    show xs.all (dOk m) = true
    exact List.all_eq_true.mpr fun x hx => dOk_mono (List.all_eq_true.mp h' x hx) (Nat.le_of_succ_le_succ l)
  | n + 1, m + 1, .lst xs, h, l => by
    have h' : xs.all (dOk n) = true := h
    show xs.all (dOk m) = true
    exact List.all_eq_true.mpr fun x hx => dOk_mono (List.all_eq_true.mp h' x hx) (Nat.le_of_succ_le_succ l)
  | n, _, .dct _, h, _ => by cases n <;> cases h
  | n, _, .ref _, h, _ => by cases n <;> cases h
  | n, _, .ty _, h, _ => by cases n <;> cases h
section
variable {K : PySem.W.Frag} {H : Hp}
mutual
theorem Rep.dp : ∀ {n : Nat} {d : D} {v : V}, Rep K H d v → dOk n d = true → Dp K H v d.py
  | _, _, _, .non, _ => .non
  | _, _, _, .bl b, _ => .bl b
  | _, _, _, .int i, _ => .int i
  | _, _, _, .str x, _ => .str x
  | 0, _, _, .tup _ _ _, h => by cases h
  | 0, _, _, .lst _ _ _, h => by cases h
  | n + 1, _, _, .tup hs _ l, h => .tup hs (RepL.dp (n := n) l h)
  | n + 1, _, _, .lst hs _ l, h => .lst hs.seq (RepL.dp (n := n) l h)
  | n, _, _, .ref _, h => by cases n <;> cases h
  | n, _, _, .ty _, h => by cases n <;> cases h
  | n, _, _, .dct _ _ _, h => by cases n <;> cases h
theorem RepL.dp : ∀ {n : Nat} {ds : List D} {vs : List V}, RepL K H ds vs → ds.all (dOk n) = true → DpAll K H vs (D.pys ds)
  | _, _, _, .nil, _ => .nil
  | n, _, _, .cons r l, h => by
    rw [List.all_cons, Bool.and_eq_true] at h
    exact .cons (Rep.dp (n := n) r h.1) (RepL.dp (n := n) l h.2)
end
end
/-- == is identity where no truth value stands -/
def nobl : D → Bool
  | .bl _ => false
  | .tup xs => nobls xs
  | .lst xs => nobls xs
  | _ => true
where nobls : List D → Bool
  | [] => true
  | x :: xs => nobl x && nobls xs

/-! ### operators on data -/
section
variable {X : Cx}
def dEq : DR2 := fun x y M Q => (dOk 64 x = true ∧ dOk 64 y = true) ∧ Q (.bl (D.eqv x y)) M
def dNe : DR2 := fun x y M Q => (dOk 64 x = true ∧ dOk 64 y = true) ∧ Q (.bl (!D.eqv x y)) M
theorem o_eq (hu : X.A.units + 64 < cLine) : DOp X (compareOp .Eq) dEq := by
  intro pins s σ H x y v u Q I rx ry ⟨d, e, M, Q', r1, r2, m, ⟨⟨h1, h2⟩, q⟩, k⟩
  exact op_eqD hu pins s σ H x y v u Q I rx ry ⟨_, _, r1.dp h1, r2.dp h2, dOk_shaped h1 (Nat.le_refl _), dOk_shaped h2 (Nat.le_refl _), k _ _ M H (.refl H) (.bl _) m q⟩
theorem o_ne (hu : X.A.units + 64 < cLine) : DOp X (compareOp .NotEq) dNe := by
  intro pins s σ H x y v u Q I rx ry ⟨d, e, M, Q', r1, r2, m, ⟨⟨h1, h2⟩, q⟩, k⟩
  exact op_neD hu pins s σ H x y v u Q I rx ry ⟨_, _, r1.dp h1, r2.dp h2, dOk_shaped h1 (Nat.le_refl _), dOk_shaped h2 (Nat.le_refl _), k _ _ M H (.refl H) (.bl _) m q⟩
def D.isN : D → Bool
  | .non => true
  | _ => false
theorem Rep.isN {K : PySem.W.Frag} {H : Hp} {d : D} {v : V} (r : Rep K H d v) : decide (v = .non) = d.isN := by
  cases r <;> simp [D.isN]
def dIs : DR2 := fun x y M Q => y = .non ∧ Q (.bl x.isN) M
def dIsNot : DR2 := fun x y M Q => y = .non ∧ Q (.bl (!x.isN)) M
theorem o_is : DOp X (compareOp .Is) dIs := by
  intro pins s σ H x y v u Q I rx ry ⟨d, e, M, Q', r1, r2, m, ⟨h1, q⟩, k⟩
  subst h1
  cases r2
  exact op_isN pins s σ H x _ v u Q I rx ry ⟨rfl, by rw [r1.isN]; exact k _ _ M H (.refl H) (.bl _) m q⟩
theorem o_isnot : DOp X (compareOp .IsNot) dIsNot := by
  intro pins s σ H x y v u Q I rx ry ⟨d, e, M, Q', r1, r2, m, ⟨h1, q⟩, k⟩
  subst h1
  cases r2
  exact op_notN pins s σ H x _ v u Q I rx ry ⟨rfl, by rw [r1.isN]; exact k _ _ M H (.refl H) (.bl _) m q⟩
/-- x in a list or tuple of data -/
def dIn : DR2 := fun x y M Q => ∃ ys, dItems y M = some ys ∧ (dOk 63 x = true ∧ ys.all (dOk 63) = true) ∧ Q (.bl (ys.any fun z => D.eqv z x)) M
def dNotIn : DR2 := fun x y M Q => ∃ ys, dItems y M = some ys ∧ (dOk 63 x = true ∧ ys.all (dOk 63) = true) ∧ Q (.bl (!ys.any fun z => D.eqv z x)) M
theorem any_pys (x : D) : ∀ ys : List D, (D.pys ys).any (fun z => PyData.eqv z x.py) = ys.any fun z => D.eqv z x
  | [] => rfl
  | y :: ys => by
    rw [D.pys, List.any_cons, List.any_cons, any_pys x ys]
    rfl
theorem o_in (hu : X.A.units + 65 < cLine) : DOp X (compareOp .In) dIn := by
  intro pins s σ H x y v u Q I rx ry ⟨d, e, M, Q', r1, r2, m, ⟨ys, h1, ⟨h2, h3⟩, q⟩, k⟩
  have hs : SeqAt.shaped (PyData.list (D.pys ys)) = true := dOk_shaped (n := 64) (d := .lst ys) h3 (Nat.le_refl _)
  have hst : SeqAt.shaped (PyData.tuple (D.pys ys)) = true := dOk_shaped (n := 64) (d := .tup ys) h3 (Nat.le_refl _)
  have hx := dOk_shaped h2 (by decide)
  have fin := k _ _ M H (.refl H) (.bl _) m q
  rw [← any_pys] at fin
  obtain ⟨a, vs, rfl, z, l, ⟨h4, _⟩ | ⟨h4, _⟩⟩ := items_of r2 m h1
  · exact op_inD hu pins s σ H x _ v u Q I rx ry ⟨_, _, r1.dp h2, .lst h4 (l.dp h3), hx, hs, fin⟩
  · obtain ⟨as, q1⟩ := Dp.reads I _ x v (r1.dp h2) rx
    obtain ⟨bs, q2⟩ := Dp.reads I (.tuple (D.pys ys)) _ u (.tup h4 (l.dp h3)) ry
    exact SeqAt.in_tuple_reads q2 q1 (SeqAt.canLay_of_shaped hst) (SeqAt.canLay_of_shaped hx) (room_in_shaped hx hu) ⟨.bl _, H, I, rfl, fin⟩
theorem o_notin (hu : X.A.units + 65 < cLine) : DOp X (compareOp .NotIn) dNotIn := by
  intro pins s σ H x y v u Q I rx ry ⟨d, e, M, Q', r1, r2, m, ⟨ys, h1, ⟨h2, h3⟩, q⟩, k⟩
  have hs : SeqAt.shaped (PyData.list (D.pys ys)) = true := dOk_shaped (n := 64) (d := .lst ys) h3 (Nat.le_refl _)
  have hst : SeqAt.shaped (PyData.tuple (D.pys ys)) = true := dOk_shaped (n := 64) (d := .tup ys) h3 (Nat.le_refl _)
  have hx := dOk_shaped h2 (by decide)
  have fin := k _ _ M H (.refl H) (.bl _) m q
  rw [← any_pys] at fin
  obtain ⟨a, vs, rfl, z, l, ⟨h4, _⟩ | ⟨h4, _⟩⟩ := items_of r2 m h1
  · exact op_notInD hu pins s σ H x _ v u Q I rx ry ⟨_, _, r1.dp h2, .lst h4 (l.dp h3), hx, hs, fin⟩
  · obtain ⟨as, q1⟩ := Dp.reads I _ x v (r1.dp h2) rx
    obtain ⟨bs, q2⟩ := Dp.reads I (.tuple (D.pys ys)) _ u (.tup h4 (l.dp h3)) ry
    exact SeqAt.notIn_tuple_reads q2 q1 (SeqAt.canLay_of_shaped hst) (SeqAt.canLay_of_shaped hx) (room_in_shaped hx hu) ⟨.bl _, H, I, rfl, fin⟩
/-- xs[i] -/
def dIx : DR2 := fun x y M Q => ∃ xs i d, dItems x M = some xs ∧ y = .int i ∧ atI xs i = some d ∧ Q d M
theorem atI_rep {K : PySem.W.Frag} {H : Hp} {ds : List D} {vs : List V} {i : Int} {d : D} (l : RepL K H ds vs) (h : atI ds i = some d) : ∃ v, atI vs i = some v ∧ Rep K H d v := by
  unfold atI at h ⊢
  rw [← l.length]
  cases q : ixN ds.length i with
  | none => rw [q] at h; cases h
  | some j =>
    rw [q] at h
    exact l.get h
theorem x_ix : IxR X (upR2 X.K dIx) := by
  intro value slice pins s σ H x y v u Q I rx ry ⟨d, e, M, Q', r1, r2, m, ⟨xs, i, z, h1, h2, h3, q⟩, k⟩ hop
  subst h2
  cases r2
  obtain ⟨a, vs, rfl, zz, l, h⟩ := items_of r1 m h1
  obtain ⟨w, h4, h5⟩ := atI_rep l h3
  have fin := k _ _ M H (.refl H) h5 m q
  rcases h with ⟨h6, _⟩ | ⟨h6, _⟩
  · exact ix_list value slice pins s σ H _ _ v u Q I rx ry ⟨a, vs, i, w, rfl, rfl, h6, h4, fin⟩ hop
  · exact ix_tup value slice pins s σ H _ _ v u Q I rx ry ⟨a, vs, i, w, rfl, rfl, h6, h4, fin⟩ hop
theorem d_ix {r : DR2} {a b : Expr} {ta tb : DTE} {pos : Pos} (hr : IxR X (upR2 X.K r)) (ha : DE X a ta) (hb : DE X b tb) (hs : PlainIx b) : DE X (.Subscript a b pos) (dOp r ta tb) :=
  imE (pe_ix hr ha hb hs) fun σ H Q h => up_op (σ := σ) (H := H) (Q := Q) h
/-- -x -/
def dUn (r : D → DM → DVK → Prop) (ta : DTE) : DTE := fun m M Q => ta m M fun x M1 => r x M1 Q
def dNegI : D → DM → DVK → Prop := fun x M Q => ∃ i, x = .int i ∧ Q (.int (-i)) M
theorem d_neg {a : Expr} {ta : DTE} {pos : Pos} (ha : DE X a ta) : DE X (.UnaryOp .USub a pos) (dUn dNegI ta) :=
  imE (pe_un un_neg ha) fun σ H Q ⟨m, M, Q', r, q, k⟩ => by
    refine ⟨m, M, _, r, q, fun d v M1 H1 g1 r1 m1 ⟨i, e, q1⟩ => ?_⟩
    subst e
    cases r1
    exact ⟨i, rfl, k _ _ M1 H1 g1 (.int _) m1 q1⟩

/-! ### built-ins -/
def dLenOf : D → DM → Option Nat
  | .tup xs, _ => some xs.length
  | .lst xs, _ => some xs.length
  | .ref a, M => match M a with
    | some (.lst xs) => some xs.length
    | _ => none
  | .str z, _ => if z.length ≤ sizeLine then some z.length else none
  | _, _ => none
theorem dLenOf_ref {xs : List D} {M : DM} {a : Addr} (h : M a = some (.lst xs)) : dLenOf (.ref a) M = some xs.length := by
  simp [dLenOf, h]
def rLen : DCR := fun ds M Q => ∃ d n, ds = [d] ∧ dLenOf d M = some n ∧ Q (.int n) M
theorem len_items {d : D} {M : DM} {xs : List D} (h : dItems d M = some xs) : dLenOf d M = some xs.length := by
  cases d with
  | tup ys => cases h; rfl
  | lst ys => cases h; rfl
  | ref a =>
    have h' : (match M a with | some (.lst xs) => some xs | _ => none) = some xs := h
    show (match M a with | some (.lst xs) => some xs.length | _ => none) = some xs.length
    cases q : M a with
    | none => rw [q] at h'; cases h'
    | some o =>
      rw [q] at h'
      cases o with
      | lst ys => cases h'; rfl
      | dct _ _ => cases h'
      | tab _ => cases h'
      | dk _ => cases h'
  | _ => cases h
theorem c_len : DCall X (.builtin "len") rLen := by
  intro pins s σ H vs us Q I r ⟨ds, M, Q', l, m, ⟨d, n, e, h, q⟩, k⟩
  subst e
  obtain ⟨v, e, rv⟩ := repL_one l
  subst e
  have fin := k _ _ M H (.refl H) (.int _) m q
  cases hs : dItems d M with
  | some xs =>
    have e := len_items hs
    rw [h] at e
    cases e
    obtain ⟨a, ws, rfl, z, l, ⟨h4, _⟩ | ⟨h4, _⟩⟩ := items_of rv m hs
    · exact call_len_seq pins s σ H _ us Q I r ⟨a, ws, rfl, .inl h4, by rw [← l.length]; exact fin⟩
    · exact call_len_seq pins s σ H _ us Q I r ⟨a, ws, rfl, .inr h4, by rw [← l.length]; exact fin⟩
  | none =>
    cases rv with
    | str z =>
      by_cases hz : z.length ≤ sizeLine
      · have e : some z.length = some n := by
          rw [← h]
          simp [dLenOf, hz]
        cases e
        exact call_len_str pins s σ H _ us Q I r ⟨z, rfl, hz, fin⟩
      · simp [dLenOf, hz] at h
    | tup => cases hs
    | lst => cases hs
    | ref a =>
      have hs' : (match M a with | some (.lst xs) => some xs | _ => none) = none := hs
      have h' : (match M a with | some (.lst xs) => some xs.length | _ => none) = some n := h
      cases q : M a with
      | none => rw [q] at h'; cases h'
      | some o =>
        rw [q] at h' hs'
        cases o with
        | lst ys => cases hs'
        | dct _ _ => cases h'
        | tab _ => cases h'
        | dk _ => cases h'
    | _ => cases h
/-- .. with what is known of a list's length -/
def rLenB : DCR := fun ds M Q => ∃ d xs, ds = [d] ∧ dItems d M = some xs ∧ (xs.length ≤ 16777216 → Q (.int xs.length) M)
theorem c_lenB : DCall X (.builtin "len") rLenB := by
  intro pins s σ H vs us Q I r ⟨ds, M, Q', l, m, ⟨d, xs, e, h, q⟩, k⟩
  subst e
  obtain ⟨v, e, rv⟩ := repL_one l
  subst e
  obtain ⟨a, ws, _, z, l2, _⟩ := items_of rv m h
  have hz : xs.length ≤ 16777216 := by
    rw [l2.length]
    rw [sizeLine_eq] at z
    exact z
  exact c_len pins s σ H _ us Q I r ⟨[d], M, Q', l, m, ⟨d, _, rfl, len_items h, q hz⟩, k⟩
def rAbs : DCR := fun ds M Q => ∃ i : Int, ds = [.int i] ∧ Q (.int (if i < 0 then -i else i)) M
theorem c_abs : DCall X (.builtin "abs") rAbs := by
  intro pins s σ H vs us Q I r ⟨ds, M, Q', l, m, ⟨i, e, q⟩, k⟩
  subst e
  obtain ⟨v, e, rv⟩ := repL_one l
  subst e
  cases rv
  exact call_abs pins s σ H _ us Q I r ⟨i, rfl, k _ _ M H (.refl H) (.int _) m q⟩
def rMax2 : DCR := fun ds M Q => ∃ i j : Int, ds = [.int i, .int j] ∧ Q (.int (if j > i then j else i)) M
def rMin2 : DCR := fun ds M Q => ∃ i j : Int, ds = [.int i, .int j] ∧ Q (.int (if j < i then j else i)) M
theorem c_max2 (hc : X.calm = true) : DCall X (.builtin "max") rMax2 := by
  intro pins s σ H vs us Q I r ⟨ds, M, Q', l, m, ⟨i, j, e, q⟩, k⟩
  subst e
  obtain ⟨v, w, e, rv, rw'⟩ := repL_two l
  subst e
  cases rv
  cases rw'
  exact call_max2 hc pins s σ H _ us Q I r ⟨i, j, rfl, k _ _ M H (.refl H) (.int _) m q⟩
theorem c_min2 (hc : X.calm = true) : DCall X (.builtin "min") rMin2 := by
  intro pins s σ H vs us Q I r ⟨ds, M, Q', l, m, ⟨i, j, e, q⟩, k⟩
  subst e
  obtain ⟨v, w, e, rv, rw'⟩ := repL_two l
  subst e
  cases rv
  cases rw'
  exact call_min2 hc pins s σ H _ us Q I r ⟨i, j, rfl, k _ _ M H (.refl H) (.int _) m q⟩
def dIntOf : D → Option Int
  | .int i => some i
  | .bl b => some (if b then 1 else 0)
  | _ => none
def rInt : DCR := fun ds M Q => ∃ d i, ds = [d] ∧ dIntOf d = some i ∧ Q (.int i) M
theorem c_int : DCall X (.type "int") rInt := by
  intro pins s σ H vs us Q I r ⟨ds, M, Q', l, m, ⟨d, i, e, h, q⟩, k⟩
  subst e
  obtain ⟨v, e, rv⟩ := repL_one l
  subst e
  have fin := k _ _ M H (.refl H) (.int _) m q
  cases rv with
  | int j =>
    cases h
    exact call_int1 pins s σ H _ us Q I r (.inl ⟨_, rfl, fin⟩)
  | bl b =>
    cases h
    exact call_int1 pins s σ H _ us Q I r (.inr ⟨b, rfl, fin⟩)
  | _ => cases h
def rGcd : DCR := fun ds M Q => ∃ i j : Int, ds = [.int i, .int j] ∧ Q (.int ((Nat.gcd i.natAbs j.natAbs : Nat) : Int)) M
theorem c_gcd : DCall X (.builtin "math.gcd") rGcd := by
  intro pins s σ H vs us Q I r ⟨ds, M, Q', l, m, ⟨i, j, e, q⟩, k⟩
  subst e
  obtain ⟨v, w, e, rv, rw'⟩ := repL_two l
  subst e
  cases rv
  cases rw'
  exact cr_gcd pins s σ H _ us Q I r ⟨i, j, rfl, k _ _ M H (.refl H) (.int _) m q⟩
/-- tuple(x), list(x) -/
def rTuple : DCR := fun ds M Q => ∃ d xs, ds = [d] ∧ dItems d M = some xs ∧ Q (.tup xs) M
theorem c_tuple : DCall X (.type "tuple") rTuple := by
  intro pins s σ H vs us Q I r ⟨ds, M, Q', l, m, ⟨d, xs, e, h, q⟩, k⟩
  subst e
  obtain ⟨v, e, rv⟩ := repL_one l
  subst e
  obtain ⟨a, ws, rfl, z, l, ⟨h4, _⟩ | ⟨h4, h5⟩⟩ := items_of rv m h
  · exact call_tuple_of pins s σ H _ us Q I r ⟨a, ws, rfl, .inl ⟨h4, fun p hp => k _ _ M _ (.new hp) (.tup (.of upd_same) z (l.grow (.new hp))) (m.new hp) q⟩⟩
  · subst h5
    exact call_tuple_of pins s σ H _ us Q I r ⟨a, ws, rfl, .inr ⟨h4, k _ _ M H (.refl H) rv m q⟩⟩
def rList : DCR := fun ds M Q => ∃ d xs, ds = [d] ∧ dItems d M = some xs ∧ ∀ p, M p = none → Q (.ref p) (mput M p (.lst xs))
theorem c_list : DCall X (.type "list") rList := by
  intro pins s σ H vs us Q I r ⟨ds, M, Q', l, m, ⟨d, xs, e, h, q⟩, k⟩
  subst e
  obtain ⟨v, e, rv⟩ := repL_one l
  subst e
  obtain ⟨a, ws, rfl, z, l, h4⟩ := items_of rv m h
  refine call_list_of pins s σ H _ us Q I r ⟨a, ws, rfl, h4.elim (fun y => .inl y.1) fun y => .inr y.1, fun p hp => ?_⟩
  exact k _ _ _ _ (.new hp) (.ref p) (m.newLst hp z l) (q p (m.free hp))
/-- isinstance -/
def dTyN : D → DM → Option String
  | .non, _ => some "NoneType"
  | .bl _, _ => some "bool"
  | .int _, _ => some "int"
  | .str _, _ => some "str"
  | .tup _, _ => some "tuple"
  | .lst _, _ => some "list"
  | .dct _, _ => some "dict"
  | .ref a, M => match M a with
    | some (.lst _) => some "list"
    | some (.dk _) => some "dict"
    | _ => none
  | _, _ => none
theorem ty_of {K : PySem.W.Frag} {H : Hp} {M : DM} {d : D} {v : V} {n : String} (r : Rep K H d v) (m : RM K H M) (h : dTyN d M = some n) : TyX K H v (.type n) := by
  cases r with
  | non => cases h; exact .base .non
  | bl b => cases h; exact .base (.bl b)
  | int i => cases h; exact .base (.int i)
  | str x => cases h; exact .base (.str x)
  | tup hs _ _ =>
    cases h
    rcases hs with (h | ⟨o, h⟩) | ⟨o, _, _, h1, h2, _⟩
    · exact .base (.tup h)
    · exact .fTuple h
    · exact .kTuple h1 h2
  | lst hs _ _ =>
    cases h
    rcases hs with ⟨o, h⟩ | ⟨o, _, _, h1, h2, _⟩
    · exact .base (.frz h)
    · exact .kList h1 h2
  | ref a =>
    have h' : (match M a with | some (.lst _) => some "list" | some (.dk _) => some "dict" | _ => none) = some n := h
    cases q : M a with
    | none => rw [q] at h'; cases h'
    | some o =>
      rw [q] at h'
      cases o with
      | lst ys =>
        cases h'
        obtain ⟨vs, h1, _⟩ := m.lst q
        exact .base (.lst h1)
      | dct _ _ => cases h'
      | tab _ => cases h'
      | dk kvs =>
        cases h'
        obtain ⟨es, h1, _⟩ := m a _ q
        exact .base (.dK h1)
  | ty _ => cases h
  | dct hd _ _ =>
    cases h
    exact .fDict hd
/-- the types that stand here -/
def subT (a b : String) : Bool := a == b || (a == "bool" && b == "int")
def knownT (a : String) : Bool := a == "NoneType" || a == "bool" || a == "int" || a == "str" || a == "tuple" || a == "list" || a == "dict"
theorem kit_sub {a b : String} (ha : knownT a = true) (hb : knownT b = true) : kitB a b = some (subT a b) := by
  simp only [knownT, Bool.or_eq_true, beq_iff_eq] at ha hb
  rcases ha with (((((h | h) | h) | h) | h) | h) | h <;> subst h <;> rcases hb with (((((h | h) | h) | h) | h) | h) | h <;> subst h <;> decide +kernel
theorem tyN_known {d : D} {M : DM} {n : String} (h : dTyN d M = some n) : knownT n = true := by
  cases d with
  | ref a =>
    have h' : (match M a with | some (.lst _) => some "list" | some (.dk _) => some "dict" | _ => none) = some n := h
    cases q : M a with
    | none => rw [q] at h'; cases h'
    | some o =>
      rw [q] at h'
      cases o with
      | lst ys => cases h'; decide
      | dct _ _ => cases h'
      | tab _ => cases h'
      | dk _ => cases h'; decide
  | dct _ => cases h; decide
  | ty _ => cases h
  | _ => cases h; decide
def rIs : DCR := fun ds M Q => ∃ d T n, ds = [d, .ty T] ∧ knownT T = true ∧ dTyN d M = some n ∧ Q (.bl (subT n T)) M
theorem c_is : DCall X (.builtin "isinstance") rIs := by
  intro pins s σ H vs us Q I r ⟨ds, M, Q', l, m, ⟨d, T, n, e, hT, h, q⟩, k⟩
  subst e
  obtain ⟨v, w, e, rv, rw'⟩ := repL_two l
  subst e
  cases rw'
  exact call_isi pins s σ H _ us Q I r ⟨v, _, _, _, subT n T, rfl, .ty T, ty_of rv m h, kit_ty (kit_sub (tyN_known h) hT), k _ _ M H (.refl H) (.bl _) m q⟩
def tyNames : List D → Option (List String)
  | [] => some []
  | .ty T :: r => (tyNames r).map (T :: ·)
  | _ => none
theorem tyNames_map : ∀ {cs : List D} {Ts : List String}, tyNames cs = some Ts → cs = Ts.map D.ty
  | [], Ts, h => by
    cases h
    rfl
  | .ty T :: r, Ts, h => by
    have h' : (tyNames r).map (T :: ·) = some Ts := h
    cases q : tyNames r with
    | none => rw [q] at h'; cases h'
    | some Us =>
      rw [q] at h'
      cases h'
      rw [tyNames_map q]
      rfl
  | .non :: _, _, h => by cases h
  | .bl _ :: _, _, h => by cases h
  | .int _ :: _, _, h => by cases h
  | .str _ :: _, _, h => by cases h
  | .tup _ :: _, _, h => by cases h
  | .lst _ :: _, _, h => by cases h
  | .dct _ :: _, _, h => by cases h
  | .ref _ :: _, _, h => by cases h
def rIsT : DCR := fun ds M Q => ∃ (d : D) (cs : List D) (Ts : List String) (n : String), ds = [d, .tup cs] ∧ tyNames cs = some Ts ∧ Ts.all knownT = true ∧ dTyN d M = some n ∧ Q (.bl (Ts.any (subT n))) M
theorem kit_any {K : PySem.W.Frag} {n : String} (hn : knownT n = true) : ∀ {Ts : List String}, Ts.all knownT = true → PySem.W.kitAny K (.type n) (Ts.map Value.type) = some (Ts.any (subT n))
  | [], _ => kitAny_nil
  | T :: Ts, h => by
    rw [List.all_cons, Bool.and_eq_true] at h
    refine kitAny_cons (kit_ty (kit_sub hn h.1)) (fun e => ?_) fun e => ?_
    · rw [List.any_cons, e, Bool.false_or]
      exact kit_any hn h.2
    · rw [List.any_cons, e, Bool.true_or]
theorem ty_vals {K : PySem.W.Frag} {H : Hp} : ∀ {Ts : List String} {vs : List V} {its : List Value}, RepL K H (Ts.map D.ty) vs → Vals vs its → its = Ts.map Value.type
  | [], _, _, l, r => by
    cases l
    cases r
    rfl
  | T :: Ts, _, _, l, r => by
    cases l with
    | cons h t =>
      cases h
      cases r with
      | cons h2 t2 =>
        rw [ty_vals t t2, show _ = Value.type T from h2]
        rfl
theorem c_isT : DCall X (.builtin "isinstance") rIsT := by
  intro pins s σ H vs us Q I r ⟨ds, M, Q', l, m, ⟨d, cs, Ts, n, e, e0, hT, h, q⟩, k⟩
  subst e
  obtain ⟨v, w, e, rv, rw'⟩ := repL_two l
  subst e
  rw [tyNames_map e0] at rw'
  cases rw' with
  | tup hs _ l2 =>
    obtain ⟨u1, u2, rfl, r1, r2⟩ := vals2 r
    cases r2
    obtain ⟨P, Z, p, hx⟩ := kit_of I r1 (ty_of rv m h)
    obtain ⟨its, rr, ⟨⟨oc, od, dt, sl⟩, h1, h2, n', h3⟩, _⟩ := I.tuple hs
    simp only at h2 h3
    subst h2 h3
    have e3 := ty_vals l2 rr
    exact PySem.W.kia_tup Z I.kIn p h1 (by
      simp only [e3]
      exact kit_any (tyN_known h) hT) hx fun tk => ⟨.bl _, H, I.tok tk, rfl, k _ _ M H (.refl H) (.bl _) m q⟩
/-- both forms of isinstance -/
theorem DCall.or {f : Value} {r r' : DCR} (h : DCall X f r) (h' : DCall X f r') : DCall X f (fun ds M Q => r ds M Q ∨ r' ds M Q) := by
  intro pins s σ H vs us Q I rv z
  obtain ⟨ds, M, Q', l, m, q | q, k⟩ := z
  · exact h pins s σ H vs us Q I rv ⟨ds, M, Q', l, m, q, k⟩
  · exact h' pins s σ H vs us Q I rv ⟨ds, M, Q', l, m, q, k⟩
/-- a built-in type as a value -/
theorem d_ty {x : Str} {T : String} {pos : Pos} (hg : Gl X x) (hm : X.mg x = none) (hv : bootBuiltins x = some (.type T)) (hn : x ≠ "__name__" := by decide) (hd : (x == ("__debug__" : Str)) = false := by decide) : DE X (.Name x pos) (dC (.ty T)) :=
  d_c (v := .ty T) (pe_bltn hg hm hv rfl hn hd) fun _ _ => .ty T
/-- a module's constant -/
theorem d_gl {x : Str} {u : Value} {v : V} {d : D} {pos : Pos} (hg : Gl X x) (hm : X.mg x = some u) (rv : RelV v u) (hr : ∀ K H, Rep K H d v) (hd : (x == ("__debug__" : Str)) = false := by decide) : DE X (.Name x pos) (dC d) :=
  d_c (pe_glob hg hm rv hd) hr

/-! ### methods of lists -/
variable {o e : Expr} {es : List Expr} {to : DTE} {t : DTA} {name : Str} {apos cpos : Pos} {id : String}
abbrev DMR := D → List D → DM → DVK → Prop
def upM (K : PySem.W.Frag) (dr : DMR) : V → List V → Hp → VK → Prop := fun x vs H Q => ∃ d ds M Q', Rep K H d x ∧ RepL K H ds vs ∧ RM K H M ∧ dr d ds M Q' ∧
  ∀ d v M' H', Grow H H' → Rep K H' d v → RM K H' M' → Q' d M' → Q v H'
def dMt0 (dr : DMR) (to : DTE) : DTE := fun m M Q => to m M fun d M1 => (∃ xs, dItems d M1 = some xs ∧ d ≠ .tup xs) ∧ dr d [] M1 Q
def dMt (dr : DMR) (to : DTE) (t : DTA) : DTE := fun m M Q => to m M fun d M1 => (∃ xs, dItems d M1 = some xs ∧ d ≠ .tup xs) ∧ t m M1 fun ds M2 => dr d ds M2 Q
theorem tyV_lst {K : PySem.W.Frag} {H : Hp} {M : DM} {d : D} {v : V} (r : Rep K H d v) (m : RM K H M) (h : ∃ xs, dItems d M = some xs ∧ d ≠ .tup xs) : tyV K "list" v H := by
  obtain ⟨xs, h1, h2⟩ := h
  obtain ⟨a, vs, rfl, z, l, ⟨h4, _⟩ | ⟨_, h5⟩⟩ := items_of r m h1
  · exact .inl ⟨rfl, vs, h4⟩
  · exact absurd h5 h2
theorem d_mt0 {dr : DMR} (slot : Slot "list" name id) (hty : typeOf (.builtin id) = pure (.type "method_descriptor")) (hm : MtR X id (upM X.K dr)) (ho : DE X o to)
    (hbase : attributeBase o name X.env (eval o X.env) = eval o X.env := by rfl) (hline : (apos.endLine == cpos.line) = true := by rfl) : DE X (.Call (.Attribute o name apos) [] [] cpos) (dMt0 dr to) :=
  imE (pe_bm0 PySem.F.plainAttrs_list slot hty hm ho hbase hline) fun σ H Q ⟨m, M, Q', r, q, k⟩ => by
    refine ⟨m, M, _, r, q, fun d v M1 H1 g1 r1 m1 ⟨ty, q1⟩ => ⟨tyV_lst r1 m1 ty, d, [], M1, Q', r1, .nil, m1, q1, fun d v M2 H2 g2 => k d v M2 H2 (g1.trans g2)⟩⟩
theorem d_mt {dr : DMR} (slot : Slot "list" name id) (hty : typeOf (.builtin id) = pure (.type "method_descriptor")) (hm : MtR X id (upM X.K dr)) (ho : DE X o to) (ha : DA X (e :: es) t)
    (hbase : attributeBase o name X.env (eval o X.env) = eval o X.env := by rfl)
    (hfew : ((backTo cpos (starEach (e :: es) X.env)).all (fun x => !x.1) && (backToKw cpos (keywordEach [] X.env)).all (fun x => x.1.isSome)
      && decide ((e :: es).length + ([] : List Keyword).length + (if ([] : List Keyword).isEmpty then 0 else 1) < 30)) = true := by rfl)
    (hline : (apos.endLine == cpos.line) = true := by rfl) (hs : starEach (e :: es) X.env = (false, eval e X.env) :: starEach es X.env := by rfl) (hplain : (backTo cpos (starEach es X.env)).any (·.1) = false := by rfl) :
    DE X (.Call (.Attribute o name apos) (e :: es) [] cpos) (dMt dr to t) :=
  imE (pe_bm PySem.F.plainAttrs_list slot hty hm ho ha hbase hfew hline hs hplain) fun σ H Q ⟨m, M, Q', r, q, k⟩ => by
    refine ⟨m, M, _, r, q, fun d v M1 H1 g1 r1 m1 ⟨ty, q1⟩ => ⟨tyV_lst r1 m1 ty, m, M1, _, r.grow g1 m1, q1, fun ds vs M2 H2 g2 l2 m2 q2 => ?_⟩⟩
    exact ⟨d, ds, M2, Q', r1.grow g2, l2, m2, q2, fun d v M3 H3 g3 => k d v M3 H3 ((g1.trans g2).trans g3)⟩
def mAppend : DMR := fun d ds M Q => ∃ a xs y, d = .ref a ∧ ds = [y] ∧ M a = some (.lst xs) ∧ xs.length < sizeLine ∧ Q .non (mput M a (.lst (xs ++ [y])))
theorem m_append : MtR X "list.append" (upM X.K mAppend) := by
  intro pins s σ H x vs v us Q I rx rv ⟨d, ds, M, Q', r1, l, m, ⟨a, xs, y, e1, e2, h, hz, q⟩, k⟩
  subst e1
  subst e2
  cases r1
  obtain ⟨w, e, rw'⟩ := repL_one l
  subst e
  obtain ⟨ws, h1, z, l1⟩ := m.lst h
  refine mt_append pins s σ H _ _ v us Q I rx rv ⟨a, ws, w, rfl, rfl, h1, by rw [← l1.length]; exact hz, ?_⟩
  exact k _ _ _ _ (.put h1) .non (m.putLst h1 (by rw [List.length_append, ← l1.length]; exact hz) (l1.append (.one rw'))) q
def mPop : DMR := fun d ds M Q => ∃ a xs y, d = .ref a ∧ ds = [] ∧ M a = some (.lst xs) ∧ xs.getLast? = some y ∧ Q y (mput M a (.lst xs.dropLast))
theorem m_pop : MtR X "list.pop" (upM X.K mPop) := by
  intro pins s σ H x vs v us Q I rx rv ⟨d, ds, M, Q', r1, l, m, ⟨a, xs, y, e1, e2, h, hy, q⟩, k⟩
  subst e1
  subst e2
  cases r1
  cases l
  obtain ⟨ws, h1, z, l1⟩ := m.lst h
  rw [List.getLast?_eq_getElem?] at hy
  obtain ⟨w, h2, h3⟩ := l1.get hy
  rw [l1.length] at h2
  refine mt_pop pins s σ H _ _ v us Q I rx rv ⟨a, ws, w, rfl, rfl, h1, h2, ?_⟩
  exact k _ _ _ _ (.put h1) (h3.grow (.put h1)) (m.putLst h1 (by rw [List.length_dropLast]; omega) l1.dropLast) q
def mReverse : DMR := fun d ds M Q => ∃ a xs, d = .ref a ∧ ds = [] ∧ M a = some (.lst xs) ∧ Q .non (mput M a (.lst xs.reverse))
theorem m_reverse : MtR X "list.reverse" (upM X.K mReverse) := by
  intro pins s σ H x vs v us Q I rx rv ⟨d, ds, M, Q', r1, l, m, ⟨a, xs, e1, e2, h, q⟩, k⟩
  subst e1
  subst e2
  cases r1
  cases l
  obtain ⟨ws, h1, z, l1⟩ := m.lst h
  refine mt_reverse pins s σ H _ _ v us Q I rx rv ⟨a, ws, rfl, rfl, h1, ?_⟩
  exact k _ _ _ _ (.put h1) .non (m.putLst h1 (by rw [List.length_reverse]; exact z) l1.reverse) q
/-- xs[i] = v -/
def upSt (K : PySem.W.Frag) (t : D → D → D → DM → (DM → Prop) → Prop) : TSet := fun o i v H Q => ∃ d e y M Q', Rep K H d o ∧ Rep K H e i ∧ Rep K H y v ∧ RM K H M ∧ t d e y M Q' ∧
  ∀ M' H', Grow H H' → RM K H' M' → Q' M' → Q H'
abbrev DSet (X : Cx) (t : D → D → D → DM → (DM → Prop) → Prop) : Prop := PSet X (upSt X.K t)
def dSetL : D → D → D → DM → (DM → Prop) → Prop := fun o i v M Q => ∃ a xs k j, o = .ref a ∧ i = .int k ∧ M a = some (.lst xs) ∧ ixN xs.length k = some j ∧ Q (mput M a (.lst (xs.set j v)))
theorem s_lst : DSet X dSetL := by
  intro pins s σ H o i v ov iv u Q I ro ri rv ⟨d, e, y, M, Q', r1, r2, r3, m, ⟨a, xs, kk, j, e1, e2, h, hj, q⟩, k⟩
  subst e1
  subst e2
  cases r1
  cases r2
  obtain ⟨ws, h1, z, l1⟩ := m.lst h
  refine set_list pins s σ H _ _ v ov iv u Q I ro ri rv ⟨a, ws, kk, j, rfl, rfl, h1, by rw [← l1.length]; exact hj, ?_⟩
  exact k _ _ (.put h1) (m.putLst h1 (by rw [List.length_set]; exact z) (l1.set j r3)) q
/-- o[i] = e -/
def dPut (te to ti : DTE) (t : D → D → D → DM → (DM → Prop) → Prop) : DTS := fun Z m M => te m M fun v M1 => to m M1 fun d M2 => ti m M2 fun i M3 => t d i v M3 fun M4 => Z.nx m M4
theorem ds_put {i e : Expr} {te ti : DTE} {pos pos' : Pos} {tt : D → D → D → DM → (DM → Prop) → Prop} (he : DE X e te) (ho : DE X o to) (hi : DE X i ti) (hs : DSet X tt)
    (ha : ∀ v, assign (.Subscript o i pos) X.env v = (do
      let ov ← holding [v] (eval o X.env)
      let iv ← holding [v, ov] (eval i X.env)
      standAt pos
      holding [v, ov, iv] (setItem ov iv v)
      release [v, ov, iv] []) := by intro _; rfl)
    (hsw : swapsWithSole [.Subscript o i pos] e pos'.line X.env = pure false := by rfl) (hw : swappedStores [.Subscript o i pos] e X.env = pure none := by rfl)
    (h1 : (assignEach [.Subscript o i pos] X.env).map (·.2) = [assign (.Subscript o i pos) X.env] := by rfl) : DS X (.Assign [.Subscript o i pos] e pos') (dPut te to ti tt) :=
  imS (ps_asg he (pg_sub ho hi hs ha) hsw hw h1) fun Z σ H ⟨m, M, Z', r, q, k⟩ => by
    refine ⟨m, M, _, r, q, fun v x M1 H1 g1 r1 m1 q1 => ?_⟩
    refine ⟨m, M1, _, r.grow g1 m1, q1, fun d y M2 H2 g2 r2 m2 q2 => ?_⟩
    refine ⟨m, M2, _, r.grow (g1.trans g2) m2, q2, fun i z M3 H3 g3 r3 m3 q3 => ?_⟩
    refine ⟨d, i, v, M3, _, r2.grow g3, r3, r1.grow (g2.trans g3), m3, q3, fun M4 H4 g4 m4 q4 => ?_⟩
    have g := (g1.trans g2).trans (g3.trans g4)
    exact k.nx m M4 σ H4 g (r.grow g m4) q4
end
end DL
namespace DL
open PySem PySem.Spec PyProof.Rows L2
section
variable {X : Cx} {elt tg iter : Expr} {ifs : List Expr} {scope : Scope} {own : List (Str × Nat)} {pos spos py : Pos} {t : DTI} {g : DTG} {tt : DTT} {te : DTE} {ws : List Nat} {y : Str} {i : Nat}
/-- name = [..] on one line -/
theorem ds_setLc (hc : X.calm = true) (hN : X.N.Nodup) (hy : X.N[i]? = some y) (hyl : X.env.scope.names.lookup y = some .local)
    (hsw : swapsWith (.ListComp elt [⟨tg, iter, ifs, 0⟩] scope pos) (some (.Name y py)) spos.line X.env = pure true) (hi : DI X tg iter t) (ok : BlkOk X.N X.env.scope scope own) (hsub : ∀ i ∈ ws, i ∈ own.map (·.2))
    (hg : ∀ (s : Shared) (H : Hp) (C : Addr) (cl : List (Str × Addr)) (fp : List Addr), DG (X.blk s H scope (compEnvC scope cl C X.env) fp) ws tg g)
    (ht : ∀ (s : Shared) (H : Hp) (C : Addr) (cl : List (Str × Addr)) (fp : List Addr), DPTs (X.blk s H scope (compEnvC scope cl C X.env) fp) ifs tt)
    (he : ∀ (s : Shared) (H : Hp) (C : Addr) (cl : List (Str × Addr)) (fp : List Addr), DE (X.blk s H scope (compEnvC scope cl C X.env) fp) elt te)
    (hs : ∀ x, foldedSetIterable iter X.env x = pure x := by intro _; rfl) : DS X (.Assign [.Name y py] (.ListComp elt [⟨tg, iter, ifs, 0⟩] scope pos) spos) (dSet i (dLc t g tt te (own.map (·.2)))) :=
  imS (ps_setLc hc hN hy hyl hsw hi ok hg ht he hs) fun Z σ H ⟨m, M, Z', r, q, k⟩ =>
    lc_up (Qf := fun p _ M2 => Z'.nx (m.set i (some (.ref p))) M2) hsub (fun p acc ws M2 H2 g2 m2 _ _ _ _ q2 => k.nx _ M2 _ H2 g2 ((r.grow g2 m2).set (.ref p)) q2) m M r q
/-- behind a statement slot i's list is frozen -/
theorem ps_after {st : Stmt} {t : TS} (i : Nat) (h : PS X st t) : PS X st (fun Z σ H => t { Z with nx := fun σ' H' => ∃ p vs, σ'[i]? = some (some (.ref p)) ∧ H' p = some (.lst vs) ∧ ∀ o, Z.nx σ' (upd H' p (.frz o (.lst vs))) } σ H) := by
  refine ⟨fun pins s σ H Z I q => thn (h.run pins s σ H _ I q) fun f s1 q1 => ?_⟩
  cases f with
  | next =>
    obtain ⟨σ', H', I', p, vs, _, e2, q2⟩ := q1
    obtain ⟨o, I2⟩ := inv_frz I' e2
    exact ⟨σ', _, I2, q2 o⟩
  | ret v => exact q1
  | brk => exact q1
  | cont => exact q1
theorem ds_setLcF (hc : X.calm = true) (hN : X.N.Nodup) (hy : X.N[i]? = some y) (hyl : X.env.scope.names.lookup y = some .local)
    (hsw : swapsWith (.ListComp elt [⟨tg, iter, ifs, 0⟩] scope pos) (some (.Name y py)) spos.line X.env = pure true) (hi : DI X tg iter t) (ok : BlkOk X.N X.env.scope scope own) (hsub : ∀ i ∈ ws, i ∈ own.map (·.2))
    (hg : ∀ (s : Shared) (H : Hp) (C : Addr) (cl : List (Str × Addr)) (fp : List Addr), DG (X.blk s H scope (compEnvC scope cl C X.env) fp) ws tg g)
    (ht : ∀ (s : Shared) (H : Hp) (C : Addr) (cl : List (Str × Addr)) (fp : List Addr), DPTs (X.blk s H scope (compEnvC scope cl C X.env) fp) ifs tt)
    (he : ∀ (s : Shared) (H : Hp) (C : Addr) (cl : List (Str × Addr)) (fp : List Addr), DE (X.blk s H scope (compEnvC scope cl C X.env) fp) elt te)
    (hs : ∀ x, foldedSetIterable iter X.env x = pure x := by intro _; rfl) (hil : i < X.N.length := by exact Nat.le_of_ble_eq_true rfl) : DS X (.Assign [.Name y py] (.ListComp elt [⟨tg, iter, ifs, 0⟩] scope pos) spos) (dSet i (dLcF t g tt te (own.map (·.2)))) := by
  refine ⟨fun pins s σ H Z I h => (ps_after i (ps_setLc (wi := upI X.K t) (g := upG X.K ws g) (tt := upT X.K tt) (te := upE X.K te) hc hN hy hyl hsw hi ok hg ht he hs)).run pins s σ H Z I ?_⟩
  obtain ⟨m, M, Z', r, q, k⟩ := h
  have hσ : i < σ.length := by rw [I.len]; exact hil
  refine lc_up (Qf := fun p acc M2 => Z'.nx (m.set i (some (.lst acc))) (mdel M2 p)) hsub (fun p acc ws M2 H2 g2 m2 h8 z8 l8 _ q2 => ?_) m M r q
  refine ⟨p, ws, List.getElem?_set_self hσ, h8, fun o => k.nx _ _ _ _ (g2.trans (.put h8)) ?_ q2⟩
  exact (r.grow (g2.trans (.put h8)) (m2.frz h8)).set (.lst (.inl ⟨o, upd_same⟩) z8 (l8.grow (.put h8)))
theorem mput_self {M : DM} {a : Addr} {o : DO} (h : M a = some o) : mput M a o = M := by
  funext b
  unfold mput
  split
  · next e => rw [e, h]
  · rfl
end
end DL
namespace DL
open PySem PySem.Spec PyProof.Rows L2
/-! ### promises by the number of arguments -/
def ar0 (p : DM → DVK → Prop) : DSp := fun ds M Q => ds = [] ∧ p M Q
def ar1 (p : D → DM → DVK → Prop) : DSp := fun ds M Q => ∃ a, ds = [a] ∧ p a M Q
def ar2 (p : D → D → DM → DVK → Prop) : DSp := fun ds M Q => ∃ a b, ds = [a, b] ∧ p a b M Q
def ar3 (p : D → D → D → DM → DVK → Prop) : DSp := fun ds M Q => ∃ a b c, ds = [a, b, c] ∧ p a b c M Q
def ar4 (p : D → D → D → D → DM → DVK → Prop) : DSp := fun ds M Q => ∃ a b c d, ds = [a, b, c, d] ∧ p a b c d M Q
def ar5 (p : D → D → D → D → D → DM → DVK → Prop) : DSp := fun ds M Q => ∃ a b c d e, ds = [a, b, c, d, e] ∧ p a b c d e M Q
def ar6 (p : D → D → D → D → D → D → DM → DVK → Prop) : DSp := fun ds M Q => ∃ a b c d e f, ds = [a, b, c, d, e, f] ∧ p a b c d e f M Q
theorem len0 {p} {ds : List D} {M : DM} {Q : DVK} (h : ar0 p ds M Q) : ds.length = 0 := by obtain ⟨rfl, _⟩ := h; rfl
theorem len1 {p} {ds : List D} {M : DM} {Q : DVK} (h : ar1 p ds M Q) : ds.length = 1 := by obtain ⟨_, rfl, _⟩ := h; rfl
theorem len2 {p} {ds : List D} {M : DM} {Q : DVK} (h : ar2 p ds M Q) : ds.length = 2 := by obtain ⟨_, _, rfl, _⟩ := h; rfl
theorem len3 {p} {ds : List D} {M : DM} {Q : DVK} (h : ar3 p ds M Q) : ds.length = 3 := by obtain ⟨_, _, _, rfl, _⟩ := h; rfl
theorem len4 {p} {ds : List D} {M : DM} {Q : DVK} (h : ar4 p ds M Q) : ds.length = 4 := by obtain ⟨_, _, _, _, rfl, _⟩ := h; rfl
theorem len5 {p} {ds : List D} {M : DM} {Q : DVK} (h : ar5 p ds M Q) : ds.length = 5 := by obtain ⟨_, _, _, _, _, rfl, _⟩ := h; rfl
theorem len6 {p} {ds : List D} {M : DM} {Q : DVK} (h : ar6 p ds M Q) : ds.length = 6 := by obtain ⟨_, _, _, _, _, _, rfl, _⟩ := h; rfl
theorem hu_eq {k : Nat} {A : Around} (hr : Room k A) : A.units + 64 < cLine := hr.units
theorem hu_in {k : Nat} {A : Around} (hr : Room k A) : A.units + 65 < cLine := by
  have := hr.un
  omega
section
variable {P : Program} {w : World} {K : PySem.W.Frag} {mg : Str → Option Value} {base : Heap} {k : Nat} {x : Str} {ps N : List Str} {dsp : DSp} {st : Stmt}
/-- THE RULE for a def, its function object at hand -/
theorem fn_ok {f : Addr} {fd : FuncData} (F : Fun K x x st f fd) (S : FnScope N ps (defScope st)) (len : ∀ ds M Q, dsp ds M Q → ds.length = ps.length) {t : DTS}
    (body : ∀ (f : Addr) (cdv : Value) (A : Around) (outer : List Env) (s : Shared) (H : Hp) (E : XK), Room k (A.deeper (envOfC x (defScope st) s.heap.objs.size f cdv)) → DSs (Ctx P w K mg base N x st f cdv A outer s H E) (defBody st) t)
    (rd : ∀ ds M Q, dsp ds M Q → t (dEnds Q) (dstart N ds) M) : FnOk P w K mg base CX0 (k + 1) f fd ps (upSp K dsp) := by
  refine F.ok S (fun vs H Q E ⟨ds, M, Q', l, _, q, _⟩ => by rw [← l.length]; exact len ds M Q' q) (fun cdv A outer s H vs Q E hr ⟨ds, M, Q', l, m, q, kk⟩ => ?_)
  refine ⟨_, body f cdv A outer s H E hr, dstart N ds, M, dEnds Q', ⟨?_, fun i d e => start_slot l e, m⟩, rd ds M Q' q,
    ⟨fun m1 M1 σ1 H1 g1 r1 ⟨M0, le, q1⟩ => kk _ _ M0 H1 g1 .non (r1.mem.le le) q1, fun _ _ _ _ _ _ z => z.elim, fun _ _ _ _ _ _ z => z.elim, fun d v M1 H1 g1 r1 m1 ⟨M0, le, q1⟩ => kk d v M0 H1 g1 r1 (m1.le le) q1⟩⟩
  simp [dstart, L2.start, l.length]
end
/-- the law's own promise: for every list of at most 63 ints it gives True -/
def sp_law : DSp := ar1 fun a _ Q => ∃ ns : List Int, ns.length ≤ 63 ∧ a = .lst (ns.map D.int) ∧ ∀ M', Q (.bl true) M'
theorem law_start {K : PySem.W.Frag} {H : Hp} {a : Addr} {ns : List Int} {E : XK} (hl : ns.length ≤ 63) (hO : Only H) (hS : SqL K H a (ns.map V.int)) : upSp K sp_law [.ref a] H (fun v _ => v = .bl true) E := by
  have hz : (ns.map V.int).length ≤ sizeLine := by
    rw [List.length_map]
    have := sizeLine_eq
    omega
  have hf : FrzL K H a (ns.map V.int) := by
    rcases hS with (h | ⟨o, h⟩) | h
    · rcases hO a with z | ⟨o, xs, z⟩ <;> (rw [z] at h; cases h)
    · exact .inl ⟨o, h⟩
    · exact .inr h
  refine ⟨[.lst (ns.map D.int)], fun _ => none, fun d _ => d = .bl true, .one (.lst hf hz (repL_ints ns)), (fun b o e => nomatch e), ⟨_, rfl, ns, hl, rfl, fun _ => rfl⟩, fun d v M' H' _ r _ q => ?_⟩
  subst q
  cases r
  rfl
end DL
namespace DL
open PySem PySem.Spec PyProof.Rows L2
/-! ### what the readings' steps need, as rewriting -/
theorem eqv_int (i j : Int) : D.eqv (.int i) (.int j) = decide (i = j) := by
  simp [D.eqv, D.py, PyData.eqv, Bool.beq_eq_decide_eq]
theorem eqv_str (i j : Str) : D.eqv (.str i) (.str j) = decide (i = j) := by
  simp [D.eqv, D.py, PyData.eqv, Bool.beq_eq_decide_eq]
theorem eqv_bl (i j : Bool) : D.eqv (.bl i) (.bl j) = (i == j) := by
  simp [D.eqv, D.py, PyData.eqv]
theorem dItems_rf (a : Addr) (M : DM) : dItems (.ref a) M = match M a with
  | some (.lst xs) => some xs
  | _ => none := rfl
theorem dLenOf_tup (xs : List D) (M : DM) : dLenOf (.tup xs) M = some xs.length := rfl
theorem dLenOf_lst (xs : List D) (M : DM) : dLenOf (.lst xs) M = some xs.length := rfl
theorem dLenOf_rf (a : Addr) (M : DM) : dLenOf (.ref a) M = match M a with
  | some (.lst xs) => some xs.length
  | _ => none := rfl
theorem dLenOf_str (z : Str) (M : DM) : dLenOf (.str z) M = if z.length ≤ sizeLine then some z.length else none := rfl
theorem dTyN_non (M : DM) : dTyN .non M = some "NoneType" := rfl
theorem dTyN_bl (b : Bool) (M : DM) : dTyN (.bl b) M = some "bool" := rfl
theorem dTyN_int (b : Int) (M : DM) : dTyN (.int b) M = some "int" := rfl
theorem dTyN_str (b : Str) (M : DM) : dTyN (.str b) M = some "str" := rfl
theorem dTyN_tup (b : List D) (M : DM) : dTyN (.tup b) M = some "tuple" := rfl
theorem dTyN_lst (b : List D) (M : DM) : dTyN (.lst b) M = some "list" := rfl
theorem dTyN_dct (b : List (D × D)) (M : DM) : dTyN (.dct b) M = some "dict" := rfl
theorem dTyN_rf (a : Addr) (M : DM) : dTyN (.ref a) M = match M a with
  | some (.lst _) => some "list"
  | some (.dk _) => some "dict"
  | _ => none := rfl
theorem dIntOf_int (i : Int) : dIntOf (.int i) = some i := rfl
theorem dIntOf_bl (b : Bool) : dIntOf (.bl b) = some (if b then 1 else 0) := rfl
theorem dAt_tup (xs : List D) : dAt (.tup xs) = none := rfl
theorem dAt_lst (xs : List D) : dAt (.lst xs) = none := rfl
theorem dAt_rf (a : Addr) : dAt (.ref a) = some a := rfl
theorem isN_non : D.isN .non = true := rfl
theorem isN_bl (b : Bool) : D.isN (.bl b) = false := rfl
theorem isN_int (b : Int) : D.isN (.int b) = false := rfl
theorem isN_str (b : Str) : D.isN (.str b) = false := rfl
theorem isN_tup (b : List D) : D.isN (.tup b) = false := rfl
theorem isN_lst (b : List D) : D.isN (.lst b) = false := rfl
theorem isN_rf (b : Addr) : D.isN (.ref b) = false := rfl
theorem eqv_non : D.eqv .non .non = true := by
  simp [D.eqv, D.py, PyData.eqv]
theorem eqv_refl {n : Nat} {d : D} (h : dOk n d = true) : D.eqv d d = true := PySem.SeqAt.eqv_refl _ (dOk_lay n d h).1
@[simp] theorem dOk_int (n : Nat) (i : Int) : dOk n (.int i) = true := by cases n <;> rfl
@[simp] theorem dOk_bl (n : Nat) (i : Bool) : dOk n (.bl i) = true := by cases n <;> rfl
@[simp] theorem dOk_non (n : Nat) : dOk n .non = true := by cases n <;> rfl
theorem dOk_str (n : Nat) (x : Str) : dOk n (.str x) = PyData.strOk x := by cases n <;> rfl
@[simp] theorem dOk_tup (n : Nat) (xs : List D) : dOk (n + 1) (.tup xs) = xs.all (dOk n) := rfl
@[simp] theorem dOk_lst (n : Nat) (xs : List D) : dOk (n + 1) (.lst xs) = xs.all (dOk n) := rfl
theorem atI_0 {α : Type} (x : α) (xs : List α) : atI (x :: xs) 0 = some x := atI_nat (j := 0) rfl
theorem atI_1 {α : Type} (x y : α) (xs : List α) : atI (x :: y :: xs) 1 = some y := atI_nat (j := 1) rfl
theorem atI_2 {α : Type} (x y z : α) (xs : List α) : atI (x :: y :: z :: xs) 2 = some z := atI_nat (j := 2) rfl
theorem atI_3 {α : Type} (x y z u : α) (xs : List α) : atI (x :: y :: z :: u :: xs) 3 = some u := atI_nat (j := 3) rfl
theorem atI_4 {α : Type} (x y z u v : α) (xs : List α) : atI (x :: y :: z :: u :: v :: xs) 4 = some v := atI_nat (j := 4) rfl
theorem atI_5 {α : Type} (x y z u v w : α) (xs : List α) : atI (x :: y :: z :: u :: v :: w :: xs) 5 = some w := atI_nat (j := 5) rfl
theorem atI_n {α : Type} (xs : List α) (n : Nat) : atI xs (n : Int) = xs[n]? := by
  unfold atI ixN
  rw [if_pos (by omega)]
  by_cases h : n < xs.length
  · rw [if_pos (by omega)]
    simp
  · rw [if_neg (by omega), List.getElem?_eq_none (by omega)]
    rfl
theorem atI_neg1 {α : Type} (xs : List α) : atI xs (-1) = xs.getLast? := by
  cases xs with
  | nil => rfl
  | cons x r =>
    rw [List.getLast?_eq_getElem?]
    unfold atI ixN
    rw [if_neg (by omega), if_pos (by rw [List.length_cons]; omega)]
    show (x :: r)[(-1 + ((x :: r).length : Int)).toNat]? = _
    congr 1
    rw [List.length_cons]
    omega
/-! ### sizes -/
/-- x has at most B bits -/
def Ab (B : Nat) (x : Int) : Prop := x.natAbs < 2 ^ B
theorem Ab.mono {a b : Nat} {x : Int} (h : Ab a x) (l : a ≤ b) : Ab b x := Nat.lt_of_lt_of_le h (Nat.pow_le_pow_right (by decide) l)
theorem Ab.mul {a b : Nat} {x y : Int} (h : Ab a x) (k : Ab b y) : Ab (a + b) (x * y) := wide_lt h k
theorem Ab.add {a : Nat} {x y : Int} (h : Ab a x) (k : Ab a y) : Ab (a + 1) (x + y) := by
  unfold Ab at h k ⊢
  have := Int.natAbs_add_le x y
  rw [Nat.pow_succ]
  omega
theorem Ab.sub {a : Nat} {x y : Int} (h : Ab a x) (k : Ab a y) : Ab (a + 1) (x - y) := by
  unfold Ab at h k ⊢
  have : (x - y).natAbs ≤ x.natAbs + y.natAbs := by omega
  rw [Nat.pow_succ]
  omega
theorem Ab.neg {a : Nat} {x : Int} (h : Ab a x) : Ab a (-x) := by
  unfold Ab at h ⊢
  rw [Int.natAbs_neg]
  exact h
theorem Ab.cmul {a b : Nat} {x y : Int} (h : Ab a x) (k : Ab b y) (l : a + b ≤ 999998) : CMulA x y :=
  .inr <| .inr <| wide_mul (h.mono (Nat.le_succ a)) (k.mono (Nat.le_succ b)) (by omega) (by omega) (by omega)
theorem Ab.cdiv {a : Nat} {x y : Int} (h : Ab a y) (p : 0 < y) (l : a ≤ 8999) : CDivA x y := .inr <| wide_div p (h.mono (Nat.le_succ a)) (by omega) (by omega)
theorem Ab.le {a : Nat} {x y : Int} (h : Ab a y) (h0 : 0 ≤ x) (l : x ≤ y) : Ab a x := wide_le h0 l h
theorem Ab.small {x : Int} (h : -1024 < x) (k : x < 1024) : Ab 10 x := by
  unfold Ab
  omega
theorem Ab.of {a : Nat} {x : Int} (h : x.natAbs < 2 ^ a) : Ab a x := h

/-! ### loops, by what holds of the items that are left -/
theorem for_ind {src : Src} {g : DTG} {tb : DTS} {Z : DEnds} (V : List D → DSt → DM → Prop) (fin : ∀ m M, V [] m M → SrcV src M ∧ Z.nx m M)
    (step : ∀ d ds m M (Cn : DSt → DM → Prop), (∀ m' M', V ds m' M' → Cn m' M') → V (d :: ds) m M → SrcV src M ∧ g d m M fun m1 M1 => tb { Z with nx := fg Cn, ct := fg Cn, bk := Z.nx } m1 M1) :
    ∀ ds m M, V ds m M → dForGo src g tb Z ds m M
  | [], m, M, h => fin m M h
  | d :: ds, m, M, h => step d ds m M (dForGo src g tb Z ds) (for_ind V fin step ds) h
theorem lc_ind {src : Src} {g : DTG} {tt : DTT} {te : DTE} {m0 : DSt} {p : Addr} {Qd : List D → DM → Prop} (V : List D → List D → DM → Prop) (fin : ∀ acc M, V [] acc M → SrcV src M ∧ Qd acc M)
    (step : ∀ d ds acc M (Cn : List D → DM → Prop), (∀ acc' M', V ds acc' M' → Cn acc' M') → V (d :: ds) acc M → SrcV src M ∧ g d m0 M fun m1 M1 => tt m1 M1 fun b M2 =>
      if b = true then te m1 M2 fun y M3 => M3 p = some (.lst acc) ∧ Cn (acc ++ [y]) (mput M3 p (.lst (acc ++ [y]))) else M2 p = some (.lst acc) ∧ Cn acc M2) :
    ∀ ds acc M, V ds acc M → dLcGo src g tt te m0 p Qd ds acc M
  | [], acc, M, h => fin acc M h
  | d :: ds, acc, M, h => step d ds acc M (dLcGo src g tt te m0 p Qd ds) (lc_ind V fin step ds) h
theorem mput_le {M N : DM} {p : Addr} {o : DO} (l : MLe M N) (h : M p = none) : MLe M (mput N p o) := l.put h
/-- a comprehension whose tests and elements change nothing: over e x for the x of xs -/
theorem lcGo_pure {α : Type} {src : Src} {g : DTG} {tt : DTT} {te : DTE} {m0 : DSt} {p : Addr} {Qd : List D → DM → Prop} {M1 : DM} (e : α → D) (pr : α → Bool) (f : α → D) (hp : M1 p = none) (sv : SrcV src M1) :
    ∀ (xs : List α) (step : ∀ x ∈ xs, ∀ M, MLe M1 M → ∀ (C1 : D → DM → Prop) (C2 : DM → Prop), (pr x = true → C1 (f x) M) → (pr x = false → C2 M) → g (e x) m0 M fun m1 M1 => tt m1 M1 fun b M2 => if b = true then te m1 M2 C1 else C2 M2)
      (acc : List D), Qd (acc ++ (xs.filter pr).map f) (mput M1 p (.lst (acc ++ (xs.filter pr).map f))) → dLcGo src g tt te m0 p Qd (xs.map e) acc (mput M1 p (.lst acc))
  | [], _, acc, h => ⟨fun a e => MLe.put (.refl M1) hp a _ (sv a e), by simpa using h⟩
  | x :: xs, step, acc, h => by
    refine ⟨fun a e => MLe.put (.refl M1) hp a _ (sv a e), step x (by simp) _ (MLe.put (.refl M1) hp) _ _ (fun e => ⟨mput_same, ?_⟩) fun e => ⟨mput_same, ?_⟩⟩
    · rw [mput_mput]
      refine lcGo_pure _ pr f hp sv xs (fun d' h' => step d' (by simp [h'])) _ ?_
      rw [List.filter_cons_of_pos e, List.map_cons] at h
      simpa using h
    · refine lcGo_pure _ pr f hp sv xs (fun d' h' => step d' (by simp [h'])) _ ?_
      rw [List.filter_cons_of_neg (by simp [e])] at h
      exact h
theorem filter_all {α : Type} : ∀ l : List α, l.filter (fun _ => true) = l
  | [] => rfl
  | x :: l => by rw [List.filter_cons_of_pos rfl, filter_all l]
theorem lc_pure {α : Type} {src : Src} {g : DTG} {tt : DTT} {te : DTE} {m0 : DSt} {Qd : Addr → List D → DM → Prop} {M1 : DM} (xs : List α) (e : α → D) (pr : α → Bool) (f : α → D) (hx : src.1 = xs.map e) (sv : SrcV src M1)
    (step : ∀ x ∈ xs, ∀ M, MLe M1 M → ∀ (C1 : D → DM → Prop) (C2 : DM → Prop), (pr x = true → C1 (f x) M) → (pr x = false → C2 M) → g (e x) m0 M fun m1 M1 => tt m1 M1 fun b M2 => if b = true then te m1 M2 C1 else C2 M2)
    (h : ∀ p, M1 p = none → Qd p ((xs.filter pr).map f) (mput M1 p (.lst ((xs.filter pr).map f)))) : ∀ p, M1 p = none → dLcGo src g tt te m0 p (Qd p) src.1 [] (mput M1 p (.lst [])) := fun p hp => by
  have z := lcGo_pure (Qd := Qd p) e pr f hp sv xs step [] (by rw [List.nil_append]; exact h p hp)
  rw [← hx] at z
  exact z
/-- .. without a test -/
theorem lc_map {α : Type} {src : Src} {g : DTG} {te : DTE} {m0 : DSt} {Qd : Addr → List D → DM → Prop} {M1 : DM} (xs : List α) (e : α → D) (f : α → D) (hx : src.1 = xs.map e) (sv : SrcV src M1)
    (step : ∀ x ∈ xs, ∀ M, MLe M1 M → ∀ (C1 : D → DM → Prop), C1 (f x) M → g (e x) m0 M fun m1 M1 => te m1 M1 C1)
    (h : ∀ p, M1 p = none → Qd p (xs.map f) (mput M1 p (.lst (xs.map f)))) : ∀ p, M1 p = none → dLcGo src g dYes te m0 p (Qd p) src.1 [] (mput M1 p (.lst [])) :=
  lc_pure xs e (fun _ => true) f hx sv (fun x hd M l C1 C2 h1 _ => step x hd M l C1 (h1 rfl)) (by rw [filter_all]; exact h)
theorem seq_i {t u : DTS} {Z : DEnds} {m : DSt} {M : DM} (h : t { Z with nx := u Z } m M) : dSeq t u Z m M := h
/-- behind a statement with several ends: what holds at each of them -/
theorem seq_cut {t u : DTS} {Z : DEnds} {m : DSt} {M : DM} (P : DSt → DM → Prop) (h1 : ∀ Cn : DSt → DM → Prop, (∀ m' M', P m' M' → Cn m' M') → t { Z with nx := Cn } m M) (h2 : ∀ m' M', P m' M' → u Z m' M') : dSeq t u Z m M := h1 (u Z) h2
theorem MLe.trans {M N O : DM} (h : MLe M N) (k : MLe N O) : MLe M O := fun a o e => k a o (h a o e)
/-- what is new, and what stood -/
theorem MLe.with {M N : DM} {a : Addr} {o : DO} (l : MLe M N) (h : N a = some o) : MLe (mput M a o) N := fun b p e => by
  by_cases hb : b = a
  · subst hb
    rw [mput_same] at e
    cases e
    exact h
  · rw [mput_ne hb] at e
    exact l b p e
/-- a store to what is new -/
theorem MLe.store {M N : DM} {a : Addr} {o : DO} (l : MLe M N) (h : M a = none) : MLe M (mput N a o) := l.put h
theorem ne_of_fresh {M : DM} {a b : Addr} {o : DO} (h : M a = some o) (k : M b = none) : a ≠ b := fun e => by
  rw [e, k] at h
  cases h
theorem atI_lt {α : Type} {xs : List α} {i : Int} (h0 : 0 ≤ i) (h1 : i < xs.length) : ∃ x, x ∈ xs ∧ atI xs i = some x := by
  obtain ⟨n, rfl⟩ : ∃ n : Nat, i = n := ⟨i.toNat, by omega⟩
  have hn : n < xs.length := by omega
  exact ⟨xs[n], List.getElem_mem hn, by rw [atI_n, List.getElem?_eq_getElem hn]⟩
theorem atI_map {α β : Type} (f : α → β) (xs : List α) (i : Int) : atI (xs.map f) i = (atI xs i).map f := by
  unfold atI
  rw [List.length_map]
  cases ixN xs.length i with
  | none => rfl
  | some j => simp
theorem ixN_lt {n : Nat} {i : Int} (h0 : 0 ≤ i) (h1 : i < n) : ixN n i = some i.toNat := by
  unfold ixN
  rw [if_pos h0, if_pos h1]
theorem items_put {M : DM} {p : Addr} {o : DO} {d : D} (h : d ≠ .ref p) : dItems d (mput M p o) = dItems d M := by
  cases d with
  | ref a =>
    have : a ≠ p := fun e => h (e ▸ rfl)
    simp only [dItems, mput_ne this]
  | _ => rfl
/-- the empty promise -/
theorem Def.nil {P : Program} {w : World} {K : PySem.W.Frag} {mg : Str → Option Value} {base : Heap} {k : Nat} {x : Str} {ps : List Str} {st : Stmt} (F : Def K mg x st ps) : Cal P w K mg base k x ps (fun _ _ _ => False) := by
  obtain ⟨f, fd, F, hm, hb⟩ := F.ex
  exact ⟨f, fd, ⟨fun _ _ _ _ ⟨_, _, _, _, _, z, _⟩ => z.elim, fun _ _ _ _ _ _ _ _ _ _ _ _ _ ⟨_, _, _, _, _, z, _⟩ => z.elim⟩, hm, F.kp, hb⟩
/-- a list of draws: ints, whichever -/
def DrO (o : DO) : Prop := ∃ ks : List Int, o = .lst (ks.map D.int)
def Dr (M : DM) (p : Addr) : Prop := ∃ o, M p = some o ∧ DrO o
theorem dr_put {M : DM} {p : Addr} {o : DO} (h : DrO o) : Dr (mput M p o) p := ⟨o, mput_same, h⟩
theorem dr_at {M : DM} {p : Addr} {o : DO} (h : DrO o) (e : M p = some o) : Dr M p := ⟨o, e, h⟩
theorem dr_ne {M : DM} {p q : Addr} {o : DO} (h : Dr M p) (e : p ≠ q) : Dr (mput M q o) p := let ⟨o', h1, h2⟩ := h; ⟨o', by rw [mput_ne e]; exact h1, h2⟩
theorem Dr.le {M N : DM} {p : Addr} (h : Dr M p) (l : MLe M N) : Dr N p := let ⟨o, h1, h2⟩ := h; ⟨o, l _ _ h1, h2⟩
theorem Dr.some {M : DM} {p q : Addr} (h : Dr M p) (k : M q = none) : p ≠ q := let ⟨_, h1, _⟩ := h; ne_of_fresh h1 k
theorem srcV_none {xs : List D} {M : DM} : SrcV (xs, none) M := fun _ e => nomatch e
theorem fz_new {xs : List D} {M : DM} {Q : DVK} (h : Q (.lst xs) M) : ∀ p, M p = none → ∃ p' ds, D.ref p = .ref p' ∧ mput M p (.lst xs) p' = some (.lst ds) ∧ Q (.lst ds) (mdel (mput M p (.lst xs)) p') := fun p hp =>
  ⟨p, xs, rfl, mput_same, by rw [mdel_mput hp]; exact h⟩
end DL
namespace DL
open PySem PySem.Spec PyProof.Rows L2
section
variable {X : Cx} {e a b : Expr} {es : List Expr} {pos p apos cpos : Pos} {te ta tb : DTE} {t : DTA} {x : Str}

theorem items_kind {K : PySem.W.Frag} {H : Hp} {M : DM} {d : D} {v : V} {xs : List D} (r : Rep K H d v) (m : RM K H M) (e : dItems d M = some xs) :
    ∃ a vs, v = .ref a ∧ vs.length ≤ sizeLine ∧ RepL K H xs vs ∧ ((SqL K H a vs ∧ d ≠ .tup xs) ∨ (SqT K H a vs ∧ d = .tup xs)) := by
  cases r with
  | tup hT z l =>
    cases e
    exact ⟨_, _, rfl, z, l, .inr ⟨hT, rfl⟩⟩
  | lst hL z l =>
    cases e
    exact ⟨_, _, rfl, z, l, .inl ⟨hL.seq, fun q => nomatch q⟩⟩
  | ref a =>
    obtain ⟨a', vs, e1, z, l, ⟨h1, _⟩ | ⟨_, h2⟩⟩ := items_of (Rep.ref a) m e
    · exact ⟨a', vs, e1, z, l, .inl ⟨h1, fun q => nomatch q⟩⟩
    · cases h2
  | _ => cases e

/-! ### + of ints, texts, tuples -/
def dAdd : DR2 := fun x y M Q => match x, y with
  | .int i, .int j => Q (.int (i + j)) M
  | .str i, .str j => i.length + j.length ≤ 16777216 ∧ Q (.str (i ++ j)) M
  | .tup xs, .tup ys => xs.length + ys.length ≤ 16777216 ∧ Q (.tup (xs ++ ys)) M
  | _, _ => False
theorem o_addA : DOp X (binaryOp .Add) dAdd := by
  intro pins s σ H x y v u Q I rx ry ⟨d, e, M, Q', r1, r2, m, q, k⟩
  cases d with
  | int i =>
    cases e with
    | int j =>
      cases r1
      cases r2
      exact op_add pins s σ H _ _ v u Q I rx ry ⟨i, j, rfl, rfl, k _ _ M H (.refl H) (.int _) m q⟩
    | _ => exact q.elim
  | str i =>
    cases e with
    | str j =>
      cases r1
      cases r2
      obtain ⟨z, q⟩ := q
      exact op_add_str pins s σ H _ _ v u Q I rx ry ⟨i, j, rfl, rfl, by rw [sizeLine_eq]; exact z, k _ _ M H (.refl H) (.str _) m q⟩
    | _ => exact q.elim
  | tup xs =>
    cases e with
    | tup ys =>
      obtain ⟨z, q⟩ := q
      cases id r1 with
      | tup h1 z1 l1 =>
        cases id r2 with
        | tup h2 z2 l2 =>
          have hz : xs.length + ys.length ≤ sizeLine := by rw [sizeLine_eq]; exact z
          rw [l1.length, l2.length] at hz
          refine op_catA pins s σ H _ _ v u Q I rx ry ⟨_, _, _, _, rfl, rfl, h1, h2, hz, fun e1 => ?_, fun e1 e2 => ?_, fun e1 e2 p hp => ?_⟩
          · subst e1
            cases l1
            exact k _ _ M H (.refl H) r2 m q
          · subst e2
            cases l2
            rw [List.append_nil] at q
            exact k _ _ M H (.refl H) r1 m q
          · exact k _ _ M _ (.new hp) (.tup (.of upd_same) (by rw [List.length_append]; exact hz) ((l1.append l2).grow (.new hp))) (m.new hp) q
    | _ => exact q.elim
  | _ => exact q.elim

/-! ### + of lists -/
def rCatS (K : PySem.W.Frag) : R2 := fun x y H Q => ∃ a b xs ys, x = .ref a ∧ y = .ref b ∧ SqL K H a xs ∧ SqL K H b ys ∧ xs.length + ys.length ≤ sizeLine ∧
  ∀ p, H p = none → Q (.ref p) (upd H p (.lst (xs ++ ys)))
theorem op_catS : OpR X (binaryOp .Add) (rCatS X.K) := by
  intro pins s σ H x y v u Q I rx ry ⟨a, b, xs, ys, e1, e2, h1, h2, hz, q⟩
  subst e1
  subst e2
  cases rx
  cases ry
  obtain ⟨us, r1, pl1, _⟩ := I.list h1
  obtain ⟨ws, r2, pl2, _⟩ := I.list h2
  obtain ⟨⟨c1, dd1, dt1, sl1⟩, ho1, hc1, n1, hd1⟩ := pl1.isList
  obtain ⟨⟨c2, dd2, dt2, sl2⟩, ho2, hc2, n2, hd2⟩ := pl2.isList
  simp only at hc1 hd1 hc2 hd2
  subst hc1 hd1 hc2 hd2
  have hz' : us.toArray.size + ws.toArray.size ≤ sizeLine := by
    have y1 := r1.length
    have y2 := r2.length
    simp only [List.size_toArray]
    omega
  have ee : us.toArray ++ ws.toArray = (us ++ ws).toArray := by simp
  refine concat_meets ⟨_, ho1, rfl⟩ ⟨_, ho2, rfl⟩ noFill_list_add seq_list_add PySem.F.slot_list_add PySem.F.entry_list_add (PySem.F.args_list_add_2 _ _)
    (PyProof.Rows.list_addW a b us.toArray ws.toArray n1 n2 dd1 dd2 sl1 sl2 hz') ⟨ho1, ho2, ?_⟩
  rw [ee]
  exact ⟨.ref _, _, I.lnew (t' := s.toks) (r1.append r2) (by rw [List.length_append]; exact hz), rfl, q _ I.fresh⟩
/-- the items of two lists in a row -/
def dCat (ta tb : DTE) : DTE := fun m M Q => ta m M fun d M1 => tb m M1 fun e M2 => ∃ xs ys, dItems d M2 = some xs ∧ d ≠ .tup xs ∧ dItems e M2 = some ys ∧ e ≠ .tup ys ∧ xs.length + ys.length ≤ 16777216 ∧ ∀ p, M2 p = none → Q (.ref p) (mput M2 p (.lst (xs ++ ys)))
def dCatF (ta tb : DTE) : DTE := fun m M Q => ta m M fun d M1 => tb m M1 fun e M2 => ∃ xs ys, dItems d M2 = some xs ∧ d ≠ .tup xs ∧ dItems e M2 = some ys ∧ e ≠ .tup ys ∧ xs.length + ys.length ≤ 16777216 ∧ Q (.lst (xs ++ ys)) M2
theorem lst_of {K : PySem.W.Frag} {H : Hp} {M : DM} {d : D} {v : V} {xs : List D} (r : Rep K H d v) (m : RM K H M) (h : dItems d M = some xs) (h2 : d ≠ .tup xs) : ∃ a vs, v = .ref a ∧ vs.length ≤ sizeLine ∧ RepL K H xs vs ∧ SqL K H a vs := by
  obtain ⟨a, vs, e, z, l, ⟨h4, _⟩ | ⟨_, h5⟩⟩ := items_of r m h
  · exact ⟨a, vs, e, z, l, h4⟩
  · exact absurd h5 h2
theorem d_cat (ha : DE X a ta) (hb : DE X b tb) : DE X (.BinOp a .Add b pos) (dCat ta tb) :=
  imE (pe_op op_catS ha hb) fun σ H Q ⟨m, M, Q', r, q, k⟩ => by
    refine ⟨m, M, _, r, q, fun d v M1 H1 g1 r1 m1 q1 => ?_⟩
    refine ⟨m, M1, _, r.grow g1 m1, q1, fun e w M2 H2 g2 r2 m2 ⟨xs, ys, h1, h2, h3, h4, hz, q2⟩ => ?_⟩
    obtain ⟨a1, vs, rfl, z1, l1, s1⟩ := lst_of (r1.grow g2) m2 h1 h2
    obtain ⟨a2, ws, rfl, z2, l2, s2⟩ := lst_of r2 m2 h3 h4
    have hz' : vs.length + ws.length ≤ sizeLine := by rw [← l1.length, ← l2.length, sizeLine_eq]; exact hz
    refine ⟨a1, a2, vs, ws, rfl, rfl, s1, s2, hz', fun p hp => k _ _ _ _ ((g1.trans g2).trans (.new hp)) (.ref p) (m2.newLst hp (by rw [List.length_append]; exact hz') (l1.append l2)) (q2 p (m2.free hp))⟩
theorem d_catF (ha : DE X a ta) (hb : DE X b tb) : DE X (.BinOp a .Add b pos) (dCatF ta tb) :=
  imE (pe_fz (pe_op op_catS ha hb)) fun σ H Q ⟨m, M, Q', r, q, k⟩ => by
    refine ⟨m, M, _, r, q, fun d v M1 H1 g1 r1 m1 q1 => ?_⟩
    refine ⟨m, M1, _, r.grow g1 m1, q1, fun e w M2 H2 g2 r2 m2 ⟨xs, ys, h1, h2, h3, h4, hz, q2⟩ => ?_⟩
    obtain ⟨a1, vs, rfl, z1, l1, s1⟩ := lst_of (r1.grow g2) m2 h1 h2
    obtain ⟨a2, ws, rfl, z2, l2, s2⟩ := lst_of r2 m2 h3 h4
    have hz' : vs.length + ws.length ≤ sizeLine := by rw [← l1.length, ← l2.length, sizeLine_eq]; exact hz
    refine ⟨a1, a2, vs, ws, rfl, rfl, s1, s2, hz', fun p hp => ⟨p, _, rfl, upd_same, fun o => ?_⟩⟩
    rw [upd_upd]
    exact k _ _ _ _ ((g1.trans g2).trans (.new hp)) (.lst (.inl ⟨o, upd_same⟩) (by rw [List.length_append]; exact hz') ((l1.append l2).grow (.new hp))) (m2.new hp) q2

/-! ### slices -/
def cutD (xs : List D) (lo hi : Option Int) : List D := (xs.drop (HT.sIx xs.length 0 lo)).take (HT.sIx xs.length xs.length hi - HT.sIx xs.length 0 lo)
theorem RepL.cut {K : PySem.W.Frag} {H : Hp} {xs : List D} {vs : List V} (l : RepL K H xs vs) (lo hi : Option Int) : RepL K H (cutD xs lo hi) (cutV vs lo hi) := by
  unfold cutD cutV
  rw [l.length]
  exact (l.drop _).take _
theorem cutD_len (xs : List D) (lo hi : Option Int) : (cutD xs lo hi).length ≤ xs.length := by
  unfold cutD
  rw [List.length_take, List.length_drop]
  omega
theorem cutD_from (xs : List D) (k : Nat) : cutD xs (some (k : Int)) none = xs.drop k := by
  unfold cutD
  rw [HT.sIx_nat, HT.sIx_none, List.take_of_length_le (by rw [List.length_drop]; exact Nat.le_refl _)]
  by_cases h : k ≤ xs.length
  · rw [Nat.min_eq_left h]
  · rw [Nat.min_eq_right (by omega), List.drop_length, List.drop_eq_nil_of_le (by omega)]
theorem cutD_to (xs : List D) (k : Nat) : cutD xs none (some (k : Int)) = xs.take k := by
  unfold cutD
  rw [HT.sIx_nat, HT.sIx_none, List.drop_zero, Nat.sub_zero]
  by_cases h : k ≤ xs.length
  · rw [Nat.min_eq_left h]
  · rw [Nat.min_eq_right (by omega), List.take_length, List.take_of_length_le (by omega)]
theorem cutD_all (xs : List D) : cutD xs none none = xs := by
  unfold cutD
  rw [HT.sIx_none, HT.sIx_none, List.drop_zero, Nat.sub_zero, List.take_length]
abbrev DTO := DSt → DM → (Option Int → DM → Prop) → Prop
def upO (K : PySem.W.Frag) (t : DTO) : TO := fun σ H Q => ∃ m M Q', R K m M σ H ∧ t m M Q' ∧ ∀ o M' H', Grow H H' → RM K H' M' → Q' o M' → Q o H'
abbrev DPO (X : Cx) (e : Option Expr) (t : DTO) : Prop := PO X e (upO X.K t)
theorem imO {e : Option Expr} {t t' : TO} (h : PO X e t) (i : ∀ σ H Q, t' σ H Q → t σ H Q) : PO X e t' := ⟨fun pins s σ H Q I q => h.run pins s σ H Q I (i σ H Q q)⟩
def dNoP : DTO := fun _ M Q => Q none M
def dPart (te : DTE) : DTO := fun m M Q => te m M fun d M1 => ∃ i, d = .int i ∧ Q (some i) M1
theorem dp_none : DPO X none dNoP := imO po_none fun σ H Q ⟨m, M, Q', r, q, k⟩ => k _ M H (.refl H) r.mem q
theorem dp_some (h : DE X e te) : DPO X (some e) (dPart te) := imO (po_some h) fun σ H Q ⟨m, M, Q', r, q, k⟩ => by
  refine ⟨m, M, _, r, q, fun d v M1 H1 g1 r1 m1 ⟨i, e1, q1⟩ => ?_⟩
  subst e1
  cases r1
  exact ⟨i, rfl, k _ M1 H1 g1 m1 q1⟩
/-- of a tuple a tuple, of a list a list that stays -/
def dSl (te : DTE) (tl th : DTO) : DTE := fun m M Q => te m M fun d M1 => tl m M1 fun lo M2 => th m M2 fun hi M3 => ∃ xs, dItems d M3 = some xs ∧ (d = .tup xs → Q (.tup (cutD xs lo hi)) M3) ∧ (d ≠ .tup xs → Q (.lst (cutD xs lo hi)) M3)
def tFzO (t : TE) : TE := fun σ H Q => t σ H fun v H1 => Q v H1 ∨ ∃ p vs, v = .ref p ∧ H1 p = some (.lst vs) ∧ ∀ o, Q v (upd H1 p (.frz o (.lst vs)))
theorem pe_fzO {t : TE} (h : PE X e t) : PE X e (tFzO t) := by
  refine ⟨fun pins s σ H Q I q => thn (h.run pins s σ H _ I q) fun u s1 ⟨v, H1, I1, r1, q1⟩ => ?_⟩
  rcases q1 with q1 | ⟨p, vs, e1, e2, q1⟩
  · exact ⟨v, H1, I1, r1, q1⟩
  · obtain ⟨o, I2⟩ := inv_frz I1 e2
    exact ⟨v, _, I2, r1, q1 o⟩
variable {lo hi : Option Expr} {tl th : DTO} {p2 : Pos}
theorem d_sl (he : DE X e te) (hl : DPO X lo tl) (hh : DPO X hi th) : DE X (.Subscript e (.Slice lo hi none p2) pos) (dSl te tl th) :=
  imE (pe_fzO (pe_slice (sl_tupA.or sl_list) he hl hh)) fun σ H Q ⟨m, M, Q', r, q, k⟩ => by
    refine ⟨m, M, _, r, q, fun d v M1 H1 g1 r1 m1 q1 => ?_⟩
    refine ⟨m, M1, _, r.grow g1 m1, q1, fun o1 M2 H2 g2 m2 q2 => ?_⟩
    refine ⟨m, M2, _, r.grow (g1.trans g2) m2, q2, fun o2 M3 H3 g3 m3 ⟨xs, h1, q3, q4⟩ => ?_⟩
    have g := (g1.trans g2).trans g3
    have r3 := r1.grow (g2.trans g3)
    obtain ⟨a1, vs, rfl, z, l, ⟨h4, hnt⟩ | ⟨h4, h5⟩⟩ := items_kind r3 m3 h1
    · have nt : d ≠ .tup xs := hnt
      refine .inr ⟨a1, vs, rfl, h4, fun p hp => .inr ⟨p, _, rfl, upd_same, fun o => ?_⟩⟩
      rw [upd_upd]
      exact k _ _ _ _ (g.trans (.new hp)) (.lst (.inl ⟨o, upd_same⟩) (Nat.le_trans (cutV_length vs o1 o2) z) ((l.cut o1 o2).grow (.new hp))) (m3.new hp) (q4 nt)
    · refine .inl ⟨a1, vs, rfl, h4, fun w => .inl ?_, fun w p hp => .inl ?_⟩
      · have e5 : cutD xs o1 o2 = xs := by
          unfold cutD
          rw [l.length, w.1, w.2, List.drop_zero, Nat.sub_zero, ← l.length, List.take_length]
        have q5 := q3 h5
        rw [e5] at q5
        subst h5
        exact k _ _ M3 H3 g r3 m3 q5
      · exact k _ _ _ _ (g.trans (.new hp)) (.tup (.of upd_same) (Nat.le_trans (cutV_length vs o1 o2) z) ((l.cut o1 o2).grow (.new hp))) (m3.new hp) (q3 h5)
end
end DL
namespace DL
open PySem PySem.Spec PyProof.Rows L2
section
variable {X : Cx} {e a b o : Expr} {es : List Expr} {pos p apos cpos : Pos} {te ta tb to : DTE} {t : DTA} {x : Str} {tg l : Expr}

/-! ### signs of a text -/
def sgn (z : Str) (i : Int) : Option Str := (atI z.cps.toList i).map fun c => ⟨#[c]⟩
def dIxS : DR2 := fun x y M Q => match x with
  | .str z => ∃ i c, y = .int i ∧ z.length ≤ 16777216 ∧ sgn z i = some c ∧ Q (.str c) M
  | _ => dIx x y M Q
theorem x_ixS : IxR X (upR2 X.K dIxS) := by
  intro value slice pins s σ H x y v u Q I rx ry ⟨d, e, M, Q', r1, r2, m, q, k⟩ hop
  cases d with
  | str z =>
    obtain ⟨i, c, e1, hz, h, q⟩ := q
    subst e1
    cases r1
    cases r2
    unfold sgn at h
    cases w : atI z.cps.toList i with
    | none => rw [w] at h; cases h
    | some n =>
      rw [w] at h
      cases h
      exact ix_str value slice pins s σ H _ _ v u Q I rx ry ⟨z, i, n, rfl, rfl, by rw [sizeLine_eq]; exact hz, w, k _ _ M H (.refl H) (.str _) m q⟩ hop
  | _ => exact x_ix value slice pins s σ H _ _ v u Q I rx ry ⟨_, e, M, Q', r1, r2, m, q, k⟩ hop

/-! ### * of ints, of a text and an int -/
def srep (z : Str) (k : Nat) : Str := ⟨(List.replicate k z.cps.toList).flatten.toArray⟩
theorem foldl_apps (u : Array Nat) : ∀ (k : Nat) (acc : Array Nat), (List.replicate k u).foldl (· ++ ·) acc = (acc.toList ++ (List.replicate k u.toList).flatten).toArray
  | 0, acc => by simp
  | k + 1, acc => by
    rw [List.replicate_succ, List.foldl_cons, foldl_apps u k (acc ++ u), List.replicate_succ, List.flatten_cons]
    simp
theorem srep_1 (z : Str) : srep z 1 = z := Str.ext' (by simp [srep])
theorem srep_0 (z : Str) : srep z 0 = Str.empty := Str.ext' (by simp [srep, Str.empty])
theorem srep_len (z : Str) (k : Nat) : (srep z k).length = z.length * k := by
  simp [srep, Str.length, Nat.mul_comm]
def dMulA : DR2 := fun x y M Q => match x, y with
  | .int i, .int j => CMulA i j ∧ Q (.int (i * j)) M
  | .str z, .int k => (0 ≤ k ∧ k ≤ 1000000) ∧ z.length * k.toNat ≤ 16777216 ∧ Q (.str (srep z k.toNat)) M
  | _, _ => False
theorem o_mulA : DOp X (binaryOp .Mult) dMulA := by
  intro pins s σ H x y v u Q I rx ry ⟨d, e, M, Q', r1, r2, m, q, k⟩
  cases d with
  | int i =>
    cases e with
    | int j => exact o_mul pins s σ H x y v u Q I rx ry ⟨_, _, M, Q', r1, r2, m, ⟨i, j, rfl, rfl, q.1, q.2⟩, k⟩
    | _ => exact q.elim
  | str z =>
    cases e with
    | int n =>
      cases r1
      cases r2
      obtain ⟨t1, rfl⟩ := rx
      obtain ⟨t2, rfl⟩ := ry
      obtain ⟨⟨n0, n1⟩, hz, q⟩ := q
      have fin : ∀ (w : Value) (kk : Nat), RelV (V.str (srep z n.toNat)) w → EP X pins σ Q w { s with toks := kk } := fun w kk hr => ⟨_, H, I.tok kk, hr, k _ _ M H (.refl H) (.str _) m q⟩
      refine PySem.P.mul_str ?_ (fun h1 h2 => ?_) (fun h1 h2 => ?_) ?_
      · rw [decide_eq_false (by omega), decide_eq_false (by omega)]
        rfl
      · rw [Bool.or_eq_false_iff] at h2
        have hn : ¬ n = 1 := by simpa using h2.1
        have : (z.length : Int) ≤ 16777216 := by
          have : 1 ≤ n.toNat := by omega
          have := Nat.mul_le_mul_left z.length this
          omega
        intro hc
        have hb : (2 ^ 63 - 1) / n ≥ 16777216 := by
          apply Int.le_ediv_of_mul_le (by omega)
          omega
        omega
      · exact PyProof.Rows.short24 (by omega)
      · by_cases h1 : n < 1
        · rw [if_pos h1]
          have : n = 0 := by omega
          subst this
          exact ⟨by decide, fin _ _ ⟨_, by rw [show (0 : Int).toNat = 0 from rfl, srep_0] <;> rfl⟩⟩
        · rw [if_neg h1]
          split
          · next h2 =>
            have e1 : srep z n.toNat = z := by
              rw [Bool.or_eq_true] at h2
              rcases h2 with h2 | h2
              · have : n = 1 := by simpa using h2
                subst this
                exact srep_1 z
              · have h3 : z.length = 0 := by simpa using h2
                refine Str.ext' ?_
                have h4 : z.cps = #[] := by
                  have h5 : z.cps.size = 0 := h3
                  exact Array.eq_empty_of_size_eq_zero h5
                simp [srep, h4]
            exact fin _ s.toks ⟨_, by rw [e1] <;> rfl⟩
          · next h2 =>
            have e1 : (⟨(List.replicate n.toNat z.cps).foldl (· ++ ·) #[]⟩ : Str) = srep z n.toNat := by
              refine Str.ext' ?_
              show (List.replicate n.toNat z.cps).foldl (· ++ ·) #[] = _
              rw [foldl_apps]
              simp [srep]
            rw [e1]
            refine ⟨?_, fin _ _ ⟨_, rfl⟩⟩
            show (srep z n.toNat).length ≤ sizeLine
            rw [srep_len, sizeLine_eq]
            exact hz
    | _ => exact q.elim
  | _ => exact q.elim
/-- a list that was just made, times an int -/
def dRep (ta tb : DTE) : DTE := fun m M Q => ta m M fun d M1 => tb m M1 fun e M2 => ∃ p xs k, d = .ref p ∧ e = .int k ∧ M2 p = some (.lst xs) ∧ (0 ≤ k ∧ k ≤ 1000000) ∧ xs.length * k.toNat ≤ 16777216 ∧ ∀ q, M2 q = none → Q (.ref q) (mput M2 q (.lst (List.replicate k.toNat xs).flatten))
theorem RepL.rep {K : PySem.W.Frag} {H : Hp} {xs : List D} {vs : List V} (l : RepL K H xs vs) : ∀ n : Nat, RepL K H (List.replicate n xs).flatten (List.replicate n vs).flatten
  | 0 => .nil
  | n + 1 => by
    rw [List.replicate_succ, List.flatten_cons, List.replicate_succ, List.flatten_cons]
    exact l.append (l.rep n)
theorem rep_len {α : Type} (xs : List α) (n : Nat) : (List.replicate n xs).flatten.length = xs.length * n := by
  simp [Nat.mul_comm]
theorem d_rep (ha : DE X a ta) (hb : DE X b tb) : DE X (.BinOp a .Mult b pos) (dRep ta tb) :=
  imE (pe_op op_rep ha hb) fun σ H Q ⟨m, M, Q', r, q, k⟩ => by
    refine ⟨m, M, _, r, q, fun d v M1 H1 g1 r1 m1 q1 => ?_⟩
    refine ⟨m, M1, _, r.grow g1 m1, q1, fun e w M2 H2 g2 r2 m2 ⟨p, xs, n, e1, e2, h1, hn, hz, q2⟩ => ?_⟩
    subst e1
    subst e2
    cases r1
    cases r2
    obtain ⟨vs, h3, z, l⟩ := m2.lst h1
    have hz' : vs.length * n.toNat ≤ sizeLine := by rw [← l.length, sizeLine_eq]; exact hz
    refine ⟨p, n, vs, rfl, rfl, h3, by omega, by omega, hz', fun q' hq => ?_⟩
    exact k _ _ _ _ ((g1.trans g2).trans (.new hq)) (.ref q') (m2.newLst hq (by rw [rep_len]; exact hz') (l.rep n.toNat)) (q2 q' (m2.free hq))

/-! ### sep.join(list or tuple of texts) -/
def dJoin (to : DTE) (t : DTA) : DTE := fun m M Q => to m M fun d M1 => ∃ a, d = .str a ∧ t m M1 fun ds M2 => ∃ y ys, ds = [y] ∧ dItems y M2 = some (ys.map D.str) ∧ (ys.map (·.length)).sum + ys.length * a.length ≤ 16777216 ∧ Q (.str (Txt.join a ys)) M2
theorem strs_rep {K : PySem.W.Frag} {H : Hp} : ∀ {ys : List Str} {vs : List V}, RepL K H (ys.map D.str) vs → vs = ys.map V.str
  | [], _, h => by
    cases h
    rfl
  | y :: ys, _, h => by
    cases h with
    | cons h1 h2 =>
      cases h1
      rw [strs_rep h2]
      rfl
theorem d_join (ho : DE X o to) (ha : DA X (e :: es) t)
    (hbase : attributeBase o "join" X.env (eval o X.env) = eval o X.env := by rfl)
    (hfew : ((backTo cpos (starEach (e :: es) X.env)).all (fun x => !x.1) && (backToKw cpos (keywordEach [] X.env)).all (fun x => x.1.isSome)
      && decide ((e :: es).length + ([] : List Keyword).length + (if ([] : List Keyword).isEmpty then 0 else 1) < 30)) = true := by rfl)
    (hline : (apos.endLine == cpos.line) = true := by rfl) (hs : starEach (e :: es) X.env = (false, eval e X.env) :: starEach es X.env := by rfl) (hplain : (backTo cpos (starEach es X.env)).any (·.1) = false := by rfl) :
    DE X (.Call (.Attribute o "join" apos) (e :: es) [] cpos) (dJoin to t) :=
  imE (pe_bm PySem.F.plainAttrs_str PySem.F.slot_str_join PySem.F.type_str_join mt_join ho ha hbase hfew hline hs hplain) fun σ H Q ⟨m, M, Q', r, q, k⟩ => by
    refine ⟨m, M, _, r, q, fun d v M1 H1 g1 r1 m1 ⟨a, e1, q1⟩ => ?_⟩
    subst e1
    cases r1
    refine ⟨rfl, m, M1, _, r.grow g1 m1, q1, fun ds vs M2 H2 g2 l2 m2 ⟨y, ys, e2, h1, hz, q2⟩ => ?_⟩
    subst e2
    obtain ⟨w, e3, rw'⟩ := repL_one l2
    subst e3
    obtain ⟨a2, ws, rfl, z, l3, h4⟩ := items_of rw' m2 h1
    rw [strs_rep l3] at h4
    exact ⟨a, a2, ys, rfl, rfl, h4.elim (fun h => .inl h.1) fun h => .inr h.1, hz, k _ _ M2 H2 (g1.trans g2) (.str _) m2 q2⟩

/-! ### lists: extend, index -/
def mExtend : DMR := fun d ds M Q => ∃ a b xs zs, d = .ref a ∧ ds = [.ref b] ∧ M a = some (.lst xs) ∧ M b = some (.lst zs) ∧ xs.length + zs.length ≤ 16777216 ∧ Q .non (mput M a (.lst (xs ++ zs)))
theorem m_extend : MtR X "list.extend" (upM X.K mExtend) := by
  intro pins s σ H x vs v us Q I rx rv ⟨d, ds, M, Q', r1, l, m, ⟨a, b, xs, zs, e1, e2, h, hb, hz, q⟩, k⟩
  subst e1
  subst e2
  cases r1
  obtain ⟨w, e, rw'⟩ := repL_one l
  subst e
  cases rw'
  obtain ⟨ws, h1, z, l1⟩ := m.lst h
  obtain ⟨us2, h2, z2, l2⟩ := m.lst hb
  have hz' : ws.length + us2.length ≤ sizeLine := by rw [← l1.length, ← l2.length, sizeLine_eq]; exact hz
  refine mt_extend pins s σ H _ _ v us Q I rx rv ⟨a, b, ws, us2, rfl, rfl, h1, h2, hz', ?_⟩
  exact k _ _ _ _ (.put h1) .non (m.putLst h1 (by rw [List.length_append]; exact hz') (l1.append l2)) q
def mIndex : DMR := fun d ds M Q => ∃ xs y j z, ds = [y] ∧ dItems d M = some xs ∧ d ≠ .tup xs ∧ (dOk 63 y = true ∧ xs.all (dOk 63) = true) ∧ xs[j]? = some z ∧ D.eqv z y = true ∧ (∀ (i : Nat) (u : D), i < j → xs[i]? = some u → D.eqv u y = false) ∧ Q (.int (j : Nat)) M
theorem m_index (hu : X.A.units + 65 < cLine) : MtR X "list.index" (upM X.K mIndex) := by
  intro pins s σ H x vs v us Q I rx rv ⟨d, ds, M, Q', r1, l, m, ⟨xs, y, j, z, e1, h, h2, ⟨h3, h4⟩, hj, hz, hno, q⟩, k⟩
  subst e1
  obtain ⟨w, e, rw'⟩ := repL_one l
  subst e
  obtain ⟨a, ws, rfl, _, l3, h5⟩ := lst_of r1 m h h2
  have hs : SeqAt.shaped (PyData.list (D.pys xs)) = true := dOk_shaped (n := 64) (d := .lst xs) h4 (Nat.le_refl _)
  refine mt_indexD hu pins s σ H _ _ v us Q I rx rv ⟨a, w, y.py, D.pys xs, j, z.py, rfl, rfl, .lst h5 (l3.dp h4), rw'.dp h3, hs, dOk_shaped h3 (by decide), ?_, hz, fun i z' hi e => ?_, k _ _ M H (.refl H) (.int _) m q⟩
  · rw [pys_map, List.getElem?_map, hj]
    rfl
  · rw [pys_map, List.getElem?_map] at e
    cases g : xs[i]? with
    | none => rw [g] at e; cases e
    | some u' =>
      rw [g] at e
      cases e
      exact hno i u' hi g

/-! ### any, all, sum, max, min of lists -/
theorem bls_rep {K : PySem.W.Frag} {H : Hp} : ∀ {ys : List Bool} {vs : List V}, RepL K H (ys.map D.bl) vs → vs = ys.map V.bl
  | [], _, h => by
    cases h
    rfl
  | y :: ys, _, h => by
    cases h with
    | cons h1 h2 =>
      cases h1
      rw [bls_rep h2]
      rfl
theorem ints_rep {K : PySem.W.Frag} {H : Hp} : ∀ {ys : List Int} {vs : List V}, RepL K H (ys.map D.int) vs → vs = ys.map V.int
  | [], _, h => by
    cases h
    rfl
  | y :: ys, _, h => by
    cases h with
    | cons h1 h2 =>
      cases h1
      rw [ints_rep h2]
      rfl
def rAnyL : DCR := fun ds M Q => ∃ (d : D) (bs : List Bool), ds = [d] ∧ dItems d M = some (bs.map D.bl) ∧ d ≠ .tup (bs.map D.bl) ∧ Q (.bl (bs.any id)) M
def rAllL : DCR := fun ds M Q => ∃ (d : D) (bs : List Bool), ds = [d] ∧ dItems d M = some (bs.map D.bl) ∧ d ≠ .tup (bs.map D.bl) ∧ Q (.bl (bs.all id)) M
def rSumL : DCR := fun ds M Q => ∃ (d : D) (ns : List Int), ds = [d] ∧ dItems d M = some (ns.map D.int) ∧ d ≠ .tup (ns.map D.int) ∧ Q (.int ns.sum) M
def rMaxL : DCR := fun ds M Q => ∃ (d : D) (ns : List Int), ds = [d] ∧ dItems d M = some (ns.map D.int) ∧ d ≠ .tup (ns.map D.int) ∧ 0 < ns.length ∧ ∀ n : Int, n ∈ ns → (∀ y, y ∈ ns → y ≤ n) → Q (.int n) M
def rMinL : DCR := fun ds M Q => ∃ (d : D) (ns : List Int), ds = [d] ∧ dItems d M = some (ns.map D.int) ∧ d ≠ .tup (ns.map D.int) ∧ 0 < ns.length ∧ ∀ n : Int, n ∈ ns → (∀ y, y ∈ ns → n ≤ y) → Q (.int n) M
theorem c_any (hc : X.calm = true) : DCall X (.builtin "any") rAnyL := by
  intro pins s σ H vs us Q I r ⟨ds, M, Q', l, m, ⟨d, bs, e, h, h2, q⟩, k⟩
  subst e
  obtain ⟨v, e, rv⟩ := repL_one l
  subst e
  obtain ⟨a, ws, rfl, _, l3, h5⟩ := lst_of rv m h h2
  rw [bls_rep l3] at h5
  exact cr_any hc pins s σ H _ us Q I r ⟨a, bs, rfl, h5, k _ _ M H (.refl H) (.bl _) m q⟩
theorem c_all (hc : X.calm = true) : DCall X (.builtin "all") rAllL := by
  intro pins s σ H vs us Q I r ⟨ds, M, Q', l, m, ⟨d, bs, e, h, h2, q⟩, k⟩
  subst e
  obtain ⟨v, e, rv⟩ := repL_one l
  subst e
  obtain ⟨a, ws, rfl, _, l3, h5⟩ := lst_of rv m h h2
  rw [bls_rep l3] at h5
  exact cr_all hc pins s σ H _ us Q I r ⟨a, bs, rfl, h5, k _ _ M H (.refl H) (.bl _) m q⟩
theorem c_sum (hc : X.calm = true) : DCall X (.builtin "sum") rSumL := by
  intro pins s σ H vs us Q I r ⟨ds, M, Q', l, m, ⟨d, bs, e, h, h2, q⟩, k⟩
  subst e
  obtain ⟨v, e, rv⟩ := repL_one l
  subst e
  obtain ⟨a, ws, rfl, _, l3, h5⟩ := lst_of rv m h h2
  rw [ints_rep l3] at h5
  exact cr_sum hc pins s σ H _ us Q I r ⟨a, bs, rfl, h5, k _ _ M H (.refl H) (.int _) m q⟩
theorem c_max (hc : X.calm = true) : DCall X (.builtin "max") rMaxL := by
  intro pins s σ H vs us Q I r ⟨ds, M, Q', l, m, ⟨d, bs, e, h, h2, h0, q⟩, k⟩
  subst e
  obtain ⟨v, e, rv⟩ := repL_one l
  subst e
  obtain ⟨a, ws, rfl, _, l3, h5⟩ := lst_of rv m h h2
  rw [ints_rep l3] at h5
  exact cr_max hc pins s σ H _ us Q I r ⟨a, bs, rfl, h5, h0, fun n h6 h7 => k _ _ M H (.refl H) (.int _) m (q n h6 h7)⟩
theorem c_min (hc : X.calm = true) : DCall X (.builtin "min") rMinL := by
  intro pins s σ H vs us Q I r ⟨ds, M, Q', l, m, ⟨d, bs, e, h, h2, h0, q⟩, k⟩
  subst e
  obtain ⟨v, e, rv⟩ := repL_one l
  subst e
  obtain ⟨a, ws, rfl, _, l3, h5⟩ := lst_of rv m h h2
  rw [ints_rep l3] at h5
  exact cr_min hc pins s σ H _ us Q I r ⟨a, bs, rfl, h5, h0, fun n h6 h7 => k _ _ M H (.refl H) (.int _) m (q n h6 h7)⟩

/-! ### list(range(..)) -/
def dLRg (te : DTE) : DTE := fun m M Q => te m M fun d M1 => ∃ j : Int, d = .int j ∧ (-1000000000 ≤ j ∧ j ≤ 16777216) ∧ ∀ p, M1 p = none → Q (.ref p) (mput M1 p (.lst (rangeD 0 j.toNat)))
theorem repL_rg {K : PySem.W.Frag} {H : Hp} (j : Int) : RepL K H (rangeD 0 j.toNat) (rgV 0 j) := by
  unfold rangeD rgV
  rw [Int.sub_zero]
  generalize List.range j.toNat = ks
  induction ks with
  | nil => exact .nil
  | cons n ks ih => exact .cons (.int _) ih
theorem d_lrg {p pos p2 pos2 : Pos} (hc : X.calm = true) (hg : Gl X "list") (hm : X.mg "list" = none) (hg2 : Gl X "range") (hm2 : X.mg "range" = none) (ha : DE X a ta) (na : starEach [a] X.env = (false, eval a X.env) :: starEach [] X.env := by rfl)
    (nb : starEach [.Call (.Name "range" p) [a] [] pos] X.env = (false, eval (.Call (.Name "range" p) [a] [] pos) X.env) :: starEach [] X.env := by rfl) : DE X (.Call (.Name "list" p2) [.Call (.Name "range" p) [a] [] pos] [] pos2) (dLRg ta) :=
  imE (pe_listRg hc hg hm (prg_1 hg2 hm2 ha na) nb) fun σ H Q ⟨m, M, Q', r, q, k⟩ => by
    refine ⟨m, M, _, r, q, fun d v M1 H1 g1 r1 m1 ⟨j, e1, ⟨h1, h2⟩, q1⟩ => ?_⟩
    subst e1
    cases r1
    have hsl := sizeLine_eq
    refine ⟨j, rfl, ⟨by omega, by omega, by omega, by omega, by omega⟩, fun p hp => ?_⟩
    exact k _ _ _ _ (g1.trans (.new hp)) (.ref p) (m1.newLst hp (by rw [rgV_length]; omega) (repL_rg j)) (q1 p (m1.free hp))

/-! ### enumerate(a list that stays) -/
def enumD : Nat → List D → List D
  | _, [] => []
  | n, x :: r => .tup [.int n, x] :: enumD (n + 1) r
theorem enumD_len : ∀ (n : Nat) (xs : List D), (enumD n xs).length = xs.length
  | _, [] => rfl
  | n, _ :: r => congrArg (· + 1) (enumD_len (n + 1) r)
theorem enumD_get : ∀ (n : Nat) (xs : List D) (i : Nat), (enumD n xs)[i]? = xs[i]?.map fun x => .tup [.int ((n + i : Nat) : Int), x]
  | _, [], _ => by simp [enumD]
  | n, x :: r, 0 => by simp [enumD]
  | n, x :: r, i + 1 => by
    rw [enumD, List.getElem?_cons_succ, List.getElem?_cons_succ, enumD_get (n + 1) r i, Nat.add_assoc, Nat.add_comm 1 i]
def diEnum (t : DTA) : DTI := fun m M Q => t m M fun ds M1 => ∃ xs, ds = [.lst xs] ∧ Q (enumD 0 xs, none) M1
theorem di_enum {elts : List Expr} {kk : Nat} {tpos : Pos} (hg : Gl X "enumerate") (hm : X.mg "enumerate" = none) (ha : DA X [e] t) (hs : starEach [e] X.env = [(false, eval e X.env)] := by rfl) :
    DI X (.Tuple elts kk tpos) (.Call (.Name "enumerate" p) [e] [] pos) (diEnum t) :=
  imI (pi_enum hg hm ha hs) fun σ H Q ⟨m, M, Q', r, q, k⟩ => by
    refine ⟨m, M, _, r, q, fun ds vs M1 H1 g1 r1 m1 ⟨xs, e1, q1⟩ => ?_⟩
    subst e1
    obtain ⟨v, e2, rv⟩ := repL_one r1
    subst e2
    cases rv with
    | lst hf z l =>
      refine ⟨_, _, rfl, hf.seq, k _ M1 H1 _ g1 m1 q1 ⟨?_, fun i H2 ok hi => ?_, fun i H2 x H3 ok hi y => ?_, fun H2 ok => ?_⟩⟩
      · show (enumD 0 xs).length ≤ sizeLine
        rw [enumD_len, l.length]
        exact z
      · have hi' : i < xs.length := by rw [← enumD_len 0 xs]; exact hi
        obtain ⟨w, e3, _⟩ := l.get (List.getElem?_eq_getElem hi')
        exact ⟨_, w, (hf.grow ok.1).seq, e3⟩
      · obtain ⟨T, x', e3, hT, e4, hx⟩ := y
        subst e3
        subst e4
        obtain ⟨d, e5, rd⟩ := l.get' (hx _ (hf.grow ok.1).seq)
        refine ⟨.new hT, fun M2 rm => rm.new hT, .tup [.int ((0 + i : Nat) : Int), d], ?_, ?_⟩
        · show (enumD 0 xs)[i]? = _
          rw [enumD_get, e5]
          rfl
        · rw [Nat.zero_add]
          exact .tup (.of upd_same) (by show 2 ≤ sizeLine; decide) (.cons (.int _) (.cons (rd.grow (ok.1.trans (.new hT))) .nil))
      · refine ⟨_, (hf.grow ok.1).seq, ?_⟩
        show _ ≤ (enumD 0 xs).length
        rw [enumD_len, l.length]
        exact Nat.le_refl _
end
end DL
namespace DL
open PySem PySem.Spec PyProof.Rows L2
open PySem.W (EachIs AllAlike Sortable dataLe sorted_data alike alikeAll)

/-! ### a module's tuple -/
/-- what the module's name x holds: a tuple that K knows -/
def GlT (K : PySem.W.Frag) (mg : Str → Option Value) (x : Str) (d : D) : Prop := ∃ a, mg x = some (.ref a) ∧ ∀ H, Rep K H d (.ref a)
theorem d_glT {X : Cx} {x : Str} {d : D} {pos : Pos} (hg : Gl X x) (h : GlT X.K X.mg x d) (hd : (x == ("__debug__" : Str)) = false := by decide) : DE X (.Name x pos) (dC d) := by
  obtain ⟨a, h1, h2⟩ := h
  exact imE (pe_glob (v := .ref a) hg h1 rfl hd) fun σ H Q ⟨m, M, Q', r, q, k⟩ => k d _ M H (.refl H) (h2 H) r.mem q
theorem glT_strs {K : PySem.W.Frag} {mg : Str → Option Value} {x : Str} {a : Addr} {od : Option Addr} {its : Array Value} {n : Nat} {sl : Array (Option Value)} {ys : List Str} (h1 : mg x = some (.ref a)) (h2 : K.lookup a = some ⟨.type "tuple", od, .seq its n, sl⟩)
    (h3 : its.size ≤ sizeLine) (h4 : Vals (ys.map V.str) its.toList) : GlT K mg x (.tup (ys.map D.str)) := by
  refine ⟨a, h1, fun H => .tup (.inr ⟨_, its, n, h2, rfl, rfl, h3, h4⟩) ?_ ?_⟩
  · have := h4.length
    rw [this, Array.length_toList]
    exact h3
  · clear h4
    induction ys with
    | nil => exact .nil
    | cons y ys ih => exact .cons (.str y) ih

/-! ### sorted(a list of data) -/
section
variable {X : Cx}
def srtD (xs : List D) : List D := xs.mergeSort (dataLe false D.py)
theorem srtD_perm (xs : List D) : (srtD xs).Perm xs := List.mergeSort_perm _ _
def rSortD : DCR := fun ds M Q => ∃ d xs, ds = [d] ∧ dItems d M = some xs ∧ d ≠ .tup xs ∧ xs.all (dOk 32) = true ∧ AllAlike (xs.map D.py) ∧ Sortable (xs.map D.py) ∧ ∀ p, M p = none → Q (.ref p) (mput M p (.lst (srtD xs)))
theorem reads_each {pins : List (Addr × Obj)} {σ : SL} {H : Hp} {s : Shared} (I : Inv X pins σ H s) : ∀ {xs : List D} {vs : List V} {its : List Value}, RepL X.K H xs vs → Vals vs its → xs.all (dOk 32) = true →
    EachIs (fun v b => ∃ as, Reads s.heap v (D.py b) as) its xs
  | _, _, _, .nil, .nil, _ => .nil
  | _, _, _, .cons h1 h2, .cons r1 r2, h => by
    rw [List.all_cons, Bool.and_eq_true] at h
    exact .cons (Dp.reads I _ _ _ (h1.dp h.1) r1) (reads_each I h2 r2 h.2)
theorem rel_each {K : PySem.W.Frag} {H : Hp} : ∀ {xs : List D} {vs : List V} {its : List Value}, RepL K H xs vs → Vals vs its → EachIs (fun v b => ∃ y, RelV y v ∧ Rep K H b y) its xs
  | _, _, _, .nil, .nil => .nil
  | _, _, _, .cons h1 h2, .cons r1 r2 => .cons ⟨_, r1, h1⟩ (rel_each h2 r2)
theorem each_rel {K : PySem.W.Frag} {H : Hp} : ∀ {xs : List D} {its : List Value}, EachIs (fun v b => ∃ y, RelV y v ∧ Rep K H b y) its xs → ∃ vs, Vals vs its ∧ RepL K H xs vs
  | _, _, .nil => ⟨[], .nil, .nil⟩
  | _, _, .cons ⟨y, h1, h2⟩ t => by
    obtain ⟨vs, h3, h4⟩ := each_rel t
    exact ⟨y :: vs, .cons h1 h3, .cons h2 h4⟩
theorem c_sortD (hu : X.A.units + 40 < cLine) : DCall X (.builtin "sorted") rSortD := by
  intro pins s σ H vs us Q I r ⟨ds, M, Q', l, m, ⟨d, xs, e, h, h2, h3, h4, h5, q⟩, k⟩
  subst e
  obtain ⟨v, e, rv⟩ := repL_one l
  subst e
  obtain ⟨a, ws, rfl, z, l3, h6⟩ := lst_of rv m h h2
  obtain ⟨its, r2, pl, _⟩ := I.list h6
  rw [Vals.ref1 r]
  have hz : xs.length ≤ sizeLine := by rw [l3.length]; exact z
  refine sorted_data (vs := its) (bs := xs) (enc := D.py) pl.isList (rel_each l3 r2) (reads_each I l3 r2 h3) h4 h5 hz (fun b hb => ?_) fun out ho hr => ?_
  · have := (dOk_lay 32 b (List.all_eq_true.mp h3 b hb)).2
    omega
  · obtain ⟨vs', h7, h8⟩ := each_rel hr
    obtain ⟨ep, he'⟩ := PyProof.Rows.sortedAll_at s.heap its out.toArray
    have hlen : vs'.length ≤ sizeLine := by rw [← h8.length, List.length_mergeSort]; exact hz
    have hp := I.hok.fresh (Nat.le_succ s.heap.objs.size)
    refine ⟨.ref _, upd H (s.heap.objs.size + 1) (.lst vs'), I.laid (t' := s.toks) (fun _ _ => PyProof.Rows.sortedAll_old) (Nat.le_succ _) ⟨hlen, out, ep, h7, he'⟩, rfl, ?_⟩
    exact k _ _ _ _ (.new hp) (.ref _) (m.newLst hp hlen h8) (q _ (m.free hp))
end

/-! ### comprehensions with two clauses -/
def dLcIn (src : Src) (g : DTG) (tt : DTT) (te : DTE) (m0 : DSt) (p : Addr) (Nx : List D → DM → Prop) : List D → List D → DM → Prop
  | [], acc, M => SrcV src M ∧ M p = some (.lst acc) ∧ Nx acc M
  | d :: ds, acc, M => SrcV src M ∧ g d m0 M fun m1 M1 => tt m1 M1 fun b M2 =>
      if b = true then te m1 M2 fun y M3 => M3 p = some (.lst acc) ∧ acc.length < 16777216 ∧ dLcIn src g tt te m0 p Nx ds (acc ++ [y]) (mput M3 p (.lst (acc ++ [y])))
      else dLcIn src g tt te m0 p Nx ds acc M2
def dLcOut (src : Src) (g : DTG) (tt : DTT) (t1 : DTI) (g1 : DTG) (tt1 : DTT) (te : DTE) (ws1 : List Nat) (m0 : DSt) (p : Addr) (Qd : List D → DM → Prop) : List D → List D → DM → Prop
  | [], acc, M => SrcV src M ∧ M p = some (.lst acc) ∧ Qd acc M
  | d :: ds, acc, M => SrcV src M ∧ g d m0 M fun m1 M1 => tt m1 M1 fun b M2 =>
      if b = true then t1 m1 M2 fun src1 M3 => src1.1.length ≤ sizeLine → dLcIn src1 g1 tt1 te (dwipe m1 ws1) p (fun acc' M' => dLcOut src g tt t1 g1 tt1 te ws1 m0 p Qd ds acc' M') src1.1 acc M3
      else dLcOut src g tt t1 g1 tt1 te ws1 m0 p Qd ds acc M2
def dLc2 (t : DTI) (g : DTG) (tt : DTT) (t1 : DTI) (g1 : DTG) (tt1 : DTT) (te : DTE) (vs ws1 : List Nat) : DTE := fun m M Q => t m M fun src M1 => src.1.length ≤ sizeLine → ∀ p, M1 p = none → dLcOut src g tt t1 g1 tt1 te ws1 (dwipe m vs) p (fun _ M2 => Q (.ref p) M2) src.1 [] (mput M1 p (.lst []))
def dLc2F (t : DTI) (g : DTG) (tt : DTT) (t1 : DTI) (g1 : DTG) (tt1 : DTT) (te : DTE) (vs ws1 : List Nat) : DTE := fun m M Q => t m M fun src M1 => src.1.length ≤ sizeLine → ∀ p, M1 p = none → dLcOut src g tt t1 g1 tt1 te ws1 (dwipe m vs) p (fun acc M2 => Q (.lst acc) (mdel M2 p)) src.1 [] (mput M1 p (.lst []))
section
variable {X : Cx} {elt tg iter tg1 iter1 : Expr} {ifs ifs1 : List Expr} {scope : Scope} {own : List (Str × Nat)} {pos : Pos} {t t1 : DTI} {g g1 : DTG} {tt tt1 : DTT} {te : DTE} {ws ws1 : List Nat}
theorem lc2_up {K : PySem.W.Frag} {vs : List Nat} (hsub : ∀ i ∈ ws, i ∈ vs) {σ : SL} {H : Hp} {Q : VK} {Qf : Addr → List D → DM → Prop}
    (fin : ∀ p acc ws M2 H2, Grow H H2 → RM K H2 M2 → H2 p = some (.lst ws) → ws.length ≤ sizeLine → RepL K H2 acc ws → M2 p = some (.lst acc) → Qf p acc M2 → Q (.ref p) H2)
    (m : DSt) (M : DM) (r : R K m M σ H) (q : t m M fun src M1 => src.1.length ≤ sizeLine → ∀ p, M1 p = none → dLcOut src g tt t1 g1 tt1 te ws1 (dwipe m vs) p (Qf p) src.1 [] (mput M1 p (.lst []))) :
    tLc2 (upI K t) (upG K ws g) (upT K tt) (upI K t1) (upG K ws1 g1) (upT K tt1) (upE K te) vs ws1 σ H Q := by
  refine ⟨m, M, _, r, q, fun src M1 H1 J g0 m1 q1 st p np => ?_⟩
  have q2 := q1 st.small p (m1.free np)
  have g2 : Grow H1 (upd H1 p (.lst [])) := .new np
  refine ⟨fun i n H2 => i + n = src.1.length ∧ Grow H1 H2 ∧ ∃ acc M2, RM K H2 M2 ∧ dLcOut src g tt t1 g1 tt1 te ws1 (dwipe m vs) p (Qf p) (src.1.drop i) acc M2,
    ⟨src.1.length, by omega, g2, [], _, m1.newLst np (Nat.zero_le _) .nil, q2⟩, ?_⟩
  rintro i n H2 ⟨hl, g3, acc, M2, m2, q3⟩
  have r2 : R K (dwipe m vs) M2 (wipe σ vs) H2 := (r.wipe vs).grow (g0.trans g3) m2
  by_cases hlt : i < src.1.length
  · rw [List.drop_eq_getElem_cons hlt] at q3
    obtain ⟨sv, q3⟩ := q3
    have so := sv.ok g3 m2
    refine .inr ⟨st.go i H2 so hlt, fun H3 => Grow H1 H3 ∧ ∃ acc M2, RM K H3 M2 ∧ dLcOut src g tt t1 g1 tt1 te ws1 (dwipe m vs) p (Qf p) (src.1.drop (i + 1)) acc M2,
      fun H3 ⟨g4, z⟩ => ⟨n - 1, by omega, by omega, g4, z⟩, fun x H3 y => ?_⟩
    obtain ⟨g4, k4, d, e4, rd⟩ := st.yld i H2 x H3 so hlt y
    have ed : d = src.1[i] := by
      rw [List.getElem?_eq_getElem hlt] at e4
      exact (Option.some.inj e4).symm
    subst ed
    refine ⟨_, _, M2, _, rd, r2.grow g4 (k4 _ m2), q3, fun m5 M5 σ5 H5 g5 r5 o5 q5 => ⟨wipe_off o5 hsub, ?_⟩⟩
    refine ⟨m5, M5, _, r5, q5, fun b M6 H6 g6 m6 q6 => ?_⟩
    have g06 : Grow H1 H6 := ((g3.trans g4).trans g5).trans g6
    have r6 := r5.grow g6 m6
    cases b with
    | true =>
      refine ⟨m5, M6, _, r6, q6, fun src1 M7 H7 J1 g7 m7 q7 st1 => ?_⟩
      have q8 := q7 st1.small
      refine ⟨fun j n H8 => j + n = src1.1.length ∧ Grow H7 H8 ∧ ∃ acc M8, RM K H8 M8 ∧ dLcIn src1 g1 tt1 te (dwipe m5 ws1) p (fun acc' M' => dLcOut src g tt t1 g1 tt1 te ws1 (dwipe m vs) p (Qf p) (src.1.drop (i + 1)) acc' M') (src1.1.drop j) acc M8,
        ⟨src1.1.length, by omega, .refl _, acc, M7, m7, q8⟩, ?_⟩
      rintro j n1 H8 ⟨hl1, g8, acc8, M8, m8, q9⟩
      have r8 : R K (dwipe m5 ws1) M8 (wipe σ5 ws1) H8 := (r6.wipe ws1).grow (g7.trans g8) m8
      by_cases hlt1 : j < src1.1.length
      · rw [List.drop_eq_getElem_cons hlt1] at q9
        obtain ⟨sv1, q9⟩ := q9
        have so1 := sv1.ok g8 m8
        refine .inr ⟨st1.go j H8 so1 hlt1, fun H9 => Grow H7 H9 ∧ ∃ acc M8, RM K H9 M8 ∧ dLcIn src1 g1 tt1 te (dwipe m5 ws1) p (fun acc' M' => dLcOut src g tt t1 g1 tt1 te ws1 (dwipe m vs) p (Qf p) (src.1.drop (i + 1)) acc' M') (src1.1.drop (j + 1)) acc M8,
          fun H9 ⟨g9, z⟩ => ⟨n1 - 1, by omega, by omega, g9, z⟩, fun x1 H9 y1 => ?_⟩
        obtain ⟨g9, k9, d1, e9, rd1⟩ := st1.yld j H8 x1 H9 so1 hlt1 y1
        have ed1 : d1 = src1.1[j] := by
          rw [List.getElem?_eq_getElem hlt1] at e9
          exact (Option.some.inj e9).symm
        subst ed1
        refine ⟨_, _, M8, _, rd1, r8.grow g9 (k9 _ m8), q9, fun mA MA σA HA gA rA oA qA => ⟨wipe_off oA (fun i h => h), ?_⟩⟩
        refine ⟨mA, MA, _, rA, qA, fun b1 MB HB gB mB qB => ?_⟩
        have g0B : Grow H7 HB := ((g8.trans g9).trans gA).trans gB
        cases b1 with
        | true =>
          refine ⟨mA, MB, _, rA.grow gB mB, qB, fun y v MC HC gC rv mC ⟨eC, hC, qC⟩ => ?_⟩
          obtain ⟨us, h8, z8, l8⟩ := mC.lst eC
          have hsz : us.length < sizeLine := by rw [← l8.length, sizeLine_eq]; exact hC
          exact ⟨us, h8, hsz, (g0B.trans gC).trans (.put h8), _, _, mC.putLst h8 (by rw [List.length_append]; exact hsz) (l8.append (.one rv)), qC⟩
        | false => exact ⟨g0B, acc8, MB, mB, qB⟩
      · have e : j = src1.1.length := by omega
        subst e
        rw [List.drop_length] at q9
        exact .inl ⟨st1.stop H8 (q9.1.ok g8 m8), (g06.trans g7).trans g8, acc8, M8, m8, q9.2.2⟩
    | false => exact ⟨g06, acc, M6, m6, q6⟩
  · have e : i = src.1.length := by omega
    subst e
    rw [List.drop_length] at q3
    obtain ⟨us, h8, z8, l8⟩ := m2.lst q3.2.1
    exact .inl ⟨st.stop H2 (q3.1.ok g3 m2), fin p acc us M2 H2 (g0.trans g3) m2 h8 z8 l8 q3.2.1 q3.2.2⟩
theorem d_lc2F (hc : X.calm = true) (hN : X.N.Nodup) (hi : DI X tg iter t) (ok : BlkOk X.N X.env.scope scope own) (hsub : ∀ i ∈ ws, i ∈ own.map (·.2)) (hsub1 : ∀ i ∈ ws1, i ∈ own.map (·.2))
    (hg : ∀ (s : Shared) (H : Hp) (C : Addr) (cl : List (Str × Addr)) (fp : List Addr), DG (X.blk s H scope (compEnvC scope cl C X.env) fp) ws tg g)
    (ht : ∀ (s : Shared) (H : Hp) (C : Addr) (cl : List (Str × Addr)) (fp : List Addr), DPTs (X.blk s H scope (compEnvC scope cl C X.env) fp) ifs tt)
    (hi1 : ∀ (s : Shared) (H : Hp) (C : Addr) (cl : List (Str × Addr)) (fp : List Addr), DI (X.blk s H scope (compEnvC scope cl C X.env) fp) tg1 iter1 t1)
    (hg1 : ∀ (s : Shared) (H : Hp) (C : Addr) (cl : List (Str × Addr)) (fp : List Addr), DG (X.blk s H scope (compEnvC scope cl C X.env) fp) ws1 tg1 g1)
    (ht1 : ∀ (s : Shared) (H : Hp) (C : Addr) (cl : List (Str × Addr)) (fp : List Addr), DPTs (X.blk s H scope (compEnvC scope cl C X.env) fp) ifs1 tt1)
    (he : ∀ (s : Shared) (H : Hp) (C : Addr) (cl : List (Str × Addr)) (fp : List Addr), DE (X.blk s H scope (compEnvC scope cl C X.env) fp) elt te)
    (hs : ∀ x, foldedSetIterable iter X.env x = pure x := by intro _; rfl) (hs1 : ∀ env x, foldedSetIterable iter1 env x = pure x := by intro _ _; rfl) :
    DE X (.ListComp elt [⟨tg, iter, ifs, 0⟩, ⟨tg1, iter1, ifs1, 0⟩] scope pos) (dLc2F t g tt t1 g1 tt1 te (own.map (·.2)) ws1) :=
  imE (pe_fz (pe_lc2 hc hN hi ok hsub1 hg ht hi1 hg1 ht1 he hs hs1)) fun σ H Q ⟨m, M, Q', r, q, k⟩ =>
    lc2_up (Qf := fun p acc M2 => Q' (.lst acc) (mdel M2 p)) hsub (fun p acc ws M2 H2 g2 m2 h8 z8 l8 _ q2 =>
      ⟨p, ws, rfl, h8, fun o => k _ _ _ _ (g2.trans (.put h8)) (.lst (.inl ⟨o, upd_same⟩) z8 (l8.grow (.put h8))) (m2.frz h8) q2⟩) m M r q
/-- name = [.. for .. for ..]: the list is frozen behind it -/
theorem ds_setLc2F {y : Str} {py spos : Pos} {i : Nat} (hc : X.calm = true) (hN : X.N.Nodup) (hy : X.N[i]? = some y) (hyl : X.env.scope.names.lookup y = some .local)
    (hsw : swapsWith (.ListComp elt [⟨tg, iter, ifs, 0⟩, ⟨tg1, iter1, ifs1, 0⟩] scope pos) (some (.Name y py)) spos.line X.env = pure true) (hi : DI X tg iter t) (ok : BlkOk X.N X.env.scope scope own) (hsub : ∀ i ∈ ws, i ∈ own.map (·.2)) (hsub1 : ∀ i ∈ ws1, i ∈ own.map (·.2))
    (hg : ∀ (s : Shared) (H : Hp) (C : Addr) (cl : List (Str × Addr)) (fp : List Addr), DG (X.blk s H scope (compEnvC scope cl C X.env) fp) ws tg g)
    (ht : ∀ (s : Shared) (H : Hp) (C : Addr) (cl : List (Str × Addr)) (fp : List Addr), DPTs (X.blk s H scope (compEnvC scope cl C X.env) fp) ifs tt)
    (hi1 : ∀ (s : Shared) (H : Hp) (C : Addr) (cl : List (Str × Addr)) (fp : List Addr), DI (X.blk s H scope (compEnvC scope cl C X.env) fp) tg1 iter1 t1)
    (hg1 : ∀ (s : Shared) (H : Hp) (C : Addr) (cl : List (Str × Addr)) (fp : List Addr), DG (X.blk s H scope (compEnvC scope cl C X.env) fp) ws1 tg1 g1)
    (ht1 : ∀ (s : Shared) (H : Hp) (C : Addr) (cl : List (Str × Addr)) (fp : List Addr), DPTs (X.blk s H scope (compEnvC scope cl C X.env) fp) ifs1 tt1)
    (he : ∀ (s : Shared) (H : Hp) (C : Addr) (cl : List (Str × Addr)) (fp : List Addr), DE (X.blk s H scope (compEnvC scope cl C X.env) fp) elt te)
    (hs : ∀ x, foldedSetIterable iter X.env x = pure x := by intro _; rfl) (hs1 : ∀ env x, foldedSetIterable iter1 env x = pure x := by intro _ _; rfl) (hil : i < X.N.length := by exact Nat.le_of_ble_eq_true rfl) :
    DS X (.Assign [.Name y py] (.ListComp elt [⟨tg, iter, ifs, 0⟩, ⟨tg1, iter1, ifs1, 0⟩] scope pos) spos) (dSet i (dLc2F t g tt t1 g1 tt1 te (own.map (·.2)) ws1)) := by
  refine ⟨fun pins s σ H Z I h => (ps_after i (ps_setLc2 (wi := upI X.K t) (g := upG X.K ws g) (tt := upT X.K tt) (wi1 := upI X.K t1) (g1 := upG X.K ws1 g1) (tt1 := upT X.K tt1) (te := upE X.K te) hc hN hy hyl hsw hi ok hsub1 hg ht hi1 hg1 ht1 he hs hs1)).run pins s σ H Z I ?_⟩
  obtain ⟨m, M, Z', r, q, k⟩ := h
  have hσ : i < σ.length := by rw [I.len]; exact hil
  refine lc2_up (Qf := fun p acc M2 => Z'.nx (m.set i (some (.lst acc))) (mdel M2 p)) hsub (fun p acc ws M2 H2 g2 m2 h8 z8 l8 _ q2 => ?_) m M r q
  refine ⟨p, ws, List.getElem?_set_self hσ, h8, fun o => k.nx _ _ _ _ (g2.trans (.put h8)) ?_ q2⟩
  exact (r.grow (g2.trans (.put h8)) (m2.frz h8)).set (.lst (.inl ⟨o, upd_same⟩) z8 (l8.grow (.put h8)))
end
end DL
namespace DL
open PySem PySem.Spec PyProof.Rows L2
/-! ### readings, by what comes -/
theorem dAdd_ii {i j : Int} {M : DM} {Q : DVK} : dAdd (.int i) (.int j) M Q = Q (.int (i + j)) M := rfl
theorem dAdd_ss {i j : Str} {M : DM} {Q : DVK} : dAdd (.str i) (.str j) M Q = (i.length + j.length ≤ 16777216 ∧ Q (.str (i ++ j)) M) := rfl
theorem dAdd_tt {i j : List D} {M : DM} {Q : DVK} : dAdd (.tup i) (.tup j) M Q = (i.length + j.length ≤ 16777216 ∧ Q (.tup (i ++ j)) M) := rfl
theorem dMulA_ii {i j : Int} {M : DM} {Q : DVK} : dMulA (.int i) (.int j) M Q = (CMulA i j ∧ Q (.int (i * j)) M) := rfl
theorem dMulA_si {z : Str} {k : Int} {M : DM} {Q : DVK} : dMulA (.str z) (.int k) M Q = ((0 ≤ k ∧ k ≤ 1000000) ∧ z.length * k.toNat ≤ 16777216 ∧ Q (.str (srep z k.toNat)) M) := rfl
theorem dIxS_str {z : Str} {y : D} {M : DM} {Q : DVK} : dIxS (.str z) y M Q = ∃ i c, y = .int i ∧ z.length ≤ 16777216 ∧ sgn z i = some c ∧ Q (.str c) M := rfl
theorem dIxS_tup {z : List D} {y : D} {M : DM} {Q : DVK} : dIxS (.tup z) y M Q = dIx (.tup z) y M Q := rfl
theorem dIxS_lst {z : List D} {y : D} {M : DM} {Q : DVK} : dIxS (.lst z) y M Q = dIx (.lst z) y M Q := rfl
theorem dIxS_ref {z : Addr} {y : D} {M : DM} {Q : DVK} : dIxS (.ref z) y M Q = dIx (.ref z) y M Q := rfl
theorem hu_40 {k : Nat} {A : Around} (hr : Room k A) : A.units + 40 < cLine := by
  have := hr.units
  omega
end DL
namespace DL
open PySem PySem.Spec PyProof.Rows L2

/-! ### plain data: == is identity -/
mutual
def pln : D → Bool
  | .non => true
  | .int _ => true
  | .str _ => true
  | .tup xs => plns xs
  | .lst xs => plns xs
  | .bl _ => false
  | .dct _ => false
  | .ref _ => false
  | .ty _ => false
def plns : List D → Bool
  | [] => true
  | x :: xs => pln x && plns xs
end
theorem plns_iff : ∀ {xs : List D}, plns xs = true ↔ ∀ x ∈ xs, pln x = true
  | [] => by simp [plns]
  | x :: xs => by simp [plns, plns_iff (xs := xs)]
mutual
theorem eqv_pl : ∀ (x y : D), pln x = true → pln y = true → (D.eqv x y = true ↔ x = y)
  | .non, y, _, hy => by cases y <;> simp_all [D.eqv, D.py, PyData.eqv, pln]
  | .int i, y, _, hy => by cases y <;> simp_all [D.eqv, D.py, PyData.eqv, pln]
  | .str i, y, _, hy => by cases y <;> simp_all [D.eqv, D.py, PyData.eqv, pln]
  | .tup xs, .tup ys, hx, hy => by
    have h := eqvs_pl xs ys (by simpa [pln] using hx) (by simpa [pln] using hy)
    simpa [D.eqv, D.py, PyData.eqv] using h
  | .lst xs, .lst ys, hx, hy => by
    have h := eqvs_pl xs ys (by simpa [pln] using hx) (by simpa [pln] using hy)
    simpa [D.eqv, D.py, PyData.eqv] using h
  | .tup xs, .non, _, hy => by simp_all [D.eqv, D.py, PyData.eqv, pln]
  | .tup xs, .bl _, _, hy => by simp_all [D.eqv, D.py, PyData.eqv, pln]
  | .tup xs, .int _, _, hy => by simp_all [D.eqv, D.py, PyData.eqv, pln]
  | .tup xs, .str _, _, hy => by simp_all [D.eqv, D.py, PyData.eqv, pln]
  | .tup xs, .lst _, _, hy => by simp_all [D.eqv, D.py, PyData.eqv, pln]
  | .tup xs, .dct _, _, hy => by simp_all [pln]
  | .tup xs, .ref _, _, hy => by simp_all [pln]
  | .tup xs, .ty _, _, hy => by simp_all [pln]
  | .lst xs, .non, _, hy => by simp_all [D.eqv, D.py, PyData.eqv, pln]
  | .lst xs, .bl _, _, hy => by simp_all [D.eqv, D.py, PyData.eqv, pln]
  | .lst xs, .int _, _, hy => by simp_all [D.eqv, D.py, PyData.eqv, pln]
  | .lst xs, .str _, _, hy => by simp_all [D.eqv, D.py, PyData.eqv, pln]
  | .lst xs, .tup _, _, hy => by simp_all [D.eqv, D.py, PyData.eqv, pln]
  | .lst xs, .dct _, _, hy => by simp_all [pln]
  | .lst xs, .ref _, _, hy => by simp_all [pln]
  | .lst xs, .ty _, _, hy => by simp_all [pln]
  | .bl _, _, hx, _ => by simp [pln] at hx
  | .dct _, _, hx, _ => by simp [pln] at hx
  | .ref _, _, hx, _ => by simp [pln] at hx
  | .ty _, _, hx, _ => by simp [pln] at hx
theorem eqvs_pl : ∀ (xs ys : List D), plns xs = true → plns ys = true → (PyData.eqvAll (D.pys xs) (D.pys ys) = true ↔ xs = ys)
  | [], [], _, _ => by simp [D.pys, PyData.eqvAll]
  | [], y :: ys, _, _ => by simp [D.pys, PyData.eqvAll]
  | x :: xs, [], _, _ => by simp [D.pys, PyData.eqvAll]
  | x :: xs, y :: ys, hx, hy => by
    rw [plns, Bool.and_eq_true] at hx hy
    have h1 := eqv_pl x y hx.1 hy.1
    have h2 := eqvs_pl xs ys hx.2 hy.2
    rw [D.eqv] at h1
    simp [D.pys, PyData.eqvAll, h1, h2]
end
theorem eqv_ne {x y : D} (hx : pln x = true) (hy : pln y = true) (h : x ≠ y) : D.eqv x y = false := by
  cases e : D.eqv x y with
  | false => rfl
  | true => exact absurd ((eqv_pl x y hx hy).mp e) h
theorem any_eqv {x : D} {ys : List D} (hx : pln x = true) (hy : plns ys = true) : (ys.any fun z => D.eqv z x) = true ↔ x ∈ ys := by
  rw [List.any_eq_true]
  refine ⟨fun ⟨z, hz, e⟩ => ?_, fun h => ⟨x, h, (eqv_pl x x hx hx).mpr rfl⟩⟩
  have := (eqv_pl z x (plns_iff.mp hy z hz) hx).mp e
  exact this ▸ hz
/-- x in words -/
theorem any_strs (x : Str) (ys : List Str) : ((ys.map D.str).any fun z => D.eqv z (.str x)) = decide (x ∈ ys) := by
  induction ys with
  | nil => rfl
  | cons y ys ih =>
    rw [List.map_cons, List.any_cons, ih, eqv_str]
    by_cases h : y = x
    · simp [h]
    · simp [h, Ne.symm h]

/-! ### heaps -/
theorem MLe.none {M N : DM} {a : Addr} (l : MLe M N) (h : N a = none) : M a = none := by
  cases e : M a with
  | none => rfl
  | some o => rw [l a o e] at h; cases h
theorem MLe.del {M N : DM} {a : Addr} (l : MLe M N) (h : M a = Option.none) : MLe M (mdel N a) := fun b o e => by
  have hb : b ≠ a := fun z => by rw [z, h] at e; cases e
  unfold mdel
  rw [if_neg hb]
  exact l b o e
theorem mput_swap {M : DM} {p q : Addr} {o o' l : DO} (h : p ≠ q) : mput (mput (mput M p o) q l) p o' = mput (mput M p o') q l := by
  rw [mput_comm h, mput_mput, mput_comm h.symm]
theorem mput_fresh {M : DM} {p q : Addr} {o : DO} (h : p ≠ q) (hp : M q = none) : mput M p o q = none := by
  rw [mput_ne h.symm]
  exact hp

/-! ### comprehensions with two clauses -/
section
variable {src : Src} {g g1 : DTG} {tt tt1 : DTT} {t1 : DTI} {te : DTE} {ws1 : List Nat} {m0 : DSt} {p : Addr} {M1 : DM}
theorem lcIn_map {β : Type} (e : β → D) (f : β → D) {Nx : List D → DM → Prop} (sv : SrcV src M1) (hp : M1 p = none) : ∀ (xs : List β) (step : ∀ x ∈ xs, ∀ M, MLe M1 M → ∀ C1 : D → DM → Prop, C1 (f x) M → g (e x) m0 M fun m1 M1 => te m1 M1 C1)
    (acc : List D), acc.length + xs.length ≤ 16777216 → Nx (acc ++ xs.map f) (mput M1 p (.lst (acc ++ xs.map f))) → dLcIn src g dYes te m0 p Nx (xs.map e) acc (mput M1 p (.lst acc))
  | [], _, acc, _, h => ⟨fun a e => MLe.put (.refl M1) hp a _ (sv a e), mput_same, by simpa using h⟩
  | x :: xs, step, acc, hl, h => by
    rw [List.length_cons] at hl
    refine ⟨fun a e => MLe.put (.refl M1) hp a _ (sv a e), step x (by simp) _ (MLe.put (.refl M1) hp) _ ⟨mput_same, by omega, ?_⟩⟩
    rw [mput_mput]
    refine lcIn_map e f sv hp xs (fun d' h' => step d' (by simp [h'])) _ (by rw [List.length_append, List.length_singleton]; omega) ?_
    simpa using h
theorem lcOut_map {α : Type} (e : α → D) (F : α → List D) {Qd : List D → DM → Prop} (sv : SrcV src M1) (hp : M1 p = none) : ∀ (xs : List α)
    (step : ∀ x ∈ xs, ∀ (acc : List D) (Cn : List D → DM → Prop), acc.length + (F x).length ≤ 16777216 → Cn (acc ++ F x) (mput M1 p (.lst (acc ++ F x))) → g (e x) m0 (mput M1 p (.lst acc)) fun m1 M2 => tt m1 M2 fun b M3 =>
      if b = true then t1 m1 M3 fun src1 M4 => src1.1.length ≤ sizeLine → dLcIn src1 g1 tt1 te (dwipe m1 ws1) p Cn src1.1 acc M4 else Cn acc M3)
    (acc : List D), acc.length + (xs.flatMap F).length ≤ 16777216 → Qd (acc ++ xs.flatMap F) (mput M1 p (.lst (acc ++ xs.flatMap F))) → dLcOut src g tt t1 g1 tt1 te ws1 m0 p Qd (xs.map e) acc (mput M1 p (.lst acc))
  | [], _, acc, _, h => ⟨fun a e => MLe.put (.refl M1) hp a _ (sv a e), mput_same, by simpa using h⟩
  | x :: xs, step, acc, hl, h => by
    rw [List.flatMap_cons, List.length_append] at hl
    refine ⟨fun a e => MLe.put (.refl M1) hp a _ (sv a e), step x (by simp) acc _ (by omega) ?_⟩
    refine lcOut_map e F sv hp xs (fun d' h' => step d' (by simp [h'])) _ (by rw [List.length_append]; omega) ?_
    rw [List.flatMap_cons] at h
    simpa using h
end
/-- loops: what is left of a list, with what is gathered -/
theorem flat_len {α β : Type} (f : α → List β) (n : Nat) : ∀ xs : List α, (∀ x ∈ xs, (f x).length ≤ n) → (xs.flatMap f).length ≤ n * xs.length
  | [], _ => by simp
  | x :: xs, h => by
    rw [List.flatMap_cons, List.length_append, List.length_cons, Nat.mul_succ]
    have := flat_len f n xs fun y hy => h y (by simp [hy])
    have := h x (by simp)
    omega
/-! ### texts -/
abbrev SS (cs : List Nat) : Str := ⟨cs.toArray⟩
theorem join_one (cs : List Nat) : Txt.join "" (cs.map fun c => SS [c]) = SS cs := by
  have z : ∀ cs : List Nat, TL.tl (Str.join "" (cs.map fun c => SS [c])) = cs := by
    intro cs
    rw [TL.tl_join]
    have e0 : TL.tl ("" : Str) = [] := by decide +kernel
    rw [e0]
    induction cs with
    | nil => rfl
    | cons c cs ih =>
      cases cs with
      | nil => rfl
      | cons d r =>
        show [c] ++ ([] ++ TL.joinL [] _) = _
        rw [show TL.joinL [] (TL.tl (SS [d]) :: List.map TL.tl (List.map (fun c => SS [c]) r)) = d :: r from ih]
        rfl
  rw [TL.join_eq]
  exact TL.ext_tl (z cs)
theorem len_one (cs : List Nat) : ((cs.map fun c => SS [c]).map (·.length)).sum = cs.length := by
  induction cs with
  | nil => rfl
  | cons c cs ih =>
    rw [List.map_cons, List.map_cons, List.sum_cons, ih, List.length_cons]
    show 1 + _ = _
    omega
end DL
/-! enumerate(a tuple); slices of texts. -/
namespace DL
open PySem PySem.Spec PyProof.Rows L2
section
variable {prog : Program} {w : World} {A : Around} {E : Value → Shared → Prop} {s : Shared}
theorem nextOf_tup {cu tp : Addr} {i : Nat} {its : Array Value} {u : Value} {Q : Value → Shared → Prop} (hc : s.heap.IsTupleIter cu tp i) (ht : s.heap.IsTuple tp its) (hu : its[i]? = some u)
    (hQ : ∀ h', h'.IsTupleIter cu tp (i + 1) → Heap.SameBut cu s.heap h' → Q u { s with heap := h' }) : wpAny (model prog w) A (Builtin.SmallTypes.nextOf (.ref cu)) Q E s := by
  obtain ⟨ob, go, gc, gd⟩ := id hc
  obtain ⟨ot, got, _, nt, gdt⟩ := ht
  unfold Builtin.SmallTypes.nextOf
  refine wpAny_bind (wpAny_callSpecial?_slot (name := Str.ofString "__next__") hc.typeIs F.slot_tuple_iterator_next (wpAny_call_entry F.slot_tuple_iterator_next hc.typeIs F.entry_tuple_iterator_next ?_ (F.args_tuple_iterator_next_1 _)))
  show wpAny _ _ (field (.ref cu) 0 >>= _) _ _ s
  refine wpAny_bind (wpAny_field go gd (x := .ref tp) rfl ?_)
  show wpAny _ _ (if (Value.ref tp == Value.none) = true then _ else _) _ _ s
  rw [if_neg (show ¬ ((Value.ref tp == Value.none) = true) from Bool.false_ne_true)]
  show wpAny _ _ (field (.ref cu) 1 >>= _) _ _ s
  refine wpAny_bind (wpAny_field go gd (x := .int i 0) rfl ?_)
  show wpAny _ _ (seqItems? (.ref tp) >>= _) _ _ s
  refine wpAny_bind (wpAny_seqItems got gdt ?_)
  simp only [Int.toNat_natCast, hu]
  refine wpAny_bind (wpAny_setField go gd (by simp) (wpAny_pure ⟨u, rfl, wpAny_pure (hQ _ ?_ (Heap.SameBut.update ..))⟩))
  exact ⟨_, Heap.get?_update_self _ go (Obj.isFreed_of_fields (Obj.data_mapFields gd _)), (Obj.cls_mapFields ..).trans gc, by rw [Obj.data_mapFields gd]; simp [rawInt]⟩
theorem nextOf_tup_end {cu tp : Addr} {i : Nat} {its : Array Value} {Q : Value → Shared → Prop} (hh : A.handled = none) (hc : s.heap.IsTupleIter cu tp i) (ht : s.heap.IsTuple tp its) (hu : its[i]? = none)
    (hE : ∀ h' e, Heap.ExtBut cu s.heap h' → (∃ o, h'.get? e = some o ∧ o.cls = .type "StopIteration") → E (.ref e) { s with heap := h' }) : wpAny (model prog w) A (Builtin.SmallTypes.nextOf (.ref cu)) Q E s := by
  obtain ⟨ob, go, gc, gd⟩ := id hc
  obtain ⟨ot, got, _, nt, gdt⟩ := ht
  unfold Builtin.SmallTypes.nextOf
  refine wpAny_bind (wpAny_callSpecial?_slot (name := Str.ofString "__next__") hc.typeIs F.slot_tuple_iterator_next (wpAny_call_entry F.slot_tuple_iterator_next hc.typeIs F.entry_tuple_iterator_next ?_ (F.args_tuple_iterator_next_1 _)))
  show wpAny _ _ (field (.ref cu) 0 >>= _) _ _ s
  refine wpAny_bind (wpAny_field go gd (x := .ref tp) rfl ?_)
  show wpAny _ _ (if (Value.ref tp == Value.none) = true then _ else _) _ _ s
  rw [if_neg (show ¬ ((Value.ref tp == Value.none) = true) from Bool.false_ne_true)]
  show wpAny _ _ (field (.ref cu) 1 >>= _) _ _ s
  refine wpAny_bind (wpAny_field go gd (x := .int i 0) rfl ?_)
  show wpAny _ _ (seqItems? (.ref tp) >>= _) _ _ s
  refine wpAny_bind (wpAny_seqItems got gdt ?_)
  simp only [Int.toNat_natCast, hu]
  refine wpAny_bind (wpAny_rule (wpAny_bind (wpAny_setField go gd (by simp) ?_)))
  (show wpAny _ _ (newExc (.type "StopIteration") [] >>= _) _ _ _); refine wpAny_bind ?_
  simp only [newExc, newTuple]; refine wpAny_bind (wpAny_newObj_type ?_ (by size_fits))
  refine wpAny_bind (m := firstArgMember _ _) (wpAny_of_eq (a := Value.none) (by first | (simp only [firstArgMember]; rfl) | rfl) ?_)
  refine wpAny_newObj_type ?_ (by size_fits); simp only [raiseNew]; refine wpAny_bind (wpAny_handled ?_)
  first | rw [hh] | rw [show A.in1.handled = none from hh]
  refine wpAny_bind (wpAny_pure (wpAny_throw ?_)); exact hE _ _ (((Heap.SameBut.update ..).extBut.push _).push _) ⟨_, Heap.get?_push_size _ rfl, rfl⟩
theorem tup_at {h h' : Heap} {tp : Addr} {its : Array Value} (x : h.IsTuple tp its) (k : ∀ o, h.get? tp = some o → h'.get? tp = some o) : h'.IsTuple tp its := let ⟨o, a, b⟩ := x; ⟨o, k o a, b⟩
theorem titer_at {h h' : Heap} {cu tp : Addr} {i : Nat} (x : h.IsTupleIter cu tp i) (k : ∀ o, h.get? cu = some o → h'.get? cu = some o) : h'.IsTupleIter cu tp i := let ⟨o, a, b⟩ := x; ⟨o, k o a, b⟩
theorem draws_tup (hh : A.handled = none) (cu tp : Addr) (hne : tp ≠ cu) (its : Array Value) :
    Draws prog w A cu [cu, tp] its.size (fun i v => its[i]? = some v) (fun i h => h.IsTupleIter cu tp i ∧ h.IsTuple tp its) where
  live := fun _ _ st => let ⟨o, ho, _⟩ := st.1; ⟨o, ho⟩
  frame := fun _ _ _ st hk => ⟨titer_at st.1 fun o e => hk cu (by simp) o e, tup_at st.2 fun o e => hk tp (by simp) o e⟩
  item := fun i s Q E hi st hQ => nextOf_tup st.1 st.2 (u := its[i]) (by simp [hi]) fun h' hc' hs' => hQ _ h' s.toks (by simp [hi]) ⟨hc', tup_at st.2 fun o e => (hs'.2 tp hne).trans e⟩ hs'
  done := fun s Q E st hE => nextOf_tup_end hh st.1 st.2 (by simp) hE
theorem new_enumT (tp : Addr) (its : Array Value) (ob : Obj) (hc : ob.cls = .type "tuple") (n : Nat) (hd : ob.data = .seq its n) :
    Meets (Builtin.«enumerate.__new__» ⟨[.type "enumerate", .ref tp], []⟩) (fun _ R s => s.heap.get? tp = some ob ∧
      R (.ok (.ret (.ref (s.heap.push { cls := .type "tuple_iterator", data := .fields #[.ref tp, .int 0 0] }).objs.size)))
        { s with heap := (s.heap.push { cls := .type "tuple_iterator", data := .fields #[.ref tp, .int 0 0] }).push { cls := .type "enumerate", data := .fields #[.none, .bool false, .ref s.heap.objs.size, rawInt 0, .none, .none] } }) :=
  .of_wp fun prog w A R s h => by
    obtain ⟨cl, dc, dt, sl⟩ := ob; simp only at hc hd; subst hc hd
    obtain ⟨hp, gs, dr, tk, os⟩ := s; obtain ⟨ht, h⟩ := h; have hsb := sub_enumerate
    have hT : Heap.IsTuple (Shared.heap ⟨hp, gs, dr, tk, os⟩) tp its := ⟨_, ht, rfl, n, rfl⟩
    wp_walk using AutoSeq1.wpAny_loadPart' ht
    refine wpAny_stack_any fun stk => wpAny_pure ?_
    split
    · rename_i c _ _ _ _ _
      cases (c == Value.type "enumerate")
      · wp_walk using AutoSeq1.wpAny_loadPart' ht, wpAny_pyIter_tuple hT
        exact ⟨_, rfl, h⟩
      · wp_walk using AutoSeq1.wpAny_loadPart' ht, wpAny_pyIter_tuple hT
        exact ⟨_, rfl, h⟩
    · wp_walk using AutoSeq1.wpAny_loadPart' ht, wpAny_pyIter_tuple hT
      exact ⟨_, rfl, h⟩
theorem call_enumT {tp : Addr} {its : Array Value} {Q : Value → Shared → Prop} (hT : s.heap.IsTuple tp its)
    (h : ∀ h', IsEnum h' (s.heap.objs.size + 1) s.heap.objs.size 0 .none → h'.IsTupleIter s.heap.objs.size tp 0 → h'.objs.size = s.heap.objs.size + 2 → (∀ b o, s.heap.get? b = some o → h'.get? b = some o) → Q (.ref (s.heap.objs.size + 1)) { s with heap := h' }) :
    wpAny (model prog w) A (call (.type "enumerate") [.ref tp]) Q E s := by
  obtain ⟨ob, ht, hc, n, hd⟩ := hT
  refine callType_new F.called_enumerate (by decide) (F.typeCall_enumerate_1 _) (F.newCall_enumerate_1 _) (fun o => F.args_object_init_2 o _) F.entry_enumerate_new (new_enumT tp its ob hc n hd) ⟨ht, ?_⟩
  have hz : (s.heap.push { cls := .type "tuple_iterator", data := .fields #[.ref tp, .int 0 0] }).objs.size = s.heap.objs.size + 1 := Heap.size_push ..
  show _ ∧ _; rw [hz]
  have he : IsEnum ((s.heap.push { cls := .type "tuple_iterator", data := .fields #[.ref tp, .int 0 0] }).push { cls := .type "enumerate", data := .fields #[.none, .bool false, .ref s.heap.objs.size, rawInt 0, .none, .none] }) (s.heap.objs.size + 1) s.heap.objs.size 0 .none := by
    have q := Heap.get?_push_size (s.heap.push { cls := .type "tuple_iterator", data := .fields #[.ref tp, .int 0 0] }) (o := { cls := .type "enumerate", data := .fields #[.none, .bool false, .ref s.heap.objs.size, rawInt 0, .none, .none] }) rfl
    rw [hz] at q; exact q
  refine ⟨⟨_, he, rfl⟩, h _ he ⟨_, Heap.get?_push_of_some _ (Heap.get?_push_size _ rfl), rfl, rfl⟩ (by rw [Heap.size_push, hz]) fun b o q => Heap.get?_push_of_some _ (Heap.get?_push_of_some _ q)⟩
end
section
variable {prog : Program} {w : World} {A : Around} {E : Value → Shared → Prop} {s : Shared}
theorem enum_endT {e cu tp : Addr} {i : Nat} {iz : Int} {old : Value} {its : Array Value} {Q : Option Value → Shared → Prop} (hh : A.handled = none) (he : IsEnum s.heap e cu iz old) (hc : s.heap.IsTupleIter cu tp i) (ht : s.heap.IsTuple tp its) (hu : its[i]? = none)
    (hQ : ∀ h', Heap.ExtBut cu s.heap h' → Q none { s with heap := h' }) : wpAny (model prog w) A (pyNext (.ref e)) Q E s := by
  have hT : s.TypeIs (.ref e) "enumerate" := ⟨_, he, rfl⟩
  unfold pyNext
  refine wpAny_bind (wpAny_attempt (wpAny_callSpecial?_slot (name := Str.ofString "__next__") hT F.slot_enumerate_next (wpAny_call_entry F.slot_enumerate_next hT F.entry_enumerate_next ?_ (F.args_enumerate_next_1 _))))
  (show wpAny _ _ (field (.ref e) 2 >>= _) _ _ _); refine wpAny_bind (wpAny_field he rfl (x := .ref cu) rfl ?_)
  refine wpAny_bind (nextOf_tup_end hh hc ht hu fun h' x eb hx => ?_)
  obtain ⟨o, ho, hcl⟩ := hx
  refine wpAny_bind (wpAny_isInstance (T := "StopIteration") (b := true) ⟨o, ho, hcl⟩ isSubtype_stop ?_); exact wpAny_pure (hQ _ eb)
end
/-- the tuple at a, each item in a new pair -/
def ItE (K : PySem.W.Frag) (a : Addr) : It :=
  ⟨fun i H => ∃ (xs : List V) (x : V), SqT K H a xs ∧ xs[i]? = some x, fun i H v H' => ∃ T x, v = .ref T ∧ H T = none ∧ H' = upd H T (.tup [.int (i : Nat), x]) ∧ ∀ xs, SqT K H a xs → xs[i]? = some x, fun i H => ∃ xs : List V, SqT K H a xs ∧ xs.length ≤ i⟩
end DL
namespace DL
open PySem PySem.Spec PyProof.Rows L2
theorem turn_enumT {P : Program} {w : World} {K : PySem.W.Frag} {elts : List Expr} {kk : Nat} {tpos : Pos} (a e cu : Addr) :
    Turn P w K (.Tuple elts kk tpos) (ItE K a) [e, cu] e (fun i h => (∃ old, IsEnum h e cu ((i : Nat) : Int) old) ∧ h.IsTupleIter cu a i ∧ e ≠ cu) where
  mem := by simp
  obj := fun i h st b hb => by
    obtain ⟨⟨old, he⟩, ⟨o, ho, hc, hd⟩, _⟩ := st
    rcases (by simpa using hb : b = e ∨ b = cu) with z | z
    · subst z
      exact ⟨_, he, fun v q => nomatch q⟩
    · subst z
      exact ⟨o, ho, fun v q => by rw [hd] at q; cases q⟩
  keep := fun i h h' st k => ⟨⟨st.1.choose, k e (by simp) _ st.1.choose_spec⟩, titer_at st.2.1 fun o q => k cu (by simp) o q, st.2.2⟩
  item := by
    intro X hP hw hK hc i pins s σ H E I hf st hg; subst hP hw hK
    obtain ⟨⟨old, he⟩, hit, hne⟩ := st
    obtain ⟨xs, x, hq, hx⟩ := hg
    obtain ⟨its, rv, p, hz⟩ := I.tuple hq
    obtain ⟨u, hu, ru⟩ := rv.get hx
    have hpt : s.heap.IsTuple a its.toArray := p
    have hel : e < s.heap.objs.size := Heap.lt_size he
    have hil : cu < s.heap.objs.size := by obtain ⟨_, q, _⟩ := hit; exact Heap.lt_size q
    have hnone : ∀ b ∈ [e, cu], H b = none := fun b hb => (hf b hb).1
    have hnc : a ≠ cu := by
      rintro rfl
      obtain ⟨o1, q1, c1, _⟩ := id hit
      obtain ⟨o2, q2, c2, _⟩ := id hpt
      rw [q1] at q2
      cases q2
      rw [c1] at c2
      exact absurd c2 (by decide)
    have hne2 : a ≠ e := by
      rintro rfl
      obtain ⟨o2, q2, c2, _⟩ := id hpt
      rw [he] at q2
      cases q2
      have c3 : Value.type "enumerate" = Value.type "tuple" := c2
      exact absurd c3 (by decide)
    have hlt : i < its.toArray.size := by
      have := (List.getElem?_eq_some_iff.mp hu).1
      simpa using this
    refine wpAny_pyNext_enum_itemD (draws_tup (A := X.A.in1) (I.ok.hd hc) cu a hnc its.toArray) he ⟨hit, hpt⟩ hlt hne (by simp [hne, Ne.symm hne2]) fun y h' tk hy ho hst hT hsz hk => ?_
    have ey : y = u := by
      have hu' : its.toArray[i]? = some u := by simpa using hu
      rw [hu'] at hy
      exact (Option.some.inj hy).symm
    subst ey
    refine ⟨_, rfl, wpAny_letOwnedTupleGo_enum (s := { s with heap := h', toks := tk + 1 }) ho fun h'' he' sb => ?_⟩
    have hT2 : h''.get? s.heap.objs.size = some { cls := .type "tuple", data := .seq #[.int i tk, y] } := (sb.2 _ (Nat.ne_of_gt hel)).trans hT
    have new : ObjOk X.prog X.w (upd H s.heap.objs.size (.tup [.int (i : Nat), x])) h'' s.heap.objs.size (.tup [.int (i : Nat), x]) := ⟨by show 2 ≤ sizeLine; decide, [.int i tk, y], .cons ⟨_, rfl⟩ (.cons ru .nil), ⟨_, hT2, rfl, _, rfl⟩⟩
    have I1 : Inv X pins σ (upd H s.heap.objs.size (.tup [.int (i : Nat), x])) { s with heap := h'', toks := tk + 1 } :=
      I.turnedNew (ch := [e, cu]) (fun b ob hb q => (sb.2 b (fun z => hb (by simp [z]))).trans (hk b ob (fun z => hb (by simp [z])) (fun z => hb (by simp [z])) q)) hf (Nat.le_refl _) new
    refine ⟨.ref s.heap.objs.size, _, I1, rfl, ⟨_, x, rfl, I.hok.fresh (Nat.le_refl _), rfl, fun ys hy => by rw [I.tuple_inj hy hq]; exact hx⟩, ⟨⟨y, ?_⟩, titer_at hst.1 fun o q => (sb.2 cu (Ne.symm hne)).trans q, hne⟩, fun b hb => ?_⟩
    · rw [show ((i + 1 : Nat) : Int) = (i : Int) + 1 by omega]; exact he'
    · have hb' : b < s.heap.objs.size := by
        rcases (by simpa using hb : b = e ∨ b = cu) with z | z
        · exact z ▸ hel
        · exact z ▸ hil
      rw [upd_ne (Nat.ne_of_lt hb')]; exact hnone b hb
  done := by
    intro X hP hw hK hc i pins s σ H E I hf st hg; subst hP hw hK
    obtain ⟨⟨old, he⟩, hit, hne⟩ := st
    obtain ⟨xs, hq, hx⟩ := hg
    obtain ⟨its, rv, p, hz⟩ := I.tuple hq
    obtain ⟨f0, f1, f2, f3, f4, f5⟩ := hf cu (by simp)
    have hl := rv.length
    exact enum_endT (I.ok.hd hc) he hit (show s.heap.IsTuple a its.toArray from p) (by simp; omega) fun h' eb => ⟨rfl, I.turned (t' := s.toks) (fun b o hb q => eb b o hb q) f0 f1 f3 f4 f5⟩
  self := fun A i s Q E st h => let ⟨⟨_, he⟩, _⟩ := st; wpAny_pyIter_enum he h
def iEnumT (K : PySem.W.Frag) (ta : TA) : TI := fun σ H R => ta σ H fun vs H1 => ∃ a xs, vs = [.ref a] ∧ SqT K H1 a xs ∧ R (ItE K a) H1
theorem pi_enumT {X : Cx} {e : Expr} {ta : TA} {p pos tpos : Pos} {elts : List Expr} {kk : Nat} (hg : Gl X "enumerate") (hm : X.mg "enumerate" = none) (ha : PA X [e] ta) (hs : starEach [e] X.env = [(false, eval e X.env)] := by rfl) :
    PI X (.Tuple elts kk tpos) (.Call (.Name "enumerate" p) [e] [] pos) (iEnumT X.K ta) := by
  refine ⟨fun pins s σ H R I h => Call_ (ld_blt I hg hm boot_enumerate (PyProof.Rows.callWith_type1 (thn (ha.run pos pins s σ H _ I h) fun us s1 ⟨vs, H1, I1, r1, q1⟩ => ?_) hs rfl))⟩
  obtain ⟨a, xs, ex, hq, q⟩ := q1; subst ex
  obtain ⟨u, rfl, r⟩ := vals1 r1
  obtain rfl : u = Value.ref a := r
  obtain ⟨its, rv, pt, hz⟩ := I1.tuple hq
  refine call_enumT (show s1.heap.IsTuple a its.toArray from pt) fun h' he hit hsz hk => wpAny_pyIter_enum he ?_
  have I2 : Inv X pins σ H1 { s1 with heap := h' } := I1.kept (t' := s1.toks) hk
  refine ⟨s1.heap.objs.size + 1, [s1.heap.objs.size + 1, s1.heap.objs.size], _, _, H1, rfl, I2, turn_enumT a (s1.heap.objs.size + 1) s1.heap.objs.size, ⟨⟨.none, he⟩, hit, Nat.succ_ne_self _⟩, fun b hb => ?_, q⟩
  have hle : s1.heap.objs.size ≤ b := by
    rcases (by simpa using hb : b = s1.heap.objs.size + 1 ∨ b = s1.heap.objs.size) with z | z
    · exact z ▸ Nat.le_succ _
    · exact z ▸ Nat.le_refl _
  exact I1.fpOk hle (I1.hok.fresh hle)
def diEnumT (t : DTA) : DTI := fun m M Q => t m M fun ds M1 => ∃ xs, ds = [.tup xs] ∧ Q (enumD 0 xs, none) M1
theorem di_enumT {X : Cx} {e : Expr} {t : DTA} {p pos tpos : Pos} {elts : List Expr} {kk : Nat} (hg : Gl X "enumerate") (hm : X.mg "enumerate" = none) (ha : DA X [e] t) (hs : starEach [e] X.env = [(false, eval e X.env)] := by rfl) :
    DI X (.Tuple elts kk tpos) (.Call (.Name "enumerate" p) [e] [] pos) (diEnumT t) :=
  imI (pi_enumT hg hm ha hs) fun σ H Q ⟨m, M, Q', r, q, k⟩ => by
    refine ⟨m, M, _, r, q, fun ds vs M1 H1 g1 r1 m1 ⟨xs, e1, q1⟩ => ?_⟩
    subst e1
    obtain ⟨v, e2, rv⟩ := repL_one r1
    subst e2
    cases rv with
    | tup hf z l =>
      refine ⟨_, _, rfl, hf, k _ M1 H1 _ g1 m1 q1 ⟨?_, fun i H2 ok hi => ?_, fun i H2 x H3 ok hi y => ?_, fun H2 ok => ?_⟩⟩
      · show (enumD 0 xs).length ≤ sizeLine
        rw [enumD_len, l.length]
        exact z
      · have hi' : i < xs.length := by rw [← enumD_len 0 xs]; exact hi
        obtain ⟨w, e3, _⟩ := l.get (List.getElem?_eq_getElem hi')
        exact ⟨_, w, sqT_grow hf ok.1, e3⟩
      · obtain ⟨T, x', e3, hT, e4, hx⟩ := y
        subst e3
        subst e4
        obtain ⟨d, e5, rd⟩ := l.get' (hx _ (sqT_grow hf ok.1))
        refine ⟨.new hT, fun M2 rm => rm.new hT, .tup [.int ((0 + i : Nat) : Int), d], ?_, ?_⟩
        · show (enumD 0 xs)[i]? = _
          rw [enumD_get, e5]
          rfl
        · rw [Nat.zero_add]
          exact .tup (.of upd_same) (by show 2 ≤ sizeLine; decide) (.cons (.int _) (.cons (rd.grow (ok.1.trans (.new hT))) .nil))
      · refine ⟨_, sqT_grow hf ok.1, ?_⟩
        show _ ≤ (enumD 0 xs).length
        rw [enumD_len, l.length]
        exact Nat.le_refl _
/-! ### slices of texts -/
def dSlS (te : DTE) (tl th : DTO) : DTE := fun m M Q => te m M fun d M1 => tl m M1 fun lo M2 => th m M2 fun hi M3 => ∃ z, d = .str z ∧ z.length ≤ 16777216 ∧ Q (.str (cutS z lo hi)) M3
theorem d_slS {X : Cx} {e : Expr} {lo hi : Option Expr} {te : DTE} {tl th : DTO} {pos p2 : Pos} (he : DE X e te) (hl : DPO X lo tl) (hh : DPO X hi th) : DE X (.Subscript e (.Slice lo hi none p2) pos) (dSlS te tl th) :=
  imE (pe_slice sl_str he hl hh) fun σ H Q ⟨m, M, Q', r, q, k⟩ => by
    refine ⟨m, M, _, r, q, fun d v M1 H1 g1 r1 m1 q1 => ?_⟩
    refine ⟨m, M1, _, r.grow g1 m1, q1, fun o1 M2 H2 g2 m2 q2 => ?_⟩
    refine ⟨m, M2, _, r.grow (g1.trans g2) m2, q2, fun o2 M3 H3 g3 m3 ⟨z, e1, hz, q3⟩ => ?_⟩
    subst e1
    cases r1
    exact ⟨z, rfl, by rw [sizeLine_eq]; exact hz, k _ _ M3 H3 ((g1.trans g2).trans g3) (.str _) m3 q3⟩
end DL
/-! sorted(a list, key=a def): the def is pure here, its keys are data -/
namespace DL
open PySem PySem.Spec PyProof.Rows L2
open PySem.W (EachIs AllAlike Sortable dataLe alike alikeAll KeepsBut keyH_end KeyedOut keyedOut_each dataKind SortsAt sorted_of_sort copyHeap copyHeap_at copyHeap_old sortingHeap sortingHeap_old)

section
variable {fs : List Addr} {H H1 : Hp} {h h1 h2 : Heap} {k a : Addr} {P : Program} {w : World} {o : HO}
theorem un_side {k' : Addr} (u : Un fs [] H H1 h h1) (hk : h.get? k = none) (hk' : h.get? k' = none) (keep : ∀ b o, b ≠ k → b ≠ k' → h1.get? b = some o → h2.get? b = some o) : Un fs [] H H1 h h2 := by
  have nk : ∀ {b : Addr} {o : Obj}, h.get? b = some o → b ≠ k := fun q z => by rw [z, hk] at q; cases q
  have nk' : ∀ {b : Addr} {o : Obj}, h.get? b = some o → b ≠ k' := fun q z => by rw [z, hk'] at q; cases q
  refine ⟨fun b o q n hb hx => keep b o (nk q) (nk' q) (u.keep b o q n hb hx), fun b o q n hb hx => ?_, u.free, fun b o q hx => ?_, u.tups, u.frzs, u.tbls⟩
  · obtain ⟨sl, e⟩ := u.slot b o q n hb hx
    exact ⟨sl, keep b _ (nk q) (nk' q) e⟩
  · obtain ⟨o', e⟩ := u.there b o q hx
    exact ⟨o', keep b _ (nk q) (nk' q) e⟩
theorem hok_side {k' : Addr} (x : HOk P w H h) (hn : H k = none) (hn' : H k' = none) (keep : ∀ b o, b ≠ k → b ≠ k' → h.get? b = some o → h2.get? b = some o) : HOk P w H h2 := fun b u e => by
  have nk : ∀ c v, H c = some v → c ≠ k := fun c v q z => by rw [z, hn] at q; cases q
  have nk' : ∀ c v, H c = some v → c ≠ k' := fun c v q z => by rw [z, hn'] at q; cases q
  refine (x b u e).stay (fun c v hc q => keep c v ?_ ?_ q) (fun _ q => q) fun _ _ q => q
  · rcases hc with z | z
    · rw [z]; exact nk b u e
    · exact nk c _ z
  · rcases hc with z | z
    · rw [z]; exact nk' b u e
    · exact nk' c _ z
theorem un_adopt (u : Un fs [] H H1 h h2) (ha : h.get? a = none) (hn : H a = none) (hn1 : H1 a = none) : Un fs [] H (upd H1 a o) h h2 where
  keep := u.keep
  slot := u.slot
  free := fun b ob q n hx => by
    rw [upd_ne (fun z => by rw [z, ha] at q; cases q)]
    exact u.free b ob q n hx
  there := u.there
  tups := fun b xs q => by
    have z := u.tups b xs q
    rw [upd_ne (ne_of_none z hn1)]
    exact z
  frzs := fun b ob x q => by
    have z := u.frzs b ob x q
    rw [upd_ne (ne_of_none z hn1)]
    exact z
  tbls := fun b ps q => by
    obtain ⟨more, z⟩ := u.tbls b ps q
    exact ⟨more, by rw [upd_ne (ne_of_none z hn1)]; exact z⟩
theorem hok_adopt (x : HOk P w H h) (hn : H a = none) (new : ObjOk P w (upd H a o) h a o) : HOk P w (upd H a o) h := fun b u e => by
  by_cases hb : b = a
  · subst hb; rw [upd_same] at e; cases e; exact new
  · rw [upd_ne hb] at e
    exact (x b u e).stay (fun c v _ q => q) (fun c q => by rw [upd_ne (ne_of_none q hn)]; exact q) fun c xs q => by rw [upd_ne (ne_of_none q hn)]; exact q
end
/-! ### lists of tuples of any lengths can be sorted, too -/
/-- as Sortable, or all are tuples (some of them empty) -/
def SortOk (ds : List PyData) : Prop := Sortable ds ∨ ∀ d ∈ ds, ∃ xs, d = .tuple xs
def ne0 : PyData → Bool
  | .tuple (_ :: _) => true
  | _ => false
theorem each_right {α β : Type} {R : α → β → Prop} : ∀ {as : List α} {bs : List β}, EachIs R as bs → ∀ b ∈ bs, ∃ a, a ∈ as ∧ R a b
  | _, _, .cons h t, b, hb => by
    rcases List.mem_cons.mp hb with rfl | hb
    · exact ⟨_, List.mem_cons_self .., h⟩
    · obtain ⟨a, ha, r⟩ := each_right t b hb
      exact ⟨a, List.mem_cons_of_mem _ ha, r⟩
section
variable {prog : Program} {w : World} {A : Around} {E : Value → Shared → Prop} {s : Shared}
theorem lt_tups {f : Bool} {xs ys : List PyData} {a b : Value} {as bs : List Addr} {Q : Bool → Shared → Prop} (ra : Reads s.heap a (.tuple xs) as) (rb : Reads s.heap b (.tuple ys) bs) (h : alike (.tuple xs) (.tuple ys) = true)
    (hu : A.units + min (PyData.tuple xs).depth (PyData.tuple ys).depth < cLine) (hq : Q (PySem.W.dataLt (.tuple xs) (.tuple ys)) s) : wpAny (model prog w) A (oneLt' f a b) Q E s := by
  cases f with
  | false => exact PySem.W.oneLt_alike (fun z => by cases z) ra rb h (fun z => by cases z) hu hq
  | true =>
    have hal : PySem.W.alikeAll xs ys = true := by simpa [alike] using h
    cases ra with
    | @tuple l o vs n _ _ h1 h2 h3 h4 =>
      cases rb with
      | @tuple l' o' vs' n' _ _ k1 k2 k3 k4 =>
        have n1 : vs.size = xs.length := by simpa using SeqAt.ReadsAll.length _ _ _ h4
        have n2 : vs'.size = ys.length := by simpa using SeqAt.ReadsAll.length _ _ _ k4
        rw [PySem.W.dataLt_tuple, ← PySem.W.firstLt_toks xs ys hal, ← n1, ← n2] at hq
        obtain ⟨cls, dd, data, sl⟩ := o
        obtain ⟨cls2, dd2, data2, sl2⟩ := o'
        simp only at h2 h3 k2 k3
        subst h2 h3 k2 k3
        rw [oneLt'_eq]
        simp only [if_true]
        refine wpAny_bind (wpAny_cRoomFor (SeqAt.room_here hu) ?_)
        refine wpAny_bind (wpAny_callSpecialIfBound?_slot (T := "tuple") ⟨_, h1, rfl⟩ PySem.F.slot_tuple_lt (call_meets PySem.F.slot_tuple_lt ⟨_, h1, rfl⟩ PySem.F.entry_tuple_lt (PySem.F.args_tuple_lt_2 _ _)
          (SeqAt.tuple_ltAt l l' vs vs' n n' dd dd2 sl sl2 (SeqAt.pairEq xs ys) fun j => PySem.W.dataLt (xs.getD j .none) (ys.getD j .none)) ⟨h1, k1, fun j j1 j2 => ?_, fun j j1 j2 hj => ?_, ?_⟩))
        · have := PySem.W.eqAt_alikeAll xs ys A.in1 s vs.toList vs'.toList _ _ h4 k4 hal (SeqAt.room_in hu) j (by simpa using j1) (by simpa using j2)
          simpa using this
        · have := PySem.W.rcLt_alikeAll xs ys A.in1 s vs.toList vs'.toList _ _ h4 k4 hal (SeqAt.room_in hu) j (by simpa using j1) (by simpa using j2) hj
          simpa using this
        · exact wpAny_truthy_bool hq
theorem firsts_ex : ∀ {vs : List Value} {ds : List PyData}, EachIs (fun v d => ∃ as, Reads s.heap v d as) vs ds → (∀ d ∈ ds, ∃ xs, d = .tuple xs) →
    ∃ fs : List (Option Value), EachIs (fun (f : Option Value) d => f.isSome = ne0 d) fs ds ∧ ∀ {A : Around} {E : Value → Shared → Prop} {Q : List (Option Value) → Shared → Prop}, Q fs s → wpAny (model prog w) A (vs.mapM firstOfTuple') Q E s
  | _, _, .nil, _ => ⟨[], .nil, fun h => by rw [List.mapM_nil]; exact wpAny_pure h⟩
  | _, _, .cons (b := d) ⟨as, r⟩ t, ht => by
    obtain ⟨fs, h1, h2⟩ := firsts_ex t fun d hd => ht d (List.mem_cons_of_mem _ hd)
    obtain ⟨xs, rfl⟩ := ht d (List.mem_cons_self ..)
    cases r with
    | @tuple a o us n _ _ ho hc hd hr =>
      refine ⟨us[0]? :: fs, .cons ?_ h1, fun {A E Q} q => ?_⟩
      · rw [← Array.getElem?_toList]
        cases e : us.toList with
        | nil =>
          rw [e] at hr
          cases hr
          rfl
        | cons f fr =>
          rw [e] at hr
          cases hr
          rfl
      · rw [List.mapM_cons]
        refine wpAny_bind ?_
        rw [PySem.W.kas_first_eq]
        refine wpAny_bind (PySem.W.Looks.here (show PySem.W.Looks _ s.heap (typeOf (.ref a)) o.cls from (PySem.W.Looks.ld ho).andThen .now) ?_)
        rw [hc, if_neg (by first | decide | simp)]
        refine wpAny_bind (listItems_at ho hd (wpAny_pure ?_))
        exact wpAny_bind (h2 (wpAny_pure q))
/-- values that read as alike tuples of any lengths can be sorted -/
theorem sortsAt_tups {vs : List Value} {ds : List PyData} (e : EachIs (fun v d => ∃ as, Reads s.heap v d as) vs ds) (hal : AllAlike ds) (hk : SortOk ds) (hu : ∀ d, d ∈ ds → A.units + d.depth < cLine) : SortsAt prog w A s (dataKind s.heap ds) vs := by
  rcases hk with hk | ht
  · exact SortsAt.data e hal hk hu
  by_cases all : ∀ d ∈ ds, ne0 d = true
  · refine SortsAt.data e hal (.inl fun d hd => ?_) hu
    obtain ⟨xs, rfl⟩ := ht d hd
    cases xs with
    | nil => exact absurd (all _ hd) (by simp [ne0])
    | cons x r => exact ⟨x, r, rfl⟩
  obtain ⟨fs, hf, hm⟩ := firsts_ex (prog := prog) (w := w) e ht
  have hnall : (fs.toArray.all fun x => x.isSome) = false := by
    rw [List.all_toArray]
    cases q : fs.all fun x => x.isSome with
    | false => rfl
    | true =>
      refine absurd (fun d hd => ?_) all
      obtain ⟨f, hfm, h⟩ := each_right hf d hd
      rw [← h]
      exact List.all_eq_true.mp q f hfm
  have lt : ∀ f : Bool, ∀ (E : Value → Shared → Prop) (x y : Value) (a b) (Q : Bool → Shared → Prop), (dataKind s.heap ds).keyOf x = some a → (dataKind s.heap ds).keyOf y = some b → Q ((dataKind s.heap ds).blt a b) s → wpAny (model prog w) A (oneLt' f x y) Q E s := by
    intro f E x y a b Q ha hb hq
    obtain ⟨d, as, hd, ra, rfl⟩ := PySem.W.dataKind_inv ha
    obtain ⟨d', as', hd', rb, rfl⟩ := PySem.W.dataKind_inv hb
    obtain ⟨x1, rfl⟩ := ht d hd
    obtain ⟨x2, rfl⟩ := ht d' hd'
    exact lt_tups ra rb (hal _ hd _ hd') (Nat.lt_of_le_of_lt (Nat.add_le_add_left (Nat.min_le_left _ _) _) (hu _ hd)) hq
  refine ⟨fun v hv => ?_, if ((fs.toArray[0]?).bind id).isSome then general' else oneType', ?_, fun h2 E Q hq => ?_⟩
  · obtain ⟨d, hd, as, r⟩ := e.left v hv
    exact ⟨_, PySem.W.dataKind_some hal hd r⟩
  · intro E x y a b Q ha hb hq
    split
    · exact lt false E x y a b Q ha hb hq
    · exact lt true E x y a b Q ha hb hq
  · rw [keyKind'_eq, List.mapM_toArray, map_eq_pure_bind]
    refine wpAny_bind (wpAny_bind (hm (wpAny_pure ?_)))
    rw [if_neg (by rw [hnall]; simp)]
    by_cases c : ((fs.toArray[0]?).bind id).isSome = true
    · rw [if_pos c] at hq ⊢
      exact wpAny_pure hq
    · rw [if_neg c] at hq ⊢
      rw [oneTypeOnly'_eq, List.mapM_toArray, map_eq_pure_bind]
      refine wpAny_bind (wpAny_bind (wpAny_bind (PySem.W.kas_mapM (r := Value.type "tuple") _ (fun v hv Q' hq => ?_) (wpAny_pure ?_))))
      · obtain ⟨d, hd, as, r⟩ := e.left v hv
        obtain ⟨xs, rfl⟩ := ht d hd
        exact (PySem.W.looks_reads r).here hq
      · obtain ⟨v₁, rest, rfl⟩ : ∃ v₁ rest, vs = v₁ :: rest := by
          cases vs with
          | nil => simp at h2
          | cons a b => exact ⟨a, b, rfl⟩
        have hall2 : ((List.map (fun _ => Value.type "tuple") (v₁ :: rest)).toArray.all fun x => x == Value.type "tuple") = true := by
          simp only [List.all_toArray, List.all_map, List.all_eq_true]
          intro _ _
          exact beq_self_eq_true _
        have h0 : (List.map (fun _ => Value.type "tuple") (v₁ :: rest)).toArray[0]? = some (Value.type "tuple") := by simp
        rw [h0]
        simp only [hall2, if_true]
        exact wpAny_pure (wpAny_pure (by simpa using hq))
end
section
variable {X : Cx}
/-- sorted(xs, key=f), f a def with the promise dsp that is pure at the items: its keys are data -/
def rSortK (dsp : DSp) : List D → DM → DVK → Prop := fun ds M Q => ∃ d xs, ∃ g : D → D, ds = [d] ∧ dItems d M = some xs ∧ d ≠ .tup xs ∧ (∀ x ∈ xs, ∀ Q' : DVK, Q' (g x) M → dsp [x] M Q') ∧ (xs.map g).all (dOk 32) = true ∧
  AllAlike ((xs.map g).map D.py) ∧ SortOk ((xs.map g).map D.py) ∧ ∀ p, M p = none → Q (.ref p) (mput M p (.lst (xs.mergeSort (dataLe false fun x => D.py (g x)))))
/-- what is so behind the i-th key -/
structure KeyInv (X : Cx) (σ : SL) (H : Hp) (M : DM) (s : Shared) (kS a : Addr) (e1 : Nat) (gs : List D) (i : Nat) (s' : Shared) : Prop where
  ex : ∃ (Hj : Hp) (kA : Array Value) (e : Nat) (ws : List V), Un (frs X.stack) [] H Hj s.heap s'.heap ∧ Grow H Hj ∧ HOk X.prog X.w Hj s'.heap ∧ RM X.K Hj M ∧ AllBare s'.gens ∧ s'.os = s.os ∧
    s'.heap.get? kS = some (seqObj "list" kA e) ∧ s'.heap.get? a = some (seqObj "list" #[] e1) ∧ Hj kS = none ∧ Hj a = none ∧ Vals ws kA.toList ∧ RepL X.K Hj (gs.take i) ws
theorem take_snoc {α : Type} {xs : List α} {i : Nat} {x : α} (h : xs[i]? = some x) : xs.take (i + 1) = xs.take i ++ [x] := by
  rw [List.take_add_one, h]
  rfl
theorem vals_snoc : ∀ {vs : List V} {us : List Value} {v : V} {u : Value}, Vals vs us → RelV v u → Vals (vs ++ [v]) (us ++ [u])
  | _, _, _, _, .nil, r => .cons r .nil
  | _, _, _, _, .cons h t, r => .cons h (vals_snoc t r)
/-- what a call of the key's def gives, in every state that it may be called in -/
def KeyRun (X : Cx) (pins : List (Addr × Obj)) (σ : SL) (H : Hp) (M : DM) (s : Shared) (f : Addr) (xs : List D) (g : D → D) : Prop :=
  ∀ (Hj : Hp) (s' : Shared) (d : D) (v : V) (x : Value), d ∈ xs → Un (frs X.stack) [] H Hj s.heap s'.heap → Grow H Hj → Inv X pins σ Hj s' → RM X.K Hj M → Rep X.K Hj d v → RelV v x →
    wpAny (model X.prog X.w) X.A.in1.in1 (call (.ref f) [x]) (fun v0 s'' => CE X.stack X.prog X.w Hj s' (fun v H' => Grow Hj H' ∧ Rep X.K H' (g d) v ∧ RM X.K H' M) v0 s'') (fun _ _ => False) s'
theorem key_loop {f : Addr} {pins : List (Addr × Obj)} {σ : SL} {H : Hp} {M : DM} {s s0 : Shared} {kS a : Addr} {e1 : Nat} {xs : List D} {ws : List V} {vs : List Value} {g : D → D} {P : PySem.Fin → Shared → Prop} {E : Value → Shared → Prop}
    (kr : KeyRun X pins σ H M s f xs g) (I : Inv X pins σ H s) (l : RepL X.K H xs ws) (rv : Vals ws vs) (hz : vs.length ≤ sizeLine)
    (hok : (xs.map g).all (dOk 32) = true) (hal : AllAlike ((xs.map g).map D.py)) (hsk : SortOk ((xs.map g).map D.py)) (hu : X.A.in1.in1.units + 40 < cLine)
    (hkS : s.heap.objs.size ≤ kS) (ha : s.heap.objs.size ≤ a) (hka : kS ≠ a) (I0 : KeyInv X σ H M s kS a e1 (xs.map g) 0 s0)
    (h : ∀ (Hj : Hp) (s' : Shared) (out : List Value) (c : Nat), Un (frs X.stack) [] H Hj s.heap s'.heap → Grow H Hj → HOk X.prog X.w Hj s'.heap → RM X.K Hj M → AllBare s'.gens → s'.os = s.os → s'.heap.get? a = some (seqObj "list" (List.toArray out) c) → Hj a = none →
      KeyedOut false ((xs.map g).map D.py) vs out → P (.done (.ret .none)) s') :
    wpAny (model X.prog X.w) X.A.in1.in1 (ksk_rest a (.ref f) false vs.toArray e1 (.ref kS)) P E s0 := by
  unfold ksk_rest
  refine wpAny_bind (wpAny_rule ?_)
  first
    | rw [List.forIn_toArray]
    | (rw [← Array.forIn_toList]; simp only [List.toList_toArray])
    | rw [← Array.forIn_toList]
  have hxl : xs.length = vs.length := l.length.trans rv.length
  have fsk : kS ∉ frs X.stack := fun z => (List.mem_cons.mp (I.stkSub _ z)).elim (fun z => absurd (Nat.lt_of_lt_of_le I.lt (by rw [← z]; exact hkS)) (Nat.lt_irrefl _)) (I.nofs hkS)
  have fsa : a ∉ frs X.stack := fun z => (List.mem_cons.mp (I.stkSub _ z)).elim (fun z => absurd (Nat.lt_of_lt_of_le I.lt (by rw [← z]; exact ha)) (Nat.lt_irrefl _)) (I.nofs ha)
  have gk : s.heap.get? kS = none := Heap.get?_none_of_le hkS
  have ga : s.heap.get? a = none := Heap.get?_none_of_le ha
  refine wpAny_bind (ksk_fold (fun i s' => KeyInv X σ H M s kS a e1 (xs.map g) i s') vs 0 s0 I0 ?step ?done)
  case step =>
    rintro j x s' hx ⟨Hj, kA, e, us, un, gr, hk, rm, bare, os, nk, na, fk, fa, vk, lk⟩
    rw [Nat.zero_add] at lk ⊢
    have hj : j < vs.length := (List.getElem?_eq_some_iff.mp hx).1
    obtain ⟨d, hd⟩ : ∃ d, xs[j]? = some d := ⟨_, List.getElem?_eq_getElem (by omega)⟩
    have hdm : d ∈ xs := List.mem_of_getElem? hd
    obtain ⟨v, hv, rd⟩ := l.get hd
    obtain ⟨u, hu', ru⟩ := rv.get hv
    rw [hx] at hu'
    cases hu'
    have J : Inv X pins σ Hj s' := I.call' (ch := []) os un hk bare (fun b z => absurd z (by simp))
    have run := kr Hj s' d v x hdm un gr J rm (rd.grow gr) ru
    refine wpAny_bind (wpAny_attempt (wpAny_mono run (fun v0 s'' he => ?_) fun _ _ hF => hF.elim))
    obtain ⟨v2, H2, os2, bare2, un2, hk2, r2, g2, rd2, rm2⟩ := he
    try dsimp only
    have nk2 : s''.heap.get? kS = some (seqObj "list" kA e) := un2.keep kS _ nk fk fsk (by simp)
    have na2 : s''.heap.get? a = some (seqObj "list" #[] e1) := un2.keep a _ na fa fsa (by simp)
    have fk2 : H2 kS = none := un2.free kS _ nk fk (by simp)
    have fa2 : H2 a = none := un2.free a _ na fa (by simp)
    have s1 := Heap.SameBut.update s''.heap kS (Obj.mapSeq (·.push v0))
    obtain ⟨c2, hc2⟩ : ∃ c2, (s''.heap.update kS (Obj.mapSeq (·.push v0))).get? kS = some (seqObj "list" (kA.push v0) c2) := ⟨_, get?_update_seq nk2 (·.push v0)⟩
    have keep : ∀ b o, b ≠ kS → b ≠ kS → s''.heap.get? b = some o → (s''.heap.update kS (Obj.mapSeq (·.push v0))).get? b = some o := fun b o hb _ e => (s1.2 b hb).trans e
    have hkl : kA.size ≤ vs.length := by
      have h1 := vk.length
      have h2 := lk.length
      have h3 : kA.toList.length = kA.size := Array.length_toList
      rw [List.length_take, List.length_map] at h2
      omega
    refine wpAny_bind (listUpdate_at nk2 rfl ?_ (Nat.le_trans hkl hz) (Nat.le_trans (Nat.le_of_eq (Array.size_push ..)) (Nat.succ_le_succ (Nat.le_trans hkl hz))))
    refine wpAny_pure ⟨rfl, ⟨H2, kA.push v0, c2, us ++ [v2], un_side (un.trans un2) gk gk keep, gr.trans g2, hok_side hk2 fk2 fk2 keep, rm2, bare2, os2.trans os, hc2, (s1.2 a hka.symm).trans na2, fk2, fa2, ?_, ?_⟩⟩
    · have ea : (kA.push v0).toList = kA.toList ++ [v0] := by simp
      rw [ea]
      exact vals_snoc vk r2
    · rw [take_snoc (x := g d) (by rw [List.getElem?_map, hd]; rfl)]
      exact (lk.grow g2).append (.one rd2)
  case done =>
    rintro s' ⟨Hj, kA, e, us, un, gr, hk, rm, bare, os, nk, na, fk, fa, vk, lk⟩
    rw [Nat.zero_add, List.take_of_length_le (by rw [List.length_map]; omega)] at lk
    have J : Inv X pins σ Hj s' := I.call' (ch := []) os un hk bare (fun b z => absurd z (by simp))
    have hk' : EachIs (fun v k => ∃ as, Reads s'.heap v k as) kA.toList ((xs.map g).map D.py) := PySem.W.each_map (R := fun v k => ∃ as, Reads s'.heap v k as) D.py (reads_each J lk vk hok)
    have hsz : kA.size = vs.length := by
      have h1 := vk.length
      have h2 := lk.length
      have h3 : kA.toList.length = kA.size := Array.length_toList
      rw [List.length_map] at h2
      omega
    obtain ⟨G, g1, g2⟩ := restrict s'.heap (fun b => decide (b ≠ kS))
    have kp : KeepsBut a G s'.heap := fun b o hb e => by
      by_cases q : b = kS
      · rw [q, g2 kS (by simp)] at e
        cases e
      · rw [g1 b (by simp [q])] at e
        exact e
    refine wpAny_bind (listItems_at nk rfl ?_)
    refine keyH_end (κ := dataKind s'.heap ((xs.map g).map D.py)) (h₁ := G) kp (g2 kS (by simp)) nk na hka (sortsAt_tups hk' hal hsk fun q hq => ?_) hsz hz fun h3 tk3 c k3 n3 => ?_
    · obtain ⟨b, hb', rfl⟩ := List.mem_map.mp hq
      have := (dOk_lay 32 b (List.all_eq_true.mp hok b hb')).2
      omega
    have keep3 : ∀ b o, b ≠ a → b ≠ kS → s'.heap.get? b = some o → h3.get? b = some o := fun b o hb hk e => k3 b o hb (by rw [g1 b (by simp [hk])]; exact e)
    exact h Hj { s' with heap := h3, toks := tk3 } _ c (un_side un ga gk keep3) gr (hok_side hk fa fk keep3) rm bare os n3 fa ⟨s'.heap, kA.toList, hal, rfl, hk'⟩
/-- sorted(xs, key=f) behind the evaluation of its arguments -/
theorem sort_core {f : Addr} {pins : List (Addr × Obj)} {σ : SL} {H : Hp} {M : DM} {s : Shared} {d : D} {v : V} {u : Value} {xs : List D} {g : D → D} {Q : VK} {Q' : DVK} (I : Inv X pins σ H s) (rv : Rep X.K H d v) (r : RelV v u) (m : RM X.K H M) (hd : dItems d M = some xs) (hnt : d ≠ .tup xs)
    (kr : KeyRun X pins σ H M s f xs g) (hu : X.A.in1.in1.units + 40 < cLine) (hok : (xs.map g).all (dOk 32) = true) (hal : AllAlike ((xs.map g).map D.py)) (hsk : SortOk ((xs.map g).map D.py))
    (q : ∀ p, M p = none → Q' (.ref p) (mput M p (.lst (xs.mergeSort (dataLe false fun x => D.py (g x)))))) (kk : ∀ d v M' H', Grow H H' → Rep X.K H' d v → RM X.K H' M' → Q' d M' → Q v H') :
    wpAny (model X.prog X.w) X.A (call (.builtin "sorted") [u] [(Str.ofString "key", .ref f)]) (EP X pins σ Q) X.xe s := by
  obtain ⟨b, xv, rfl, z, l3, h6⟩ := lst_of rv m hd hnt
  obtain ⟨its, r2, pl, _⟩ := I.list h6
  obtain rfl : u = Value.ref b := r
  have hz : its.length ≤ sizeLine := by rw [← r2.length]; exact z
  refine sorted_of_sort pl.isList hz (ksk_s1 _ _) (fun _ => ksk_l1 _ _) fun E' => ?_
  rw [ksk_t1]
  obtain ⟨a, hae⟩ : ∃ a, a = s.heap.objs.size + 1 := ⟨_, rfl⟩
  rw [← hae]
  have ho : (copyHeap s.heap its).get? a = some (seqObj "list" its.toArray 0) := by rw [hae]; exact copyHeap_at s.heap its
  have hla : a < (copyHeap s.heap its).objs.size := Heap.lt_size ho
  obtain ⟨e1, ho1⟩ : ∃ e1, ((copyHeap s.heap its).update a (Obj.mapSeq fun _ => (#[] : Array Value))).get? a = some (seqObj "list" #[] e1) := ⟨_, get?_update_seq ho fun _ => #[]⟩
  have hkS : (((copyHeap s.heap its).update a (Obj.mapSeq fun _ => (#[] : Array Value))).push (seqObj "tuple" its.toArray 0)).objs.size = (copyHeap s.heap its).objs.size + 1 := by rw [size_push', Heap.size_update]
  have old : ∀ b o, s.heap.get? b = some o → (sortingHeap (copyHeap s.heap its) a its).get? b = some o := fun b o q => sortingHeap_old (Nat.ne_of_lt (Nat.lt_of_lt_of_le (Heap.lt_size q) (by rw [hae]; exact Nat.le_succ _))) (copyHeap_old q)
  have ga : s.heap.get? a = none := Heap.get?_none_of_le (by omega)
  have fa0 : H a = none := I.hok.fresh (by omega)
  unfold ksk_tree
  refine wpAny_bind (listItems_at ho rfl ?_)
  refine wpAny_bind (listUpdate_at ho rfl ?_ (by rw [List.size_toArray]; exact hz) (Nat.zero_le _))
  refine wpAny_bind (seqEpoch_at ho1 rfl ?_)
  refine wpAny_bind (wpAny_newTuple ?_ (by show its.length ≤ _; exact hz))
  refine wpAny_bind (wpAny_newList ?_ (Nat.zero_le _))
  refine wpAny_holding ?_
  have szk : s.heap.objs.size ≤ (((copyHeap s.heap its).update a (Obj.mapSeq fun _ => (#[] : Array Value))).push (seqObj "tuple" its.toArray 0)).objs.size := by rw [hkS]; omega
  refine key_loop (kS := (((copyHeap s.heap its).update a (Obj.mapSeq fun _ => (#[] : Array Value))).push (seqObj "tuple" its.toArray 0)).objs.size) kr I l3 r2 hz hok hal hsk hu szk (by omega) (Nat.ne_of_gt (by rw [hkS]; omega))
    ⟨H, #[], 0, [], Un.kept old, .refl H, I.hok.kept old, m, I.bare, rfl, Heap.get?_push_size _ rfl, Heap.get?_push_of_some _ (Heap.get?_push_of_some _ ho1), I.hok.fresh szk, fa0, .nil, .nil⟩ fun Hj s' out c un gr hk rm bare os na fa ko => ⟨rfl, ?_⟩
  have ko' : KeyedOut false (xs.map fun x => D.py (g x)) its out := by
    rw [List.map_map] at ko
    exact ko
  obtain ⟨vs', h7, h8⟩ := each_rel (keyedOut_each (fun x => D.py (g x)) ko' (rel_each (l3.grow gr) r2))
  have hlen : vs'.length ≤ sizeLine := by
    rw [← h8.length, List.length_mergeSort, l3.length]
    exact z
  exact ⟨.ref a, upd Hj a (.lst vs'), I.call' (ch := []) os (un_adopt un ga fa0 fa) (hok_adopt hk fa ⟨hlen, out, c, h7, na⟩) bare (fun b z => absurd z (by simp)), rfl,
    kk _ _ _ _ (gr.trans (.new fa)) (.ref _) (rm.newLst fa hlen h8) (q _ (rm.free fa))⟩
theorem c_sortK {k f : Nat} {fd : FuncData} {ps : List Str} {dsp : DSp} (F : FnOk X.prog X.w X.K X.mg X.base CX0 k f fd ps (upSp X.K dsp)) (hb : Binds X.K fd ps []) (hr : Room k X.A.in1.in1) :
    CallRK X (.builtin "sorted") [Str.ofString "key"] (fun vs zs H Q => zs = [V.ref f] ∧ upC X.K (rSortK dsp) vs H Q) := by
  intro pins s σ H vs zs us ws Q I r rz ⟨ez, ds, M, Q', l, m, ⟨d, xs, g, e, hd, hnt, pure, hok, hal, hsk, q⟩, kk⟩
  subst e
  subst ez
  obtain ⟨v, e, rv⟩ := repL_one l
  subst e
  obtain ⟨u, eu, ru⟩ := vals1 r
  subst eu
  obtain ⟨w1, rfl, e1⟩ := vals1 rz
  obtain rfl : w1 = Value.ref f := e1
  have hu : X.A.in1.in1.units + 40 < cLine := by
    have := hr.un
    omega
  refine sort_core I rv ru m hd hnt (fun Hj s' d v x hdm un gr J rm rd ru => ?_) hu hok hal hsk q kk
  have hsp : upSp X.K dsp [v] Hj (fun v H' => Grow Hj H' ∧ Rep X.K H' (g d) v ∧ RM X.K H' M) E0 :=
    ⟨[d], M, fun y M' => y = g d ∧ M' = M, .one rd, rm, pure d hdm _ ⟨rfl, rfl⟩, fun y v' M' H' g1 r1 m1 ⟨h1, h2⟩ => by subst h1 h2; exact ⟨g1, r1, m1⟩⟩
  refine wpAny_call (codeAny_mono (F.run X.A.in1.in1 X.stack s' Hj ⟨[x], []⟩ [x] [v] _ E0 hr J.env0.in1.in1 (hb s' [x] J.kIn (F.len [v] Hj _ E0 hsp)) (.cons ru .nil) hsp) fun r s'' hq => ?_)
  cases r with
  | error e => exact False.elim hq
  | ok fl =>
    cases fl with
    | ret u => exact hq
    | next => exact False.elim hq
    | brk => exact False.elim hq
    | cont => exact False.elim hq
/-- sorted(e, key=x) -/
theorem d_sortK {k : Nat} {x : Str} {ps : List Str} {dsp : DSp} {e : Expr} {p p2 kp pos : Pos} {t : DTA} (C : Cal X.prog X.w X.K X.mg X.base k x ps dsp) (hr : Room k X.A.in1.in1) (hg : Gl X x) (hgs : Gl X "sorted") (hms : X.mg "sorted" = none) (ha : DA X [e] t)
    (hdb : (x == ("__debug__" : Str)) = false := by decide) (he : backTo pos (starEach [e] X.env) = [(false, eval e X.env)] := by rfl) (hpl : (backTo pos (starEach [e] X.env)).any (·.1) = false := by rfl)
    (hall : (backToKw pos (keywordEach [⟨some (Str.ofString "key"), .Name x p2, kp⟩] X.env)).all (·.1.isSome) = true := by rfl) (hnone : (backToKw pos (keywordEach [⟨some (Str.ofString "key"), .Name x p2, kp⟩] X.env)).any (·.1.isNone) = false := by rfl)
    (hks : (backToKw pos (keywordEach [⟨some (Str.ofString "key"), .Name x p2, kp⟩] X.env)).filterMap (·.1) = [Str.ofString "key"] := by rfl) :
    DE X (.Call (.Name "sorted" p) [e] [⟨some (Str.ofString "key"), .Name x p2, kp⟩] pos) (dCB (rSortK dsp) t) := by
  obtain ⟨f, fd, F, hm, hk, hb⟩ := C.ex
  refine imE (pe_callBK (c_sortK F hb hr) hgs hms boot_sorted ha (pk_cons (pe_glob (v := .ref f) hg hm rfl hdb) pk_nil) (by decide) (by decide) he hpl hall hnone hks) fun σ H Q ⟨m, M, Q', r, q, kk⟩ => ?_
  refine ⟨m, M, _, r, q, fun ds vs M1 H1 g1 l1 m1 q1 => ?_⟩
  exact ⟨rfl, ds, M1, Q', l1, m1, q1, fun d v M2 H2 g2 => kk d v M2 H2 (g1.trans g2)⟩
end
end DL
/-! reversed, zip, a tuple times a number -/
namespace DL
open PySem PySem.Spec PyProof.Rows L2

section
variable {X : Cx} {tg e e2 : Expr} {te : DTE} {t : DTA} {p p2 pos pos2 : Pos}
/-! ### for .. in reversed(a tuple or a frozen list) -/
def diRev (te : DTE) : DTI := fun m M Q => te m M fun d M1 => ∃ xs, (d = .tup xs ∨ d = .lst xs) ∧ Q (xs.reverse, none) M1
theorem rev_at {α : Type} {xs : List α} {i : Nat} (h : i < xs.length) : xs.reverse[i]? = xs[xs.length - 1 - i]? := List.getElem?_reverse h
theorem di_rev (hg : Gl X "reversed") (hm : X.mg "reversed" = none) (he : DE X e te) (hs : starEach [e] X.env = (false, eval e X.env) :: starEach [] X.env := by rfl) : DI X tg (.Call (.Name "reversed" p) [e] [] pos) (diRev te) :=
  imI (RT.pi_revA hg hm he hs) fun σ H Q ⟨m, M, Q', r, q, k⟩ => by
    refine ⟨m, M, _, r, q, fun d v M1 H1 g1 r1 m1 ⟨xs, e1, q1⟩ => ?_⟩
    rcases e1 with e1 | e1
    · subst e1
      cases r1 with
      | @tup _ a vs hf z l =>
        have hl := l.length
        refine ⟨a, vs, rfl, .inr ⟨hf, k _ M1 H1 _ g1 m1 q1 ⟨?_, fun i H2 ok hi => ?_, fun i H2 x H3 ok hi y => ?_, fun H2 ok => ?_⟩⟩⟩
        · show xs.reverse.length ≤ sizeLine
          rw [List.length_reverse, hl]
          exact z
        · have hi' : i < xs.length := by rw [← List.length_reverse (as := xs)]; exact hi
          obtain ⟨w, e3, _⟩ := l.get (i := xs.length - 1 - i) (List.getElem?_eq_getElem (by omega))
          exact ⟨by omega, vs, w, sqT_grow hf ok.1, by rw [← hl]; exact e3⟩
        · have hi' : i < xs.length := by rw [← List.length_reverse (as := xs)]; exact hi
          obtain ⟨e3, hx⟩ := y
          subst e3
          have hx' := hx vs (sqT_grow hf ok.1)
          rw [← hl] at hx'
          obtain ⟨d, e5, rd⟩ := l.get' hx'
          exact ⟨.refl _, fun _ q => q, d, by show xs.reverse[i]? = _; rw [rev_at hi']; exact e5, rd.grow ok.1⟩
        · show vs.length ≤ xs.reverse.length
          rw [List.length_reverse, hl]
          exact Nat.le_refl _
    · subst e1
      cases r1 with
      | @lst _ a vs hf z l =>
        have hl := l.length
        refine ⟨a, vs, rfl, .inl ⟨hf.seq, k _ M1 H1 _ g1 m1 q1 ⟨?_, fun i H2 ok hi => ?_, fun i H2 x H3 ok hi y => ?_, fun H2 ok => ?_⟩⟩⟩
        · show xs.reverse.length ≤ sizeLine
          rw [List.length_reverse, hl]
          exact z
        · have hi' : i < xs.length := by rw [← List.length_reverse (as := xs)]; exact hi
          obtain ⟨w, e3, _⟩ := l.get (i := xs.length - 1 - i) (List.getElem?_eq_getElem (by omega))
          exact ⟨by omega, vs, w, (hf.grow ok.1).seq, by rw [← hl]; exact e3⟩
        · have hi' : i < xs.length := by rw [← List.length_reverse (as := xs)]; exact hi
          obtain ⟨e3, hx⟩ := y
          subst e3
          have hx' := hx vs (hf.grow ok.1).seq
          rw [← hl] at hx'
          obtain ⟨d, e5, rd⟩ := l.get' hx'
          exact ⟨.refl _, fun _ q => q, d, by show xs.reverse[i]? = _; rw [rev_at hi']; exact e5, rd.grow ok.1⟩
        · show vs.length ≤ xs.reverse.length
          rw [List.length_reverse, hl]
          exact Nat.le_refl _
/-! ### tuple(reversed(a list)) -/
def dTupRev (te : DTE) : DTE := fun m M Q => te m M fun d M1 => ∃ xs, dItems d M1 = some xs ∧ d ≠ .tup xs ∧ Q (.tup xs.reverse) M1
theorem d_tupRev (hc : X.calm = true) (hg : Gl X "tuple") (hm : X.mg "tuple" = none) (hg2 : Gl X "reversed") (hm2 : X.mg "reversed" = none) (he : DE X e te)
    (hs : starEach [e] X.env = (false, eval e X.env) :: starEach [] X.env := by rfl)
    (hs2 : starEach [.Call (.Name "reversed" p2) [e] [] pos2] X.env = (false, eval (.Call (.Name "reversed" p2) [e] [] pos2) X.env) :: starEach [] X.env := by rfl) :
    DE X (.Call (.Name "tuple" p) [.Call (.Name "reversed" p2) [e] [] pos2] [] pos) (dTupRev te) :=
  imE (RT.pe_tupRev hc hg hm hg2 hm2 he hs hs2) fun σ H Q ⟨m, M, Q', r, q, k⟩ => by
    refine ⟨m, M, _, r, q, fun d v M1 H1 g1 r1 m1 ⟨xs, e1, hn, q1⟩ => ?_⟩
    obtain ⟨a, ws, rfl, z, l3, h6⟩ := lst_of r1 m1 e1 hn
    refine ⟨a, ws, rfl, h6, fun c hc => ?_⟩
    have g2 : Grow H1 (upd H1 c (.tup ws.reverse)) := .new hc
    exact k _ _ M1 _ (g1.trans g2) (.tup (.of upd_same) (by rw [List.length_reverse]; exact z) (l3.reverse.grow g2)) (m1.new hc) q1
/-! ### for (..) in zip(two tuples) -/
def zipD : List D → List D → List D
  | x :: xs, y :: ys => .tup [x, y] :: zipD xs ys
  | _, _ => []
theorem zipD_len : ∀ xs ys : List D, (zipD xs ys).length = min xs.length ys.length
  | [], ys => by simp [zipD]
  | x :: xs, [] => by simp [zipD]
  | x :: xs, y :: ys => by
    rw [zipD, List.length_cons, List.length_cons, List.length_cons, zipD_len xs ys]
    omega
theorem zipD_get : ∀ {xs ys : List D} {i : Nat} {x y : D}, xs[i]? = some x → ys[i]? = some y → (zipD xs ys)[i]? = some (.tup [x, y])
  | [], _, _, _, _, h, _ => by simp at h
  | _ :: _, [], _, _, _, _, h => by simp at h
  | x :: xs, y :: ys, 0, a, b, h1, h2 => by
    simp at h1 h2
    subst h1 h2
    rfl
  | x :: xs, y :: ys, i + 1, a, b, h1, h2 => by
    rw [zipD, List.getElem?_cons_succ]
    exact zipD_get (by simpa using h1) (by simpa using h2)
def diZip (t : DTA) : DTI := fun m M Q => t m M fun ds M1 => ∃ xs ys, ds = [.tup xs, .tup ys] ∧ Q (zipD xs ys, none) M1
theorem di_zip {elts : List Expr} {kk : Nat} {tpos : Pos} (hg : Gl X "zip") (hm : X.mg "zip" = none) (ha : DA X [e, e2] t)
    (hs : starEach [e, e2] X.env = (false, eval e X.env) :: starEach [e2] X.env := by rfl) (hpl : (backTo pos (starEach [e2] X.env)).any (·.1) = false := by rfl) :
    DI X (.Tuple elts kk tpos) (.Call (.Name "zip" p) [e, e2] [] pos) (diZip t) :=
  imI (RZ.pi_zipA hg hm ha hs hpl) fun σ H Q ⟨m, M, Q', r, q, k⟩ => by
    refine ⟨m, M, _, r, q, fun ds vs M1 H1 g1 r1 m1 ⟨xs, ys, e1, q1⟩ => ?_⟩
    subst e1
    obtain ⟨v, w, e2, rv, rw'⟩ := repL_two r1
    subst e2
    cases rv with
    | @tup _ a vs hf z l =>
      cases rw' with
      | @tup _ b ws hf2 z2 l2 =>
        have hl := l.length
        have hl2 := l2.length
        have hlen : (zipD xs ys).length = min xs.length ys.length := zipD_len xs ys
        refine ⟨a, b, vs, ws, rfl, .inr ⟨hf, hf2, k _ M1 H1 _ g1 m1 q1 ⟨?_, fun i H2 ok hi => ?_, fun i H2 x H3 ok hi y => ?_, fun H2 ok => ?_⟩⟩⟩
        · show (zipD xs ys).length ≤ sizeLine
          rw [hlen]
          omega
        · have hi' : i < min xs.length ys.length := by rw [← hlen]; exact hi
          obtain ⟨w1, e3, _⟩ := l.get (i := i) (List.getElem?_eq_getElem (by omega))
          obtain ⟨w2, e4, _⟩ := l2.get (i := i) (List.getElem?_eq_getElem (by omega))
          exact ⟨vs, ws, w1, w2, sqT_grow hf ok.1, sqT_grow hf2 ok.1, e3, e4⟩
        · obtain ⟨T, x1, y1, e3, hT, e4, hx, hy⟩ := y
          subst e3
          subst e4
          obtain ⟨d1, e5, rd1⟩ := l.get' (hx _ (sqT_grow hf ok.1))
          obtain ⟨d2, e6, rd2⟩ := l2.get' (hy _ (sqT_grow hf2 ok.1))
          refine ⟨.new hT, fun M2 rm => rm.new hT, .tup [d1, d2], zipD_get e5 e6, ?_⟩
          exact .tup (.of upd_same) (by show 2 ≤ sizeLine; decide) (.cons (rd1.grow (ok.1.trans (.new hT))) (.cons (rd2.grow (ok.1.trans (.new hT))) .nil))
        · refine ⟨vs, ws, sqT_grow hf ok.1, sqT_grow hf2 ok.1, ?_⟩
          show vs.length ≤ (zipD xs ys).length ∨ ws.length ≤ (zipD xs ys).length
          rw [hlen]
          omega
end
/-! ### a tuple, times 0 or 1 -/
theorem tuple_mul1 (l : Addr) (items : Array Value) (n : Nat) (dd : Option Addr) (sl : Array (Option Value)) (u : Tok) :
    Meets (Builtin.«tuple.__mul__» ⟨[.ref l, .int 1 u], []⟩) (fun _ R s => s.heap.get? l = some { cls := .type "tuple", dict := dd, data := .seq items n, slots := sl } ∧ R (.ok (.ret (Value.ref l))) s) :=
  .of_wp fun prog w A R s h => by
    obtain ⟨hp, g, d, tk, os⟩ := s
    obtain ⟨hl, h⟩ := h
    have f1 := AutoSeq1.idx_int
    wp_walk using wpAny_loadPart' hl
    exact ⟨_, rfl, h⟩
theorem tuple_mul0 (l : Addr) (items : Array Value) (n : Nat) (dd : Option Addr) (sl : Array (Option Value)) (u : Tok) (c1 : (items.isEmpty || (0 : Int) == 1) = false) :
    Meets (Builtin.«tuple.__mul__» ⟨[.ref l, .int 0 u], []⟩) (fun _ R s => s.heap.get? l = some { cls := .type "tuple", dict := dd, data := .seq items n, slots := sl } ∧
      R (.ok (.ret (Value.ref s.heap.objs.size))) { s with heap := s.heap.push { cls := Value.type "tuple", data := Data.seq #[] }, toks := s.toks }) :=
  .of_wp fun prog w A R s h => by
    obtain ⟨hp, g, d, tk, os⟩ := s
    obtain ⟨hl, h⟩ := h
    have f1 := AutoSeq1.idx_int
    wp_walk using wpAny_loadPart' hl
    repeat (first
      | (refine wpAny_ite_false (decide_eq_false (by rw [c1]; exact Bool.false_ne_true)) ?_; wp_walk using wpAny_loadPart' hl))
    exact ⟨_, rfl, h⟩
def rRep01 (K : PySem.W.Frag) : R2 := fun x y H Q => ∃ l k xs, x = .ref l ∧ y = .int k ∧ SqT K H l xs ∧ xs ≠ [] ∧ ((k = 1 ∧ Q (.ref l) H) ∨ (k = 0 ∧ ∀ p, H p = none → Q (.ref p) (upd H p (.tup []))))
section
variable {X : Cx}
theorem op_rep01 : OpR X (binaryOp .Mult) (rRep01 X.K) := by
  intro pins s σ H x y v u Q I rx ry h
  obtain ⟨l, k, xs, rfl, rfl, hT, hne, h⟩ := h
  cases rx
  obtain ⟨t, rfl⟩ := ry
  obtain ⟨its, r, ⟨⟨cls, dd, data, sl⟩, ho, hc, n, hd⟩, hs⟩ := I.tuple hT
  simp only at hc hd
  subst hc hd
  have hle : its.length = xs.length := r.length.symm
  have hn : its ≠ [] := fun e => hne (by
    rw [e] at hle
    exact List.eq_nil_of_length_eq_zero hle.symm)
  have hi : its.toArray.isEmpty = false := by
    cases its with
    | nil => exact absurd rfl hn
    | cons a b => rfl
  rcases h with ⟨rfl, q⟩ | ⟨rfl, q⟩
  · refine wpAny_binaryOp_repeat_ref (T := "tuple") (U := "int") (by decide) ⟨_, ho, rfl⟩ (fun s' => typeIs_int s' 1 t) noFill_tuple_mul F.fills_int_mul F.slot_int_rmul repeat_tuple F.slot_int_index.lookup
      (call_meets F.slot_int_rmul (typeIs_int s 1 t) F.entry_int_rmul (F.args_int_rmul_2 _ _) (int_rmul_tuple 1 t l its.toArray n dd sl)
        ⟨ho, rfl, ⟨_, ho, rfl⟩, call_meets F.slot_tuple_mul ⟨_, ho, rfl⟩ F.entry_tuple_mul (F.args_tuple_mul_2 _ _) (tuple_mul1 l its.toArray n dd sl t) ⟨ho, ?_⟩⟩)
    exact ⟨.ref l, H, I, rfl, q⟩
  · refine wpAny_binaryOp_repeat_ref (T := "tuple") (U := "int") (by decide) ⟨_, ho, rfl⟩ (fun s' => typeIs_int s' 0 t) noFill_tuple_mul F.fills_int_mul F.slot_int_rmul repeat_tuple F.slot_int_index.lookup
      (call_meets F.slot_int_rmul (typeIs_int s 0 t) F.entry_int_rmul (F.args_int_rmul_2 _ _) (int_rmul_tuple 0 t l its.toArray n dd sl)
        ⟨ho, rfl, ⟨_, ho, rfl⟩, call_meets F.slot_tuple_mul ⟨_, ho, rfl⟩ F.entry_tuple_mul (F.args_tuple_mul_2 _ _) (tuple_mul0 l its.toArray n dd sl t (by rw [hi]; rfl)) ⟨ho, ?_⟩⟩)
    refine ⟨.ref s.heap.objs.size, _, I.laid (t' := s.toks) (o := .tup []) (fun b ob q => Heap.get?_push_of_some _ q) (Nat.le_refl _) ?_, rfl, q _ (I.hok.fresh (Nat.le_refl _))⟩
    exact ⟨Nat.zero_le _, [], .nil, IsTup.new _ _⟩
/-- a tuple * int -/
def dMulT : DR2 := fun x y M Q => ∃ xs k, x = .tup xs ∧ y = .int k ∧ xs ≠ [] ∧ 0 ≤ k ∧ k ≤ 1000 ∧ xs.length ≤ 1000 ∧ Q (.tup (List.replicate k.toNat xs).flatten) M
theorem o_mulT : DOp X (binaryOp .Mult) dMulT := by
  intro pins s σ H x y v u Q I rx ry ⟨d, e, M, Q', r1, r2, m, ⟨xs, k, e1, e2, hne, h0, h1, hz, q⟩, kk⟩
  subst e1 e2
  cases r2
  cases r1 with
  | @tup _ a vs hf z l =>
    have hl := l.length
    have hvn : vs ≠ [] := fun e => hne (by
      rw [e] at hl
      exact List.eq_nil_of_length_eq_zero hl)
    by_cases c1 : k = 1
    · subst c1
      have er : (List.replicate (1 : Int).toNat xs).flatten = xs := by simp
      rw [er] at q
      exact op_rep01 pins s σ H _ _ v u Q I rx ry ⟨a, 1, vs, rfl, rfl, hf, hvn, .inl ⟨rfl, kk _ _ M H (.refl H) (.tup hf z l) m q⟩⟩
    · by_cases c0 : k = 0
      · subst c0
        have er : (List.replicate (0 : Int).toNat xs).flatten = [] := by simp
        rw [er] at q
        exact op_rep01 pins s σ H _ _ v u Q I rx ry ⟨a, 0, vs, rfl, rfl, hf, hvn, .inr ⟨rfl, fun p hp => kk _ _ M _ (.new hp) (.tup (.of upd_same) (Nat.zero_le _) .nil) (m.new hp) q⟩⟩
      · refine op_repT pins s σ H _ _ v u Q I rx ry ⟨a, k, vs, rfl, rfl, hf, hvn, by omega, h1, by omega, fun p hp => ?_⟩
        have g2 : Grow H (upd H p (.tup (List.replicate k.toNat vs).flatten)) := .new hp
        refine kk _ _ M _ g2 (.tup (.of upd_same) ?_ ((RepL.rep l _).grow g2)) (m.new hp) q
        rw [PyProof.Rows.lm_len_rep_flat, sizeLine_eq]
        have a1 : k.toNat * vs.length ≤ 1000 * 1000 := Nat.mul_le_mul (by omega) (by omega)
        omega
end
end DL
/-! dicts whose keys are tuples -/
namespace DL
open PySem PySem.Spec PyProof.Rows L2

/-! ### keys -/
mutual
theorem nk_inj : ∀ {a b : D}, kOk a = true → kOk b = true → nk a = nk b → a = b
  | .int i, b, _, hb, e => by cases b <;> simp_all [nk, kOk]
  | .str x, b, _, hb, e => by cases b <;> simp_all [nk, kOk]
  | .non, b, _, hb, e => by cases b <;> simp_all [nk, kOk]
  | .tup xs, .tup ys, ha, hb, e => by
    rw [nk, nk] at e
    injection e with e
    rw [nks_inj (xs := xs) (ys := ys) (by simpa [kOk] using ha) (by simpa [kOk] using hb) e]
  | .tup xs, .int _, _, _, e => by simp [nk] at e
  | .tup xs, .str _, _, _, e => by simp [nk] at e
  | .tup xs, .non, _, _, e => by simp [nk] at e
  | .tup xs, .bl _, _, hb, _ => by simp [kOk] at hb
  | .tup xs, .lst _, _, hb, _ => by simp [kOk] at hb
  | .tup xs, .dct _, _, hb, _ => by simp [kOk] at hb
  | .tup xs, .ref _, _, hb, _ => by simp [kOk] at hb
  | .tup xs, .ty _, _, hb, _ => by simp [kOk] at hb
  | .bl _, _, ha, _, _ => by simp [kOk] at ha
  | .lst _, _, ha, _, _ => by simp [kOk] at ha
  | .dct _, _, ha, _, _ => by simp [kOk] at ha
  | .ref _, _, ha, _, _ => by simp [kOk] at ha
  | .ty _, _, ha, _, _ => by simp [kOk] at ha
theorem nks_inj : ∀ {xs ys : List D}, kOks xs = true → kOks ys = true → nks xs = nks ys → xs = ys
  | [], [], _, _, _ => rfl
  | [], y :: ys, _, _, e => by simp [nks] at e
  | x :: xs, [], _, _, e => by simp [nks] at e
  | x :: xs, y :: ys, ha, hb, e => by
    rw [kOks, Bool.and_eq_true] at ha hb
    rw [nks, nks] at e
    injection e with e1 e2
    rw [nk_inj ha.1 hb.1 e1, nks_inj ha.2 hb.2 e2]
end
section
variable {X : Cx} {pins : List (Addr × Obj)} {σ : SL} {H : Hp} {s : Shared}
mutual
theorem Rep.nested (I : Inv X pins σ H s) : ∀ {d : D} {v : V} {u : Value}, Rep X.K H d v → RelV v u → kOk d = true → NestedIs s.heap (nk d) u
  | _, _, _, .non, r, _ => by cases r; exact .none
  | _, _, _, .int i, r, _ => by
    obtain ⟨t, rfl⟩ := r
    exact .int i t
  | _, _, _, .str x, r, _ => by
    obtain ⟨t, rfl⟩ := r
    exact .text x t
  | _, _, _, .tup hs z l, r, h => by
    cases r
    obtain ⟨its, rv, ⟨o, h1, h2, n, h3⟩, hz⟩ := I.tuple hs
    exact .tup h1 h2 h3 (RepL.nested I l rv (by simpa [kOk] using h))
  | _, _, _, .bl _, _, h => by simp [kOk] at h
  | _, _, _, .lst _ _ _, _, h => by simp [kOk] at h
  | _, _, _, .ref _, _, h => by simp [kOk] at h
  | _, _, _, .ty _, _, h => by simp [kOk] at h
  | _, _, _, .dct _ _ _, _, h => by simp [kOk] at h
theorem RepL.nested (I : Inv X pins σ H s) : ∀ {ds : List D} {vs : List V} {us : List Value}, RepL X.K H ds vs → Vals vs us → kOks ds = true → NestedAll s.heap (nks ds) us
  | _, _, _, .nil, .nil, _ => .nil
  | _, _, _, .cons a l, .cons r rs, h => by
    rw [kOks, Bool.and_eq_true] at h
    exact .cons (Rep.nested I a r h.1) (RepL.nested I l rs h.2)
end
/-! ### what a dict's object says -/
abbrev EsXs : List (NestedKey × Addr × V) → List (NestedKey × Addr × Value) → Prop := Paired fun p q => p.1 = q.1 ∧ p.2.1 = q.2.1 ∧ RelV p.2.2 q.2.2
theorem RepKV.is {K : PySem.W.Frag} (I : Inv X pins σ H s) (hK : K = X.K) : ∀ {kvs : List (D × D)} {es : List (NestedKey × Addr × V)} {xs : List (NestedKey × Addr × Value)}, RepKV K H kvs es → EsXs es xs → ∀ x ∈ xs, (nestedKind X.prog X.w).is s.heap x.1 x.2.1
  | _, _, _, .nil, .nil, x, hx => nomatch hx
  | _, _, _, .cons a b c d e, .cons ⟨h1, h2, _⟩ t, x, hx => by
    subst hK
    rcases List.mem_cons.mp hx with rfl | hx
    · rw [← h1, ← h2]
      exact ⟨Rep.nested I a rfl b, c⟩
    · exact RepKV.is I rfl e t x hx
theorem dict_of {a : Addr} {kvs : List (D × D)} {es : List (NestedKey × Addr × V)} (I : Inv X pins σ H s) (h : H a = some (DictO X.w a es)) (r : RepKV X.K H kvs es) :
    (a == sysModules) = false ∧ ∃ xs, EsXs es xs ∧ s.heap.DictOfH (nestedKind X.prog X.w) a xs := by
  obtain ⟨⟨xs, pr, ⟨o, ents, ep, h1, h2, h3, h4⟩, nd, hs⟩, _, _⟩ := I.hok a _ h
  exact ⟨hs, xs, pr, o, ents, ep, h1, h2, h3, h4, RepKV.is I rfl r pr, nd⟩
theorem dict_new {P : Program} {w : World} {H' : Hp} {h : Heap} {a : Addr} {es : List (NestedKey × Addr × V)} {xs : List (NestedKey × Addr × Value)} (hs : (a == sysModules) = false) (pr : EsXs es xs) (dd : h.DictOfH (nestedKind P w) a xs) : ObjOk P w H' h a (DictO w a es) := by
  obtain ⟨o, ents, ep, h1, h2, h3, h4, _, nd⟩ := dd
  refine ⟨⟨xs, pr, ⟨o, ents, ep, h1, h2, h3, h4⟩, nd, hs⟩, ⟨o, h1⟩, fun g1 g2 ⟨ys, py, ⟨o', en, e', k1, k2, k3, k4⟩, nd', hs'⟩ k => ⟨ys, py, ⟨o', en, e', k o' k1, k2, k3, k4⟩, nd', hs'⟩⟩
/-! ### looking up, storing -/
def atV (es : List (NestedKey × Addr × V)) (k : NestedKey) : Option V := (es.find? fun x => decide (x.1 = k)).map fun x => x.2.2
def dget (kvs : List (D × D)) (k : D) : Option D := (kvs.find? fun p => decide (nk p.1 = nk k)).map (·.2)
def dhas (kvs : List (D × D)) (k : D) : Bool := kvs.any fun p => decide (nk p.1 = nk k)
def dput (kvs : List (D × D)) (k v : D) : List (D × D) := if dhas kvs k = true then kvs.map fun p => if nk p.1 = nk k then (p.1, v) else p else kvs ++ [(k, v)]
def storeV (es : List (NestedKey × Addr × V)) (k : NestedKey) (b : Addr) (y : V) : List (NestedKey × Addr × V) := if (es.any fun x => decide (x.1 = k)) = true then es.map fun x => if x.1 = k then (x.1, x.2.1, y) else x else es ++ [(k, b, y)]
theorem atV_at : ∀ {es : List (NestedKey × Addr × V)} {xs : List (NestedKey × Addr × Value)} {k : NestedKey}, EsXs es xs → RelO (atV es k) ((atKey xs k).map (·.2))
  | _, _, k, .nil => by
    show RelO none none
    trivial
  | _, _, k, .cons (a := p) (b := q) ⟨h1, h2, h3⟩ t => by
    have ih := atV_at (k := k) t
    unfold atV atKey at ih ⊢
    rw [List.find?_cons, List.find?_cons, ← h1]
    cases decide (p.1 = k) with
    | true => exact h3
    | false => exact ih
theorem dget_at {K : PySem.W.Frag} : ∀ {kvs : List (D × D)} {es : List (NestedKey × Addr × V)} {k : D}, RepKV K H kvs es → (dget kvs k = none ∧ atV es (nk k) = none) ∨ ∃ d y, dget kvs k = some d ∧ atV es (nk k) = some y ∧ Rep K H d y
  | _, _, k, .nil => .inl ⟨rfl, rfl⟩
  | _, _, k, .cons (k := k1) a b c d e => by
    have ih := dget_at (k := k) e
    unfold dget atV at ih ⊢
    rw [List.find?_cons, List.find?_cons]
    show (_ ∧ _) ∨ _
    cases hk : decide (nk k1 = nk k) with
    | true => exact .inr ⟨_, _, rfl, rfl, d⟩
    | false => exact ih
theorem any_at : ∀ {es : List (NestedKey × Addr × V)} {xs : List (NestedKey × Addr × Value)} {k : NestedKey}, EsXs es xs → (atKey xs k).isSome = es.any fun x => decide (x.1 = k)
  | _, _, k, .nil => rfl
  | _, _, k, .cons (a := p) (b := q) ⟨h1, h2, h3⟩ t => by
    have ih := any_at (k := k) t
    unfold atKey at ih ⊢
    rw [List.find?_cons, List.any_cons, ← h1]
    cases decide (p.1 = k) with
    | true => rfl
    | false => exact ih
theorem EsXs.put {k : NestedKey} {y : V} {r : Value} (ry : RelV y r) : ∀ {es : List (NestedKey × Addr × V)} {xs : List (NestedKey × Addr × Value)}, EsXs es xs → EsXs (es.map fun x => if x.1 = k then (x.1, x.2.1, y) else x) (xs.map (putAt k r))
  | _, _, .nil => .nil
  | _, _, .cons (a := p) (b := q) h t => by
    refine .cons ?_ (EsXs.put ry t)
    obtain ⟨h1, h2, h3⟩ := h
    by_cases c : p.1 = k
    · have hq : q.1 = k := by rw [← h1]; exact c
      simp only [putAt, if_pos c, if_pos hq]
      exact ⟨h1, h2, ry⟩
    · have hq : ¬ q.1 = k := by rw [← h1]; exact c
      simp only [putAt, if_neg c, if_neg hq]
      exact ⟨h1, h2, h3⟩
theorem EsXs.store {es : List (NestedKey × Addr × V)} {xs : List (NestedKey × Addr × Value)} {k : NestedKey} {b : Addr} {y : V} {r : Value} (p : EsXs es xs) (ry : RelV y r) : EsXs (storeV es k b y) (storedH xs k b r) := by
  unfold storeV storedH
  rw [any_at p]
  split
  · exact EsXs.put ry p
  · exact Paired.snoc p ⟨rfl, rfl, ry⟩
theorem has_any {K : PySem.W.Frag} {k : D} : ∀ {kvs : List (D × D)} {es : List (NestedKey × Addr × V)}, RepKV K H kvs es → (es.any fun x => decide (x.1 = nk k)) = dhas kvs k
  | _, _, .nil => rfl
  | _, _, .cons _ _ _ _ e => by
    have ih := has_any (k := k) e
    unfold dhas at ih ⊢
    rw [List.any_cons, List.any_cons, ih]
theorem RepKV.len {K : PySem.W.Frag} : ∀ {kvs : List (D × D)} {es : List (NestedKey × Addr × V)}, RepKV K H kvs es → kvs.length = es.length
  | _, _, .nil => rfl
  | _, _, .cons _ _ _ _ e => by rw [List.length_cons, List.length_cons, RepKV.len e]
theorem RepKV.put {K : PySem.W.Frag} {k v : D} {y : V} (rv : Rep K H v y) : ∀ {kvs : List (D × D)} {es : List (NestedKey × Addr × V)}, RepKV K H kvs es →
    RepKV K H (kvs.map fun p => if nk p.1 = nk k then (p.1, v) else p) (es.map fun x => if x.1 = nk k then (x.1, x.2.1, y) else x)
  | _, _, .nil => .nil
  | _, _, .cons (k := k1) a b c d e => by
    rw [List.map_cons, List.map_cons]
    by_cases h : nk k1 = nk k
    · rw [if_pos h, if_pos h]
      exact .cons a b c rv (RepKV.put rv e)
    · rw [if_neg h, if_neg h]
      exact .cons a b c d (RepKV.put rv e)
theorem RepKV.snoc {K : PySem.W.Frag} {k v : D} {b : Addr} {y : V} (rk : Rep K H k (.ref b)) (hk : kOk k = true) (hd : (nk k).depth ≤ 8) (rv : Rep K H v y) : ∀ {kvs : List (D × D)} {es : List (NestedKey × Addr × V)}, RepKV K H kvs es → RepKV K H (kvs ++ [(k, v)]) (es ++ [(nk k, b, y)])
  | _, _, .nil => .cons rk hk hd rv .nil
  | _, _, .cons a b c d e => .cons a b c d (RepKV.snoc rk hk hd rv e)
theorem RepKV.store {K : PySem.W.Frag} {k v : D} {b : Addr} {y : V} {kvs : List (D × D)} {es : List (NestedKey × Addr × V)} (r : RepKV K H kvs es) (rk : Rep K H k (.ref b)) (hk : kOk k = true) (hd : (nk k).depth ≤ 8) (rv : Rep K H v y) :
    RepKV K H (dput kvs k v) (storeV es (nk k) b y) := by
  unfold dput storeV
  rw [has_any r]
  split
  · exact RepKV.put rv r
  · exact RepKV.snoc rk hk hd rv r
theorem storeV_len (es : List (NestedKey × Addr × V)) (k : NestedKey) (b : Addr) (y : V) : (storeV es k b y).length ≤ es.length + 1 := by
  unfold storeV
  split
  · rw [List.length_map]
    omega
  · rw [List.length_append, List.length_singleton]
    exact Nat.le_refl _
/-- d[k] = v -/
theorem dict_set {a b : Addr} {k : D} {y : V} {r : Value} {kvs : List (D × D)} {es : List (NestedKey × Addr × V)} {Q : Unit → Shared → Prop} {E : Value → Shared → Prop} (hu : X.A.units + 8 < cLine) (I : Inv X pins σ H s) (h : H a = some (DictO X.w a es)) (rkv : RepKV X.K H kvs es)
    (hz : es.length ≤ sizeLine) (rk : Rep X.K H k (.ref b)) (hk : kOk k = true) (hd : (nk k).depth ≤ 8) (ry : RelV y r) (cont : ∀ s', Inv X pins σ (upd H a (DictO X.w a (storeV es (nk k) b y))) s' → Q () s') :
    wpAny (model X.prog X.w) X.A (dictSet a (.ref b) r) Q E s := by
  obtain ⟨hs, xs, pr, dd⟩ := dict_of I h rkv
  have hl : xs.length ≤ sizeLine := by rw [← pr.length]; exact hz
  refine wpAny_dictSet_heap (knd := nestedKind X.prog X.w) (hsz := hl) hu ⟨Rep.nested I rk rfl hk, hd⟩ dd fun h' dd' hsb => cont _ ?_
  obtain ⟨o', _, _, ho', _⟩ := id dd'
  exact d_write I (by rw [h]; exact True.intro) hsb ⟨o', ho'⟩ (dict_new hs (EsXs.store pr ry) dd')
end
/-! ### the mutable part -/
/-- a code object is no dict -/
theorem code_ne_dict {w : World} {p : Addr} {q : Str} {es : List (NestedKey × Addr × V)} : LamX.CodeO p q ≠ DictO w p es := fun z => by
  unfold LamX.CodeO DictO at z
  injection z with z
  have hg : (⟨Array.replicate (p + 1) { cls := .none, data := .fields #[.none, .str q 0] }, {}⟩ : Heap).get? p = some { cls := .none, data := .fields #[.none, .str q 0] } := by
    show (match (Array.replicate (p + 1) ({ cls := .none, data := .fields #[.none, .str q 0] } : Obj))[p]? with | some ⟨_, _, .freed, _⟩ => none | o => o) = _
    rw [Array.getElem?_replicate, if_pos (Nat.lt_succ_self p)]
  have h1 : (fun h : Heap => ∃ (oc : Obj) (vs : Array Value) (t : Tok), h.get? p = some oc ∧ oc.data = .fields vs ∧ vs[1]? = some (.str q t)) ⟨Array.replicate (p + 1) { cls := .none, data := .fields #[.none, .str q 0] }, {}⟩ := ⟨_, _, 0, hg, rfl, rfl⟩
  rw [z] at h1
  obtain ⟨xs, _, ⟨o, ents, ep, e1, _, e3, _⟩, _⟩ := h1
  rw [hg] at e1
  cases e1
  cases e3
theorem Grow.dct {H : Hp} {w : World} {p : Addr} {es : List (NestedKey × Addr × V)} {o : HO} (h : H p = some (DictO w p es)) : Grow H (upd H p o) :=
  ⟨fun b xs e => by rw [upd_ne (ne_of e h (by intro z; cases z))]; exact e, fun b q u e => by rw [upd_ne (ne_of e h (by intro z; cases z))]; exact e, fun b q e => by
    by_cases hb : b = p
    · subst hb
      rw [h] at e
      exact absurd (Option.some.inj e).symm code_ne_dict
    · rw [upd_ne hb]
      exact e⟩
theorem RM.putDct {K : PySem.W.Frag} {H : Hp} {M : DM} {w : World} {p : Addr} {es es' : List (NestedKey × Addr × V)} {kvs : List (D × D)} (h : RM K H M) (hp : H p = some (DictO w p es)) (hz : es'.length ≤ sizeLine) (l : RepKV K H kvs es') :
    RM K (upd H p (DictO w p es')) (mput M p (.dct w kvs)) := fun a q e => by
  have g : Grow H (upd H p (DictO w p es')) := Grow.dct hp
  by_cases ha : a = p
  · subst ha
    rw [mput_same] at e
    cases e
    exact ⟨es', upd_same, hz, l.grow g⟩
  · rw [mput_ne ha] at e
    exact (h a q e).stay (upd_ne ha) g
theorem RM.newDct {K : PySem.W.Frag} {H : Hp} {M : DM} {w : World} {p : Addr} (h : RM K H M) (hp : H p = none) : RM K (upd H p (DictO w p [])) (mput M p (.dct w [])) := fun a q e => by
  by_cases ha : a = p
  · subst ha
    rw [mput_same] at e
    cases e
    exact ⟨[], upd_same, Nat.zero_le _, .nil⟩
  · rw [mput_ne ha] at e
    exact h.new hp a q e
theorem RM.dct {K : PySem.W.Frag} {H : Hp} {M : DM} {w : World} {a : Addr} {kvs : List (D × D)} (h : RM K H M) (e : M a = some (.dct w kvs)) : ∃ es, H a = some (DictO w a es) ∧ es.length ≤ sizeLine ∧ RepKV K H kvs es := h a _ e
/-! ### d.get(k) -/
section
variable {X : Cx} {o e : Expr} {apos cpos : Pos} {to te : DTE}
/-- what may be a key -/
def isKey (k : D) : Prop := (∃ xs, k = .tup xs) ∧ kOk k = true ∧ (nk k).depth ≤ 8
def dDGet1 (w : World) (to te : DTE) : DTE := fun m M Q => to m M fun d M1 => ∃ a, d = .ref a ∧ (∃ kvs, M1 a = some (.dct w kvs)) ∧ te m M1 fun k M2 => ∃ kvs, M2 a = some (.dct w kvs) ∧ isKey k ∧ Q ((dget kvs k).getD .non) M2
theorem d_dget1 {w : World} (hw : X.w = w) (hu : X.A.units + 9 < cLine) (ho : DE X o to) (he : DE X e te) (m : M1 X o "get" apos e cpos := by exact ⟨by rfl, by rfl, by rfl, by rfl⟩) : DE X (.Call (.Attribute o "get" apos) [e] [] cpos) (dDGet1 w to te) := by
  subst hw
  refine ⟨fun pins s σ H Q I ⟨m0, M, Q', r, q, kk⟩ => ?_⟩
  refine wpAny_Call_method m.base m.few m.line PySem.F.plainAttrs_dict PySem.F.slot_dict_get PySem.F.type_dict_get (thn (ho.run pins s σ H (fun x H1 => ∃ a M1, x = .ref a ∧ Grow H H1 ∧ RM X.K H1 M1 ∧ (∃ kvs, M1 a = some (.dct X.w kvs)) ∧ te m0 M1 fun k M2 => ∃ kvs, M2 a = some (.dct X.w kvs) ∧ isKey k ∧ Q' ((dget kvs k).getD .non) M2) I
    ⟨m0, M, _, r, q, fun d v M1 H1 g1 r1 m1 ⟨a, e1, h1, q1⟩ => by subst e1; cases r1; exact ⟨a, M1, rfl, g1, m1, h1, q1⟩⟩) fun u s1 ⟨x, H1, I1, rx, a, M1, ex, g1, m1, ⟨kvs, hk⟩, q1⟩ => ?_)
  subst ex
  obtain rfl : u = Value.ref a := rx
  obtain ⟨es, h1, hz, rkv⟩ := m1.dct hk
  obtain ⟨hs, xs, pr, dd⟩ := dict_of I1 h1 rkv
  refine ⟨dd.typeIs, fun b hb => ?_, ?_⟩
  · cases hb
    obtain ⟨ob, _, _, k1, k2, _⟩ := dd
    exact ⟨ob, k1, k2.2.1⟩
  rw [m.trees]
  refine Calls.callWith_builtin rfl (Calls.evalArgs_plain (Calls.spliced_cons (thn (he.run pins s1 σ H1 (fun y H2 => ∃ k M2 kvs, Rep X.K H2 k y ∧ Grow H H2 ∧ RM X.K H2 M2 ∧ M2 a = some (.dct X.w kvs) ∧ isKey k ∧ Q' ((dget kvs k).getD .non) M2) I1
    ⟨m0, M1, _, r.grow g1 m1, q1, fun d v M2 H2 g2 r2 m2 ⟨kvs, e1, ky, q2⟩ => ⟨d, M2, kvs, r2, g1.trans g2, m2, e1, ky, q2⟩⟩) fun iv s2 ⟨y, H2, I2, ry, k, M2, kvs2, r2, g2, m2, e2, ⟨⟨ks, ek⟩, hok, hdp⟩, q2⟩ => Calls.spliced_nil ?_)))
  subst ek
  cases r2 with
  | @tup _ b vs hf z l =>
    obtain rfl : iv = Value.ref b := ry
    obtain ⟨es2, h2, hz2, rkv2⟩ := m2.dct e2
    obtain ⟨hs2, xs2, pr2, dd2⟩ := dict_of I2 h2 rkv2
    have rk : Rep X.K H2 (.tup ks) (.ref b) := .tup hf z l
    refine call_meetsIn PySem.F.slot_dict_get dd2.typeIs PySem.F.entry_dict_get (PySem.F.args_dict_get_2 _ _) (meetsH_dict_get (nestedKind X.prog X.w) a b hs2) ⟨?_, nk (.tup ks), xs2, ⟨Rep.nested I2 rk rfl hok, hdp⟩, dd2, ?_⟩
    · show X.A.units + 1 + 8 < cLine
      omega
    · have ra := atV_at (k := nk (.tup ks)) pr2
      rcases dget_at (k := .tup ks) rkv2 with ⟨n1, n2⟩ | ⟨d, y', n1, n2, rd⟩
      · rw [n2] at ra
        rw [n1] at q2
        cases ha : (atKey xs2 (nk (.tup ks))).map (·.2) with
        | some v => rw [ha] at ra; exact ra.elim
        | none => exact ⟨.non, H2, I2.tok _, rfl, kk _ _ M2 H2 g2 .non m2 q2⟩
      · rw [n2] at ra
        rw [n1] at q2
        cases ha : (atKey xs2 (nk (.tup ks))).map (·.2) with
        | some v =>
          rw [ha] at ra
          exact ⟨y', H2, I2.tok _, ra, kk _ _ M2 H2 g2 rd m2 q2⟩
        | none => rw [ha] at ra; exact ra.elim
end
end DL
/-! {k: v for .. in ..}, the keys tuples -/
namespace DL
open PySem PySem.Spec PyProof.Rows L2

section
variable {X : Cx}
/-- the reading over V: D the new dict -/
def tDcN (K : PySem.W.Frag) (w : World) (wi : TI) (g : TG) (tt : TT) (tk tv : TE) (vs : List Nat) : TE := fun σ H Q => wi σ H fun J H1 => ∀ da, H1 da = none → ∃ W : Nat → Nat → Hp → Prop, (∃ m, W 0 m (upd H1 da (DictO w da []))) ∧
  ∀ i m H, W i m H → (J.stop i H ∧ Q (.ref da) H) ∨ (J.go i H ∧ ∃ Nx : Hp → Prop, (∀ H', Nx H' → ∃ m', m' < m ∧ W (i + 1) m' H') ∧ ∀ x H', J.yld i H x H' → g x (wipe σ vs) H' fun σ2 H2 => wipe σ2 vs = wipe σ vs ∧ tt σ2 H2 fun c H3 =>
    if c = true then tk σ2 H3 fun y H4 => tv σ2 H4 fun z H5 => ∃ (k : D) (b : Addr) (kvs : List (D × D)) (es : List (NestedKey × Addr × V)), y = .ref b ∧ H5 da = some (DictO w da es) ∧ RepKV K H5 kvs es ∧ es.length ≤ sizeLine ∧ Rep K H5 k (.ref b) ∧ kOk k = true ∧ (nk k).depth ≤ 8 ∧
      Nx (upd H5 da (DictO w da (storeV es (nk k) b z))) else Nx H3)
theorem empty_dict {P : Program} {w : World} {H : Hp} (h : Heap) (hb : sysModules < h.objs.size) : ObjOk P w H (h.push { cls := .type "dict", data := .dict #[] }) h.objs.size (DictO w h.objs.size []) :=
  dict_new (P := P) (beq_eq_false_iff_ne.mpr (Ne.symm (Nat.ne_of_lt hb))) .nil (Heap.DictOfH.new h)
theorem dc_core {pins : List (Addr × Obj)} {s : Shared} {σ : SL} {H : Hp} {Q : VK} {pos' : Pos} {use : Option (Value → Sem Unit)} {Qf : Value → Shared → Prop} {kx vx tg iter : Expr} {ifs : List Expr} {scope : Scope} {own : List (Str × Nat)} {pos : Pos} {wi : TI} {g : TG} {tt : TT} {tk tv : TE} (hu : X.A.units + 8 < cLine) (hc : X.calm = true) (hN : X.N.Nodup) (hi : PI X tg iter wi) (ok : BlkOk X.N X.env.scope scope own)
    (pg : ∀ (s : Shared) (H : Hp) (C : Addr) (cl : List (Str × Addr)) (fp : List Addr), PG (X.blk s H scope (compEnvC scope cl C X.env) fp) tg g)
    (pt : ∀ (s : Shared) (H : Hp) (C : Addr) (cl : List (Str × Addr)) (fp : List Addr), PTs (X.blk s H scope (compEnvC scope cl C X.env) fp) ifs tt)
    (pk : ∀ (s : Shared) (H : Hp) (C : Addr) (cl : List (Str × Addr)) (fp : List Addr), PE (X.blk s H scope (compEnvC scope cl C X.env) fp) kx tk)
    (pv : ∀ (s : Shared) (H : Hp) (C : Addr) (cl : List (Str × Addr)) (fp : List Addr), PE (X.blk s H scope (compEnvC scope cl C X.env) fp) vx tv) (hs : ∀ x, foldedSetIterable iter X.env x = pure x) (I : Inv X pins σ H s)
    (q0 : tDcN X.K X.w wi g tt tk tv (own.map (·.2)) σ H Q) (hRR : ∀ D C s' m H', Inv X pins σ H' s' → Q (.ref D) H' → s'.heap.Ns C m → FpOk X pins H' C → compPost (model X.prog X.w) X.A X.xe use Qf (.ref D) C (.ok .next) s') :
    wpAny (model X.prog X.w) X.A (comprehension (.DictComp kx vx [⟨tg, iter, ifs, 0⟩] scope pos) scope X.env pos' newDict false (eval iter X.env) use) Qf X.xe s := by
  have cap : ∀ y ∈ scope.names, y.2 = .free → ∃ c, X.env.cells.lookup y.1 = some c := by
    intro y hy e
    exact (ok.free y hy e).elim (fun z => I.ok.has _ (.inl z)) fun z => I.ok.has _ (.inr z)
  refine wpAny_comprehension_free (use := use) rfl hs (closure_ok cap) ok.kind (fun y hy e => by rw [ok.uniq y hy, e]) (thn (hi.run pins s σ H _ I q0) fun src sa wa => thn wa fun out sb wb => ?_)
  obtain ⟨itA, ch, tn, J, Hb, rfl, Ib, Tn, stb, fpb, cont⟩ := wb
  refine wpAny_newObj_type (newEnv_comp ?_)
  -- the new dict
  obtain ⟨da, eda⟩ : ∃ da, da = sb.heap.objs.size := ⟨_, rfl⟩
  have nda : Hb da = none := Ib.hok.fresh (by rw [eda]; exact Nat.le_refl _)
  obtain ⟨W, ⟨m0, w0⟩, turn⟩ := cont da nda
  obtain ⟨sc, esc⟩ : ∃ sc : Shared, sc = { sb with heap := sb.heap.push { cls := .type "dict", data := .dict #[] } } := ⟨_, rfl⟩
  obtain ⟨Hc, eHc⟩ : ∃ Hc : Hp, Hc = upd Hb da (DictO X.w da []) := ⟨_, rfl⟩
  have hsc : sc.heap = sb.heap.push { cls := .type "dict", data := .dict #[] } := by rw [esc]
  have Ic : Inv X pins σ Hc sc := by
    rw [eHc, esc, eda]
    exact Ib.laid (t' := sb.toks) (fun b o e => Heap.get?_push_of_some _ e) (Nat.le_refl _) (empty_dict sb.heap Ib.big)
  have fpc : ∀ b ∈ ch, FpOk X pins Hc b ∧ b < sc.heap.objs.size := by
    intro b hb
    obtain ⟨o, e, _⟩ := Tn.obj _ _ stb b hb
    have lt := Heap.lt_size e
    constructor
    · refine ⟨?_, (fpb b hb).2⟩
      rw [eHc, upd_ne (by rw [eda]; exact Nat.ne_of_lt lt)]
      exact (fpb b hb).1
    · rw [hsc, Heap.size_push]
      exact Nat.lt_succ_of_lt lt
  have stc : tn 0 sc.heap := Tn.keep _ _ _ stb fun b _ o e => by rw [hsc]; exact Heap.get?_push_of_some _ e
  have Id := block_start Ic ok hN fpc
  rw [← eHc] at w0
  obtain ⟨cl, ecl⟩ : ∃ cl, cl = cellsFrom (sc.heap.objs.size + 1) scope.names (cloFrom X.env.cells scope.names []) := ⟨_, rfl⟩
  obtain ⟨ce, ece⟩ : ∃ ce : Env, ce = compEnvC scope cl sc.heap.objs.size X.env := ⟨_, rfl⟩
  obtain ⟨sd, esd⟩ : ∃ sd : Shared, sd = { sc with heap := pushCells (sc.heap.push { cls := .type "dict", data := .dict #[] }) scope.names } := ⟨_, rfl⟩
  suffices main : codeAny (model X.prog X.w) X.A (.compStart (.DictComp kx vx [⟨tg, iter, ifs, 0⟩] scope pos) 0 (.ref itA) (.ref da) ce) (compPost (model X.prog X.w) X.A X.xe use Qf (.ref da) sc.heap.objs.size) sd by
    rw [ece, ecl, esd, esc, eda] at main
    exact main
  rw [← ecl, ← ece, ← esd] at Id
  have locC : ce.locals = sc.heap.objs.size := by rw [ece]; rfl
  have std : tn 0 sd.heap := Tn.keep _ _ _ stc fun b _ o e => by
    rw [esd]
    exact pushCells_keeps _ _ _ _ (Heap.get?_push_of_some _ e)
  have still : ∀ {τ : SL} {H' : Hp} {t : Shared}, Inv (X.blk sc Hc scope ce ch) [] τ H' t → (∀ b ∈ ch, H' b = none) → ∀ b ∈ ch, FpOk (X.blk sc Hc scope ce ch) [] H' b := by
    intro τ H' t J' hn b hb
    exact ⟨hn b hb, (J'.ok.exf b hb).1, J'.ok.exfs b hb, .inl hb, fun x c e => (J'.ok.exf b hb).2 x c e, fun p hp => absurd (show p ∈ ([] : List (Addr × Obj)) ++ [] from hp) (by simp)⟩
  have Pg := pg sc Hc sc.heap.objs.size cl ch
  have Pt := pt sc Hc sc.heap.objs.size cl ch
  have Pk := pk sc Hc sc.heap.objs.size cl ch
  have Pv := pv sc Hc sc.heap.objs.size cl ch
  rw [← ece] at Pg Pt Pk Pv
  have walk : codeAny (model X.prog X.w) X.A (.compLoop (.DictComp kx vx [⟨tg, iter, ifs, 0⟩] scope pos) 0 (.ref itA) (.ref da) ce) (compPost (model X.prog X.w) X.A X.xe use Qf (.ref da) sc.heap.objs.size) sd := by
    refine compLoop_anyD (fun n t => ∃ i H', Inv (X.blk sc Hc scope ce ch) [] (wipe σ (own.map (·.2))) H' t ∧ tn i t.heap ∧ (∀ b ∈ ch, H' b = none) ∧ W i n H') (fun n t ⟨i, Ht, It, stt, nt, wt⟩ => ?_) m0 ⟨0, Hc, Id, std, fun b hb => (fpc b hb).1.1, w0⟩
    rcases turn i n Ht wt with ⟨stop, fin⟩ | ⟨go, Nx, less, step⟩
    · refine thnF (Tn.done (X.blk sc Hc scope ce ch) rfl rfl rfl hc i [] t _ Ht (fun _ _ => False) It (still It nt) stt stop) fun r t1 ⟨hr, I1⟩ => ?_
      subst hr
      have I2 : Inv X pins σ Ht t1 := Ic.call' (ch := ch) I1.os I1.base I1.hok I1.bare fun b hb => by
        obtain ⟨_, f1, _, f3, f4, f5⟩ := (fpc b hb).1
        exact ⟨f3, f1, f4, f5⟩
      have nC : Ht sc.heap.objs.size = none := by
        have z : Ht ce.locals = none := I1.free
        rwa [locC] at z
      obtain ⟨mm, hm, _⟩ := I1.loc
      have hm : t1.heap.Ns ce.locals mm := hm
      rw [locC] at hm
      exact hRR da _ t1 mm Ht I2 fin hm (Ic.fpOk (Nat.le_refl _) nC)
    · refine thnF (Tn.item (X.blk sc Hc scope ce ch) rfl rfl rfl hc i [] t _ Ht (fun _ _ => False) It (still It nt) stt go) fun r t1 ⟨u, hr, hu1⟩ => ?_
      subst hr
      refine thnF hu1 fun _ t2 ⟨x, H2, I2, rx, y2, st2, n2⟩ => ?_
      refine thnF (Pg.run _ t2 _ H2 x u _ (I2.pinned (still I2 n2) (Tn.obj _ _ st2)) rx (step x H2 y2)) fun _ t3 ⟨σ3, H3, I3, hw, q3⟩ => ?_
      refine thnF (Pt.run _ t3 σ3 H3 _ I3 q3) fun c t4 ⟨H4, I4, q4⟩ => ?_
      have close : ∀ {t' : Shared} {H' : Hp}, Inv (X.blk sc Hc scope ce ch) ([] ++ pinsAt ch t2.heap) σ3 H' t' → Nx H' → ∃ m, m < n ∧ ∃ i H', Inv (X.blk sc Hc scope ce ch) [] (wipe σ (own.map (·.2))) H' t' ∧ tn i t'.heap ∧ (∀ b ∈ ch, H' b = none) ∧ W i m H' := by
        intro t' H' I' nx
        obtain ⟨m', hm, w'⟩ := less H' nx
        have held : ∀ b ∈ ch, ∀ o, t2.heap.get? b = some o → t'.heap.get? b = some o ∧ H' b = none := by
          intro b hb o e
          have z := I'.pin (b, o) (List.mem_append_right _ (List.mem_append_right _ (mem_pinsAt hb e)))
          exact ⟨z.1, z.2.1⟩
        refine ⟨m', hm, i + 1, H', (I'.unpinned (pins := [])).weak (by rw [← hw, wipe_length]) (fun j v e => ?_), Tn.keep _ _ _ st2 fun b hb o e => (held b hb o e).1, fun b hb => ?_, w'⟩
        · rw [← hw] at e
          exact (wipe_some e).1
        · obtain ⟨o, e, _⟩ := Tn.obj _ _ st2 b hb
          exact (held b hb o e).2
      cases c with
      | false =>
        simp only [Bool.false_eq_true, if_false] at q4 ⊢
        exact close I4 q4
      | true =>
        simp only [if_true] at q4 ⊢
        refine thnF (Pk.run _ t4 σ3 H4 _ I4 q4) fun z t5 ⟨yk, H5, I5, r5, q5⟩ => ?_
        refine thnF (Pv.run _ t5 σ3 H5 _ I5 q5) fun z2 t6 ⟨yv, H6, I6, r6, k, b, kvs, es, ek, h6, rkv, hz, rk, hk, hd, nx⟩ => ?_
        subst ek
        obtain rfl : z = Value.ref b := r5
        exact dict_set (X := X.blk sc Hc scope ce ch) hu I6 h6 rkv hz rk hk hd r6 fun t7 I7 => close I7 nx
  exact codeAny_compStart_dict walk (Tn.self X.A 0 _ _ _ std walk)
theorem pe_dcN {kx vx tg iter : Expr} {ifs : List Expr} {scope : Scope} {own : List (Str × Nat)} {pos : Pos} {wi : TI} {g : TG} {tt : TT} {tk tv : TE} (hu : X.A.units + 8 < cLine) (hc : X.calm = true) (hN : X.N.Nodup) (hi : PI X tg iter wi) (ok : BlkOk X.N X.env.scope scope own)
    (pg : ∀ (s : Shared) (H : Hp) (C : Addr) (cl : List (Str × Addr)) (fp : List Addr), PG (X.blk s H scope (compEnvC scope cl C X.env) fp) tg g)
    (pt : ∀ (s : Shared) (H : Hp) (C : Addr) (cl : List (Str × Addr)) (fp : List Addr), PTs (X.blk s H scope (compEnvC scope cl C X.env) fp) ifs tt)
    (pk : ∀ (s : Shared) (H : Hp) (C : Addr) (cl : List (Str × Addr)) (fp : List Addr), PE (X.blk s H scope (compEnvC scope cl C X.env) fp) kx tk)
    (pv : ∀ (s : Shared) (H : Hp) (C : Addr) (cl : List (Str × Addr)) (fp : List Addr), PE (X.blk s H scope (compEnvC scope cl C X.env) fp) vx tv) (hs : ∀ x, foldedSetIterable iter X.env x = pure x := by intro _; rfl) :
    PE X (.DictComp kx vx [⟨tg, iter, ifs, 0⟩] scope pos) (tDcN X.K X.w wi g tt tk tv (own.map (·.2))) := by
  refine ⟨fun pins s σ H Q I q0 => ?_⟩
  rw [arm_eval_DictComp]
  refine dc_core (Qf := EP X pins σ Q) hu hc hN hi ok pg pt pk pv hs I q0 fun D C s' m H' I' q hn f => ?_
  obtain ⟨f0, f1, f2, f3, f4, f5⟩ := f
  exact ⟨m, hn, fun h'' sb' => ⟨.ref D, H', I'.turned (t' := s'.toks) (fun b o hb e => (sb'.2 b hb).trans e) f0 f1 f3 f4 f5, rfl, q⟩⟩
theorem ps_setDc {i : Nat} {y : Str} {py spos : Pos} {kx vx tg iter : Expr} {ifs : List Expr} {scope : Scope} {own : List (Str × Nat)} {pos : Pos} {wi : TI} {g : TG} {tt : TT} {tk tv : TE} (hu : X.A.units + 8 < cLine) (hc : X.calm = true) (hN : X.N.Nodup) (hy : X.N[i]? = some y) (hyl : X.env.scope.names.lookup y = some .local)
    (hsw : swapsWith (.DictComp kx vx [⟨tg, iter, ifs, 0⟩] scope pos) (some (.Name y py)) spos.line X.env = pure true) (hi : PI X tg iter wi) (ok : BlkOk X.N X.env.scope scope own)
    (pg : ∀ (s : Shared) (H : Hp) (C : Addr) (cl : List (Str × Addr)) (fp : List Addr), PG (X.blk s H scope (compEnvC scope cl C X.env) fp) tg g)
    (pt : ∀ (s : Shared) (H : Hp) (C : Addr) (cl : List (Str × Addr)) (fp : List Addr), PTs (X.blk s H scope (compEnvC scope cl C X.env) fp) ifs tt)
    (pk : ∀ (s : Shared) (H : Hp) (C : Addr) (cl : List (Str × Addr)) (fp : List Addr), PE (X.blk s H scope (compEnvC scope cl C X.env) fp) kx tk)
    (pv : ∀ (s : Shared) (H : Hp) (C : Addr) (cl : List (Str × Addr)) (fp : List Addr), PE (X.blk s H scope (compEnvC scope cl C X.env) fp) vx tv) (hs : ∀ x, foldedSetIterable iter X.env x = pure x := by intro _; rfl) :
    PS X (.Assign [.Name y py] (.DictComp kx vx [⟨tg, iter, ifs, 0⟩] scope pos) spos) (tAsg (tDcN X.K X.w wi g tt tk tv (own.map (·.2))) (gName i)) := by
  refine ⟨fun pins s σ H D I h => ?_⟩
  rw [exec_Assign_Name_used _ _ _ _ hsw]
  refine wpAny_bind (wpAny_standAt (wpAny_bind ?_))
  show wpAny _ X.A (do let _ ← comprehension (.DictComp kx vx [⟨tg, iter, ifs, 0⟩] scope pos) scope X.env (firstIterPos [⟨tg, iter, ifs, 0⟩] pos) newDict false (eval iter X.env) (some (assign (.Name y py) X.env))) _ _ s
  have h : tDcN X.K X.w wi g tt tk tv (own.map (·.2)) σ H (fun x H1 => gName i x σ H1 D.nx) := h
  refine wpAny_bind (thn (dc_core (Qf := fun _ s' => SP X pins D .next s') hu hc hN hi ok pg pt pk pv hs I h fun L C s' m H' I' q hn f => ?_) fun _ s' hq => wpAny_pure (wpAny_pure hq))
  show wpAny _ _ (assign (.Name y py) X.env (.ref L)) _ _ _
  refine wpAny_assign_Name (store_ok2 (v := V.ref L) I' hN hy (.inl hyl) rfl (fun s2 I2 ⟨a, sb, ha⟩ => ?_) (.inr hyl))
  obtain ⟨f0, f1, f2, f3, f4, f5⟩ := f
  have haC : C ≠ a := by
    rcases ha with z | z
    · rw [z]; exact f1
    · exact fun e => f4 y a z e.symm
  refine ⟨m, hn.sameBut sb haC, fun h3 sb3 => ?_⟩
  exact ⟨_, H', I2.turned (t' := s2.toks) (fun b o hb e => (sb3.2 b hb).trans e) f0 f1 f3 f4 f5, q⟩
theorem sw_trueD {kx vx : Expr} {gs : List Comprehension} {scope : Scope} {pos py : Pos} {y : Str} {l : Nat} {env : Env} (hk : env.scope.kind = .function) (hy : env.scope.names.lookup y = some .local) (hl : (py.line == pos.line) = true)
    (ha : (scope.names.any fun (n, k) => n == y && (k == .local || k == .cell)) = false) : swapsWith (.DictComp kx vx gs scope pos) (some (.Name y py)) l env = pure true := by
  have ky : env.kindOf y = some .local := hy
  have hb : env.blockKind = .function := by unfold Env.blockKind; rw [hk]; rfl
  unfold swapsWith
  simp only [hb, ky, ha, Expr.pos, hl]
  rfl
end
/-! ### over deep values -/
def dDcGo (w : World) (src : Src) (g : DTG) (tt : DTT) (tk tv : DTE) (m0 : DSt) (p : Addr) (Qd : List (D × D) → DM → Prop) : List D → List (D × D) → DM → Prop
  | [], acc, M => SrcV src M ∧ Qd acc M
  | d :: ds, acc, M => SrcV src M ∧ g d m0 M fun m1 M1 => tt m1 M1 fun b M2 =>
      if b = true then tk m1 M2 fun k M3 => tv m1 M3 fun v M4 => M4 p = some (.dct w acc) ∧ isKey k ∧ dDcGo w src g tt tk tv m0 p Qd ds (dput acc k v) (mput M4 p (.dct w (dput acc k v)))
      else M2 p = some (.dct w acc) ∧ dDcGo w src g tt tk tv m0 p Qd ds acc M2
def dDc (w : World) (t : DTI) (g : DTG) (tt : DTT) (tk tv : DTE) (vs : List Nat) : DTE := fun m M Q => t m M fun src M1 => src.1.length ≤ sizeLine → ∀ p, M1 p = none → dDcGo w src g tt tk tv (dwipe m vs) p (fun _ M2 => Q (.ref p) M2) src.1 [] (mput M1 p (.dct w []))
theorem dput_len (kvs : List (D × D)) (k v : D) : (dput kvs k v).length ≤ kvs.length + 1 := by
  unfold dput
  split
  · rw [List.length_map]
    omega
  · rw [List.length_append, List.length_singleton]
    exact Nat.le_refl _
section
variable {X : Cx} {kx vx tg iter : Expr} {ifs : List Expr} {scope : Scope} {own : List (Str × Nat)} {pos : Pos} {t : DTI} {g : DTG} {tt : DTT} {tk tv : DTE} {ws : List Nat}
theorem dc_up {σ : SL} {H : Hp} {m : DSt} {M : DM} {Qv : VK} {Qf : Addr → DM → Prop} {w : World} (hw : X.w = w) (hsub : ∀ i ∈ ws, i ∈ own.map (·.2)) (r : R X.K m M σ H)
    (q : t m M fun src M1 => src.1.length ≤ sizeLine → ∀ p, M1 p = none → dDcGo w src g tt tk tv (dwipe m (own.map (·.2))) p (fun _ M2 => Qf p M2) src.1 [] (mput M1 p (.dct w [])))
    (k : ∀ p M2 H2, Grow H H2 → RM X.K H2 M2 → Qf p M2 → Qv (.ref p) H2) : tDcN X.K X.w (upI X.K t) (upG X.K ws g) (upT X.K tt) (upE X.K tk) (upE X.K tv) (own.map (·.2)) σ H Qv := by
  subst hw
  refine ⟨m, M, _, r, q, fun src M1 H1 J g1 m1 q1 st p np => ?_⟩
  have q2 := q1 st.small p (m1.free np)
  have g2 : Grow H1 (upd H1 p (DictO X.w p [])) := .new np
  refine ⟨fun i n H2 => i + n = src.1.length ∧ Grow H1 H2 ∧ ∃ acc M2, acc.length ≤ i ∧ M2 p = some (.dct X.w acc) ∧ RM X.K H2 M2 ∧ dDcGo X.w src g tt tk tv (dwipe m (own.map (·.2))) p (fun _ M2 => Qf p M2) (src.1.drop i) acc M2,
    ⟨src.1.length, by omega, g2, [], _, Nat.le_refl _, mput_same, m1.newDct np, q2⟩, ?_⟩
  rintro i n H2 ⟨hl, g3, acc, M2, ha, hp, m2, q3⟩
  have r2 : R X.K (dwipe m (own.map (·.2))) M2 (wipe σ (own.map (·.2))) H2 := (r.wipe _).grow (g1.trans g3) m2
  by_cases hlt : i < src.1.length
  · rw [List.drop_eq_getElem_cons hlt] at q3
    obtain ⟨sv, q3⟩ := q3
    have so := sv.ok g3 m2
    refine .inr ⟨st.go i H2 so hlt, fun H3 => Grow H1 H3 ∧ ∃ acc M2, acc.length ≤ i + 1 ∧ M2 p = some (.dct X.w acc) ∧ RM X.K H3 M2 ∧ dDcGo X.w src g tt tk tv (dwipe m (own.map (·.2))) p (fun _ M2 => Qf p M2) (src.1.drop (i + 1)) acc M2,
      fun H3 ⟨g4, z⟩ => ⟨n - 1, by omega, by omega, g4, z⟩, fun x H3 y => ?_⟩
    obtain ⟨g4, k4, d, e4, rd⟩ := st.yld i H2 x H3 so hlt y
    have ed : d = src.1[i] := by
      rw [List.getElem?_eq_getElem hlt] at e4
      exact (Option.some.inj e4).symm
    subst ed
    refine ⟨_, _, M2, _, rd, r2.grow g4 (k4 _ m2), q3, fun m5 M5 σ5 H5 g5 r5 o5 q5 => ⟨wipe_off o5 hsub, ?_⟩⟩
    refine ⟨m5, M5, _, r5, q5, fun b M6 H6 g6 m6 q6 => ?_⟩
    have g06 : Grow H1 H6 := ((g3.trans g4).trans g5).trans g6
    cases b with
    | true =>
      refine ⟨m5, M6, _, r5.grow g6 m6, q6, fun kd kv M7 H7 g7 rk m7 q7 => ?_⟩
      refine ⟨m5, M7, _, (r5.grow g6 m6).grow g7 m7, q7, fun vd vv M8 H8 g8 rv m8 ⟨e8, ⟨⟨ks, ek⟩, hok, hdp⟩, q8⟩ => ?_⟩
      subst ek
      obtain ⟨es, h8, hz8, rkv⟩ := m8.dct e8
      cases rk with
      | @tup _ b vs hf z l =>
        have rk8 : Rep X.K H8 (.tup ks) (.ref b) := Rep.grow (.tup hf z l) g8
        have hlen : es.length < sizeLine := by
          rw [← rkv.len]
          exact Nat.lt_of_le_of_lt ha (Nat.lt_of_lt_of_le hlt st.small)
        have hz9 : (storeV es (nk (.tup ks)) b vv).length ≤ sizeLine := Nat.le_trans (storeV_len ..) hlen
        have ge : Grow H8 (upd H8 p (DictO X.w p (storeV es (nk (.tup ks)) b vv))) := Grow.dct h8
        refine ⟨.tup ks, b, acc, es, rfl, h8, rkv, hz8, rk8, hok, hdp, ((g06.trans g7).trans g8).trans ge, dput acc (.tup ks) vd, _, Nat.le_trans (dput_len ..) (Nat.succ_le_succ ha), mput_same, m8.putDct h8 hz9 (rkv.store rk8 hok hdp rv), q8⟩
    | false =>
      have q6' : M6 p = some (.dct X.w acc) ∧ dDcGo X.w src g tt tk tv (dwipe m (own.map (·.2))) p (fun _ M2 => Qf p M2) (src.1.drop (i + 1)) acc M6 := q6
      exact ⟨g06, acc, M6, by omega, q6'.1, m6, q6'.2⟩
  · have e : i = src.1.length := by omega
    subst e
    rw [List.drop_length] at q3
    exact .inl ⟨st.stop H2 (q3.1.ok g3 m2), k _ M2 H2 (g1.trans g3) m2 q3.2⟩
theorem d_dc {w : World} (hw : X.w = w) (hu : X.A.units + 8 < cLine) (hc : X.calm = true) (hN : X.N.Nodup) (hi : DI X tg iter t) (ok : BlkOk X.N X.env.scope scope own) (hsub : ∀ i ∈ ws, i ∈ own.map (·.2))
    (hg : ∀ (s : Shared) (H : Hp) (C : Addr) (cl : List (Str × Addr)) (fp : List Addr), DG (X.blk s H scope (compEnvC scope cl C X.env) fp) ws tg g)
    (ht : ∀ (s : Shared) (H : Hp) (C : Addr) (cl : List (Str × Addr)) (fp : List Addr), DPTs (X.blk s H scope (compEnvC scope cl C X.env) fp) ifs tt)
    (hk : ∀ (s : Shared) (H : Hp) (C : Addr) (cl : List (Str × Addr)) (fp : List Addr), DE (X.blk s H scope (compEnvC scope cl C X.env) fp) kx tk)
    (hv : ∀ (s : Shared) (H : Hp) (C : Addr) (cl : List (Str × Addr)) (fp : List Addr), DE (X.blk s H scope (compEnvC scope cl C X.env) fp) vx tv)
    (hs : ∀ x, foldedSetIterable iter X.env x = pure x := by intro _; rfl) : DE X (.DictComp kx vx [⟨tg, iter, ifs, 0⟩] scope pos) (dDc w t g tt tk tv (own.map (·.2))) := by
  subst hw
  exact imE (pe_dcN (wi := upI X.K t) (g := upG X.K ws g) (tt := upT X.K tt) (tk := upE X.K tk) (tv := upE X.K tv) hu hc hN hi ok hg ht hk hv hs) fun σ H Q ⟨m, M, Q', r, q, k⟩ =>
    dc_up rfl hsub r q fun p M2 H2 g2 m2 q2 => k _ _ M2 H2 g2 (.ref p) m2 q2
/-- name = {.. for ..} on one line -/
theorem ds_setDc {w : World} {y : Str} {py spos : Pos} {i : Nat} (hw : X.w = w) (hu : X.A.units + 8 < cLine) (hc : X.calm = true) (hN : X.N.Nodup) (hy : X.N[i]? = some y) (hyl : X.env.scope.names.lookup y = some .local)
    (hsw : swapsWith (.DictComp kx vx [⟨tg, iter, ifs, 0⟩] scope pos) (some (.Name y py)) spos.line X.env = pure true) (hi : DI X tg iter t) (ok : BlkOk X.N X.env.scope scope own) (hsub : ∀ i ∈ ws, i ∈ own.map (·.2))
    (hg : ∀ (s : Shared) (H : Hp) (C : Addr) (cl : List (Str × Addr)) (fp : List Addr), DG (X.blk s H scope (compEnvC scope cl C X.env) fp) ws tg g)
    (ht : ∀ (s : Shared) (H : Hp) (C : Addr) (cl : List (Str × Addr)) (fp : List Addr), DPTs (X.blk s H scope (compEnvC scope cl C X.env) fp) ifs tt)
    (hk : ∀ (s : Shared) (H : Hp) (C : Addr) (cl : List (Str × Addr)) (fp : List Addr), DE (X.blk s H scope (compEnvC scope cl C X.env) fp) kx tk)
    (hv : ∀ (s : Shared) (H : Hp) (C : Addr) (cl : List (Str × Addr)) (fp : List Addr), DE (X.blk s H scope (compEnvC scope cl C X.env) fp) vx tv)
    (hs : ∀ x, foldedSetIterable iter X.env x = pure x := by intro _; rfl) : DS X (.Assign [.Name y py] (.DictComp kx vx [⟨tg, iter, ifs, 0⟩] scope pos) spos) (dSet i (dDc w t g tt tk tv (own.map (·.2)))) := by
  subst hw
  exact imS (ps_setDc (wi := upI X.K t) (g := upG X.K ws g) (tt := upT X.K tt) (tk := upE X.K tk) (tv := upE X.K tv) hu hc hN hy hyl hsw hi ok hg ht hk hv hs) fun Z σ H ⟨m, M, Z', r, q, k⟩ =>
    dc_up (Qf := fun p M2 => Z'.nx (m.set i (some (.ref p))) M2) rfl hsub r q fun p M2 H2 g2 m2 q2 => k.nx _ M2 _ H2 g2 ((r.grow g2 m2).set (.ref p)) q2
end
theorem hu_8 {k : Nat} {A : Around} (hr : Room k A) : A.units + 8 < cLine := by
  have := hu_40 hr
  omega
theorem hu_9 {k : Nat} {A : Around} (hr : Room k A) : A.units + 9 < cLine := by
  have := hu_40 hr
  omega
/-- a comprehension over what is left, with what is gathered -/
theorem dc_ind {w : World} {src : Src} {g : DTG} {tt : DTT} {tk tv : DTE} {m0 : DSt} {p : Addr} {Qd : List (D × D) → DM → Prop} (V : List D → List (D × D) → DM → Prop) (fin : ∀ acc M, V [] acc M → SrcV src M ∧ Qd acc M)
    (step : ∀ d ds acc M (Cn : List (D × D) → DM → Prop), (∀ acc' M', V ds acc' M' → Cn acc' M') → V (d :: ds) acc M → SrcV src M ∧ g d m0 M fun m1 M1 => tt m1 M1 fun b M2 =>
      if b = true then tk m1 M2 fun k M3 => tv m1 M3 fun v M4 => M4 p = some (.dct w acc) ∧ isKey k ∧ Cn (dput acc k v) (mput M4 p (.dct w (dput acc k v))) else M2 p = some (.dct w acc) ∧ Cn acc M2) :
    ∀ ds acc M, V ds acc M → dDcGo w src g tt tk tv m0 p Qd ds acc M
  | [], acc, M, h => fin acc M h
  | d :: ds, acc, M, h => step d ds acc M (dDcGo w src g tt tk tv m0 p Qd ds) (dc_ind V fin step ds) h
theorem dput_new {kvs : List (D × D)} {k v : D} (h : dhas kvs k = false) : dput kvs k v = kvs ++ [(k, v)] := by
  unfold dput
  rw [h]
  rfl
end DL
/-! < and > of data -/
namespace DL
open PySem PySem.Spec PyProof.Rows L2
section
variable {X : Cx}
theorem py_none {d : D} (h : d ≠ .non) (k : dOk 64 d = true) : d.py ≠ .none := by
  cases d <;> simp_all [D.py, dOk]
/-- x < y, of data that are alike -/
def dLtD : DR2 := fun x y M Q => (dOk 64 x = true ∧ dOk 64 y = true) ∧ x ≠ .non ∧ PySem.W.alike x.py y.py = true ∧ Q (.bl (PySem.W.dataLt x.py y.py)) M
def dGtD : DR2 := fun x y M Q => (dOk 64 x = true ∧ dOk 64 y = true) ∧ x ≠ .non ∧ PySem.W.alike x.py y.py = true ∧ Q (.bl (PySem.W.dataLt y.py x.py)) M
theorem o_ltD (hu : X.A.units + 64 < cLine) : DOp X (compareOp .Lt) dLtD := by
  intro pins s σ H x y v u Q I rx ry ⟨d, e, M, Q', r1, r2, m, ⟨⟨h1, h2⟩, hn, ha, q⟩, k⟩
  obtain ⟨as, q1⟩ := Dp.reads I _ x v (r1.dp h1) rx
  obtain ⟨bs, q2⟩ := Dp.reads I _ y u (r2.dp h2) ry
  have hd := (dOk_lay 64 d h1).2
  exact PySem.W.lt_data q1 q2 ha (py_none hn h1) (Nat.lt_of_le_of_lt (Nat.add_le_add_left (Nat.le_trans (Nat.min_le_left _ _) hd) _) hu) ⟨.bl _, H, I, rfl, k _ _ M H (.refl H) (.bl _) m q⟩
theorem o_gtD (hu : X.A.units + 64 < cLine) : DOp X (compareOp .Gt) dGtD := by
  intro pins s σ H x y v u Q I rx ry ⟨d, e, M, Q', r1, r2, m, ⟨⟨h1, h2⟩, hn, ha, q⟩, k⟩
  obtain ⟨as, q1⟩ := Dp.reads I _ x v (r1.dp h1) rx
  obtain ⟨bs, q2⟩ := Dp.reads I _ y u (r2.dp h2) ry
  have hd := (dOk_lay 64 d h1).2
  exact PySem.W.gt_data q1 q2 ha (py_none hn h1) (Nat.lt_of_le_of_lt (Nat.add_le_add_left (Nat.le_trans (Nat.min_le_left _ _) hd) _) hu) ⟨.bl _, H, I, rfl, k _ _ M H (.refl H) (.bl _) m q⟩
end
end DL
/-! list(a dict), a text's upper() -/
namespace DL
open PySem PySem.Spec PyProof.Rows L2
theorem RepKV.keys {K : PySem.W.Frag} {H : Hp} : ∀ {kvs : List (D × D)} {es : List (NestedKey × Addr × V)}, RepKV K H kvs es → RepL K H (kvs.map (·.1)) (es.map fun x => V.ref x.2.1)
  | _, _, .nil => .nil
  | _, _, .cons a _ _ _ e => .cons a (RepKV.keys e)
theorem refs_at : ∀ {us : List Value} {es : List (NestedKey × Addr × V)}, us.length = es.length → (∀ (j : Nat) (v : Value), us[j]? = some v → ∃ x, es[j]? = some x ∧ v = .ref x.2.1) → Vals (es.map fun x => V.ref x.2.1) us
  | [], [], _, _ => .nil
  | [], _ :: _, hl, _ => by simp at hl
  | _ :: _, [], hl, _ => by simp at hl
  | u :: us, q :: es, hl, h => by
    obtain ⟨x, e1, e2⟩ := h 0 u rfl
    have e1' : q = x := Option.some.inj e1
    subst e1'
    rw [List.map_cons]
    refine .cons e2 (refs_at (by simpa using hl) fun j v e => ?_)
    exact h (j + 1) v (by rw [List.getElem?_cons_succ]; exact e)
theorem esxs_at : ∀ {es : List (NestedKey × Addr × V)} {xs : List (NestedKey × Addr × Value)} {j : Nat} {x : NestedKey × Addr × Value}, EsXs es xs → xs[j]? = some x → ∃ y, es[j]? = some y ∧ y.2.1 = x.2.1
  | _, _, j, _, .nil, e => by simp at e
  | _, _, 0, _, .cons r _, e => by
    simp at e
    subst e
    exact ⟨_, rfl, r.2.1⟩
  | _, _, j + 1, x, .cons _ r, e => esxs_at (j := j) r (by simpa using e)
theorem esxs_len : ∀ {es : List (NestedKey × Addr × V)} {xs : List (NestedKey × Addr × Value)}, EsXs es xs → es.length = xs.length
  | _, _, .nil => rfl
  | _, _, .cons _ r => congrArg (· + 1) (esxs_len r)
section
variable {X : Cx}
def rListK (w : World) : DCR := fun ds M Q => ∃ a kvs, ds = [.ref a] ∧ M a = some (.dct w kvs) ∧ ∀ p, M p = none → Q (.ref p) (mput M p (.lst (kvs.map (·.1))))
theorem c_listK {w : World} (hw : X.w = w) (hcalm : X.calm = true) : DCall X (.type "list") (rListK w) := by
  subst hw
  intro pins s σ H vs us Q I r ⟨ds, M, Q', l, m, ⟨a, kvs, e, h, q⟩, k⟩
  subst e
  obtain ⟨v, e, rv⟩ := repL_one l
  subst e
  cases rv
  obtain ⟨u, eu, rx⟩ := vals1 r
  subst eu
  obtain rfl : u = Value.ref a := rx
  obtain ⟨es, h1, hz, rkv⟩ := m.dct h
  obtain ⟨⟨xs, pr, ⟨o, ents, ep, k1, k2, k3, k4⟩, nd, lo⟩, _, _⟩ := I.hok a _ h1
  have hxl := esxs_len pr
  have hel : ents.size = xs.length := by
    have := congrArg List.length k4
    rwa [Array.length_toList, List.length_map] at this
  refine PySem.W.kdl_call (KdlSrc.rawDict (es := ents) (ep := ep) lo) (I.ok.hd hcalm) ⟨o, k1, k2, k3⟩ (by rw [hel, ← hxl]; exact hz) fun h' tk acc c' hk hD hacc => ?_
  have hv : Vals (es.map fun x => V.ref x.2.1) acc.toList := by
    refine refs_at (by rw [Array.length_toList, hacc.1, hel, hxl]) fun j v e => ?_
    obtain ⟨hi, hv⟩ := hacc.2 j v (by rw [← Array.getElem?_toList]; exact e)
    have hj : ents.toList[j]? = some ents[j] := by rw [Array.getElem?_toList, Array.getElem?_eq_getElem hi]
    rw [k4, List.getElem?_map] at hj
    cases hx : xs[j]? with
    | none => rw [hx] at hj; cases hj
    | some x =>
      rw [hx] at hj
      obtain ⟨y, e1, e2⟩ := esxs_at pr hx
      have hj' := Option.some.inj hj
      exact ⟨y, e1, by rw [hv, ← hj', e2]⟩
  have hp := I.hok.fresh (Nat.le_refl s.heap.objs.size)
  exact ⟨.ref s.heap.objs.size, upd H s.heap.objs.size (.lst (es.map fun x => V.ref x.2.1)), I.laid (t' := tk) hk (Nat.le_refl _) ⟨by rw [List.length_map]; exact hz, acc.toList, c', hv, by rw [Array.toArray_toList]; exact hD⟩, rfl,
    k _ _ _ _ (.new hp) (.ref _) (m.newLst hp (by rw [List.length_map]; exact hz) rkv.keys) (q _ (m.free hp))⟩
variable {o : Expr} {apos cpos : Pos} {to : DTE}
def dUpper (to : DTE) : DTE := fun m M Q => to m M fun d M1 => ∃ z, d = .str z ∧ z.length ≤ 5592405 ∧ Q (.str (Txt.upper z)) M1
theorem d_upper (ho : DE X o to) (hbase : attributeBase o "upper" X.env (eval o X.env) = eval o X.env := by rfl) (hline : (apos.endLine == cpos.line) = true := by rfl) : DE X (.Call (.Attribute o "upper" apos) [] [] cpos) (dUpper to) := by
  refine ⟨fun pins s σ H Q I ⟨m0, M, Q', r, q, kk⟩ => ?_⟩
  refine J1.ev_upper hbase hline (thn (ho.run pins s σ H (fun x H1 => ∃ z, x = .str z ∧ z.length ≤ 5592405 ∧ Q (.str (Txt.upper z)) H1) I
    ⟨m0, M, _, r, q, fun d v M1 H1 g1 r1 m1 ⟨z, e1, hz, q1⟩ => by subst e1; cases r1; exact ⟨z, rfl, hz, kk _ _ M1 H1 g1 (.str _) m1 q1⟩⟩) fun u s1 ⟨x, H1, I1, rx, z, ex, hz, q1⟩ => ?_)
  subst ex
  obtain ⟨t, rfl⟩ := rx
  exact ⟨z, t, rfl, hz, fun t' k => ⟨.str (Txt.upper z), H1, I1.tok _, ⟨t', rfl⟩, q1⟩⟩
end
end DL
/-! the signs of a text: for, in -/
namespace DL
open PySem PySem.Spec PyProof.Rows L2
/-- the signs, each a text -/
def sgsD (z : Str) : List D := z.cps.toList.map fun c => D.str ⟨#[c]⟩
theorem stream_str {K : PySem.W.Frag} {H0 : Hp} {z : Str} (hz : z.length ≤ 16777216) : Stream K (Its z) (sgsD z, none) H0 := by
  have hl : (sgsD z).length = z.cps.size := by simp [sgsD]
  refine ⟨by rw [show (sgsD z, (none : Option Addr)).1 = sgsD z from rfl, hl, sizeLine_eq]; exact hz, fun i H ok hi => ?_, fun i H x H' ok hi y => ?_, fun H ok => ?_⟩
  · exact (by rw [← hl]; exact hi : i < z.cps.size)
  · obtain ⟨e1, c, e2, e3⟩ := y
    subst e1
    subst e3
    refine ⟨.refl _, fun _ q => q, .str ⟨#[c]⟩, ?_, .str _⟩
    show (sgsD z)[i]? = _
    unfold sgsD
    rw [List.getElem?_map, Array.getElem?_toList, e2]
    rfl
  · show z.cps.size ≤ (sgsD z).length
    omega
section
variable {X : Cx} {tg l : Expr} {te : DTE}
def diStr (te : DTE) : DTI := fun m M Q => te m M fun d M1 => ∃ z, d = .str z ∧ z.length ≤ 16777216 ∧ Q (sgsD z, none) M1
theorem di_str (h : DE X l te) : DI X tg l (diStr te) :=
  imI (pi_str h) fun σ H Q ⟨m, M, Q', r, q, k⟩ => by
    refine ⟨m, M, _, r, q, fun d v M1 H1 g1 r1 m1 ⟨z, e, hz, q1⟩ => ?_⟩
    subst e
    cases r1
    exact ⟨z, rfl, k _ M1 H1 _ g1 m1 q1 (stream_str hz)⟩
/-- one sign among those of a text -/
def dInS : DR2 := fun x y M Q => ∃ (c : Nat) (z : Str), x = .str ⟨#[c]⟩ ∧ y = .str z ∧ Q (.bl (decide (c ∈ z.cps.toList))) M
theorem o_inS : DOp X (compareOp .In) dInS := by
  intro pins s σ H x y v u Q I rx ry ⟨d, e, M, Q', r1, r2, m, ⟨c, z, h1, h2, q⟩, k⟩
  subst h1 h2
  cases r1
  cases r2
  exact op_in_sign pins s σ H _ _ v u Q I rx ry ⟨c, z, rfl, rfl, k _ _ M H (.refl H) (.bl _) m q⟩
end
end DL
/-! sorted(xs, key=lambda x: ..) -/
namespace DL
open PySem PySem.Spec PyProof.Rows L2
open PySem.W (EachIs AllAlike Sortable dataLe alike alikeAll)
abbrev lamQ (x : Str) : Str := x ++ ".<locals>." ++ "<lambda>"
section
variable {X : Cx} {pins : List (Addr × Obj)} {σ : SL} {H : Hp} {s : Shared}
/-- a lambda is made: its code object is new, or found in the table -/
theorem lam_make {c P : Addr} {params : Arguments} {body : Expr} {scope : Scope} {pos : Pos} {E : Value → Shared → Prop} {Q : Value → Shared → Prop} (I : Inv X pins σ H s) (TB : LamX.TabB X.base X.mg c P) (hcode : X.env.code = .ref c)
    (hT : LamX.TabS H P (X.env.qual ++ "<lambda>")) (hdef : defaultsOf params X.env = ([], [])) (hfree : ∀ y ∈ scope.names, y.2 = .free → ∃ c, X.env.cells.lookup y.1 = some c)
    (h : ∀ (f c' : Addr) (pm ctv : Value) (H1 : Hp) (s' : Shared), Inv X pins σ H1 s' → (∀ b o, b ≠ P → H b = some o → H1 b = some o) → LamX.TabS H1 P (X.env.qual ++ "<lambda>") →
      s'.heap.get? f = some (PySem.W.kla_obj "<lambda>" (X.env.qual ++ "<lambda>") params body scope (cloFrom X.env.cells scope.names []) pm c' ctv) → H1 f = none → f ∉ frs X.stack → H1 c' = some (LamX.CodeO c' (X.env.qual ++ "<lambda>")) → Q (.ref f) s') :
    wpAny (model X.prog X.w) X.A (eval (.Lambda params body scope pos) X.env) Q E s := by
  obtain ⟨ps, hP, ht, ha⟩ := hT
  refine PySem.W.kla_eval hdef ?_
  have bP : s.heap.BuiltinsAt X.mg P := TB.bm.keeps I.bk
  have hP' : s.heap.get? P = some { cls := .none, data := .fields ps } := I.hok P _ hP
  have nofr : ∀ f, s.heap.objs.size ≤ f → f ∉ frs X.stack := fun f hf z => by
    rcases List.mem_cons.mp (I.stkSub _ z) with e | e
    · have h1 := I.lt
      rw [← e] at h1
      exact Nat.lt_irrefl _ (Nat.lt_of_lt_of_le h1 hf)
    · exact I.nofs hf e
  cases hc : codeAmong pos ps.toList with
  | none =>
    refine PySem.W.kla_makeFunction (mg := X.mg) (c := c) (P := P) (ps := ps) (closure_ok hfree) I.ok.glob (I.mod.glob.keeps I.bk) hcode (TB.code.keeps I.bk) hP' ht hc TB.gP bP fun c' ctv h' tk hx hge hlt hrec htb => ?_
    obtain ⟨c2, oc, vs, t, e2, hoc, hd, hv⟩ := hrec
    cases e2
    have hsz : s.heap.objs.size ≤ h'.objs.size := Nat.le_trans hge (Nat.le_of_lt hlt)
    have nC : H c' = none := I.hok.fresh hge
    have I1 := LamX.inv_table (t' := tk) (more := #[rawInt pos.line, rawInt pos.col, .ref c']) (h' := h'.push (PySem.W.kla_obj "<lambda>" (X.env.qual ++ "<lambda>") params body scope (cloFrom X.env.cells scope.names []) ((X.mg "__name__").getD .none) c' ctv)) I hP
      (fun b o hb e => Heap.get?_push_of_some _ (hx b o hb e)) (Heap.get?_push_of_some _ htb) hge ⟨oc, vs, t, Heap.get?_push_of_some _ hoc, hd, hv⟩
    have keep : ∀ b o, b ≠ P → H b = some o → upd (upd H P (.tbl (ps ++ #[rawInt pos.line, rawInt pos.col, .ref c']))) c' (LamX.CodeO c' (X.env.qual ++ "<lambda>")) b = some o := fun b o n e => by
      rw [upd_ne (ne_of_none e nC), upd_ne n]
      exact e
    have eL : (ps ++ #[rawInt pos.line, rawInt pos.col, .ref c']).toList = ps.toList ++ [rawInt pos.line, rawInt pos.col, .ref c'] := by simp
    refine h h'.objs.size c' ((X.mg "__name__").getD .none) ctv _ _ I1 keep ?_ (Heap.get?_push_size _ rfl) ?_ (nofr _ hsz) upd_same
    · refine ⟨_, by rw [upd_ne (ne_of_none hP nC), upd_same], by rw [eL]; exact PySem.TriplesOk_snoc _ _ _ _ ht, fun p' cv hcv => ?_⟩
      rw [eL] at hcv
      rcases LamX.among_app _ ht hcv with z | z
      · obtain ⟨c0, e1, e2⟩ := ha p' cv z
        exact ⟨c0, e1, keep _ _ (fun z => by rw [z, hP] at e2; exact LamX.codeO_ne _ (Option.some.inj e2).symm) e2⟩
      · exact ⟨c', z, upd_same⟩
    · have n1 : h'.objs.size ≠ c' := Nat.ne_of_gt hlt
      have n2 : h'.objs.size ≠ P := Nat.ne_of_gt (Nat.lt_of_lt_of_le (Heap.lt_size hP') hsz)
      rw [upd_ne n1, upd_ne n2]
      exact I.hok.fresh hsz
  | some cv =>
    obtain ⟨c', e, hco⟩ := ha pos cv hc
    subst e
    refine PySem.W.kla_makeFunctionHit (mg := X.mg) (c := c) (P := P) (ps := ps) (closure_ok hfree) I.ok.glob (I.mod.glob.keeps I.bk) hcode (TB.code.keeps I.bk) hP' ht hc bP fun ctv h' tk hx hsz => ?_
    have I1 : Inv X pins σ H { s with heap := h'.push (PySem.W.kla_obj "<lambda>" (X.env.qual ++ "<lambda>") params body scope (cloFrom X.env.cells scope.names []) ((X.mg "__name__").getD .none) c' ctv), toks := tk } := I.kept fun b o e => Heap.get?_push_of_some _ (hx b o e)
    exact h h'.objs.size c' ((X.mg "__name__").getD .none) ctv H _ I1 (fun b o _ e => e) ⟨ps, hP, ht, ha⟩ (Heap.get?_push_size _ rfl) (I.hok.fresh hsz) (nofr _ hsz) hco
/-- the lambda of one parameter as the key -/
theorem lam_run {H1 : Hp} {s1 : Shared} {M : DM} {k : Nat} {f c' : Addr} {q a : Str} {params : Arguments} {body : Expr} {scope : Scope} {pm ctv : Value} {te : DTE} {xs : List D} {g : D → D} (S : FnScope [a] [a] scope) (hr : Room (k + 1) X.A.in1.in1)
    (hf : s1.heap.get? f = some (PySem.W.kla_obj "<lambda>" q params body scope [] pm c' ctv)) (hfn : H1 f = none) (hfr : f ∉ frs X.stack) (hco : H1 c' = some (LamX.CodeO c' q))
    (hbind : ∀ (x : Value), bindArgs (PySem.W.kla_fn "<lambda>" q params body scope [] pm (.ref c') ctv) ⟨[x], []⟩ = pure [(a, x)])
    (hbody : ∀ (A : Around) (outer : List Env) (s : Shared) (H : Hp), Room k (A.deeper (envOfC q scope s.heap.objs.size f (.ref c'))) → DE (cxOf CX0 X.prog X.w X.K X.mg X.base [a] q scope f (.ref c') A outer s H E0).nox body te)
    (pure' : ∀ x ∈ xs, ∀ Q' : DVK, Q' (g x) M → te [some x] M Q') : KeyRun X pins σ H1 M s1 f xs g := by
  intro Hj s' d v x hdm un gr J rm rd ru
  have of1 : s'.heap.get? f = some (PySem.W.kla_obj "<lambda>" q params body scope [] pm c' ctv) := un.keep f _ hf hfn hfr (by simp)
  obtain ⟨⟨oc, vs, t, hoc, hdc, hvc⟩, _, _⟩ := J.hok c' _ (gr.cods _ _ hco)
  have lim : s'.heap.NoLimit := J.nolimit
  have hkind : ∀ y ∈ [(a, x)], scope.names.lookup y.1 = some .local ∨ (scope.names.lookup y.1 = some .cell ∧ ((cellsFrom (s'.heap.objs.size + 1) scope.names []).lookup y.1).isSome = true) := fun y hy => by
    have e : y = (a, x) := by simpa using hy
    rw [e]
    rcases S.par a (by simp) with z | z
    · exact .inl z
    · exact .inr ⟨z, PySem.W.cellsFrom_some _ _ _ (.inl z)⟩
  have rc : codeAny (model X.prog X.w) X.A.in1.in1 (.call (.ref f) ⟨[x], []⟩) (CR CX0 X.stack X.prog X.w Hj s' (fun v H' => Grow Hj H' ∧ Rep X.K H' (g d) v ∧ RM X.K H' M) E0) s' := by
    refine PySem.W.kla_callFunE hr.depth of1 rfl S.co S.gen rfl ⟨c', oc, vs, t, rfl, hoc, hdc, hvc⟩ ?_
    rw [hbind]
    refine wpAny_pure (wpAny_newFunctionEnv_cells S.kind hkind fun env he s2 x2 => ?_)
    subst he
    refine ⟨lim.keeps x2.toInCall.keep, PySem.W.kla_codeExpr ?_⟩
    have Jn : Inv (cxOf CX0 X.prog X.w X.K X.mg X.base [a] q scope f (.ref c') X.A.in1.in1 X.stack s' Hj E0) [] (L2.start [a] [v]) Hj s2 := inv_start S hr.hd J.env0.in1.in1 rfl (.cons ru .nil) x2
    have hb := (hbody X.A.in1.in1 X.stack s' Hj (hr.deeper _)).nox
    refine wpAny_mono (hb.run [] s2 (L2.start [a] [v]) Hj (fun v H' => Grow Hj H' ∧ Rep X.K H' (g d) v ∧ RM X.K H' M) Jn ⟨dstart [a] [d], M, fun y M' => y = g d ∧ M' = M, ⟨by simp [dstart, L2.start], fun i d e => start_slot (.one rd) e, rm⟩, pure' d hdm _ ⟨rfl, rfl⟩, fun y v' M' H' g1 r1 m1 ⟨h1, h2⟩ => by subst h1 h2; exact ⟨g1, r1, m1⟩⟩) (fun v s'' hq => ?_) fun e s'' hq => hq
    obtain ⟨w', H', J', rv, q⟩ := hq
    exact ⟨w', H', J'.os, J'.bare, J'.base, J'.hok, rv, q⟩
  refine wpAny_call (codeAny_mono rc fun r s'' hq => ?_)
  cases r with
  | error e => exact False.elim hq
  | ok fl =>
    cases fl with
    | ret u => exact hq
    | next => exact False.elim hq
    | brk => exact False.elim hq
    | cont => exact False.elim hq
/-- sorted(e, key=lambda a: ..): the maker's table is at P -/
def dSortL (P : Addr) (q : Str) (te : DTE) (t : DTA) : DTE := fun m M Q => t m M fun ds M1 => ∃ d xs, ∃ g : D → D, ds = [d] ∧ dItems d M1 = some xs ∧ d ≠ .tup xs ∧ M1 P = some (.tab q) ∧ (∀ x ∈ xs, ∀ Q' : DVK, Q' (g x) M1 → te [some x] M1 Q') ∧ (xs.map g).all (dOk 32) = true ∧
  AllAlike ((xs.map g).map D.py) ∧ SortOk ((xs.map g).map D.py) ∧ ∀ p, M1 p = none → Q (.ref p) (mput M1 p (.lst (xs.mergeSort (dataLe false fun x => D.py (g x)))))
theorem rm_lam {K : PySem.W.Frag} {H1 : Hp} {M : DM} {P : Addr} {q : Str} (m : RM K H M) (h : M P = some (.tab q)) (keep : ∀ b o, b ≠ P → H b = some o → H1 b = some o) (T : LamX.TabS H1 P q) : Grow H H1 ∧ RM K H1 M := by
  obtain ⟨ps, hP, _⟩ := m P _ h
  have ne : ∀ {b : Addr} {o : HO}, H b = some o → (∀ ps, o ≠ .tbl ps) → b ≠ P := fun {b o} e n z => by
    rw [z, hP] at e
    exact n ps (Option.some.inj e).symm
  have gr : Grow H H1 := ⟨fun b xs e => keep b _ (ne e (fun _ z => by cases z)) e, fun b o u e => keep b _ (ne e (fun _ z => by cases z)) e, fun b q e => keep b _ (ne e LamX.codeO_ne) e⟩
  refine ⟨gr, fun a o e => ?_⟩
  by_cases ha : a = P
  · subst ha
    rw [h] at e
    cases e
    exact T
  · have z := m a o e
    obtain ⟨u, hu⟩ : ∃ u, H a = some u := by
      cases q : H a with
      | none => exact absurd q z.some
      | some u => exact ⟨u, rfl⟩
    exact z.stay ((keep a u ha hu).trans hu.symm) gr
theorem d_sortL {k : Nat} {a x : Str} {c P : Addr} {params : Arguments} {body : Expr} {scope : Scope} {te : DTE} {e : Expr} {p lpos kp pos : Pos} {t : DTA} (TB : LamX.TabB X.base X.mg c P) (hcode : X.env.code = .ref c) (hqual : X.env.qual = x ++ ".<locals>.") (S : FnScope [a] [a] scope) (hr : Room (k + 1) X.A.in1.in1)
    (hgs : Gl X "sorted") (hms : X.mg "sorted" = none) (ha : DA X [e] t)
    (hbody : ∀ (A : Around) (outer : List Env) (s : Shared) (H : Hp) (f : Addr) (cdv : Value), Room k (A.deeper (envOfC (lamQ x) scope s.heap.objs.size f cdv)) → DE (cxOf CX0 X.prog X.w X.K X.mg X.base [a] (lamQ x) scope f cdv A outer s H E0).nox body te)
    (hdef : defaultsOf params X.env = ([], []) := by rfl) (hclo : cloFrom X.env.cells scope.names [] = [] := by rfl)
    (hbind : ∀ (pm cv ctv y : Value), bindArgs (PySem.W.kla_fn "<lambda>" (lamQ x) params body scope [] pm cv ctv) ⟨[y], []⟩ = pure [(a, y)] := by intro _ _ _ _; rfl)
    (he : backTo pos (starEach [e] X.env) = [(false, eval e X.env)] := by rfl) (hpl : (backTo pos (starEach [e] X.env)).any (·.1) = false := by rfl)
    (hall : (backToKw pos (keywordEach [⟨some (Str.ofString "key"), .Lambda params body scope lpos, kp⟩] X.env)).all (·.1.isSome) = true := by rfl) (hnone : (backToKw pos (keywordEach [⟨some (Str.ofString "key"), .Lambda params body scope lpos, kp⟩] X.env)).any (·.1.isNone) = false := by rfl)
    (hks : (backToKw pos (keywordEach [⟨some (Str.ofString "key"), .Lambda params body scope lpos, kp⟩] X.env)).filterMap (·.1) = [Str.ofString "key"] := by rfl) :
    DE X (.Call (.Name "sorted" p) [e] [⟨some (Str.ofString "key"), .Lambda params body scope lpos, kp⟩] pos) (dSortL P (lamQ x) te t) := by
  refine ⟨fun pins s σ H Q I ⟨m, M, Q', r, h, kk⟩ => ?_⟩
  have hq : X.env.qual ++ "<lambda>" = lamQ x := by rw [hqual]
  refine wpAny_Call_Name_kw (ld_blt I hgs hms boot_sorted ?_ (by decide) (by decide))
  refine PyProof.Rows.callWith_kw (thn (ha.run pos pins s σ H (fun vs H1 => ∃ ds M1, Grow H H1 ∧ RepL X.K H1 ds vs ∧ RM X.K H1 M1 ∧ ∃ d xs, ∃ g : D → D, ds = [d] ∧ dItems d M1 = some xs ∧ d ≠ .tup xs ∧ M1 P = some (.tab (lamQ x)) ∧ (∀ x ∈ xs, ∀ Q' : DVK, Q' (g x) M1 → te [some x] M1 Q') ∧ (xs.map g).all (dOk 32) = true ∧
    AllAlike ((xs.map g).map D.py) ∧ SortOk ((xs.map g).map D.py) ∧ ∀ p, M1 p = none → Q' (.ref p) (mput M1 p (.lst (xs.mergeSort (dataLe false fun x => D.py (g x)))))) I ⟨m, M, _, r, h, fun ds vs M1 H1 g1 l1 m1 q1 => ⟨ds, M1, g1, l1, m1, q1⟩⟩) fun us s1 ⟨vs, H1, I1, r1, ds, M1, g1, l1, m1, d, xs, g, ed, hd, hnt, hM, pure', hok, hal, hsk, q⟩ => ?_) he hpl hall hnone
  subst ed
  obtain ⟨v, ev, rv⟩ := repL_one l1
  subst ev
  obtain ⟨u, eu, ru⟩ := vals1 r1
  subst eu
  have hT := m1 P _ hM
  show wpAny _ _ (evalAll ((do let v ← eval (.Lambda params body scope lpos) X.env; standAt pos; pure v) :: [])) _ _ s1
  refine wpAny_evalAll_cons (wpAny_bind (lam_make I1 TB hcode (by rw [hq]; exact hT) hdef (fun y hy e => absurd e (S.nofree y hy)) fun f c' pm ctv H2 s2 I2 keep T2 hf hfn hfr hco => wpAny_bind (wpAny_standAt (wpAny_pure ?_))))
  refine wpAny_evalAll_nil ?_
  rw [hks]
  rw [hclo, hq] at hf
  rw [hq] at T2 hco
  obtain ⟨g2, m2⟩ := rm_lam m1 hM keep T2
  have hu : X.A.in1.in1.units + 40 < cLine := by
    have := hr.un
    omega
  exact sort_core I2 (rv.grow g2) ru m2 hd hnt (lam_run S hr hf hfn hfr hco (hbind _ _ _) (fun A outer s H hr2 => hbody A outer s H f _ hr2) pure') hu hok hal hsk q fun d v M' H' g3 => kk d v M' H' ((g1.trans g2).trans g3)
end
end DL
/-! defs that hold a lambda: their code's table; the law's start and end with tables -/
namespace DL
open PySem PySem.Spec PyProof.Rows L2
section
variable {P : Program} {w : World} {K : PySem.W.Frag} {mg : Str → Option Value} {base : Heap} {k : Nat} {x q : Str} {ps N : List Str} {dsp : DSp} {st : Stmt} {c Pt : Addr}
/-- the def x, its code object at c -/
structure FunC (K : PySem.W.Frag) (x : Str) (st : Stmt) (f : Addr) (fd : FuncData) (c : Addr) : Prop where
  ex : ∃ (oc : Value) (od : Option Addr) (kV doc pm : Value) (an : Option Addr) (ct : Value) (osl : Array (Option Value)),
    fd = PySem.W.fnOf x x (defArgs st) (defBody st) (defScope st) .none kV doc pm an (.ref c) ct ∧ K.lookup f = some ⟨oc, od, .func fd, osl⟩ ∧ PySem.W.codeIn K (.ref c) x = true
  kp : PySem.W.keepIn K (.ref f) = true
structure DefC (K : PySem.W.Frag) (mg : Str → Option Value) (x : Str) (st : Stmt) (ps : List Str) (c : Addr) : Prop where
  ex : ∃ f fd, FunC K x st f fd c ∧ mg x = some (.ref f) ∧ Binds K fd ps []
theorem funC_mk {x : Str} {st : Stmt} {f : Addr} {oc : Value} {od an : Option Addr} {osl : Array (Option Value)} {kV doc pm ct : Value} (l : K.lookup f = some ⟨oc, od, .func (PySem.W.fnOf x x (defArgs st) (defBody st) (defScope st) .none kV doc pm an (.ref c) ct), osl⟩)
    (h : PySem.W.codeIn K (.ref c) x = true) (k : PySem.W.keepIn K (.ref f) = true) : FunC K x st f (PySem.W.fnOf x x (defArgs st) (defBody st) (defScope st) .none kV doc pm an (.ref c) ct) c := ⟨⟨oc, od, kV, doc, pm, an, ct, osl, rfl, l, h⟩, k⟩
theorem DefC.cal (F : DefC K mg x st ps c) (S : FnScope N ps (defScope st)) (len : ∀ ds M Q, dsp ds M Q → ds.length = ps.length) {t : DTS}
    (body : ∀ (f : Addr) (A : Around) (outer : List Env) (s : Shared) (H : Hp) (E : XK), Room k (A.deeper (envOfC x (defScope st) s.heap.objs.size f (.ref c))) → DSs (Ctx P w K mg base N x st f (.ref c) A outer s H E) (defBody st) t)
    (rd : ∀ ds M Q, dsp ds M Q → t (dEnds Q) (dstart N ds) M) : Cal P w K mg base (k + 1) x ps dsp := by
  obtain ⟨f, fd, F, hm, hb⟩ := F.ex
  have kp := F.kp
  obtain ⟨oc, od, kV, doc, pm, an, ct, osl, rfl, lk, hcd⟩ := F.ex
  refine ⟨f, _, fn_of lk hcd S (fun vs H Q E ⟨ds, M, Q', l, _, q, _⟩ => by rw [← l.length]; exact len ds M Q' q) (fun A outer s H vs Q E hr ⟨ds, M, Q', l, m, q, kk⟩ => ?_), hm, kp, hb⟩
  refine ⟨_, (body f A outer s H E hr).nox, dstart N ds, M, dEnds Q', ⟨?_, fun i d e => start_slot l e, m⟩, rd ds M Q' q,
    ⟨fun m1 M1 σ1 H1 g1 r1 ⟨M0, le, q1⟩ => kk _ _ M0 H1 g1 .non (r1.mem.le le) q1, fun _ _ _ _ _ _ z => z.elim, fun _ _ _ _ _ _ z => z.elim, fun d v M1 H1 g1 r1 m1 ⟨M0, le, q1⟩ => kk d v M0 H1 g1 r1 (m1.le le) q1⟩⟩
  simp [dstart, L2.start, l.length]
/-- a list is frozen ahead of the statements -/
theorem pss_before {X : Cx} {sts : List Stmt} {t : TS} (h : PSs X sts t) : PSs X sts (fun D σ H => ∃ p vs, H p = some (.lst vs) ∧ ∀ o, t D σ (upd H p (.frz o (.lst vs)))) := by
  refine ⟨fun pins s σ H D I ⟨p, vs, e, q⟩ => ?_⟩
  obtain ⟨o, I2⟩ := inv_frz I e
  exact h.run pins s σ _ D I2 (q o)
/-- the law's promise, where tables of code objects are known -/
def sp_lawT (T : List (Addr × Str)) : DSp := ar1 fun a M Q => (∀ p ∈ T, M p.1 = some (.tab p.2)) ∧ ∃ ns : List Int, ns.length ≤ 63 ∧ a = .lst (ns.map D.int) ∧ ∀ M', Q (.bl true) M'
def lawSp (K : PySem.W.Frag) (T : List (Addr × Str)) : Sp := fun vs H Q _ => ∃ (a : Addr) (ns : List Int), vs = [.ref a] ∧ ns.length ≤ 63 ∧ SqL K H a (ns.map V.int) ∧ (∀ p ∈ T, H p.1 = some (.tbl #[])) ∧ ∀ v H', v = V.bl true → Q v H'
theorem tabsM : ∀ {T : List (Addr × Str)}, (T.map (·.1)).Nodup → ∃ M : DM, (∀ p ∈ T, M p.1 = some (.tab p.2)) ∧ ∀ b o, M b = some o → ∃ p ∈ T, b = p.1 ∧ o = .tab p.2
  | [], _ => ⟨fun _ => none, fun _ h => absurd h (by simp), fun _ _ e => nomatch e⟩
  | z :: T, h => by
    rw [List.map_cons, List.nodup_cons] at h
    obtain ⟨M, h1, h2⟩ := tabsM h.2
    refine ⟨mput M z.1 (.tab z.2), fun p hp => ?_, fun b o e => ?_⟩
    · rcases List.mem_cons.mp hp with rfl | hp
      · exact mput_same
      · rw [mput_ne (fun e => h.1 (List.mem_map.mpr ⟨p, hp, e⟩))]
        exact h1 p hp
    · by_cases hb : b = z.1
      · rw [hb, mput_same] at e
        exact ⟨z, by simp, hb, (Option.some.inj e).symm⟩
      · rw [mput_ne hb] at e
        obtain ⟨p, hp, r⟩ := h2 b o e
        exact ⟨p, by simp [hp], r⟩
theorem fn_okT {f : Addr} {fd : FuncData} {T : List (Addr × Str)} (hT : (T.map (·.1)).Nodup) (F : Fun K x x st f fd) (S : FnScope N ["script"] (defScope st)) {t : DTS}
    (body : ∀ (f : Addr) (cdv : Value) (A : Around) (outer : List Env) (s : Shared) (H : Hp) (E : XK), Room k (A.deeper (envOfC x (defScope st) s.heap.objs.size f cdv)) → DSs (Ctx P w K mg base N x st f cdv A outer s H E) (defBody st) t)
    (rd : ∀ ds M Q, sp_lawT T ds M Q → t (dEnds Q) (dstart N ds) M) : FnOk P w K mg base CX0 (k + 1) f fd ["script"] (lawSp K T) := by
  refine F.ok S (fun vs H Q E ⟨a, ns, e, _⟩ => by rw [e]; rfl) (fun cdv A outer s H vs Q E hr ⟨a, ns, e, hns, hS, hTb, hQ⟩ => ?_)
  subst e
  have hz : (ns.map V.int).length ≤ sizeLine := by
    rw [List.length_map]
    have := sizeLine_eq
    omega
  obtain ⟨M, hM1, hM2⟩ := tabsM hT
  have rm : ∀ H' : Hp, (∀ p ∈ T, H' p.1 = some (.tbl #[])) → RM K H' M := fun H' hh b o e => by
    obtain ⟨p, hp, rfl, rfl⟩ := hM2 b o e
    exact LamX.TabS.nil (hh p hp)
  have ends : ∀ H' : Hp, EndsOk K H' (dEnds fun d _ => d = .bl true) { nx := fun _ H' => Q .non H', rt := Q } := fun H' =>
    ⟨fun m1 M1 σ1 H1 g1 r1 ⟨M0, le, q1⟩ => (by cases q1), fun _ _ _ _ _ _ z => z.elim, fun _ _ _ _ _ _ z => z.elim, fun d v M1 H1 g1 r1 m1 ⟨M0, le, q1⟩ => hQ _ _ (by
      have q1 : d = .bl true := q1
      subst q1
      cases r1
      rfl)⟩
  have rd' := rd [.lst (ns.map D.int)] M (fun d _ => d = .bl true) ⟨_, rfl, hM1, ns, hns, rfl, fun _ => rfl⟩
  have go : ∀ H' : Hp, (∀ p ∈ T, H' p.1 = some (.tbl #[])) → FrzL K H' a (ns.map V.int) → upS K t { nx := fun _ H' => Q .non H', rt := Q } (L2.start N [.ref a]) H' := fun H' hh hf =>
    ⟨dstart N [.lst (ns.map D.int)], M, _, ⟨by simp [dstart, L2.start], fun i d e => start_slot (.one (.lst hf hz (repL_ints ns))) e, rm H' hh⟩, rd', ends H'⟩
  rcases hS with (h | ⟨o, h⟩) | h
  · refine ⟨_, pss_before (body f cdv A outer s H E hr), a, _, h, fun o => go _ (fun p hp => ?_) (.inl ⟨o, upd_same⟩)⟩
    rw [upd_ne (fun z => by rw [← z] at h; rw [hTb p hp] at h; cases h)]
    exact hTb p hp
  · exact ⟨_, body f cdv A outer s H E hr, go H hTb (.inl ⟨o, h⟩)⟩
  · exact ⟨_, body f cdv A outer s H E hr, go H hTb (.inr h)⟩
/-- what a code object's fields are asked -/
def codeFields (ce : Value) (vs : Array Value) : Bool := (match ce with | .type n => n == "code" | _ => false) && (match vs.getD 18 .none with | .str _ _ => true | _ => false) && (match vs.getD 7 .none with | .int _ _ => true | _ => false) &&
  (match vs.getD 9 .none with | .bool _ => true | _ => false) && (match vs.getD 10 .none with | .int _ _ => true | _ => false)
theorem codeHd_of {h : Heap} {ce : Value} {dd : Option Addr} {vs : Array Value} {sl : Array (Option Value)} (X : K.In h) (e : K.lookup c = some ⟨ce, dd, .fields vs, sl⟩) (t : vs[11]? = some (.ref Pt)) (f : codeFields ce vs = true) (n : K.lookup Pt = none) : PySem.W.CodeHd h c Pt := by
  unfold codeFields at f
  simp only [Bool.and_eq_true] at f
  obtain ⟨⟨⟨⟨f1, f2⟩, f3⟩, f4⟩, f5⟩ := f
  have hce : ce = .type "code" := by
    cases ce <;> simp at f1
    rw [f1]
  subst hce
  have hne : c ≠ Pt := fun z => by rw [z, n] at e; cases e
  cases e1 : vs.getD 18 .none <;> rw [e1] at f2 <;> try cases f2
  cases e2 : vs.getD 7 .none <;> rw [e2] at f3 <;> try cases f3
  cases e3 : vs.getD 9 .none <;> rw [e3] at f4 <;> try cases f4
  cases e4 : vs.getD 10 .none <;> rw [e4] at f5 <;> try cases f5
  refine ⟨_, vs, _, _, _, _, _, _, _, X _ _ e, rfl, rfl, t, ?_, e1, e2, e3, e4, hne⟩
  rw [Array.getD_eq_getD_getElem?, t]
  rfl
end
/-- the end: the tables of all defs of the text are empty -/
theorem walk_ofAny {l : PySem.W.OpenLaw} {n k : Nat} {q : Program} {loose : List Str} {XP : (Str → Option Value) → Heap → Prop} {YP : World → Heap → Prop} {d : DefRec} {K : Params → PySem.W.Frag} {CX : World → CXT} {x : Str}
    (hn : l.most = some n) (hn2 : n ≤ sizeLine) (hdf : d.params.defaults = []) (hr : Room k callerA) (hY : ∀ (w : World) (h : Heap), YP w h → (K w.params).In h)
    (F : ∀ (w : World) (mg : Str → Option Value) (fa : Addr) (h : Heap), (K w.params).In h → h.Ns mainGlobals mg → mg d.name = some (.ref fa) → (∀ (y : Str) (fy : Addr), ((recsOf q).any fun e => e.name == y) = true → mg y = some (.ref fy) → LamX.OwnTab (K w.params) fy h) → LamX.LawAtS l w (K w.params) (CX w) k n x mg fa h)
    (hCX : ∀ (w : World) (H : Hp) (s : Shared) (e : Value) (s' : Shared), CX w [] H s (fun _ _ _ => False) e s' → False) :
    PySem.W.WalkO q loose XP YP l.row.toRowW d [] (fun f vs => PySem.call f vs) := by
  refine Att.attach_callB hn hdf fun w s₀ s₁ mg mb fa o pm cd doc a vs ns G Y ho hd hcd hmg hobj hints hlen hbits hg => ?_
  have KX := hY w _ Y
  have own : ∀ (y : Str) (fy : Addr), ((recsOf q).any fun e => e.name == y) = true → mg y = some (.ref fy) → LamX.OwnTab (K w.params) fy s₁.heap := fun y fy hrec hmy c P o1 fd1 e dd vs1 sl k1 k2 k3 k4 k5 => by
    obtain ⟨dL, hm, hn1⟩ := List.any_eq_true.mp hrec
    have hn2 : dL.name = y := beq_iff_eq.mp hn1
    obtain ⟨a', o', fd', c', P', h1, h2, h3, h4, h5, h6⟩ := G.T.tab dL hm
    rw [hn2, hmy] at h1
    cases h1
    have g1 := KX _ _ k1
    rw [g1] at h2
    cases h2
    rw [k2] at h3
    cases h3
    rw [k3] at h4
    cases h4
    obtain ⟨⟨oc, vc, e1, _, e3, e4⟩, hP⟩ := h6
    have g2 := KX _ _ k4
    rw [g2] at e1
    cases e1
    cases e3
    rw [k5] at e4
    cases e4
    exact hP
  obtain ⟨fd, cs, sp, hT, nT, C, hb, hsp, hF⟩ := F w mg fa _ KX G.T.g hmg own
  exact LamX.law_callTs KX G.T.g G.T.b G.T.builtins G.T.nolimit hg hT nT C G.T.bmain hobj hints (Nat.le_trans hlen hn2) hr hF hb (fun H hH hS => hsp H a ns hlen hbits hH hS) fun H e s' => hCX w H s₁ e s'
end DL
/-! sorted(set(a list of ints)) -/
namespace DL
open PySem PySem.Spec PyProof.Rows L2
section
variable {P : Program} {w : World} {A : Around} {E : Value → Shared → Prop} {s : Shared}
set_option maxHeartbeats 3200000 in
/-- set(xs), a list of ints: with what a walk over it wants to know -/
theorem call_set_listI {l : Addr} {items : Array Value} (ns : List Int) {Q : Value → Shared → Prop} (hh : A.handled = none) (hl : s.heap.IsList l items) (hit : IntsAre items.toList ns) (hb : ns.length + 1 < scanBound)
    (h : ∀ (h' : Heap) (tk c : Nat), SetR w h' s.heap.objs.size (fun j => decide (j ∈ ns)) c → c ≤ ns.length → (∀ b o, s.heap.get? b = some o → h'.get? b = some o) → Q (.ref s.heap.objs.size) { s with heap := h', toks := tk }) :
    wpAny (model P w) A (call (.type "set") [.ref l]) Q E s := by
  have hisz : items.size = ns.length := by
    have q := IntsAre.length hit
    rwa [Array.length_toList] at q
  obtain ⟨c, tl, hmro⟩ := F.called_set.mro
  have hmade := F.called_set.made
  have hsub := F.called_set.sub
  refine wpAny_call (codeAny_of_tree ?_)
  show wpAny _ _ (callAny (.type "set") _) _ _ _
  refine wpAny_pure ⟨Code.quiet_builtin _ (by decide +kernel), codeAny_builtin F.entry_type_call ?_⟩
  rw [Around.under_plain (weight_type_call_type "set" [.ref l] []) rfl]
  have h1 := F.called_set.notType
  have h2 := F.called_set.canCreate
  have hct := F.typeCall_set_1 (.ref l)
  repeat (any_goals (first | assumption | wp_step))
  refine codeAny_mono (code_set_led1 (.ref l) (E := E) (Q₁ := fun obj s₁ => obj = .ref s.heap.objs.size ∧ s₁ = { s with heap := s.heap.push { cls := .type "set", dict := none, data := .set #[] 0 (.fresh 0 0 (!w.params.followText "set-order")) } }) ⟨rfl, rfl⟩) fun r s₁ hr => ?_
  cases r with
  | error e => exact hr
  | ok fl =>
    cases fl with
    | ret obj =>
      obtain ⟨rfl, rfl⟩ := hr
      have hS : (s.heap.push { cls := .type "set", dict := none, data := .set #[] 0 (.fresh 0 0 (!w.params.followText "set-order")) }).get? s.heap.objs.size = some { cls := .type "set", dict := none, data := .set #[] 0 (.fresh 0 0 (!w.params.followText "set-order")) } := Heap.get?_push_size _ rfl
      have hT : Shared.TypeIs { s with heap := s.heap.push { cls := .type "set", dict := none, data := .set #[] 0 (.fresh 0 0 (!w.params.followText "set-order")) } } (.ref s.heap.objs.size) "set" := ⟨_, hS, rfl⟩
      have hli := F.called_set.init.lookup
      have hbi := F.called_set.init.bind (.ref s.heap.objs.size)
      repeat (any_goals (first | assumption | wp_step))
      refine codeAny_mono (codeAny_call_builtin (R := wants (fun r s₂ => r = .none ∧ ∃ h' tk c, s₂ = { s with heap := h', toks := tk } ∧ SetR w h' s.heap.objs.size (fun j => decide (j ∈ ns)) c ∧ c ≤ ns.length ∧
          (∀ b o, s.heap.get? b = some o → h'.get? b = some o)) E) F.called_set.init.plain F.entry_set_init (check_set_init_1 hT ?_)) fun r₂ s₂ hr₂ => ?_
      · obtain ⟨ol, hol, hcl, nl, hdl⟩ := hl
        obtain ⟨ocls, odict, odata, oslots⟩ := ol
        simp only at hcl hdl
        subst hcl hdl
        have hol' : (s.heap.push { cls := .type "set", dict := none, data := .set #[] 0 (.fresh 0 0 (!w.params.followText "set-order")) }).get? l = some { cls := .type "list", dict := odict, data := .seq items nl, slots := oslots } := Heap.get?_push_of_some _ hol
        have hsls := F.sub_list_set
        have hslf := F.sub_list_frozenset
        have hne : (Value.type "list" == Value.type "dict") = false := by decide
        have hl1 : (s.heap.push { cls := .type "set", dict := none, data := .set #[] 0 (.fresh 0 0 (!w.params.followText "set-order")) }).IsList l items := ⟨_, hol', rfl, nl, rfl⟩
        unfold Builtin.«set.__init__» noKeywords Builtin.Frozenset.updateFrom
        generalize hPI : pyIter = PI
        wp_walk
        subst hPI
        refine wpAny_pyIter_list hl1 ?_
        refine wpAny_bind (wpAny_runValue ?_)
        have hlS : l < s.heap.objs.size := Heap.lt_size hol
        have hh3 : A.in1.in1.in1.handled = none := by simp [hh]
        have hneI : l ≠ (s.heap.push { cls := .type "set", dict := none, data := .set #[] 0 (.fresh 0 0 (!w.params.followText "set-order")) }).objs.size := by
          rw [Heap.size_push]; exact Nat.ne_of_lt (Nat.lt_succ_of_lt hlS)
        have hSf : s.heap.objs.size ∉ [(s.heap.push { cls := .type "set", dict := none, data := .set #[] 0 (.fresh 0 0 (!w.params.followText "set-order")) }).objs.size, l] := by
          rw [Heap.size_push]; simp only [List.mem_cons, List.mem_singleton, List.not_mem_nil, or_false, not_or]
          exact ⟨Nat.ne_of_lt (Nat.lt_succ_self _), Nat.ne_of_gt hlS⟩
        have hval : ∀ (i : Nat) (v : Value), items[i]? = some v → ∃ k t, ns[i]? = some k ∧ v = .int k t := fun i v hv => by
          have hi : i < ns.length := by rw [← hisz]; exact (Array.getElem?_eq_some_iff.mp hv).1
          obtain ⟨t, e⟩ := PyProof.Rows.IntsAre.int_at hit i v (by rw [Array.getElem?_toList]; exact hv)
          refine ⟨ns[i], t, List.getElem?_eq_getElem hi, ?_⟩
          rw [e, List.getD_eq_getElem?_getD, List.getElem?_eq_getElem hi] <;> rfl
        refine set_update_ints ((Walks.list hh3 _ l hneI items).toS) s.heap.objs.size
          hSf ns hisz hb hval (items.size - 0) 0 _ (by omega) (Nat.zero_le _)
          ⟨⟨_, Heap.get?_push_size _ rfl, rfl, rfl⟩, (hl1.push _)⟩ ?hS0 ?hR
        case hS0 =>
          have hget : ((s.heap.push { cls := .type "set", dict := none, data := .set #[] 0 (.fresh 0 0 (!w.params.followText "set-order")) }).push { cls := .type "list_iterator", data := .fields #[.ref l, .int 0 0] }).get? s.heap.objs.size
              = some { cls := .type "set", dict := none, data := .set #[] 0 (.fresh 0 0 (!w.params.followText "set-order")) } := Heap.get?_push_of_some _ hS
          exact ⟨0, Nat.le_refl 0, setR_new_at hget⟩
        case hR =>
          intro s' c' hm hc' hS'
          obtain ⟨h', g2, d', tk', os'⟩ := s'
          have eg : g2 = s.gens := hm.gens
          have ed : d' = s.drawn := hm.drawn
          have eo : os' = s.os := hm.os
          subst eg; subst ed; subst eo
          show wpAny _ _ _ _ _ _
          refine wpAny_pure ?_
          show wpAny _ _ (PySem.ret Value.none) _ _ _
          rw [hisz] at hc'
          refine wpAny_pure ⟨rfl, h', tk', c', rfl, hS', hc', fun b o e => ?_⟩
          have hb0 : b < s.heap.objs.size := Heap.lt_size e
          have hb1 : b ≠ s.heap.objs.size := Nat.ne_of_lt hb0
          have hb2 : b ≠ (s.heap.push { cls := .type "set", dict := none, data := .set #[] 0 (.fresh 0 0 (!w.params.followText "set-order")) }).objs.size := by
            rw [Heap.size_push]; exact Nat.ne_of_lt (Nat.lt_succ_of_lt hb0)
          exact hm.heap b o (by simp only [List.mem_cons, List.mem_singleton, List.not_mem_nil, or_false, not_or]; exact ⟨hb1, hb2⟩) (Heap.get?_push_of_some _ (Heap.get?_push_of_some _ e))
      · cases r₂ with
        | error e => exact hr₂
        | ok fl₂ =>
          cases fl₂ with
          | ret r =>
            obtain ⟨rfl, h', tk, c', rfl, hS', hc', hk'⟩ := hr₂
            repeat (any_goals (first | assumption | wp_step))
            exact h _ _ _ hS' hc' hk'
          | _ => exact hr₂.elim
    | _ => exact hr.elim
/-- sorted(a set of ints), of any size -/
theorem sorted_setI {a : Addr} {S : Int → Bool} {n : Nat} {Q : Value → Shared → Prop} (R : SetR w s.heap a S n) (hh : A.handled = none) (hu : A.units + 40 < cLine)
    (hQ : ∀ s' p (out : Array Value) (c : Nat) (ns : List Int), (∀ b o, s.heap.get? b = some o → s'.heap.get? b = some o) → s'.gens = s.gens → s'.os = s.os → s.heap.objs.size ≤ p →
      s'.heap.get? p = some (seqObj "list" out c) → IntsAre out.toList ns → ns.Pairwise (· < ·) → (∀ k, k ∈ ns ↔ S k = true) → ns.length = n → Q (.ref p) s') :
    wpAny (model P w) A (call (.builtin "sorted") [.ref a]) Q E s := by
  obtain ⟨o, es, ep, t, ho, hex, hd, g, nd, hm, hb, hf, hn, hr, hl⟩ := R
  refine Calls.call_function_entry kind_sorted plain_sorted entry_sorted (args_sorted1 _) ?_
  unfold Builtin.«sorted»
  refine wpAny_bind (m := checkCount "sorted" 1 1 _) (wpAny_pure ?_)
  refine wpAny_bind (collect_set (A := A.in1) hh ⟨o, ho, hex.1, hd⟩ hf hb hr hl fun s1 vs k1 hz g1 o1 pm => ?_)
  have hvl : vs.length = n := by rw [pm.length_eq, List.length_map, Array.length_toList]; exact hn
  have hnl : n ≤ sizeLine := by
    rw [← hn, sizeLine_eq]
    unfold scanBound at hb
    omega
  have hI : IntsAre vs (vs.map Builtin.Re.reRawOf) := ints_of vs fun v hv => by
    obtain ⟨e, he, q⟩ := List.mem_map.mp (pm.mem_iff.mp hv)
    obtain ⟨k, tk, h1, _⟩ := g e he
    exact ⟨k, tk, by rw [← q]; exact h1⟩
  have pk : (vs.map Builtin.Re.reRawOf).Perm (es.toList.map keyOf) := by
    have q := pm.map Builtin.Re.reRawOf
    rw [List.map_map] at q
    exact q
  refine wpAny_bind (wpAny_newList ?_ (by rw [hvl]; exact hnl))
  have hoL : (s1.heap.push (seqObj "list" vs.toArray 0)).get? s1.heap.objs.size = some (seqObj "list" vs.toArray 0) := Heap.get?_push_size _ rfl
  generalize hbs : vs.map Builtin.Re.reRawOf = bs at hI pk
  have eachI : ∀ {us : List Value} {ks : List Int}, IntsAre us ks → PySem.W.EachIs (fun v k => ∃ t, v = Value.int k t) us ks := by
    intro us ks h
    induction h with
    | nil => exact .nil
    | cons k t _ ih => exact .cons ⟨t, rfl⟩ ih
  have intsE : ∀ {us : List Value} {ks : List Int}, PySem.W.EachIs (fun v k => ∃ t, v = Value.int k t) us ks → IntsAre us ks := by
    intro us ks h
    induction h with
    | nil => exact .nil
    | cons r _ ih =>
      obtain ⟨t, rfl⟩ := r
      exact .cons _ t ih
  have hbl : bs.length = n := by rw [← hI.length, hvl]
  refine wpAny_bind (wpAny_holding (PySem.W.list_sort_data (enc := fun k : Int => .int k) (bs := bs) (R := fun v k => ∃ t, v = Value.int k t) hoL (eachI hI) ((eachI hI).mono fun v k ⟨t, e⟩ => ⟨[], by rw [e]; exact .int k t, by simp⟩)
    (PySem.W.AllAlike.of fun _ _ => by simp [PySem.W.alike]) (PySem.W.Sortable.others fun _ => ⟨(fun z => by cases z), fun _ z => by cases z⟩) (by rw [hbl]; exact hnl) (fun b _ => by
      simp only [PyData.depth]
      show A.units + 1 + 1 + 0 < cLine
      omega) fun out hol ho2 => ?_))
  have ho3 := intsE ho2
  obtain ⟨c, hc⟩ := sortedHeap_at (vs := vs) (out := List.toArray out) hoL
  have hperm : (bs.mergeSort (PySem.W.dataLe false fun k : Int => .int k)).Perm bs := List.mergeSort_perm _ _
  have pn := hperm.trans pk
  have hle : (bs.mergeSort (PySem.W.dataLe false fun k : Int => .int k)).Pairwise (· ≤ ·) := by
    have e : PySem.W.dataLe false (fun k : Int => PyData.int k) = fun a b => decide (a ≤ b) := PySem.W.dataLe_int fun k => k
    rw [e]
    have := List.pairwise_mergeSort (le := fun a b : Int => decide (a ≤ b)) (fun a b c h1 h2 => by simp at *; omega) (fun a b => by simp; omega) bs
    exact this.imp fun h => by simpa using h
  refine wpAny_pure ⟨_, rfl, hQ _ s1.heap.objs.size (List.toArray out) c _ (fun b u e => ?_) g1 o1 hz hc (by simpa using ho3) (lt_of_le_nodup _ hle (pn.nodup_iff.mpr nd)) (fun k => by rw [pn.mem_iff, ← hm k]) ?_⟩
  · have q := k1 b u e
    have hlt := Heap.lt_size q
    show (sortedHeap (s1.heap.push (seqObj "list" vs.toArray 0)) s1.heap.objs.size vs (List.toArray out)).get? b = some u
    rw [sortedHeap_old (Nat.ne_of_lt hlt) (by rw [size_push']; exact Nat.lt_succ_of_lt hlt)]
    exact Heap.get?_push_of_some _ q
  · rw [hperm.length_eq, hbl]
end
section
variable {X : Cx}
/-- sorted(set(e)), e a list of ints -/
def dSortSet (te : DTE) : DTE := fun m M Q => te m M fun d M1 => ∃ ns : List Int, dItems d M1 = some (ns.map D.int) ∧ d ≠ .tup (ns.map D.int) ∧ ns.length ≤ 4000 ∧ ∀ (rs : List Int) (p : Addr), rs.Pairwise (· < ·) → (∀ k, k ∈ rs ↔ k ∈ ns) → rs.length ≤ ns.length → M1 p = none → Q (.ref p) (mput M1 p (.lst (rs.map D.int)))
theorem repL_intsV {K : PySem.W.Frag} {H : Hp} : ∀ {ns : List Int} {vs : List V}, RepL K H (ns.map D.int) vs → vs = ns.map V.int
  | [], _, .nil => rfl
  | n :: ns, _, .cons a r => by
    cases a
    rw [List.map_cons, repL_intsV r]
theorem d_sortSet {e : Expr} {te : DTE} {p p2 q pos : Pos} (hc : X.calm = true) (hu : X.A.units + 64 < cLine) (hg : Gl X "sorted") (hm : X.mg "sorted" = none) (hg2 : Gl X "set") (hm2 : X.mg "set" = none) (he : DE X e te)
    (na : starEach [e] X.env = (false, eval e X.env) :: starEach [] X.env := by rfl) : DE X (.Call (.Name "sorted" p) [.Call (.Name "set" p2) [e] [] q] [] pos) (dSortSet te) := by
  refine ⟨fun pins s σ H Q I ⟨m, M, Q', r, h, kk⟩ => ?_⟩
  refine Call_ (ld_blt I hg hm boot_sorted ?_)
  refine PyProof.Rows.callWith_builtin1 (PyProof.Rows.args_cons ?_ rfl) rfl rfl
  refine Call_ (ld_blt I hg2 hm2 boot_set ?_)
  refine PyProof.Rows.callWith_type1 (PyProof.Rows.args_cons (thn (he.run pins s σ H (fun v H1 => ∃ d M1, Grow H H1 ∧ Rep X.K H1 d v ∧ RM X.K H1 M1 ∧ ∃ ns : List Int, dItems d M1 = some (ns.map D.int) ∧ d ≠ .tup (ns.map D.int) ∧ ns.length ≤ 4000 ∧ ∀ (rs : List Int) (p : Addr), rs.Pairwise (· < ·) → (∀ k, k ∈ rs ↔ k ∈ ns) → rs.length ≤ ns.length → M1 p = none → Q' (.ref p) (mput M1 p (.lst (rs.map D.int)))) I
    ⟨m, M, _, r, h, fun d v M1 H1 g1 r1 m1 q1 => ⟨d, M1, g1, r1, m1, q1⟩⟩) fun v s1 ⟨x, H1, I1, r1, d, M1, g1, rd, m1, ns, hd, hnt, hl, q1⟩ => PyProof.Rows.args_nil ?_) na) na rfl
  obtain ⟨l, vs, rfl, hz, rl, hS⟩ := lst_of rd m1 hd hnt
  have evs := repL_intsV rl
  subst evs
  cases r1
  obtain ⟨its, ri, pl, _⟩ := I1.list hS
  refine call_set_listI ns (I1.ok.hd hc) pl.isList (by simpa using RZ.intsAre_vals ri) (by unfold scanBound; omega) fun h' tk c hR hcl hk => ?_
  refine PyProof.Rows.args_nil ?_
  have I2 : Inv X pins σ H1 { s1 with heap := h', toks := tk } := I1.kept hk
  have hR2 : SetR X.w ({ s1 with heap := h', toks := tk } : Shared).heap s1.heap.objs.size (fun j => decide (j ∈ ns)) c := hR
  generalize hs2 : ({ s1 with heap := h', toks := tk } : Shared) = s2 at I2 hR2 ⊢
  refine sorted_setI (s := s2) hR2 (I2.ok.hd hc) (by omega) fun s' p out c2 rs k g o hp hg hi hs hm hln => ?_
  have hlen : (rs.map V.int).length ≤ sizeLine := by rw [List.length_map, hln, sizeLine_eq]; omega
  have hn : H1 p = none := I2.hok.fresh hp
  have J : Inv X pins σ (upd H1 p (.lst (rs.map V.int))) { s2 with heap := s'.heap, gens := s'.gens, drawn := s'.drawn, toks := s'.toks } :=
    I2.call (ch := []) (Un.laid k hp hn) (I2.hok.laid k hp ⟨hlen, out.toList, c2, vals_of_ints hi, hg⟩) (by rw [g]; exact I2.bare) (fun _ z => nomatch z)
  have e : s' = { s2 with heap := s'.heap, gens := s'.gens, drawn := s'.drawn, toks := s'.toks } := by
    cases s'
    cases s2
    cases o
    rfl
  rw [e]
  exact ⟨.ref p, _, J, rfl, kk _ _ _ _ (g1.trans (.new hn)) (.ref _) (m1.newLst hn hlen (repL_ints rs)) (q1 rs p hs (fun k => by rw [hm k, decide_eq_true_iff]) (by omega) (m1.free hn))⟩
end
end DL
/-! [*a, .., *b], a and b tuples -/
namespace DL
open PySem PySem.Spec PyProof.Rows L2
section
variable {X : Cx} {e : Expr} {es : List Expr} {te : DTE} {t : DTA} {p : Pos}
def dStar (te : DTE) (t : DTA) : DTA := fun m M Q => te m M fun d M1 => ∃ ds, d = .tup ds ∧ t m M1 fun es M2 => Q (ds ++ es) M2
theorem da_star (he : DE X e te) (hr : DA X es t) (hs : starEach (.Starred e p :: es) X.env = (true, eval e X.env) :: starEach es X.env := by rfl) : DA X (.Starred e p :: es) (dStar te t) :=
  imA (StX.pa_star he hr hs) fun σ H Q ⟨m, M, Q', r, q, k⟩ => by
    refine ⟨m, M, _, r, q, fun d v M1 H1 g1 r1 m1 ⟨ds, e1, q1⟩ => ?_⟩
    subst e1
    cases r1 with
    | tup h z l =>
      refine ⟨_, _, rfl, .inl h, m, M1, _, r.grow g1 m1, q1, fun ds2 vs2 M2 H2 g2 r2 m2 q2 => ?_⟩
      exact k _ _ M2 H2 (g1.trans g2) (RepL.append (l.grow g2) r2) m2 q2
end
end DL
/-! str(an int), int(a text) -/
namespace DL
open PySem PySem.Spec PyProof.Rows L2
section
variable {X : Cx}
def rIntS : DCR := fun ds M Q => ∃ z n, ds = [.str z] ∧ PySem.intText? z = some n ∧ z.length ≤ 640 ∧ Q (.int n) M
theorem c_intS : DCall X (.type "int") rIntS := by
  intro pins s σ H vs us Q I r ⟨ds, M, Q', l, m, ⟨z, n, e, h, hl, q⟩, k⟩
  subst e
  obtain ⟨v, e, rv⟩ := repL_one l
  subst e
  cases rv
  exact call_int_str pins s σ H _ us Q I r ⟨z, n, rfl, h, hl, k _ _ M H (.refl H) (.int _) m q⟩
def rStrI : DCR := fun ds M Q => ∃ i : Int, ds = [.int i] ∧ i.natAbs.log2 < 1920 ∧ Q (.str (toString i)) M
theorem c_strI : DCall X (.type "str") rStrI := by
  intro pins s σ H vs us Q I r ⟨ds, M, Q', l, m, ⟨i, e, h, q⟩, k⟩
  subst e
  obtain ⟨v, e, rv⟩ := repL_one l
  subst e
  cases rv
  exact call_str_int pins s σ H _ us Q I r ⟨i, rfl, h, k _ _ M H (.refl H) (.str _) m q⟩
end
theorem int_str {i : Int} (h : i.natAbs < 10 ^ 300) : PySem.intText? (Str.ofString (toString i)) = some i ∧ (Str.ofString (toString i)).length ≤ 640 := by
  cases i with
  | ofNat n =>
    have hn : n < 10 ^ 300 := h
    have hl := TL.numL_len (by decide) hn
    refine ⟨TL.int_num (by omega), ?_⟩
    rw [TL.len_tl, show TL.tl (Str.ofString (toString (Int.ofNat n))) = TL.numL n from TL.tl_num n]
    omega
  | negSucc n =>
    have hn : n + 1 < 10 ^ 300 := h
    have hl := TL.numL_len (by decide) hn
    have e1 : toString (Int.negSucc n) = "-" ++ toString ((n + 1 : Nat) : Int) := rfl
    have e2 : TL.tl (Str.ofString (toString (Int.negSucc n))) = 45 :: TL.numL (n + 1) := by
      have q := TL.tl_num (n + 1)
      rw [TL.tl_ofString] at q
      rw [e1, TL.tl_ofString, String.toList_append, List.map_append, q]
      rfl
    have hlen : (Str.ofString (toString (Int.negSucc n))).length ≤ 640 := by
      rw [TL.len_tl, e2, List.length_cons]
      omega
    refine ⟨?_, hlen⟩
    rw [intText_neg (x := Str.ofString (toString (Int.negSucc n))) (cs := TL.numL (n + 1)) e2 (TL.numL_digits _) (TL.numL_ne _) (by omega), TL.numL_val]
    rfl
theorem log2_lt {n : Nat} (h : n < 10 ^ 300) : n.log2 < 1920 := by
  by_cases c : n = 0
  · subst c
    decide
  · rw [Nat.log2_lt c]
    refine Nat.lt_of_lt_of_le h ?_
    decide +kernel
end DL
/-! dicts whose keys are ints and texts: in the mutable part (DO.dk), or frozen: plain data (D.dct) -/
namespace DL
open PySem PySem.Spec PyProof.Rows L2

/-! ### keys -/
def isKb : D → Bool
  | .int _ => true
  | .str _ => true
  | _ => false
theorem isKb_int (i : Int) : isKb (.int i) = true := rfl
theorem isKb_str (x : Str) : isKb (.str x) = true := rfl
theorem isKb_kD (k : Key) : isKb (kD k) = true := by cases k <;> rfl
theorem isKb_ex {d : D} (h : isKb d = true) : ∃ k, d = kD k := by
  cases d with
  | int i => exact ⟨.inl i, rfl⟩
  | str x => exact ⟨.inr x, rfl⟩
  | _ => cases h
theorem nk_kD {a b : Key} : nk (kD a) = nk (kD b) ↔ a = b := by
  constructor
  · intro h
    cases a <;> cases b <;> simp [kD, nk] at h <;> simp [h]
  · intro h
    rw [h]
theorem rep_kD {K : PySem.W.Frag} {H : Hp} (k : Key) : Rep K H (kD k) (kV k) := by
  cases k with
  | inl i => exact .int i
  | inr x => exact .str x
theorem rep_kV {K : PySem.W.Frag} {H : Hp} {k : Key} {v : V} (r : Rep K H (kD k) v) : v = kV k := by
  cases k <;> cases r <;> rfl
/-- what the dict holds -/
def dDict : D → DM → Option (List (D × D))
  | .dct kvs, _ => some kvs
  | .ref a, M => match M a with
    | some (.dk kvs) => some kvs
    | _ => none
  | _, _ => none
@[simp] theorem dDict_dct {kvs : List (D × D)} {M : DM} : dDict (.dct kvs) M = some kvs := rfl
theorem dDict_ref {kvs : List (D × D)} {M : DM} {a : Addr} (h : M a = some (.dk kvs)) : dDict (.ref a) M = some kvs := by
  simp [dDict, h]
theorem dDict_put {kvs : List (D × D)} {M : DM} {a : Addr} : dDict (.ref a) (mput M a (.dk kvs)) = some kvs := dDict_ref mput_same
theorem dDict_rf {M : DM} {a : Addr} : dDict (.ref a) M = match M a with
    | some (.dk kvs) => some kvs
    | _ => none := rfl
section
variable {K : PySem.W.Frag} {H H' : Hp} {M : DM}
theorem RepK.length : ∀ {kvs : List (D × D)} {es : List (Key × V)}, RepK K H kvs es → kvs.length = es.length
  | _, _, .nil => rfl
  | _, _, .cons _ l => congrArg (· + 1) l.length
theorem RepK.get : ∀ {kvs : List (D × D)} {es : List (Key × V)} {i : Nat} {k : Key} {v : V}, RepK K H kvs es → es[i]? = some (k, v) → ∃ d, kvs[i]? = some (kD k, d) ∧ Rep K H d v
  | _, _, _, _, _, .nil, e => by simp at e
  | _, _, 0, _, _, .cons h _, e => by
    simp at e
    obtain ⟨rfl, rfl⟩ := e
    exact ⟨_, rfl, h⟩
  | _, _, i + 1, _, _, .cons _ l, e => by
    obtain ⟨d, h1, h2⟩ := RepK.get (i := i) l (by simpa using e)
    exact ⟨d, by simpa using h1, h2⟩
theorem RepK.val {k : Key} : ∀ {kvs : List (D × D)} {es : List (Key × V)}, RepK K H kvs es → (dget kvs (kD k) = none ∧ valV es k = none) ∨ ∃ d y, dget kvs (kD k) = some d ∧ valV es k = some y ∧ Rep K H d y
  | _, _, .nil => .inl ⟨rfl, rfl⟩
  | _, _, .cons (k := k1) (d := d) h l => by
    have ih := RepK.val (k := k) l
    by_cases c : k1 = k
    · subst c
      refine .inr ⟨d, _, ?_, valV_pos rfl, h⟩
      unfold dget
      rw [List.find?_cons, decide_eq_true rfl]
      rfl
    · rw [valV_neg (p := (k1, _)) c]
      unfold dget at ih ⊢
      rw [List.find?_cons, decide_eq_false (fun z => c (nk_kD.mp z))]
      exact ih
theorem RepK.has {k : Key} : ∀ {kvs : List (D × D)} {es : List (Key × V)}, RepK K H kvs es → (es.any fun kv => decide (kv.1 = k)) = dhas kvs (kD k)
  | _, _, .nil => rfl
  | _, _, .cons (k := k1) h l => by
    have ih := RepK.has (k := k) l
    unfold dhas at ih ⊢
    rw [List.any_cons, List.any_cons, ih]
    congr 1
    by_cases c : k1 = k
    · rw [decide_eq_true c, decide_eq_true (nk_kD.mpr c)]
    · rw [decide_eq_false c, decide_eq_false (fun z => c (nk_kD.mp z))]
theorem RepK.map {k : Key} {d : D} {y : V} (rd : Rep K H d y) : ∀ {kvs : List (D × D)} {es : List (Key × V)}, RepK K H kvs es → RepK K H (kvs.map fun p => if nk p.1 = nk (kD k) then (p.1, d) else p) (es.map fun kv => if kv.1 = k then (kv.1, y) else kv)
  | _, _, .nil => .nil
  | _, _, .cons (k := k1) h l => by
    rw [List.map_cons, List.map_cons]
    by_cases c : k1 = k
    · rw [if_pos (show (k1, _).1 = k from c), if_pos (show nk (kD k1, _).1 = nk (kD k) from nk_kD.mpr c)]
      exact .cons rd (RepK.map rd l)
    · rw [if_neg (show ¬ (k1, _).1 = k from c), if_neg (show ¬ nk (kD k1, _).1 = nk (kD k) from fun z => c (nk_kD.mp z))]
      exact .cons h (RepK.map rd l)
theorem RepK.snoc {k : Key} {d : D} {y : V} (rd : Rep K H d y) : ∀ {kvs : List (D × D)} {es : List (Key × V)}, RepK K H kvs es → RepK K H (kvs ++ [(kD k, d)]) (es ++ [(k, y)])
  | _, _, .nil => .cons rd .nil
  | _, _, .cons h l => .cons h (RepK.snoc rd l)
theorem RepK.put {k : Key} {d : D} {y : V} {kvs : List (D × D)} {es : List (Key × V)} (l : RepK K H kvs es) (rd : Rep K H d y) : RepK K H (dput kvs (kD k) d) (putK es k y) := by
  unfold dput putK
  rw [l.has]
  split
  · exact l.map rd
  · exact l.snoc rd
theorem RepK.keys : ∀ {kvs : List (D × D)} {es : List (Key × V)}, RepK K H kvs es → RepL K H (kvs.map (·.1)) (es.map fun x => kV x.1)
  | _, _, .nil => .nil
  | _, _, .cons (k := k) _ l => .cons (rep_kD k) (RepK.keys l)
theorem dict_at {d : D} {v : V} {kvs : List (D × D)} (r : Rep K H d v) (m : RM K H M) (e : dDict d M = some kvs) : ∃ a es, v = .ref a ∧ Rd H a (.dK es) ∧ es.length ≤ sizeLine ∧ RepK K H kvs es := by
  cases r with
  | dct h z l =>
    cases e
    exact ⟨_, _, rfl, .inr ⟨_, h⟩, z, l⟩
  | ref a =>
    cases q : M a with
    | none => simp [dDict, q] at e
    | some o =>
      cases o with
      | dk ks =>
        simp [dDict, q] at e
        subst e
        obtain ⟨es, h, z, l⟩ := m a _ q
        exact ⟨a, es, rfl, .inl h, z, l⟩
      | _ => simp [dDict, q] at e
  | _ => cases e
theorem Grow.dk {p : Addr} {es : List (Key × V)} {o : HO} (h : H p = some (.dK es)) : Grow H (upd H p o) :=
  ⟨fun b xs e => by rw [upd_ne (ne_of e h (by intro z; cases z))]; exact e, fun b q u e => by rw [upd_ne (ne_of e h (by intro z; cases z))]; exact e, fun b q e => by rw [upd_ne (ne_of e h (by intro z; cases z))]; exact e⟩
theorem RM.putDk {p : Addr} {es es' : List (Key × V)} {kvs : List (D × D)} (h : RM K H M) (hp : H p = some (.dK es)) (hz : es'.length ≤ sizeLine) (l : RepK K H kvs es') : RM K (upd H p (.dK es')) (mput M p (.dk kvs)) := fun a q e => by
  have g : Grow H (upd H p (.dK es')) := Grow.dk hp
  by_cases ha : a = p
  · subst ha
    rw [mput_same] at e
    cases e
    exact ⟨es', upd_same, hz, l.grow g⟩
  · rw [mput_ne ha] at e
    exact (h a q e).stay (upd_ne ha) g
theorem RM.newDk {p : Addr} {es : List (Key × V)} {kvs : List (D × D)} (h : RM K H M) (hp : H p = none) (hz : es.length ≤ sizeLine) (l : RepK K H kvs es) : RM K (upd H p (.dK es)) (mput M p (.dk kvs)) := fun a q e => by
  by_cases ha : a = p
  · subst ha
    rw [mput_same] at e
    cases e
    exact ⟨es, upd_same, hz, l.grow (.new hp)⟩
  · rw [mput_ne ha] at e
    exact h.new hp a q e
theorem RM.dk {a : Addr} {kvs : List (D × D)} (h : RM K H M) (e : M a = some (.dk kvs)) : ∃ es, H a = some (.dK es) ∧ es.length ≤ sizeLine ∧ RepK K H kvs es := h a _ e
theorem RM.frzDk {p : Addr} {es : List (Key × V)} {o : Obj} (h : RM K H M) (hp : H p = some (.dK es)) : RM K (upd H p (.frz o (.dK es))) (mdel M p) := fun a q e => by
  have ha : a ≠ p := fun z => by
    subst z
    unfold mdel at e
    simp at e
  have e' : M a = some q := by
    unfold mdel at e
    rw [if_neg ha] at e
    exact e
  exact (h a q e').stay (upd_ne ha) (Grow.dk hp)
end
theorem dput_len' (kvs : List (D × D)) (k v : D) : (dput kvs k v).length ≤ kvs.length + 1 := dput_len kvs k v

section
variable {X : Cx} {o e a b f : Expr} {pos apos cpos : Pos} {to te tf ta tb : DTE}
/-! ### d[k], k in d, k not in d -/
def dKIx (to te : DTE) : DTE := fun m M Q => to m M fun x M1 => te m M1 fun y M2 => ∃ kvs v, dDict x M2 = some kvs ∧ isKb y = true ∧ dget kvs y = some v ∧ Q v M2
theorem d_kix (hu : X.A.units + 1 < cLine) (ho : DE X o to) (he : DE X e te) (hs : NoSl e) : DE X (.Subscript o e pos) (dKIx to te) :=
  imE (pe_dget hu ho he hs) fun σ H Q ⟨m, M, Q', r, q, kk⟩ => by
    refine ⟨m, M, _, r, q, fun x v1 M1 H1 g1 r1 m1 q1 => ⟨m, M1, _, r.grow g1 m1, q1, fun y v2 M2 H2 g2 r2 m2 ⟨kvs, v, e1, e2, e3, q2⟩ => ?_⟩⟩
    obtain ⟨p, es, rfl, hr, z, l⟩ := dict_at (r1.grow g2) m2 e1
    obtain ⟨k, rfl⟩ := isKb_ex e2
    obtain rfl := rep_kV r2
    rcases l.val (k := k) with ⟨n1, _⟩ | ⟨d, y, n1, n2, rd⟩
    · rw [n1] at e3
      cases e3
    · rw [n1] at e3
      cases e3
      exact ⟨p, y, rfl, .inl ⟨es, k, hr, rfl, n2.symm⟩, kk _ _ M2 H2 (g1.trans g2) rd m2 q2⟩
def dKIn : DR2 := fun x y M Q => ∃ kvs, dDict y M = some kvs ∧ isKb x = true ∧ Q (.bl (dhas kvs x)) M
def dKNotIn : DR2 := fun x y M Q => ∃ kvs, dDict y M = some kvs ∧ isKb x = true ∧ Q (.bl (!dhas kvs x)) M
theorem has_val {K : PySem.W.Frag} {H : Hp} {kvs : List (D × D)} {es : List (Key × V)} (l : RepK K H kvs es) (k : Key) : (valV es k).isSome = dhas kvs (kD k) := by
  rw [← valV_any, l.has]
theorem o_inK (hu : X.A.units + 1 < cLine) : DOp X (compareOp .In) dKIn := by
  intro pins s σ H x y v u Q I rx ry ⟨d, e, M, Q', r1, r2, m, ⟨kvs, e1, e2, q⟩, k⟩
  obtain ⟨p, es, rfl, hr, z, l⟩ := dict_at r2 m e1
  obtain ⟨key, rfl⟩ := isKb_ex e2
  obtain rfl := rep_kV r1
  obtain rfl : u = Value.ref p := ry
  refine d_in hu I (.inl ⟨es, key, hr, rfl, rfl⟩) rx fun s' I' => ?_
  rw [has_val l]
  exact ⟨.bl _, H, I', rfl, k _ _ M H (.refl H) (.bl _) m q⟩
theorem o_notinK (hu : X.A.units + 1 < cLine) : DOp X (compareOp .NotIn) dKNotIn := by
  intro pins s σ H x y v u Q I rx ry ⟨d, e, M, Q', r1, r2, m, ⟨kvs, e1, e2, q⟩, k⟩
  obtain ⟨p, es, rfl, hr, z, l⟩ := dict_at r2 m e1
  obtain ⟨key, rfl⟩ := isKb_ex e2
  obtain rfl := rep_kV r1
  obtain rfl : u = Value.ref p := ry
  refine d_notIn hu I (.inl ⟨es, key, hr, rfl, rfl⟩) rx fun s' I' => ?_
  rw [has_val l]
  exact ⟨.bl _, H, I', rfl, k _ _ M H (.refl H) (.bl _) m q⟩
/-! ### len(d) -/
def rLenK : DCR := fun ds M Q => ∃ d kvs, ds = [d] ∧ dDict d M = some kvs ∧ Q (.int kvs.length) M
theorem c_lenK : DCall X (.builtin "len") rLenK := by
  intro pins s σ H vs us Q I r ⟨ds, M, Q', l, m, ⟨d, kvs, e, h, q⟩, k⟩
  subst e
  obtain ⟨v, e, rv⟩ := repL_one l
  subst e
  obtain ⟨p, es, rfl, hr, z, l2⟩ := dict_at rv m h
  obtain ⟨u, eu, rx⟩ := vals1 r
  subst eu
  obtain rfl : u = Value.ref p := rx
  refine d_len I hr fun t s' I' => ⟨.int es.length, H, I', ⟨t, rfl⟩, ?_⟩
  rw [← l2.length]
  exact k _ _ M H (.refl H) (.int _) m q
/-! ### {}, freezing -/
def dKNew : DTE := fun _ M Q => ∀ p, M p = none → Q (.ref p) (mput M p (.dk []))
theorem d_knew : DE X (.Dict [] [] pos) dKNew :=
  imE pe_dnewK fun σ H Q ⟨m, M, Q', r, q, kk⟩ p hp => kk _ _ _ _ (.new hp) (.ref p) (r.mem.newDk hp (Nat.zero_le _) .nil) (q p (r.mem.free hp))
theorem inv_frzD {pins : List (Addr × Obj)} {σ : SL} {H : Hp} {s : Shared} {p : Addr} {es : List (Key × V)} (I : Inv X pins σ H s) (h : H p = some (.dK es)) : ∃ ob, Inv X pins σ (upd H p (.frz ob (.dK es))) s := I.lock h True.intro
def tFzK (t : TE) : TE := fun σ H Q => t σ H fun v H1 => ∃ p es, v = .ref p ∧ H1 p = some (.dK es) ∧ ∀ ob, Q v (upd H1 p (.frz ob (.dK es)))
theorem pe_fzK {t : TE} (h : PE X e t) : PE X e (tFzK t) := by
  refine ⟨fun pins s σ H Q I q => thn (h.run pins s σ H _ I q) fun u s1 ⟨v, H1, I1, r1, p, es, e1, e2, q1⟩ => ?_⟩
  obtain ⟨ob, I2⟩ := inv_frzD I1 e2
  exact ⟨v, _, I2, r1, q1 ob⟩
/-- the dict that comes is frozen -/
def dFzK (t : DTE) : DTE := fun m M Q => t m M fun d M1 => ∃ p kvs, d = .ref p ∧ M1 p = some (.dk kvs) ∧ Q (.dct kvs) (mdel M1 p)
theorem d_fzK (h : DE X e te) : DE X e (dFzK te) :=
  imE (pe_fzK h) fun σ H Q ⟨m, M, Q', r, q, k⟩ => by
    refine ⟨m, M, _, r, q, fun d v M1 H1 g1 r1 m1 ⟨p, kvs, e1, e2, q1⟩ => ?_⟩
    subst e1
    cases r1
    obtain ⟨es, h1, z, l⟩ := m1.dk e2
    exact ⟨p, es, rfl, h1, fun ob => k _ _ _ _ (g1.trans (.dk h1)) (.dct upd_same z (l.grow (.dk h1))) (m1.frzDk h1) q1⟩
/-! ### d[k] = v -/
def dKPut (to te tv : DTE) : DTS := fun Z m M => tv m M fun v M1 => to m M1 fun x M2 => te m M2 fun y M3 => ∃ p kvs, x = .ref p ∧ M3 p = some (.dk kvs) ∧ isKb y = true ∧ kvs.length < sizeLine ∧ Z.nx m (mput M3 p (.dk (dput kvs y v)))
theorem ds_kput {value : Expr} {spos : Pos} {tv : DTE} (hu : X.A.units + 1 < cLine) (hv : DE X value tv) (ho : DE X o to) (he : DE X e te) (hs : swapsWith value (some (.Subscript o e pos)) spos.line X.env = pure false := by rfl) : DS X (.Assign [.Subscript o e pos] value spos) (dKPut to te tv) :=
  imS (ps_dput hu ho he hv hs) fun Z σ H ⟨m, M, Z', r, q, k⟩ => by
    refine ⟨m, M, _, r, q, fun v v0 M1 H1 g1 r1 m1 q1 => ⟨m, M1, _, r.grow g1 m1, q1, fun x v1 M2 H2 g2 r2 m2 q2 => ⟨m, M2, _, (r.grow g1 m1).grow g2 m2, q2, fun y v2 M3 H3 g3 r3 m3 ⟨p, kvs, e1, e2, e3, e4, q3⟩ => ?_⟩⟩⟩
    subst e1
    cases r2
    obtain ⟨es, h3, z, l⟩ := m3.dk e2
    obtain ⟨key, rfl⟩ := isKb_ex e3
    obtain rfl := rep_kV r3
    have hlen : es.length < sizeLine := by rw [← l.length]; exact e4
    have hz : (putK es key v0).length ≤ sizeLine := by have := length_putK es key v0; omega
    have g4 : Grow H3 (upd H3 p (.dK (putK es key v0))) := Grow.dk h3
    exact ⟨p, _, rfl, .inl ⟨es, key, h3, rfl, hlen, rfl⟩, k.nx _ _ _ _ (((g1.trans g2).trans g3).trans g4) (((r.grow g1 m1).grow g2 m2).grow (g3.trans g4) (m3.putDk h3 hz (l.put ((r1.grow g2).grow g3)))) q3⟩
end
end DL
/-! dicts whose keys are ints and texts: walked, by comprehension, get, setdefault, list -/
namespace DL
open PySem PySem.Spec PyProof.Rows L2
section
variable {K : PySem.W.Frag} {H : Hp}
theorem RepK.get' : ∀ {kvs : List (D × D)} {es : List (Key × V)} {i : Nat} {k : Key} {v : V}, RepK K H kvs es → es[i]? = some (k, v) → (kvs.map (·.1))[i]? = some (kD k) := fun {kvs es i k v} l e => by
  obtain ⟨d, h1, _⟩ := l.get e
  rw [List.getElem?_map, h1]
  rfl
/-- what is walked stays: frozen -/
theorem frz_ok {H0 H : Hp} {a : Addr} {ob : Obj} {es : List (Key × V)} (h : H0 a = some (.frz ob (.dK es))) (g : Grow H0 H) : H a = some (.frz ob (.dK es)) := g.frzs _ _ _ h
theorem stream_keys {a : Addr} {ob : Obj} {kvs : List (D × D)} {es : List (Key × V)} (h : H a = some (.frz ob (.dK es))) (hz : es.length ≤ sizeLine) (l : RepK K H kvs es) : Stream K (Itk a ob es) (kvs.map (·.1), none) H := by
  have hl : (kvs.map (·.1)).length = es.length := by rw [List.length_map, l.length]
  refine ⟨by show (kvs.map (·.1)).length ≤ sizeLine; rw [hl]; exact hz, fun i H1 ok hi => ⟨frz_ok h ok.1, ?_⟩, fun i H1 x H2 ok hi y => ?_, fun H1 ok => ⟨frz_ok h ok.1, ?_⟩⟩
  · rw [← hl]; exact hi
  · obtain ⟨e1, k, v, e2, e3⟩ := y
    subst e1
    subst e3
    exact ⟨.refl _, fun _ q => q, kD k, l.get' e2, rep_kD k⟩
  · show es.length ≤ (kvs.map (·.1)).length
    omega
theorem stream_vals {a : Addr} {ob : Obj} {kvs : List (D × D)} {es : List (Key × V)} (h : H a = some (.frz ob (.dK es))) (hz : es.length ≤ sizeLine) (l : RepK K H kvs es) : Stream K (Itd a ob es) (kvs.map (·.2), none) H := by
  have hl : (kvs.map (·.2)).length = es.length := by rw [List.length_map, l.length]
  refine ⟨by show (kvs.map (·.2)).length ≤ sizeLine; rw [hl]; exact hz, fun i H1 ok hi => ⟨frz_ok h ok.1, ?_⟩, fun i H1 x H2 ok hi y => ?_, fun H1 ok => ⟨frz_ok h ok.1, ?_⟩⟩
  · rw [← hl]; exact hi
  · obtain ⟨e1, k, e2⟩ := y
    subst e1
    obtain ⟨d, h1, h2⟩ := l.get e2
    exact ⟨.refl _, fun _ q => q, d, by rw [List.getElem?_map, h1]; rfl, h2.grow ok.1⟩
  · show es.length ≤ (kvs.map (·.2)).length
    omega
def pairD (p : D × D) : D := .tup [p.1, p.2]
theorem stream_items {a : Addr} {ob : Obj} {kvs : List (D × D)} {es : List (Key × V)} (h : H a = some (.frz ob (.dK es))) (hz : es.length ≤ sizeLine) (l : RepK K H kvs es) : Stream K (Iti a ob es) (kvs.map pairD, none) H := by
  have hl : (kvs.map pairD).length = es.length := by rw [List.length_map, l.length]
  refine ⟨by show (kvs.map pairD).length ≤ sizeLine; rw [hl]; exact hz, fun i H1 ok hi => ⟨frz_ok h ok.1, ?_⟩, fun i H1 x H2 ok hi y => ?_, fun H1 ok => ⟨frz_ok h ok.1, ?_⟩⟩
  · rw [← hl]; exact hi
  · obtain ⟨T, k, v, e2, e3, e4, e5⟩ := y
    subst e3
    subst e5
    obtain ⟨d, h1, h2⟩ := l.get e2
    refine ⟨.new e4, fun _ q => q.new e4, pairD (kD k, d), by rw [List.getElem?_map, h1]; rfl, ?_⟩
    exact .tup (.of upd_same) (by show 2 ≤ sizeLine; rw [sizeLine_eq]; omega) (.cons (rep_kD k) (.cons ((h2.grow ok.1).grow (.new e4)) .nil))
  · show es.length ≤ (kvs.map pairD).length
    omega
end
section
variable {X : Cx} {tg e o f : Expr} {te to tf : DTE} {pos apos cpos : Pos}
def diKeys (te : DTE) : DTI := fun m M Q => te m M fun d M1 => ∃ kvs, d = .dct kvs ∧ Q (kvs.map (·.1), none) M1
def diVals (te : DTE) : DTI := fun m M Q => te m M fun d M1 => ∃ kvs, d = .dct kvs ∧ Q (kvs.map (·.2), none) M1
def diItems (te : DTE) : DTI := fun m M Q => te m M fun d M1 => ∃ kvs, d = .dct kvs ∧ Q (kvs.map pairD, none) M1
theorem di_keys (he : DE X e te) : DI X tg e (diKeys te) :=
  imI (pi_keys he) fun σ H Q ⟨m, M, Q', r, q, k⟩ => by
    refine ⟨m, M, _, r, q, fun d v M1 H1 g1 r1 m1 ⟨kvs, e, q1⟩ => ?_⟩
    subst e
    cases r1 with
    | dct h z l => exact ⟨_, _, rfl, .inl ⟨_, h, k _ M1 H1 _ g1 m1 q1 (stream_keys h z l)⟩⟩
theorem di_keysM (he : DE X e te) (hbase : attributeBase e "keys" X.env (eval e X.env) = eval e X.env := by rfl) (hline : (apos.endLine == cpos.line) = true := by rfl) : DI X tg (.Call (.Attribute e "keys" apos) [] [] cpos) (diKeys te) :=
  imI (pi_keysM he hbase hline) fun σ H Q ⟨m, M, Q', r, q, k⟩ => by
    refine ⟨m, M, _, r, q, fun d v M1 H1 g1 r1 m1 ⟨kvs, e, q1⟩ => ?_⟩
    subst e
    cases r1 with
    | dct h z l => exact ⟨_, _, _, rfl, h, k _ M1 H1 _ g1 m1 q1 (stream_keys h z l)⟩
theorem di_vals (he : DE X e te) (hbase : attributeBase e "values" X.env (eval e X.env) = eval e X.env := by rfl) (hline : (apos.endLine == cpos.line) = true := by rfl) : DI X tg (.Call (.Attribute e "values" apos) [] [] cpos) (diVals te) :=
  imI (pi_values he hbase hline) fun σ H Q ⟨m, M, Q', r, q, k⟩ => by
    refine ⟨m, M, _, r, q, fun d v M1 H1 g1 r1 m1 ⟨kvs, e, q1⟩ => ?_⟩
    subst e
    cases r1 with
    | dct h z l => exact ⟨_, _, _, rfl, h, k _ M1 H1 _ g1 m1 q1 (stream_vals h z l)⟩
theorem di_items {elts : List Expr} {kk : Nat} {tpos : Pos} (he : DE X e te) (hbase : attributeBase e "items" X.env (eval e X.env) = eval e X.env := by rfl) (hline : (apos.endLine == cpos.line) = true := by rfl) :
    DI X (.Tuple elts kk tpos) (.Call (.Attribute e "items" apos) [] [] cpos) (diItems te) :=
  imI (pi_items he hbase hline) fun σ H Q ⟨m, M, Q', r, q, k⟩ => by
    refine ⟨m, M, _, r, q, fun d v M1 H1 g1 r1 m1 ⟨kvs, e, q1⟩ => ?_⟩
    subst e
    cases r1 with
    | dct h z l => exact ⟨_, _, _, rfl, h, k _ M1 H1 _ g1 m1 q1 (stream_items h z l)⟩
/-- the dict in the slot i is frozen ahead of the statement -/
def dFzD (i : Nat) (t : DTS) : DTS := fun Z m M => ∃ p kvs, m[i]? = some (some (.ref p)) ∧ M p = some (.dk kvs) ∧ t Z (m.set i (some (.dct kvs))) (mdel M p)
theorem ds_fzD {st : Stmt} {t : DTS} (i : Nat) (h : DS X st t) : DS X st (dFzD i t) := by
  refine ⟨fun pins s σ H Z I ⟨m, M, Z', r, ⟨p, kvs, e1, e2, q⟩, k⟩ => ?_⟩
  obtain ⟨v, hv, rv⟩ := r.slot i _ e1
  cases rv
  obtain ⟨es, h1, z, l⟩ := r.mem.dk e2
  obtain ⟨ob, I2⟩ := inv_frzD I h1
  have g : Grow H (upd H p (.frz ob (.dK es))) := Grow.dk h1
  have r2 : R X.K m (mdel M p) σ (upd H p (.frz ob (.dK es))) := r.grow g (r.mem.frzDk h1)
  have r3 := r2.set (i := i) (d := .dct kvs) (v := .ref p) (.dct upd_same z (l.grow g))
  have es' : σ.set i (some (V.ref p)) = σ := by
    refine List.ext_getElem? fun j => ?_
    by_cases c : i = j
    · subst c
      by_cases hi : i < σ.length
      · rw [List.getElem?_set_self hi, hv]
      · rw [List.getElem?_eq_none (by omega)] at hv
        cases hv
    · rw [List.getElem?_set_ne c]
  rw [es'] at r3
  exact h.run pins s σ _ Z I2 ⟨_, _, Z', r3, q, k.grow g⟩
/-! ### d.get(k), d.get(k, x) -/
theorem dict_is {K : PySem.W.Frag} {H : Hp} {a : Addr} {es : List (Key × V)} (h : Rd H a (.dK es)) : IsD H a := .inl ⟨es, h⟩
def dKGet1 (to te : DTE) : DTE := fun m M Q => to m M fun x M1 => (∃ kvs, dDict x M1 = some kvs) ∧ te m M1 fun y M2 => ∃ kvs, dDict x M2 = some kvs ∧ isKb y = true ∧ Q ((dget kvs y).getD .non) M2
theorem d_kget1 (hu : X.A.units + 1 < cLine) (ho : DE X o to) (he : DE X e te) (m : M1 X o "get" apos e cpos := by exact ⟨by rfl, by rfl, by rfl, by rfl⟩) : DE X (.Call (.Attribute o "get" apos) [e] [] cpos) (dKGet1 to te) :=
  imE (pe_dget1 hu ho he m) fun σ H Q ⟨m, M, Q', r, q, kk⟩ => by
    refine ⟨m, M, _, r, q, fun x v1 M1 H1 g1 r1 m1 ⟨⟨kvs0, e0⟩, q1⟩ => ?_⟩
    obtain ⟨p, es0, rfl, hr0, _, _⟩ := dict_at r1 m1 e0
    refine ⟨p, rfl, .inl ⟨_, hr0⟩, m, M1, _, r.grow g1 m1, q1, fun y v2 M2 H2 g2 r2 m2 ⟨kvs, e1, e2, q2⟩ => ?_⟩
    obtain ⟨p', es, e3, hr, z, l⟩ := dict_at (r1.grow g2) m2 e1
    cases e3
    obtain ⟨k, rfl⟩ := isKb_ex e2
    obtain rfl := rep_kV r2
    refine ⟨valV es k, .inl ⟨es, k, hr, rfl, rfl⟩, ?_⟩
    rcases l.val (k := k) with ⟨n1, n2⟩ | ⟨d, y, n1, n2, rd⟩
    · rw [n1] at q2
      rw [n2]
      exact kk _ _ M2 H2 (g1.trans g2) .non m2 q2
    · rw [n1] at q2
      rw [n2]
      exact kk _ _ M2 H2 (g1.trans g2) rd m2 q2
def dKGet2 (to te tf : DTE) : DTE := fun m M Q => to m M fun x M1 => (∃ kvs, dDict x M1 = some kvs) ∧ te m M1 fun y M2 => tf m M2 fun z M3 => ∃ kvs, dDict x M3 = some kvs ∧ isKb y = true ∧ Q ((dget kvs y).getD z) M3
theorem d_kget2 (hu : X.A.units + 1 < cLine) (ho : DE X o to) (he : DE X e te) (hf : DE X f tf) (m : M2 X o "get" apos e f cpos := by exact ⟨by rfl, by rfl, by rfl, by rfl⟩) : DE X (.Call (.Attribute o "get" apos) [e, f] [] cpos) (dKGet2 to te tf) :=
  imE (pe_dget2 hu ho he hf m) fun σ H Q ⟨m, M, Q', r, q, kk⟩ => by
    refine ⟨m, M, _, r, q, fun x v1 M1 H1 g1 r1 m1 ⟨⟨kvs0, e0⟩, q1⟩ => ?_⟩
    obtain ⟨p, es0, rfl, hr0, _, _⟩ := dict_at r1 m1 e0
    refine ⟨p, rfl, .inl ⟨_, hr0⟩, m, M1, _, r.grow g1 m1, q1, fun y v2 M2 H2 g2 r2 m2 q2 => ?_⟩
    refine ⟨m, M2, _, (r.grow g1 m1).grow g2 m2, q2, fun w v3 M3 H3 g3 r3 m3 ⟨kvs, e1, e2, q3⟩ => ?_⟩
    obtain ⟨p', es, e3, hr, z, l⟩ := dict_at ((r1.grow g2).grow g3) m3 e1
    cases e3
    obtain ⟨k, rfl⟩ := isKb_ex e2
    obtain rfl := rep_kV r2
    refine ⟨valV es k, .inl ⟨es, k, hr, rfl, rfl⟩, ?_⟩
    rcases l.val (k := k) with ⟨n1, n2⟩ | ⟨d, y, n1, n2, rd⟩
    · rw [n1] at q3
      rw [n2]
      exact kk _ _ M3 H3 ((g1.trans g2).trans g3) r3 m3 q3
    · rw [n1] at q3
      rw [n2]
      exact kk _ _ M3 H3 ((g1.trans g2).trans g3) rd m3 q3
end
/-! ### {k: v for ..} -/
def dKcGo (src : Src) (g : DTG) (tt : DTT) (tk tv : DTE) (m0 : DSt) (p : Addr) (Qd : List (D × D) → DM → Prop) : List D → List (D × D) → DM → Prop
  | [], acc, M => SrcV src M ∧ Qd acc M
  | d :: ds, acc, M => SrcV src M ∧ g d m0 M fun m1 M1 => tt m1 M1 fun b M2 =>
      if b = true then tk m1 M2 fun k M3 => tv m1 M3 fun v M4 => M4 p = some (.dk acc) ∧ isKb k = true ∧ dKcGo src g tt tk tv m0 p Qd ds (dput acc k v) (mput M4 p (.dk (dput acc k v)))
      else M2 p = some (.dk acc) ∧ dKcGo src g tt tk tv m0 p Qd ds acc M2
def dKc (t : DTI) (g : DTG) (tt : DTT) (tk tv : DTE) (vs : List Nat) : DTE := fun m M Q => t m M fun src M1 => src.1.length ≤ sizeLine → ∀ p, M1 p = none → dKcGo src g tt tk tv (dwipe m vs) p (fun _ M2 => Q (.ref p) M2) src.1 [] (mput M1 p (.dk []))
section
variable {X : Cx} {kx vx tg iter : Expr} {ifs : List Expr} {scope : Scope} {own : List (Str × Nat)} {pos : Pos} {t : DTI} {g : DTG} {tt : DTT} {tk tv : DTE} {ws : List Nat}
theorem kc_up {σ : SL} {H : Hp} {m : DSt} {M : DM} {Qv : VK} {Qf : Addr → DM → Prop} (hsub : ∀ i ∈ ws, i ∈ own.map (·.2)) (r : R X.K m M σ H)
    (q : t m M fun src M1 => src.1.length ≤ sizeLine → ∀ p, M1 p = none → dKcGo src g tt tk tv (dwipe m (own.map (·.2))) p (fun _ M2 => Qf p M2) src.1 [] (mput M1 p (.dk [])))
    (k : ∀ p M2 H2, Grow H H2 → RM X.K H2 M2 → Qf p M2 → Qv (.ref p) H2) : tDc (upI X.K t) (upG X.K ws g) (upT X.K tt) (upE X.K tk) (upE X.K tv) (own.map (·.2)) σ H Qv := by
  refine ⟨m, M, _, r, q, fun src M1 H1 J g1 m1 q1 st p np => ?_⟩
  have q2 := q1 st.small p (m1.free np)
  have g2 : Grow H1 (upd H1 p (.dK [])) := .new np
  refine ⟨fun i n H2 => i + n = src.1.length ∧ Grow H1 H2 ∧ ∃ acc M2, acc.length ≤ i ∧ M2 p = some (.dk acc) ∧ RM X.K H2 M2 ∧ dKcGo src g tt tk tv (dwipe m (own.map (·.2))) p (fun _ M2 => Qf p M2) (src.1.drop i) acc M2,
    ⟨src.1.length, by omega, g2, [], _, Nat.le_refl _, mput_same, m1.newDk np (Nat.zero_le _) .nil, q2⟩, ?_⟩
  rintro i n H2 ⟨hl, g3, acc, M2, ha, hp, m2, q3⟩
  have r2 : R X.K (dwipe m (own.map (·.2))) M2 (wipe σ (own.map (·.2))) H2 := (r.wipe _).grow (g1.trans g3) m2
  by_cases hlt : i < src.1.length
  · rw [List.drop_eq_getElem_cons hlt] at q3
    obtain ⟨sv, q3⟩ := q3
    have so := sv.ok g3 m2
    refine .inr ⟨st.go i H2 so hlt, fun H3 => Grow H1 H3 ∧ ∃ acc M2, acc.length ≤ i + 1 ∧ M2 p = some (.dk acc) ∧ RM X.K H3 M2 ∧ dKcGo src g tt tk tv (dwipe m (own.map (·.2))) p (fun _ M2 => Qf p M2) (src.1.drop (i + 1)) acc M2,
      fun H3 ⟨g4, z⟩ => ⟨n - 1, by omega, by omega, g4, z⟩, fun x H3 y => ?_⟩
    obtain ⟨g4, k4, d, e4, rd⟩ := st.yld i H2 x H3 so hlt y
    have ed : d = src.1[i] := by
      rw [List.getElem?_eq_getElem hlt] at e4
      exact (Option.some.inj e4).symm
    subst ed
    refine ⟨_, _, M2, _, rd, r2.grow g4 (k4 _ m2), q3, fun m5 M5 σ5 H5 g5 r5 o5 q5 => ⟨wipe_off o5 hsub, ?_⟩⟩
    refine ⟨m5, M5, _, r5, q5, fun b M6 H6 g6 m6 q6 => ?_⟩
    have g06 : Grow H1 H6 := ((g3.trans g4).trans g5).trans g6
    cases b with
    | true =>
      refine ⟨m5, M6, _, r5.grow g6 m6, q6, fun kd kv M7 H7 g7 rk m7 q7 => ?_⟩
      refine ⟨m5, M7, _, (r5.grow g6 m6).grow g7 m7, q7, fun vd vv M8 H8 g8 rv m8 ⟨e8, hk, q8⟩ => ?_⟩
      obtain ⟨key, rfl⟩ := isKb_ex hk
      obtain rfl := rep_kV rk
      obtain ⟨es, h8, hz8, rkv⟩ := m8.dk e8
      have hlen : es.length < sizeLine := by
        rw [← rkv.length]
        exact Nat.lt_of_le_of_lt ha (Nat.lt_of_lt_of_le hlt st.small)
      have hz9 : (putK es key vv).length ≤ sizeLine := by have := length_putK es key vv; omega
      have ge : Grow H8 (upd H8 p (.dK (putK es key vv))) := Grow.dk h8
      exact ⟨es, key, rfl, h8, hlen, ((g06.trans g7).trans g8).trans ge, dput acc (kD key) vd, _, Nat.le_trans (dput_len ..) (Nat.succ_le_succ ha), mput_same, m8.putDk h8 hz9 (rkv.put rv), q8⟩
    | false =>
      have q6' : M6 p = some (.dk acc) ∧ dKcGo src g tt tk tv (dwipe m (own.map (·.2))) p (fun _ M2 => Qf p M2) (src.1.drop (i + 1)) acc M6 := q6
      exact ⟨g06, acc, M6, by omega, q6'.1, m6, q6'.2⟩
  · have e : i = src.1.length := by omega
    subst e
    rw [List.drop_length] at q3
    exact .inl ⟨st.stop H2 (q3.1.ok g3 m2), k _ M2 H2 (g1.trans g3) m2 q3.2⟩
theorem d_kc (hc : X.calm = true) (hN : X.N.Nodup) (hi : DI X tg iter t) (ok : BlkOk X.N X.env.scope scope own) (hsub : ∀ i ∈ ws, i ∈ own.map (·.2))
    (hg : ∀ (s : Shared) (H : Hp) (C : Addr) (cl : List (Str × Addr)) (fp : List Addr), DG (X.blk s H scope (compEnvC scope cl C X.env) fp) ws tg g)
    (ht : ∀ (s : Shared) (H : Hp) (C : Addr) (cl : List (Str × Addr)) (fp : List Addr), DPTs (X.blk s H scope (compEnvC scope cl C X.env) fp) ifs tt)
    (hk : ∀ (s : Shared) (H : Hp) (C : Addr) (cl : List (Str × Addr)) (fp : List Addr), DE (X.blk s H scope (compEnvC scope cl C X.env) fp) kx tk)
    (hv : ∀ (s : Shared) (H : Hp) (C : Addr) (cl : List (Str × Addr)) (fp : List Addr), DE (X.blk s H scope (compEnvC scope cl C X.env) fp) vx tv)
    (hs : ∀ x, foldedSetIterable iter X.env x = pure x := by intro _; rfl) : DE X (.DictComp kx vx [⟨tg, iter, ifs, 0⟩] scope pos) (dKc t g tt tk tv (own.map (·.2))) :=
  imE (pe_dc (wi := upI X.K t) (g := upG X.K ws g) (tt := upT X.K tt) (tk := upE X.K tk) (tv := upE X.K tv) hc hN hi ok hg ht hk hv hs) fun σ H Q ⟨m, M, Q', r, q, k⟩ =>
    kc_up hsub r q fun p M2 H2 g2 m2 q2 => k _ _ M2 H2 g2 (.ref p) m2 q2
theorem ps_setKc {i : Nat} {y : Str} {py spos : Pos} {wi : TI} {g : TG} {tt : TT} {tk tv : TE} (hc : X.calm = true) (hN : X.N.Nodup) (hy : X.N[i]? = some y) (hyl : X.env.scope.names.lookup y = some .local)
    (hsw : swapsWith (.DictComp kx vx [⟨tg, iter, ifs, 0⟩] scope pos) (some (.Name y py)) spos.line X.env = pure true) (hi : PI X tg iter wi) (ok : BlkOk X.N X.env.scope scope own)
    (pg : ∀ (s : Shared) (H : Hp) (C : Addr) (cl : List (Str × Addr)) (fp : List Addr), PG (X.blk s H scope (compEnvC scope cl C X.env) fp) tg g)
    (pt : ∀ (s : Shared) (H : Hp) (C : Addr) (cl : List (Str × Addr)) (fp : List Addr), PTs (X.blk s H scope (compEnvC scope cl C X.env) fp) ifs tt)
    (pk : ∀ (s : Shared) (H : Hp) (C : Addr) (cl : List (Str × Addr)) (fp : List Addr), PE (X.blk s H scope (compEnvC scope cl C X.env) fp) kx tk)
    (pv : ∀ (s : Shared) (H : Hp) (C : Addr) (cl : List (Str × Addr)) (fp : List Addr), PE (X.blk s H scope (compEnvC scope cl C X.env) fp) vx tv) (hs : ∀ x, foldedSetIterable iter X.env x = pure x := by intro _; rfl) :
    PS X (.Assign [.Name y py] (.DictComp kx vx [⟨tg, iter, ifs, 0⟩] scope pos) spos) (tAsg (tDc wi g tt tk tv (own.map (·.2))) (gName i)) := by
  refine ⟨fun pins s σ H D I h => ?_⟩
  rw [exec_Assign_Name_used _ _ _ _ hsw]
  refine wpAny_bind (wpAny_standAt (wpAny_bind ?_))
  show wpAny _ X.A (do let _ ← comprehension (.DictComp kx vx [⟨tg, iter, ifs, 0⟩] scope pos) scope X.env (firstIterPos [⟨tg, iter, ifs, 0⟩] pos) newDict false (eval iter X.env) (some (assign (.Name y py) X.env))) _ _ s
  have h : tDc wi g tt tk tv (own.map (·.2)) σ H (fun x H1 => gName i x σ H1 D.nx) := h
  refine wpAny_bind (thn (L2.dc_core (Qf := fun _ s' => SP X pins D .next s') hc hN I hi ok pg pt pk pv hs h fun L C s' m H' I' q hn f => ?_) fun _ s' hq => wpAny_pure (wpAny_pure hq))
  show wpAny _ _ (assign (.Name y py) X.env (.ref L)) _ _ _
  refine wpAny_assign_Name (store_ok2 (v := V.ref L) I' hN hy (.inl hyl) rfl (fun s2 I2 ⟨a, sb, ha⟩ => ?_) (.inr hyl))
  obtain ⟨f0, f1, f2, f3, f4, f5⟩ := f
  have haC : C ≠ a := by
    rcases ha with z | z
    · rw [z]; exact f1
    · exact fun e => f4 y a z e.symm
  refine ⟨m, hn.sameBut sb haC, fun h3 sb3 => ?_⟩
  exact ⟨_, H', I2.turned (t' := s2.toks) (fun b o hb e => (sb3.2 b hb).trans e) f0 f1 f3 f4 f5, q⟩
/-- name = {.. for ..} on one line -/
theorem ds_setKc {y : Str} {py spos : Pos} {i : Nat} (hc : X.calm = true) (hN : X.N.Nodup) (hy : X.N[i]? = some y) (hyl : X.env.scope.names.lookup y = some .local)
    (hsw : swapsWith (.DictComp kx vx [⟨tg, iter, ifs, 0⟩] scope pos) (some (.Name y py)) spos.line X.env = pure true) (hi : DI X tg iter t) (ok : BlkOk X.N X.env.scope scope own) (hsub : ∀ i ∈ ws, i ∈ own.map (·.2))
    (hg : ∀ (s : Shared) (H : Hp) (C : Addr) (cl : List (Str × Addr)) (fp : List Addr), DG (X.blk s H scope (compEnvC scope cl C X.env) fp) ws tg g)
    (ht : ∀ (s : Shared) (H : Hp) (C : Addr) (cl : List (Str × Addr)) (fp : List Addr), DPTs (X.blk s H scope (compEnvC scope cl C X.env) fp) ifs tt)
    (hk : ∀ (s : Shared) (H : Hp) (C : Addr) (cl : List (Str × Addr)) (fp : List Addr), DE (X.blk s H scope (compEnvC scope cl C X.env) fp) kx tk)
    (hv : ∀ (s : Shared) (H : Hp) (C : Addr) (cl : List (Str × Addr)) (fp : List Addr), DE (X.blk s H scope (compEnvC scope cl C X.env) fp) vx tv)
    (hs : ∀ x, foldedSetIterable iter X.env x = pure x := by intro _; rfl) : DS X (.Assign [.Name y py] (.DictComp kx vx [⟨tg, iter, ifs, 0⟩] scope pos) spos) (dSet i (dKc t g tt tk tv (own.map (·.2)))) :=
  imS (ps_setKc (wi := upI X.K t) (g := upG X.K ws g) (tt := upT X.K tt) (tk := upE X.K tk) (tv := upE X.K tv) hc hN hy hyl hsw hi ok hg ht hk hv hs) fun Z σ H ⟨m, M, Z', r, q, k⟩ =>
    kc_up (Qf := fun p M2 => Z'.nx (m.set i (some (.ref p))) M2) hsub r q fun p M2 H2 g2 m2 q2 => k.nx _ M2 _ H2 g2 ((r.grow g2 m2).set (.ref p)) q2
end
theorem hu_1 {k : Nat} {A : Around} (hr : Room k A) : A.units + 1 < cLine := by
  have := hu_40 hr
  omega
/-- a comprehension over what is left, with what is gathered -/
theorem kc_ind {src : Src} {g : DTG} {tt : DTT} {tk tv : DTE} {m0 : DSt} {p : Addr} {Qd : List (D × D) → DM → Prop} (V : List D → List (D × D) → DM → Prop) (fin : ∀ acc M, V [] acc M → SrcV src M ∧ Qd acc M)
    (step : ∀ d ds acc M (Cn : List (D × D) → DM → Prop), (∀ acc' M', V ds acc' M' → Cn acc' M') → V (d :: ds) acc M → SrcV src M ∧ g d m0 M fun m1 M1 => tt m1 M1 fun b M2 =>
      if b = true then tk m1 M2 fun k M3 => tv m1 M3 fun v M4 => M4 p = some (.dk acc) ∧ isKb k = true ∧ Cn (dput acc k v) (mput M4 p (.dk (dput acc k v))) else M2 p = some (.dk acc) ∧ Cn acc M2) :
    ∀ ds acc M, V ds acc M → dKcGo src g tt tk tv m0 p Qd ds acc M
  | [], acc, M, h => fin acc M h
  | d :: ds, acc, M, h => step d ds acc M (dKcGo src g tt tk tv m0 p Qd ds) (kc_ind V fin step ds) h
end DL
/-! xs.insert(i, y), xs.pop(i), list of a dict -/
namespace DL
open PySem PySem.Spec PyProof.Rows L2
section
variable {X : Cx}
def mInsert : DMR := fun d ds M Q => ∃ (a : Addr) (xs : List D) (i : Int) (y : D), d = .ref a ∧ ds = [.int i, y] ∧ M a = some (.lst xs) ∧ xs.length < sizeLine ∧ 0 ≤ i ∧ i < 9223372036854775808 ∧ Q .non (mput M a (.lst (xs.take i.toNat ++ [y] ++ xs.drop i.toNat)))
theorem m_insert : MtR X "list.insert" (upM X.K mInsert) := by
  intro pins s σ H x vs v us Q I rx rv ⟨d, ds, M, Q', r1, l, m, ⟨a, xs, i, y, e1, e2, h, hz, h0, h9, q⟩, k⟩
  subst e1
  subst e2
  cases r1
  cases l with
  | cons ri l =>
    cases ri
    obtain ⟨w, rfl, rw'⟩ := repL_one l
    obtain ⟨ws, h1, z, l1⟩ := m.lst h
    have hl := l1.length
    refine mt_insert pins s σ H _ _ v us Q I rx rv ⟨a, ws, i, w, rfl, rfl, h1, by omega, h0, h9, ?_⟩
    have g : Grow H (upd H a (.lst (ws.take i.toNat ++ [w] ++ ws.drop i.toNat))) := .put h1
    refine k _ _ _ _ g .non (m.putLst h1 ?_ (((l1.take _).append (.one rw')).append (l1.drop _))) q
    rw [List.length_append, List.length_append, List.length_take, List.length_drop, List.length_singleton]
    omega
def mPopAt : DMR := fun d ds M Q => ∃ (a : Addr) (xs : List D) (i : Nat) (y : D), d = .ref a ∧ ds = [.int (i : Int)] ∧ M a = some (.lst xs) ∧ xs[i]? = some y ∧ Q y (mput M a (.lst (xs.eraseIdx i)))
theorem m_popAt : MtR X "list.pop" (upM X.K mPopAt) := by
  intro pins s σ H x vs v us Q I rx rv ⟨d, ds, M, Q', r1, l, m, ⟨a, xs, i, y, e1, e2, h, hy, q⟩, k⟩
  subst e1
  subst e2
  cases r1
  obtain ⟨w0, rfl, r0⟩ := repL_one l
  cases r0
  obtain ⟨ws, h1, z, l1⟩ := m.lst h
  obtain ⟨w, h2, h3⟩ := l1.get hy
  have hi : i < ws.length := by
    rcases Nat.lt_or_ge i ws.length with c | c
    · exact c
    · rw [List.getElem?_eq_none c] at h2
      cases h2
  have hsz : ws.length ≤ 16777216 := by rw [sizeLine_eq] at z; exact z
  have hk : seqIndex? (i : Int) ws.length = some i := by
    unfold seqIndex?
    simp
    omega
  have g : Grow H (upd H a (.lst (ws.eraseIdx i))) := .put h1
  refine mt_popAt pins s σ H _ _ v us Q I rx rv ⟨a, ws, i, i, w, rfl, rfl, h1, by omega, by omega, hk, h2, ?_⟩
  have hle : (ws.eraseIdx i).length ≤ ws.length := (List.length_eraseIdx_le ..)
  exact k _ _ _ _ g (h3.grow g) (m.putLst h1 (by omega) (l1.eraseIdx i)) q
end
end DL
/-! a comprehension each of whose items takes draws -/
namespace DL
open PySem PySem.Spec PyProof.Rows L2
theorem lc_draw {src : Src} {g : DTG} {te : DTE} {m0 : DSt} {Qd : Addr → List D → DM → Prop} {M : DM} {p : Addr} {o1 : DO} (P : D → Prop) (hsrc : src.2 = none) (ho : DrO o1)
    (step : ∀ d ∈ src.1, ∀ (r : Addr) (l : DO) (o : DO), p ≠ r → M r = none → DrO o → ∀ C1 : D → DM → Prop, (∀ o' y, DrO o' → P y → C1 y (mput (mput M p o') r l)) → g d m0 (mput (mput M p o) r l) fun m1 M1 => te m1 M1 C1)
    (fin : ∀ r o acc, p ≠ r → mput M p o r = none → DrO o → acc.length = src.1.length → (∀ y ∈ acc, P y) → Qd r acc (mput (mput M p o) r (.lst acc))) :
    ∀ r, mput M p o1 r = none → dLcGo src g dYes te m0 r (Qd r) src.1 [] (mput (mput M p o1) r (.lst [])) := fun r hr => by
  have hpr : p ≠ r := ne_of_fresh mput_same hr
  have hrM : M r = none := by rw [mput_ne hpr.symm] at hr; exact hr
  have key : ∀ (its : List D) (acc : List D) (o : DO), (∀ d ∈ its, d ∈ src.1) → DrO o → (∀ y ∈ acc, P y) → acc.length + its.length = src.1.length → dLcGo src g dYes te m0 r (Qd r) its acc (mput (mput M p o) r (.lst acc)) := by
    intro its
    induction its with
    | nil =>
      intro acc o _ ho ha hl
      refine ⟨fun a e => ?_, fin r o acc hpr (by rw [mput_ne hpr.symm]; exact hrM) ho (by simpa using hl) ha⟩
      rw [hsrc] at e
      cases e
    | cons d its ih =>
      intro acc o hs ho ha hl
      refine ⟨fun a e => (by rw [hsrc] at e; cases e), ?_⟩
      have z := step d (hs d (by simp)) r (.lst acc) o hpr hrM ho (fun y M3 => M3 r = some (.lst acc) ∧ dLcGo src g dYes te m0 r (Qd r) its (acc ++ [y]) (mput M3 r (.lst (acc ++ [y])))) fun o' y ho' hy => ⟨mput_same, by
        rw [mput_mput]
        refine ih _ o' (fun x hx => hs x (by simp [hx])) ho' (fun x hx => ?_) (by rw [List.length_append, List.length_singleton]; rw [List.length_cons] at hl; omega)
        rcases List.mem_append.mp hx with hx | hx
        · exact ha x hx
        · rw [List.mem_singleton.mp hx]
          exact hy⟩
      exact z
  exact key src.1 [] o1 (fun _ h => h) ho (by simp) (by simp)
def ar7 (p : D → D → D → D → D → D → D → DM → DVK → Prop) : DSp := fun ds M Q => ∃ a b c d e f g, ds = [a, b, c, d, e, f, g] ∧ p a b c d e f g M Q
def ar8 (p : D → D → D → D → D → D → D → D → DM → DVK → Prop) : DSp := fun ds M Q => ∃ a b c d e f g h, ds = [a, b, c, d, e, f, g, h] ∧ p a b c d e f g h M Q
theorem len7 {p} {ds : List D} {M : DM} {Q : DVK} (h : ar7 p ds M Q) : ds.length = 7 := by obtain ⟨_, _, _, _, _, _, _, rfl, _⟩ := h; rfl
theorem len8 {p} {ds : List D} {M : DM} {Q : DVK} (h : ar8 p ds M Q) : ds.length = 8 := by obtain ⟨_, _, _, _, _, _, _, _, rfl, _⟩ := h; rfl
theorem rangeD0 (n : Nat) : rangeD 0 n = (List.range n).map fun k => D.int ((k : Nat) : Int) := by simp [rangeD]
theorem rangeD_cons (lo : Int) (n : Nat) : rangeD lo (n + 1) = D.int lo :: rangeD (lo + 1) n := by
  simp only [rangeD, List.range_succ_eq_map, List.map_cons, List.map_map, Function.comp_def, Int.natCast_zero, Int.add_zero]
  congr 1
  refine List.map_congr_left fun i _ => ?_
  congr 1
  simp
  omega
theorem mem_rangeD {lo : Int} {n : Nat} {d : D} (h : d ∈ rangeD lo n) : ∃ i : Nat, i < n ∧ d = .int (lo + (i : Nat)) := by
  unfold rangeD at h
  obtain ⟨i, hi, rfl⟩ := List.mem_map.mp h
  exact ⟨i, List.mem_range.mp hi, rfl⟩
theorem rangeD_len (n : Int) : (rangeD 0 n.toNat).length = n.toNat := by simp [rangeD]
end DL
/-! sets of texts: sorted(set(xs)), len(set(xs)) of a list of texts -/
namespace DL
open PySem PySem.Spec PyProof.Rows L2
/-- what a set's element is told by -/
def decS (v : Value) : Str := match v with
  | .str x _ => x
  | _ => Str.empty
theorem decS_is {P : Program} {w : World} {k : Str} {v : Value} (h : (PySem.strKind P w).is k v = true) : decS v = k := by
  obtain ⟨t, rfl⟩ := Value.isStrOf_shape (show Value.isStrOf k v = true from h)
  rfl
theorem is_decS {P : Program} {w : World} {k : Str} (t : Tok) : (PySem.strKind P w).is k (.str k t) = true := by
  show Value.isStrOf k (.str k t) = true
  simp [Value.isStrOf]
/-- the elements: texts with their hashes -/
def ElS (w : World) (e : Int × Value) : Prop := ∃ x t, e.2 = Value.str x t ∧ e.1 = hashStr w x
def keyS (e : Int × Value) : Str := decS e.2
/-- the set of texts at a -/
def SetT (w : World) (h : Heap) (a : Addr) (S : Str → Bool) (n : Nat) : Prop :=
  ∃ o es ep t, h.get? a = some o ∧ o.ExactSet ∧ o.data = .set es ep t ∧ (∀ e ∈ es.toList, ElS w e) ∧ (es.toList.map keyS).Nodup ∧ (∀ k, S k = true ↔ k ∈ es.toList.map keyS) ∧
    es.size < scanBound ∧ t.fits es.size = true ∧ es.size = n ∧ Ris t.place.toList ∧ (w.params.followText "set-order" = true ∨ t.led = true)
section
variable {P : Program} {w : World} {h h' : Heap} {a : Addr} {S : Str → Bool} {n : Nat}
theorem SetT.at (R : SetT w h a S n) (k : ∀ o, h.get? a = some o → h'.get? a = some o) : SetT w h' a S n := let ⟨o, es, ep, t, ho, r⟩ := R; ⟨o, es, ep, t, k o ho, r⟩
theorem SetT.congr {S' : Str → Bool} (R : SetT w h a S n) (e : ∀ k, S' k = S k) : SetT w h a S' n := by
  rw [show S' = S from funext e]
  exact R
theorem elS_elems {l : List (Int × Value)} (g : ∀ e ∈ l, ElS w e) : ElemsOf (PySem.strKind P w) l := fun e he => by
  obtain ⟨x, t, h1, h2⟩ := g e he
  refine ⟨⟨x, ?_, h2⟩, ?_⟩
  · rw [h1]
    exact is_decS t
  · rw [h1]
    rfl
theorem elS_is {e : Int × Value} (g : ElS w e) (k : Str) : (PySem.strKind P w).is k e.2 = true ↔ keyS e = k := by
  obtain ⟨x, t, h1, _⟩ := g
  unfold keyS
  rw [h1]
  constructor
  · intro z
    exact decS_is (P := P) (w := w) z
  · intro z
    have z : x = k := z
    rw [← z]
    exact is_decS t
theorem elS_mem {l : List (Int × Value)} (g : ∀ e ∈ l, ElS w e) (k : Str) : k ∈ l.map keyS ↔ ∃ e ∈ l, (PySem.strKind P w).is k e.2 = true := by
  rw [List.mem_map]
  exact ⟨fun ⟨e, he, q⟩ => ⟨e, he, (elS_is (g e he) k).2 q⟩, fun ⟨e, he, q⟩ => ⟨e, he, (elS_is (P := P) (g e he) k).1 q⟩⟩
theorem setT_new {h : Heap} {a : Addr} (ho : h.get? a = some { cls := .type "set", dict := none, data := .set #[] 0 (.fresh 0 0 (!w.params.followText "set-order")) }) : SetT w h a (fun _ => false) 0 := by
  refine ⟨_, #[], 0, _, ho, ⟨rfl, rfl, rfl⟩, rfl, fun e he => by simp at he, by simp, fun k => by simp, by decide, rfl, rfl, List.Pairwise.nil, ?_⟩
  show _ ∨ (!w.params.followText "set-order") = true
  cases w.params.followText "set-order"
  · exact .inr rfl
  · exact .inl rfl
end
section
variable {P : Program} {w : World} {A : Around} {E : Value → Shared → Prop} {s : Shared} {a : Addr} {S : Str → Bool} {n : Nat}
/-- what is stored, and the table laid anew where it is too full -/
theorem setT_tail {g : Bool → Sem Unit} (hg : ∀ (b : Bool) (s₁ : Shared) (Q' : Unit → Shared → Prop), Q' () s₁ → wpAny (model P w) A (g b) Q' E s₁)
    {o : Obj} {es es1 : Array (Int × Value)} {ep : Nat} {t t2 : SetTable} (ho : s.heap.get? a = some o) (hex : o.ExactSet) (hd : o.data = .set es ep t)
    {S' : Str → Bool} (g1 : ∀ e ∈ es1.toList, ElS w e) (nd1 : (es1.toList.map keyS).Nodup) (m1 : ∀ k, S' k = true ↔ k ∈ es1.toList.map keyS)
    (hb1 : es1.size < scanBound) (hf2 : t2.fits es1.size = true) (hr : Ris t2.place.toList) (hl : w.params.followText "set-order" = true ∨ t2.led = true) {wasDummy : Bool} {R : Option Bool → Shared → Prop}
    (hR : ∀ h', Heap.SameBut a s.heap h' → SetT w h' a S' es1.size → R (some true) { s with heap := h' }) :
    wpAny (model P w) A (do
        storeSet a es1 t2
        if (!wasDummy && t2.tooFull) = true then do
            g (relayAll t2 es1 (SetTable.grown es1.size)).2.2
            storeSet a (relayAll t2 es1 (SetTable.grown es1.size)).1 (relayAll t2 es1 (SetTable.grown es1.size)).2.1
            pure (some true)
          else pure (some true)) R E s := by
  have first := store_at (es' := es1) (t' := t2) ho hd
  have same := Heap.SameBut.update s.heap a (Obj.putSet es1 t2)
  refine wpAny_bind (wpAny_storeSet_of ho hd ?_ (fits_of_scanBound hb1))
  split
  · have pm := relayAll_perm t2 es1 (SetTable.grown es1.size)
    have hf3 := relayAll_fits t2 es1 (SetTable.grown es1.size)
    have hr3 := relayAll_ris t2 es1 (SetTable.grown es1.size)
    have hl3 := relayAll_led t2 es1 (SetTable.grown es1.size)
    generalize relayAll t2 es1 (SetTable.grown es1.size) = Z at pm hf3 hr3 hl3 ⊢
    obtain ⟨es2, t3, gave⟩ := Z
    dsimp only at pm hf3 hr3 hl3 ⊢
    have sz : es2.size = es1.size := by rw [← Array.length_toList, pm.length_eq, Array.length_toList]
    have bd : es2.size < scanBound := by rw [sz]; exact hb1
    refine wpAny_bind (hg _ _ _ (wpAny_bind (wpAny_storeSet_of first rfl ?_ (fits_of_scanBound bd))))
    refine wpAny_pure (hR _ (same.trans (Heap.SameBut.update _ a _)) ⟨_, es2, _, t3, store_at (es' := es2) (t' := t3) first rfl, hex, rfl, fun e he => g1 e (pm.mem_iff.mp he), (pm.map keyS).nodup_iff.mpr nd1, fun k => (m1 k).trans (pm.map keyS).mem_iff.symm, bd, hf3, sz, hr3, ?_⟩)
    rcases hl with z | z
    · exact .inl z
    · exact .inr (by rw [hl3]; exact z)
  · exact wpAny_pure (hR _ same ⟨_, es1, _, t2, first, hex, rfl, g1, nd1, m1, hb1, hf2, rfl, hr, hl⟩)
theorem setT_add {k : Str} {tk : Tok} {Q : Bool → Shared → Prop} (R : SetT w s.heap a S n) (room : n + 1 < scanBound)
    (hQ : ∀ h', Heap.SameBut a s.heap h' → SetT w h' a (fun j => S j || decide (j = k)) (if S k = true then n else n + 1) → Q (!S k) { s with heap := h' }) :
    wpAny (model P w) A (setAddHashed a (.str k tk) ((PySem.strKind P w).hash k)) Q E s := by
  obtain ⟨o, es, ep, t, ho, hex, hd, g, nd, hm, hb, hf, hn, hr, hl⟩ := R
  have hkey : (PySem.strKind P w).is k (.str k tk) = true := is_decS tk
  have hsc : (Value.str k tk).scannable = true := rfl
  have hel : ElemsOf (PySem.strKind P w) es.toList := elS_elems g
  unfold setAddHashed setAddHashedIn
  refine wpAny_holding (wpAny_bind (wpAny_setState_of ho hd hf ?_))
  dsimp only
  rw [byScan_of hsc hb hel]
  simp only [↓reduceIte]
  unfold setAddByScan
  refine wpAny_bind (wpAny_bind (wpAny_rule (wpAny_bind (wpAny_setScan_of hkey ho hd hf hel ?_))))
  cases hfi : List.findIdx? (fun e => (PySem.strKind P w).is k e.2) es.toList with
  | some j =>
    dsimp only
    obtain ⟨hj, pj, _⟩ := List.findIdx?_eq_some_iff_getElem.mp hfi
    have there : S k = true := (hm k).2 ((elS_mem (P := P) (w := w) g k).2 ⟨es.toList[j], List.getElem_mem hj, pj⟩)
    have q := hQ s.heap (Heap.SameBut.refl a s.heap) ⟨o, es, ep, t, ho, hex, hd, g, nd, fun i => by
      rw [Bool.or_eq_true, decide_eq_true_eq, ← hm i]
      exact ⟨fun z => z.elim id (fun e => e ▸ there), .inl⟩, hb, hf, by rw [if_pos there]; exact hn, hr, hl⟩
    rw [there] at q
    exact wpAny_pure (wpAny_pure q)
  | none =>
    dsimp only
    have out : k ∉ es.toList.map keyS := fun z => by
      obtain ⟨e, he, q⟩ := (elS_mem (P := P) (w := w) g k).1 z
      have c := List.findIdx?_eq_none_iff.mp hfi e he
      rw [q] at c
      cases c
    have notS : S k = false := by
      cases q : S k with
      | false => rfl
      | true => exact absurd ((hm k).1 q) out
    have gave1 : ∀ (b : Bool) {s₁ : Shared} {Q' : Unit → Shared → Prop}, Q' () s₁ → wpAny (model P w) A (match b with | true => rule "set.scan.the-table-gave-way" | false => pure ()) Q' E s₁ :=
      fun b s₁ Q' q => by cases b <;> first | exact wpAny_pure q | exact wpAny_rule q
    have pm := layNew_perm t es ((PySem.strKind P w).hash k) (.str k tk)
    have hf1 := layNew_fits t es ((PySem.strKind P w).hash k) (.str k tk)
    have hr1 := layNew_ris t es ((PySem.strKind P w).hash k) (.str k tk) hr
    have hl1 := layNew_led t es ((PySem.strKind P w).hash k) (.str k tk)
    generalize layNew t es ((PySem.strKind P w).hash k) (.str k tk) = Z at pm hf1 hr1 hl1 ⊢
    obtain ⟨es1, t1, wasDummy, gave⟩ := Z
    dsimp only at pm hf1 hr1 hl1 ⊢
    rw [Array.toList_push] at pm
    have pc : es1.toList.Perm (((PySem.strKind P w).hash k, Value.str k tk) :: es.toList) := pm.trans (List.perm_append_singleton _ _)
    have pk : (es1.toList.map keyS).Perm (k :: es.toList.map keyS) := pc.map keyS
    have g1 : ∀ e ∈ es1.toList, ElS w e := fun e he => by
      rcases List.mem_cons.mp (pc.mem_iff.mp he) with z | z
      · rw [z]
        exact ⟨k, tk, rfl, rfl⟩
      · exact g e z
    have nd1 : (es1.toList.map keyS).Nodup := pk.nodup_iff.mpr (List.nodup_cons.mpr ⟨out, nd⟩)
    have m1 : ∀ i, (S i || decide (i = k)) = true ↔ i ∈ es1.toList.map keyS := fun i => by
      rw [Bool.or_eq_true, decide_eq_true_eq, hm i, pk.mem_iff, List.mem_cons]
      exact Or.comm
    have sz : es1.size = n + 1 := by rw [← Array.length_toList, pc.length_eq, List.length_cons, Array.length_toList, hn]
    have bd : es1.size < scanBound := by rw [sz]; exact room
    have hled : w.params.followText "set-order" = true ∨ t1.led = true := by
      rcases hl with z | z
      · exact .inl z
      · exact .inr (by rw [hl1]; exact z)
    have fin : ∀ h', Heap.SameBut a s.heap h' → SetT w h' a (fun j => S j || decide (j = k)) es1.size → Q true { s with heap := h' } := fun h' sb r => by
      have q := hQ h' sb
      rw [notS] at q
      rw [sz] at r
      exact q r
    refine wpAny_bind (gave1 _ ?_)
    split
    · refine wpAny_bind ?_
      rw [hashByValue_scannable 8 hsc]
      refine wpAny_pure (setT_tail (fun b s₁ Q' q => by cases b <;> first | exact wpAny_pure q | exact wpAny_rule q) ho hex hd g1 nd1 m1 bd ?_ ?_ ?_ fun h' sb r => ?_)
      · first | (split <;> first | exact hf1 | exact SetTable.fits_plain_off hf1) | exact hf1
      · first | (split <;> exact hr1) | exact hr1
      · first | (split <;> exact hled) | exact hled
      · dsimp only
        exact wpAny_pure (fin h' sb r)
    · refine wpAny_bind (wpAny_pure ?_)
      simp only [↓reduceIte]
      refine setT_tail (fun b s₁ Q' q => by cases b <;> first | exact wpAny_pure q | exact wpAny_rule q) ho hex hd g1 nd1 m1 bd hf1 hr1 hled fun h' sb r => ?_
      dsimp only
      exact wpAny_pure (fin h' sb r)
end
section
variable {P : Program} {w : World} {A : Around} {E : Value → Shared → Prop} {s : Shared}
/-- the loop of set(xs): what stands behind the i-th draw -/
theorem setT_update {I : Addr} {fp wr : List Addr} {G : Array GenState → Array GenState → Prop} {n : Nat} {Pv : Nat → Value → Prop} {St : Nat → Shared → Prop} {R : Result → Shared → Prop}
    (W : WalksS P w A.in1 I fp wr G n Pv St) (S : Addr) (hSf : S ∉ fp) (xs : List Str) (hn : n = xs.length) (hb : xs.length + 1 < scanBound) (hval : ∀ i v, Pv i v → ∃ x t, xs[i]? = some x ∧ v = .str x t) :
    ∀ (k i : Nat) (s : Shared), n - i = k → i ≤ n → St i s → (∃ c, c ≤ i ∧ SetT w s.heap S (fun j => decide (j ∈ xs.take i)) c) →
      (∀ s' c, Moved (S :: wr) G s s' → c ≤ n → SetT w s'.heap S (fun j => decide (j ∈ xs)) c → R (.ok (.ret .none)) s') →
      codeAny (model P w) A (.builtin "set.update.loop" ⟨[.ref S, .ref I], []⟩) R s := by
  have hSw : S ∉ wr := fun z => hSf (W.sub _ z)
  have more : ∀ b ∈ wr, b ∈ S :: wr := fun b z => List.mem_cons_of_mem _ z
  intro k
  induction k with
  | zero =>
    intro i s hk hi hst ⟨c, hc, hS⟩ hR
    obtain rfl : i = n := by omega
    refine codeAny_builtin F.entry_set_update_loop ?_
    rw [Around.under_plainId F.plain_set_update_loop _]
    refine wpAny_bind (m := pyNext (.ref I)) (W.done s _ _ hst fun s' hm => ?_)
    rw [List.take_of_length_le (by omega)] at hS
    exact wpAny_pure (hR s' c (hm.mono more) hc (hS.at fun o e => hm.heap S o hSw e))
  | succ k ih =>
    intro i s hk hi hst ⟨c, hc, hS⟩ hR
    have lt : i < n := by omega
    refine codeAny_builtin F.entry_set_update_loop ?_
    rw [Around.under_plainId F.plain_set_update_loop _]
    refine wpAny_bind (m := pyNext (.ref I)) (W.item i s _ _ lt hst fun v s' hP hst' hm => ?_)
    obtain ⟨x, t, hx, rfl⟩ := hval i v hP
    have hS1 : SetT w s'.heap S (fun j => decide (j ∈ xs.take i)) c := hS.at fun o e => hm.heap S o hSw e
    refine wpAny_bind (m := holding [Value.str x t] (setAdd S (.str x t))) (wpAny_holding ?_)
    unfold setAdd
    refine wpAny_holding (wpAny_bind ((PySem.strKind P w).pyHash (k := x) (is_decS t) ?_))
    refine setT_add (s := { s' with toks := s'.toks + 1 }) hS1 (by omega) fun h' hsb hS2 => ?_
    have hS3 : SetT w h' S (fun j => decide (j ∈ xs.take (i + 1))) (if decide (x ∈ xs.take i) = true then c else c + 1) := hS2.congr fun j => by
      rw [List.take_add_one, hx]
      simp [List.mem_append]
    have hc3 : (if decide (x ∈ xs.take i) = true then c else c + 1) ≤ i + 1 := by split <;> omega
    refine wpAny_pure ⟨plainId_quiet F.plain_set_update_loop _, ih (i + 1) _ (by omega) lt (W.frame _ s' _ _ hst' (Nat.le_succ _) fun b hb o e => ?_) ⟨_, hc3, hS3⟩ fun s'' c2 hm2 hc2 hS4 => ?_⟩
    · rw [hsb.2 b (fun z : b = S => hSf (by rw [← z]; exact hb))]
      exact e
    · refine hR s'' c2 (Moved.trans W.gtrans ((hm.mono more).then_heap (Nat.le_succ _) fun b o hb e => ?_) hm2) hc2 hS4
      rw [hsb.2 b (fun z : b = S => hb (by rw [z]; exact List.mem_cons_self))]
      exact e
set_option maxHeartbeats 3200000 in
/-- set(xs), a list of texts -/
theorem call_set_listT {l : Addr} {items : Array Value} (xs : List Str) {Q : Value → Shared → Prop} (hh : A.handled = none) (hl : s.heap.IsList l items) (hsz : items.size = xs.length) (hval : ∀ (i : Nat) (v : Value), items[i]? = some v → ∃ x t, xs[i]? = some x ∧ v = .str x t) (hb : xs.length + 1 < scanBound)
    (h : ∀ (h' : Heap) (tk c : Nat), SetT w h' s.heap.objs.size (fun j => decide (j ∈ xs)) c → c ≤ xs.length → (∀ b o, s.heap.get? b = some o → h'.get? b = some o) → Q (.ref s.heap.objs.size) { s with heap := h', toks := tk }) :
    wpAny (model P w) A (call (.type "set") [.ref l]) Q E s := by
  obtain ⟨c, tl, hmro⟩ := F.called_set.mro
  have hmade := F.called_set.made
  have hsub := F.called_set.sub
  have h1 := F.called_set.notType
  have h2 := F.called_set.canCreate
  have hct := F.typeCall_set_1 (.ref l)
  refine wpAny_call (codeAny_of_tree (show wpAny _ _ (callAny (.type "set") _) _ _ _ from wpAny_pure ⟨Code.quiet_builtin _ (by decide +kernel), codeAny_builtin F.entry_type_call ?_⟩))
  rw [Around.under_plain (weight_type_call_type "set" [.ref l] []) rfl]
  repeat (any_goals (first | assumption | wp_step))
  obtain ⟨nw, hnw⟩ : ∃ nw : Obj, nw = { cls := .type "set", dict := none, data := .set #[] 0 (.fresh 0 0 (!w.params.followText "set-order")) } := ⟨_, rfl⟩
  refine codeAny_mono (code_set_led1 (.ref l) (E := E) (Q₁ := fun obj s₁ => obj = .ref s.heap.objs.size ∧ s₁ = { s with heap := s.heap.push nw }) ⟨rfl, by rw [hnw]⟩) fun r s₁ hr => ?_
  cases r with
  | error e => exact hr
  | ok fl =>
    cases fl with
    | ret obj =>
      obtain ⟨rfl, rfl⟩ := hr
      have hS : (s.heap.push nw).get? s.heap.objs.size = some nw := Heap.get?_push_size _ (by rw [hnw]; rfl)
      have hT : Shared.TypeIs { s with heap := s.heap.push nw } (.ref s.heap.objs.size) "set" := ⟨_, hS, by rw [hnw]⟩
      have hli := F.called_set.init.lookup
      have hbi := F.called_set.init.bind (.ref s.heap.objs.size)
      repeat (any_goals (first | assumption | wp_step))
      refine codeAny_mono (codeAny_call_builtin (R := wants (fun r s₂ => r = .none ∧ ∃ h' tk c, s₂ = { s with heap := h', toks := tk } ∧ SetT w h' s.heap.objs.size (fun j => decide (j ∈ xs)) c ∧ c ≤ xs.length ∧
          (∀ b o, s.heap.get? b = some o → h'.get? b = some o)) E) F.called_set.init.plain F.entry_set_init (check_set_init_1 hT ?_)) fun r₂ s₂ hr₂ => ?_
      · obtain ⟨ol, hol, hcl, nl, hdl⟩ := hl
        obtain ⟨ocls, odict, odata, oslots⟩ := ol
        simp only at hcl hdl
        subst hcl hdl
        have hol' : (s.heap.push nw).get? l = some { cls := .type "list", dict := odict, data := .seq items nl, slots := oslots } := Heap.get?_push_of_some _ hol
        have hsls := F.sub_list_set
        have hslf := F.sub_list_frozenset
        have hne : (Value.type "list" == Value.type "dict") = false := by decide
        have hl1 : (s.heap.push nw).IsList l items := ⟨_, hol', rfl, nl, rfl⟩
        have hlS : l < s.heap.objs.size := Heap.lt_size hol
        have hnone : A.in1.in1.in1.handled = none := by simp [hh]
        have szp : (s.heap.push nw).objs.size = s.heap.objs.size + 1 := Heap.size_push _ _
        have hneI : l ≠ (s.heap.push nw).objs.size := by
          rw [szp]
          exact Nat.ne_of_lt (Nat.lt_succ_of_lt hlS)
        have hSf : s.heap.objs.size ∉ [(s.heap.push nw).objs.size, l] := by
          simp only [List.mem_cons, List.not_mem_nil, or_false, not_or]
          rw [szp]
          exact ⟨Nat.ne_of_lt (Nat.lt_succ_self _), Nat.ne_of_gt hlS⟩
        subst hnw
        unfold Builtin.«set.__init__» noKeywords Builtin.Frozenset.updateFrom
        generalize hPI : pyIter = PI
        wp_walk
        subst hPI
        refine wpAny_pyIter_list hl1 ?_
        refine wpAny_bind (wpAny_runValue ?_)
        refine setT_update ((Walks.list hnone _ l hneI items).toS) s.heap.objs.size hSf xs hsz hb hval (items.size - 0) 0 _ (by omega) (Nat.zero_le _) ⟨⟨_, Heap.get?_push_size _ rfl, rfl, rfl⟩, (hl1.push _)⟩ ?hS0 ?hR
        case hS0 =>
          refine ⟨0, Nat.le_refl 0, (setT_new (w := w) ?_).congr fun k => by simp⟩
          exact Heap.get?_push_of_some _ hS
        case hR =>
          intro s' c' hm hc' hS'
          obtain ⟨h', g2, d', tk', os'⟩ := s'
          obtain rfl : g2 = s.gens := hm.gens
          obtain rfl : d' = s.drawn := hm.drawn
          obtain rfl : os' = s.os := hm.os
          rw [hsz] at hc'
          refine wpAny_pure (wpAny_pure ⟨rfl, h', tk', c', rfl, hS', hc', fun b o e => ?_⟩)
          have hb0 : b < s.heap.objs.size := Heap.lt_size e
          refine hm.heap b o ?_ (Heap.get?_push_of_some _ (Heap.get?_push_of_some _ e))
          simp only [List.mem_cons, List.not_mem_nil, or_false, not_or]
          rw [szp]
          exact ⟨Nat.ne_of_lt hb0, Nat.ne_of_lt (Nat.lt_succ_of_lt hb0)⟩
      · cases r₂ with
        | error e => exact hr₂
        | ok fl₂ =>
          cases fl₂ with
          | ret r =>
            obtain ⟨rfl, h', tk, c', rfl, hS', hc', hk'⟩ := hr₂
            repeat (any_goals (first | assumption | wp_step))
            exact h _ _ _ hS' hc' hk'
          | _ => exact hr₂.elim
    | _ => exact hr.elim
end
end DL
/-! sorted(set(a list of texts)), len(set(a list of texts)) -/
namespace DL
open PySem PySem.Spec PyProof.Rows L2
/-- texts in their order -/
abbrev LeS (a b : Str) : Prop := a.cps.toList ≤ b.cps.toList
theorem leS_trans {a b c : Str} (h : LeS a b) (k : LeS b c) : LeS a c := List.le_trans h k
theorem leS_total (a b : Str) : LeS a b ∨ LeS b a := List.le_total _ _
theorem leS_anti {a b : Str} (h : LeS a b) (k : LeS b a) : a = b := by
  have e : a.cps.toList = b.cps.toList := List.le_antisymm h k
  cases a
  cases b
  simp only [Str.mk.injEq]
  exact Array.toList_inj.mp e
theorem sortedS_uniq : ∀ {as bs : List Str}, as.Pairwise LeS → bs.Pairwise LeS → as.Nodup → bs.Nodup → (∀ k, k ∈ as ↔ k ∈ bs) → as = bs
  | [], [], _, _, _, _, _ => rfl
  | [], b :: bs, _, _, _, _, h => by
    have := (h b).mpr (by simp)
    cases this
  | a :: as, [], _, _, _, _, h => by
    have := (h a).mp (by simp)
    cases this
  | a :: as, b :: bs, h1, h2, n1, n2, h => by
    rw [List.pairwise_cons] at h1 h2
    rw [List.nodup_cons] at n1 n2
    have e : a = b := by
      rcases List.mem_cons.mp ((h a).mp (by simp)) with e | ha
      · exact e
      · rcases List.mem_cons.mp ((h b).mpr (by simp)) with e | hb
        · exact e.symm
        · exact leS_anti (h1.1 b hb) (h2.1 a ha)
    subst e
    congr 1
    refine sortedS_uniq h1.2 h2.2 n1.2 n2.2 fun k => ⟨fun hk => ?_, fun hk => ?_⟩
    · rcases List.mem_cons.mp ((h k).mp (by simp [hk])) with e | z
      · exact absurd (e ▸ hk) n1.1
      · exact z
    · rcases List.mem_cons.mp ((h k).mpr (by simp [hk])) with e | z
      · exact absurd (e ▸ hk) n2.1
      · exact z
section
variable {P : Program} {w : World} {A : Around} {E : Value → Shared → Prop} {s : Shared}
inductive TxtsAre : List Value → List Str → Prop
  | nil : TxtsAre [] []
  | cons (x : Str) (t : Tok) {us : List Value} {xs : List Str} : TxtsAre us xs → TxtsAre (Value.str x t :: us) (x :: xs)
theorem TxtsAre.length : ∀ {us : List Value} {xs : List Str}, TxtsAre us xs → us.length = xs.length
  | _, _, .nil => rfl
  | _, _, .cons _ _ h => congrArg (· + 1) h.length
theorem txts_of : ∀ (us : List Value), (∀ v ∈ us, ∃ x t, v = Value.str x t) → TxtsAre us (us.map decS)
  | [], _ => .nil
  | u :: us, h => by
    obtain ⟨x, t, rfl⟩ := h u (by simp)
    exact .cons x t (txts_of us fun v hv => h v (by simp [hv]))
theorem txts_each {us : List Value} {xs : List Str} (h : TxtsAre us xs) : PySem.W.EachIs (fun v k => ∃ t, v = Value.str k t) us xs := by
  induction h with
  | nil => exact .nil
  | cons k t _ ih => exact .cons ⟨t, rfl⟩ ih
theorem each_txts {us : List Value} {xs : List Str} (h : PySem.W.EachIs (fun v k => ∃ t, v = Value.str k t) us xs) : TxtsAre us xs := by
  induction h with
  | nil => exact .nil
  | cons r _ ih =>
    obtain ⟨t, rfl⟩ := r
    exact .cons _ t ih
/-- sorted(a set of texts) -/
theorem sorted_setT {a : Addr} {S : Str → Bool} {n : Nat} {Q : Value → Shared → Prop} (R : SetT w s.heap a S n) (hh : A.handled = none) (hu : A.units + 40 < cLine)
    (hQ : ∀ s' p (out : Array Value) (c : Nat) (xs : List Str), (∀ b o, s.heap.get? b = some o → s'.heap.get? b = some o) → s'.gens = s.gens → s'.os = s.os → s.heap.objs.size ≤ p →
      s'.heap.get? p = some (seqObj "list" out c) → TxtsAre out.toList xs → xs.Pairwise LeS → xs.Nodup → (∀ k, k ∈ xs ↔ S k = true) → xs.length = n → Q (.ref p) s') :
    wpAny (model P w) A (call (.builtin "sorted") [.ref a]) Q E s := by
  obtain ⟨o, es, ep, t, ho, hex, hd, g, nd, hm, hb, hf, hn, hr, hl⟩ := R
  refine Calls.call_function_entry kind_sorted plain_sorted entry_sorted (args_sorted1 _) ?_
  unfold Builtin.«sorted»
  refine wpAny_bind (m := checkCount "sorted" 1 1 _) (wpAny_pure ?_)
  refine wpAny_bind (collect_set (A := A.in1) hh ⟨o, ho, hex.1, hd⟩ hf hb hr hl fun s1 vs k1 hz g1 o1 pm => ?_)
  have hvl : vs.length = n := by rw [pm.length_eq, List.length_map, Array.length_toList]; exact hn
  have hnl : n ≤ sizeLine := by
    rw [← hn, sizeLine_eq]
    unfold scanBound at hb
    omega
  have hT := txts_of vs fun v hv => by
    obtain ⟨e, he, q⟩ := List.mem_map.mp (pm.mem_iff.mp hv)
    obtain ⟨x, tk, h1, _⟩ := g e he
    exact ⟨x, tk, by rw [← q]; exact h1⟩
  have pk : (vs.map decS).Perm (es.toList.map keyS) := by
    have q := pm.map decS
    rw [List.map_map] at q
    exact q
  have hoL : (s1.heap.push (seqObj "list" vs.toArray 0)).get? s1.heap.objs.size = some (seqObj "list" vs.toArray 0) := Heap.get?_push_size _ rfl
  generalize hbs : vs.map decS = bs at hT pk
  have hbl : bs.length = n := by rw [← hT.length, hvl]
  refine wpAny_bind (wpAny_newList ?_ (by rw [hvl]; exact hnl))
  refine wpAny_bind (wpAny_holding (PySem.W.list_sort_data (enc := fun k : Str => .str k) (bs := bs) (R := fun v k => ∃ t, v = Value.str k t) hoL (txts_each hT) ((txts_each hT).mono fun v k ⟨t, e⟩ => ⟨[], by rw [e]; exact .str k t, by simp⟩)
    (PySem.W.AllAlike.of fun _ _ => by simp [PySem.W.alike]) (PySem.W.Sortable.others fun _ => ⟨(fun z => by cases z), fun _ z => by cases z⟩) (by rw [hbl]; exact hnl) (fun b _ => by
      simp only [PyData.depth]
      show A.units + 1 + 1 + 0 < cLine
      omega) fun out hol ho2 => ?_))
  have ho3 := each_txts ho2
  obtain ⟨c, hc⟩ := sortedHeap_at (vs := vs) (out := List.toArray out) hoL
  have hperm : (bs.mergeSort (PySem.W.dataLe false fun k : Str => .str k)).Perm bs := List.mergeSort_perm _ _
  have pn := hperm.trans pk
  have hle : (bs.mergeSort (PySem.W.dataLe false fun k : Str => .str k)).Pairwise LeS := by
    have e : PySem.W.dataLe false (fun k : Str => PyData.str k) = fun a b => decide (a.cps.toList ≤ b.cps.toList) := PySem.W.dataLe_str fun k => k
    rw [e]
    have := List.pairwise_mergeSort (le := fun a b : Str => decide (a.cps.toList ≤ b.cps.toList)) (fun a b c h1 h2 => decide_eq_true (leS_trans (of_decide_eq_true h1) (of_decide_eq_true h2))) (fun a b => by
      rcases leS_total a b with z | z
      · rw [decide_eq_true (show a.cps.toList ≤ b.cps.toList from z)]; rfl
      · rw [decide_eq_true (show b.cps.toList ≤ a.cps.toList from z), Bool.or_true]) bs
    exact this.imp fun h => of_decide_eq_true h
  refine wpAny_pure ⟨_, rfl, hQ _ s1.heap.objs.size (List.toArray out) c _ (fun b u e => ?_) g1 o1 hz hc (by simpa using ho3) hle (pn.nodup_iff.mpr nd) (fun k => by rw [pn.mem_iff, ← hm k]) ?_⟩
  · have q := k1 b u e
    have hlt := Heap.lt_size q
    show (sortedHeap (s1.heap.push (seqObj "list" vs.toArray 0)) s1.heap.objs.size vs (List.toArray out)).get? b = some u
    rw [sortedHeap_old (Nat.ne_of_lt hlt) (by rw [size_push']; exact Nat.lt_succ_of_lt hlt)]
    exact Heap.get?_push_of_some _ q
  · rw [hperm.length_eq, hbl]
end
section
variable {X : Cx}
/-- sorted(set(e)), e a list of texts -/
def dSortSetT (te : DTE) : DTE := fun m M Q => te m M fun d M1 => ∃ xs : List Str, dItems d M1 = some (xs.map D.str) ∧ d ≠ .tup (xs.map D.str) ∧ xs.length ≤ 4000 ∧ ∀ (rs : List Str) (p : Addr), rs.Pairwise LeS → rs.Nodup → (∀ k, k ∈ rs ↔ k ∈ xs) → rs.length ≤ xs.length → M1 p = none → Q (.ref p) (mput M1 p (.lst (rs.map D.str)))
theorem vals_texts : ∀ {its : List Value} {xs : List Str}, Vals (xs.map V.str) its → its.length = xs.length ∧ ∀ (i : Nat) (v : Value), its[i]? = some v → ∃ x t, xs[i]? = some x ∧ v = Value.str x t
  | [], [], _ => ⟨rfl, fun i v e => by simp at e⟩
  | u :: us, x :: xs, .cons h l => by
    obtain ⟨t, rfl⟩ := (show ∃ t, u = Value.str x t from h)
    obtain ⟨h1, h2⟩ := vals_texts (its := us) (xs := xs) l
    refine ⟨by rw [List.length_cons, List.length_cons, h1], fun i v e => ?_⟩
    cases i with
    | zero =>
      simp at e
      exact ⟨x, t, rfl, e.symm⟩
    | succ i => exact h2 i v (by simpa using e)
theorem txts_vals : ∀ {us : List Value} {xs : List Str}, TxtsAre us xs → Vals (xs.map V.str) us
  | _, _, .nil => .nil
  | _, _, .cons x t h => .cons ⟨t, rfl⟩ (txts_vals h)
theorem repL_strs {K : PySem.W.Frag} {H : Hp} : ∀ {xs : List Str}, RepL K H (xs.map D.str) (xs.map V.str)
  | [] => .nil
  | x :: xs => .cons (.str x) repL_strs
/-- set(e) has come, e a list of texts: the walk goes on with the set at its place -/
theorem set_texts {pins : List (Addr × Obj)} {σ : SL} {H1 : Hp} {M1 : DM} {s1 : Shared} {d : D} {v : Value} {x : V} {xs : List Str} {Q : Value → Shared → Prop} {A : Around} {E : Value → Shared → Prop} (I1 : Inv X pins σ H1 s1) (r1 : RelV x v) (rd : Rep X.K H1 d x) (m1 : RM X.K H1 M1) (hd : dItems d M1 = some (xs.map D.str)) (hnt : d ≠ .tup (xs.map D.str)) (hl : xs.length ≤ 4000) (hA : A.handled = none)
    (h : ∀ (h' : Heap) (tk c : Nat), SetT X.w h' s1.heap.objs.size (fun j => decide (j ∈ xs)) c → c ≤ xs.length → Inv X pins σ H1 { s1 with heap := h', toks := tk } → Q (.ref s1.heap.objs.size) { s1 with heap := h', toks := tk }) :
    wpAny (model X.prog X.w) A (call (.type "set") [v]) Q E s1 := by
  obtain ⟨l, vs, rfl, hz, rl, hS⟩ := lst_of rd m1 hd hnt
  have evs := strs_rep rl
  subst evs
  cases r1
  obtain ⟨its, ri, pl, _⟩ := I1.list hS
  obtain ⟨e1, e2⟩ := vals_texts ri
  refine call_set_listT xs hA pl.isList (by simpa using e1) (fun i v e => e2 i v (by simpa using e)) (by unfold scanBound; omega) fun h' tk c hR hcl hk => h h' tk c hR hcl (I1.kept hk)
theorem d_sortSetT {e : Expr} {te : DTE} {p p2 q pos : Pos} (hc : X.calm = true) (hu : X.A.units + 64 < cLine) (hg : Gl X "sorted") (hm : X.mg "sorted" = none) (hg2 : Gl X "set") (hm2 : X.mg "set" = none) (he : DE X e te)
    (na : starEach [e] X.env = (false, eval e X.env) :: starEach [] X.env := by rfl) : DE X (.Call (.Name "sorted" p) [.Call (.Name "set" p2) [e] [] q] [] pos) (dSortSetT te) := by
  refine ⟨fun pins s σ H Q I ⟨m, M, Q', r, h, kk⟩ => ?_⟩
  refine Call_ (ld_blt I hg hm boot_sorted ?_)
  refine PyProof.Rows.callWith_builtin1 (PyProof.Rows.args_cons ?_ rfl) rfl rfl
  refine Call_ (ld_blt I hg2 hm2 boot_set ?_)
  refine PyProof.Rows.callWith_type1 (PyProof.Rows.args_cons (thn (he.run pins s σ H (fun v H1 => ∃ d M1, Grow H H1 ∧ Rep X.K H1 d v ∧ RM X.K H1 M1 ∧ ∃ xs : List Str, dItems d M1 = some (xs.map D.str) ∧ d ≠ .tup (xs.map D.str) ∧ xs.length ≤ 4000 ∧ ∀ (rs : List Str) (p : Addr), rs.Pairwise LeS → rs.Nodup → (∀ k, k ∈ rs ↔ k ∈ xs) → rs.length ≤ xs.length → M1 p = none → Q' (.ref p) (mput M1 p (.lst (rs.map D.str)))) I
    ⟨m, M, _, r, h, fun d v M1 H1 g1 r1 m1 q1 => ⟨d, M1, g1, r1, m1, q1⟩⟩) fun v s1 ⟨x, H1, I1, r1, d, M1, g1, rd, m1, xs, hd, hnt, hl, q1⟩ => PyProof.Rows.args_nil ?_) na) na rfl
  refine set_texts I1 r1 rd m1 hd hnt hl (I1.ok.hd hc) fun h' tk c hR hcl I2 => ?_
  refine PyProof.Rows.args_nil ?_
  generalize hs2 : ({ s1 with heap := h', toks := tk } : Shared) = s2 at I2 ⊢
  have hR2 : SetT X.w s2.heap s1.heap.objs.size (fun j => decide (j ∈ xs)) c := by rw [← hs2]; exact hR
  refine sorted_setT (s := s2) hR2 (I2.ok.hd hc) (by omega) fun s' p out c2 rs k g o hp hg hi hs hnd hmm hln => ?_
  have hlen : (rs.map V.str).length ≤ sizeLine := by rw [List.length_map, hln, sizeLine_eq]; omega
  have hn : H1 p = none := I2.hok.fresh hp
  have J : Inv X pins σ (upd H1 p (.lst (rs.map V.str))) { s2 with heap := s'.heap, gens := s'.gens, drawn := s'.drawn, toks := s'.toks } :=
    I2.call (ch := []) (Un.laid k hp hn) (I2.hok.laid k hp ⟨hlen, out.toList, c2, txts_vals hi, hg⟩) (by rw [g]; exact I2.bare) (fun _ z => nomatch z)
  have e : s' = { s2 with heap := s'.heap, gens := s'.gens, drawn := s'.drawn, toks := s'.toks } := by
    cases s'
    cases s2
    cases o
    rfl
  rw [e]
  exact ⟨.ref p, _, J, rfl, kk _ _ _ _ (g1.trans (.new hn)) (.ref _) (m1.newLst hn hlen repL_strs) (q1 rs p hs hnd (fun k => by rw [hmm k, decide_eq_true_iff]) (by omega) (m1.free hn))⟩
/-- len(set(e)), e a list of texts -/
def dLenSetT (te : DTE) : DTE := fun m M Q => te m M fun d M1 => ∃ xs : List Str, dItems d M1 = some (xs.map D.str) ∧ d ≠ .tup (xs.map D.str) ∧ xs.length ≤ 4000 ∧ ∀ (rs : List Str), rs.Nodup → (∀ k, k ∈ rs ↔ k ∈ xs) → Q (.int rs.length) M1
theorem d_lenSetT {e : Expr} {te : DTE} {p p2 q pos : Pos} (hc : X.calm = true) (hg : Gl X "len") (hm : X.mg "len" = none) (hg2 : Gl X "set") (hm2 : X.mg "set" = none) (he : DE X e te)
    (na : starEach [e] X.env = (false, eval e X.env) :: starEach [] X.env := by rfl) : DE X (.Call (.Name "len" p) [.Call (.Name "set" p2) [e] [] q] [] pos) (dLenSetT te) := by
  refine ⟨fun pins s σ H Q I ⟨m, M, Q', r, h, kk⟩ => ?_⟩
  refine Call_ (ld_blt I hg hm boot_len ?_)
  refine PyProof.Rows.callWith_builtin1 (PyProof.Rows.args_cons ?_ rfl) rfl rfl
  refine Call_ (ld_blt I hg2 hm2 boot_set ?_)
  refine PyProof.Rows.callWith_type1 (PyProof.Rows.args_cons (thn (he.run pins s σ H (fun v H1 => ∃ d M1, Grow H H1 ∧ Rep X.K H1 d v ∧ RM X.K H1 M1 ∧ ∃ xs : List Str, dItems d M1 = some (xs.map D.str) ∧ d ≠ .tup (xs.map D.str) ∧ xs.length ≤ 4000 ∧ ∀ (rs : List Str), rs.Nodup → (∀ k, k ∈ rs ↔ k ∈ xs) → Q' (.int rs.length) M1) I
    ⟨m, M, _, r, h, fun d v M1 H1 g1 r1 m1 q1 => ⟨d, M1, g1, r1, m1, q1⟩⟩) fun v s1 ⟨x, H1, I1, r1, d, M1, g1, rd, m1, xs, hd, hnt, hl, q1⟩ => PyProof.Rows.args_nil ?_) na) na rfl
  refine set_texts I1 r1 rd m1 hd hnt hl (I1.ok.hd hc) fun h' tk c hR hcl I2 => ?_
  refine PyProof.Rows.args_nil ?_
  generalize hs2 : ({ s1 with heap := h', toks := tk } : Shared) = s2 at I2 ⊢
  have hR2 : SetT X.w s2.heap s1.heap.objs.size (fun j => decide (j ∈ xs)) c := by rw [← hs2]; exact hR
  obtain ⟨o, es, ep, t, ho, hex, hdt, g, nd, hmm, hb, hf, hn, _⟩ := hR2
  have hq := q1 (es.toList.map keyS) nd fun k => by rw [← hmm k, decide_eq_true_iff]
  rw [List.length_map, Array.length_toList] at hq
  refine call_len_set ho hex hdt hf (by unfold scanBound at hb; omega) ?_
  exact ⟨.int es.size, H1, (I2.tok _).tok _, ⟨_, rfl⟩, kk _ _ _ _ g1 (.int _) m1 hq⟩
end
end DL
namespace Law
open PySem PySem.Spec PyProof.Rows L2 DL
local macro_rules | `(tactic| walk_at "rd") => `(tactic| simp only [dSeq, dSet, dIf, dTst, dOp, dVar, dC, dRet, dRetN, dNext, dDrop, dBreak, dCont, dAnd, dOr, dNot, dAndV, dOrV, dNotV, dIfE, dTup, dLstF, dLst, dCons, dNil, dCB, dCall, dUn, dNegI,
  dI, dI0, dEq, dNe, dIs, dIsNot, dIn, dNotIn, dIx, isN_non, isN_bl, isN_int, isN_str, isN_tup, isN_lst, isN_rf, DL.rLen, rInt, rAbs, rMax2, rMin2, DL.rGcd, rTuple, rList, rIs, rIsT, ar0, ar1, ar2, ar3, ar4, ar5, ar6, ar7, ar8, dEnds, dMt, dMt0, mAppend, mPop, mReverse, dSetL, dPut, dAsg, dgName, dgTup, dgCons, dgNil,
  dFor, diSeq, diRng1, diRng2, dLcF, dLc, dwipe, dFz,
  dstart, List.map_cons, List.map_nil, List.length_cons, List.length_nil, List.cons_append, List.nil_append, List.append_nil, List.replicate, Nat.reduceAdd, Nat.reduceSub, Nat.reduceLeDiff, Int.reduceNeg, List.set_cons_zero, List.set_cons_succ,
  List.getElem?_cons_zero, List.getElem?_cons_succ, Option.some.injEq, exists_eq_left', exists_eq_left, exists_eq_right, exists_eq, exists_and_left, exists_and_right, D.int.injEq, D.bl.injEq, D.str.injEq, D.tup.injEq, D.lst.injEq, D.ref.injEq, D.ty.injEq, D.dct.injEq,
  List.cons.injEq, and_assoc, and_true, true_and, and_self, reduceCtorEq, false_and, and_false, if_true, if_false, if_pos, ite_true, ite_false, Bool.false_eq_true, decide_eq_true_eq, Bool.not_eq_true', decide_eq_false_iff_not, Bool.not_true, Bool.not_false, decide_true, decide_false,
  eqv_int, eqv_str, eqv_bl, dOk_int, dOk_bl, dOk_non, dOk_tup, dOk_lst, dOk_str, List.all_cons, List.all_nil, Bool.and_true, Bool.true_and, Bool.and_self, dItems_tup, dItems_lst, dItems_rf, CMulA, CDivA, CPowA, Int.reduceLT, Int.reduceLE, Int.reducePow, Int.reduceToNat, Int.reduceMul, Int.reduceAdd, Int.reduceSub, Nat.reducePow, true_or, or_true, ne_eq, not_false_eq_true, not_true_eq_false, dAt_tup, dAt_lst, dAt_rf, dLenOf_tup, dLenOf_lst, dLenOf_rf, dLenOf_str, dTyN_non, dTyN_bl, dTyN_int, dTyN_str, dTyN_tup, dTyN_lst, dTyN_dct, dTyN_rf, dIntOf_int, dIntOf_bl, knownT, subT, atI_0, atI_1, atI_2, atI_3, atI_4, atI_5, atI_neg1, mput_same, mput_mput, eqv_non, tyNames, Option.map_some, String.reduceBEq, Bool.or_true, Bool.true_or, Bool.or_false, Bool.false_or, Bool.false_and, Bool.and_false, beq_self_eq_true, BEq.rfl, List.any_cons, List.any_nil, sizeLine_eq, rLenB, Bool.true_eq_false, implies_true, Nat.zero_le, Bool.or_self, String.reduceEq, dAdd_ii, dAdd_ss, dAdd_tt, dMulA_ii, dMulA_si, dIxS_str, dIxS_tup, dIxS_lst, dIxS_ref, dCat, dCatF, dRep, dSl, dNoP, dPart, dJoin, mExtend, mIndex, rAnyL, rAllL, rSumL, rMaxL, rMinL, dLRg, diEnum, rSortD, dLc2F, dLc2, dYes, diEnumT, dSlS, rSortK, dFzS, dTupRev, diRev, diZip, dMulT, zipD, dDc, dDGet1, dLtD, dGtD, rListK, dUpper, diStr, dInS, dSortL, dSortSet, dSortSetT, dLenSetT, dStar, rIntS, rStrI, dKIx, dKIn, dKNotIn, rLenK, dKNew, dFzK, dFzD, dKPut, diKeys, diVals, diItems, mInsert, mPopAt, dKGet1, dKGet2, dKc, dDict_dct, dDict_put, isKb_int, isKb_str, true_implies, false_implies])
local macro_rules | `(tactic| walk_at "st") => `(tactic| (refine seq_i ?_; simp only [dSet, dIf, dTst, dOp, dVar, dC, dRet, dRetN, dNext, dDrop, dBreak, dCont, dAnd, dOr, dNot, dAndV, dOrV, dNotV, dIfE, dTup, dLstF, dLst, dCons, dNil, dCB, dCall, dUn, dNegI,
  dI, dI0, dEq, dNe, dIs, dIsNot, dIn, dNotIn, dIx, isN_non, isN_bl, isN_int, isN_str, isN_tup, isN_lst, isN_rf, DL.rLen, rInt, rAbs, rMax2, rMin2, DL.rGcd, rTuple, rList, rIs, rIsT, ar0, ar1, ar2, ar3, ar4, ar5, ar6, ar7, ar8, dEnds, dMt, dMt0, mAppend, mPop, mReverse, dSetL, dPut, dAsg, dgName, dgTup, dgCons, dgNil,
  dFor, diSeq, diRng1, diRng2, dLcF, dLc, dwipe, dFz,
  dstart, List.map_cons, List.map_nil, List.length_cons, List.length_nil, List.cons_append, List.nil_append, List.append_nil, List.replicate, Nat.reduceAdd, Nat.reduceSub, Nat.reduceLeDiff, Int.reduceNeg, List.set_cons_zero, List.set_cons_succ,
  List.getElem?_cons_zero, List.getElem?_cons_succ, Option.some.injEq, exists_eq_left', exists_eq_left, exists_eq_right, exists_eq, exists_and_left, exists_and_right, D.int.injEq, D.bl.injEq, D.str.injEq, D.tup.injEq, D.lst.injEq, D.ref.injEq, D.ty.injEq, D.dct.injEq,
  List.cons.injEq, and_assoc, and_true, true_and, and_self, reduceCtorEq, false_and, and_false, if_true, if_false, if_pos, ite_true, ite_false, Bool.false_eq_true, decide_eq_true_eq, Bool.not_eq_true', decide_eq_false_iff_not, Bool.not_true, Bool.not_false, decide_true, decide_false,
  eqv_int, eqv_str, eqv_bl, dOk_int, dOk_bl, dOk_non, dOk_tup, dOk_lst, dOk_str, List.all_cons, List.all_nil, Bool.and_true, Bool.true_and, Bool.and_self, dItems_tup, dItems_lst, dItems_rf, CMulA, CDivA, CPowA, Int.reduceLT, Int.reduceLE, Int.reducePow, Int.reduceToNat, Int.reduceMul, Int.reduceAdd, Int.reduceSub, Nat.reducePow, true_or, or_true, ne_eq, not_false_eq_true, not_true_eq_false, dAt_tup, dAt_lst, dAt_rf, dLenOf_tup, dLenOf_lst, dLenOf_rf, dLenOf_str, dTyN_non, dTyN_bl, dTyN_int, dTyN_str, dTyN_tup, dTyN_lst, dTyN_dct, dTyN_rf, dIntOf_int, dIntOf_bl, knownT, subT, atI_0, atI_1, atI_2, atI_3, atI_4, atI_5, atI_neg1, mput_same, mput_mput, eqv_non, tyNames, Option.map_some, String.reduceBEq, Bool.or_true, Bool.true_or, Bool.or_false, Bool.false_or, Bool.false_and, Bool.and_false, beq_self_eq_true, BEq.rfl, List.any_cons, List.any_nil, sizeLine_eq, rLenB, Bool.true_eq_false, implies_true, Nat.zero_le, Bool.or_self, String.reduceEq, dAdd_ii, dAdd_ss, dAdd_tt, dMulA_ii, dMulA_si, dIxS_str, dIxS_tup, dIxS_lst, dIxS_ref, dCat, dCatF, dRep, dSl, dNoP, dPart, dJoin, mExtend, mIndex, rAnyL, rAllL, rSumL, rMaxL, rMinL, dLRg, diEnum, rSortD, dLc2F, dLc2, dYes, diEnumT, dSlS, rSortK, dFzS, dTupRev, diRev, diZip, dMulT, zipD, dDc, dDGet1, dLtD, dGtD, rListK, dUpper, diStr, dInS, dSortL, dSortSet, dSortSetT, dLenSetT, dStar, rIntS, rStrI, dKIx, dKIn, dKNotIn, rLenK, dKNew, dFzK, dFzD, dKPut, diKeys, diVals, diItems, mInsert, mPopAt, dKGet1, dKGet2, dKc, dDict_dct, dDict_put, isKb_int, isKb_str, true_implies, false_implies]))
local macro_rules | `(tactic| walk_at "p") => `(tactic| simp only [dRet, dOp, dVar, dCall, dCB, dCons, dNil, ar0, ar1, ar2, ar3, ar4, ar5, DL.rLen, dIx, dEnds, dstart, List.map_cons, List.map_nil, List.length_cons, List.length_nil, List.cons_append, List.nil_append, List.replicate, Nat.reduceAdd, Nat.reduceSub, Nat.reduceLeDiff, List.getElem?_cons_zero, List.getElem?_cons_succ, Option.some.injEq, exists_eq_left', exists_eq_left, exists_and_left, exists_and_right, List.cons.injEq, and_assoc, and_true, true_and, D.ref.injEq, D.int.injEq])
local macro_rules | `(tactic| walk_at "s1") => `(tactic| simp only [dSet, dIf, dTst, dOp, dVar, dC, dRet, dRetN, dNext, dDrop, dBreak, dCont, dAnd, dOr, dNot, dAndV, dOrV, dNotV, dIfE, dTup, dLstF, dLst, dCons, dNil, dCB, dCall, dUn, dNegI,
  dI, dI0, dEq, dNe, dIs, dIsNot, dIn, dNotIn, dIx, isN_non, isN_bl, isN_int, isN_str, isN_tup, isN_lst, isN_rf, DL.rLen, rInt, rAbs, rMax2, rMin2, DL.rGcd, rTuple, rList, rIs, rIsT, ar0, ar1, ar2, ar3, ar4, ar5, ar6, ar7, ar8, dEnds, dMt, dMt0, mAppend, mPop, mReverse, dSetL, dPut, dAsg, dgName, dgTup, dgCons, dgNil,
  dFor, diSeq, diRng1, diRng2, dLcF, dLc, dwipe, dFz,
  dstart, List.map_cons, List.map_nil, List.length_cons, List.length_nil, List.cons_append, List.nil_append, List.append_nil, List.replicate, Nat.reduceAdd, Nat.reduceSub, Nat.reduceLeDiff, Int.reduceNeg, List.set_cons_zero, List.set_cons_succ,
  List.getElem?_cons_zero, List.getElem?_cons_succ, Option.some.injEq, exists_eq_left', exists_eq_left, exists_eq_right, exists_eq, exists_and_left, exists_and_right, D.int.injEq, D.bl.injEq, D.str.injEq, D.tup.injEq, D.lst.injEq, D.ref.injEq, D.ty.injEq, D.dct.injEq,
  List.cons.injEq, and_assoc, and_true, true_and, and_self, reduceCtorEq, false_and, and_false, if_true, if_false, if_pos, ite_true, ite_false, Bool.false_eq_true, decide_eq_true_eq, Bool.not_eq_true', decide_eq_false_iff_not, Bool.not_true, Bool.not_false, decide_true, decide_false,
  eqv_int, eqv_str, eqv_bl, dOk_int, dOk_bl, dOk_non, dOk_tup, dOk_lst, dOk_str, List.all_cons, List.all_nil, Bool.and_true, Bool.true_and, Bool.and_self, dItems_tup, dItems_lst, dItems_rf, CMulA, CDivA, CPowA, Int.reduceLT, Int.reduceLE, Int.reducePow, Int.reduceToNat, Int.reduceMul, Int.reduceAdd, Int.reduceSub, Nat.reducePow, true_or, or_true, ne_eq, not_false_eq_true, not_true_eq_false, dAt_tup, dAt_lst, dAt_rf, dLenOf_tup, dLenOf_lst, dLenOf_rf, dLenOf_str, dTyN_non, dTyN_bl, dTyN_int, dTyN_str, dTyN_tup, dTyN_lst, dTyN_dct, dTyN_rf, dIntOf_int, dIntOf_bl, knownT, subT, atI_0, atI_1, atI_2, atI_3, atI_4, atI_5, atI_neg1, mput_same, mput_mput, eqv_non, tyNames, Option.map_some, String.reduceBEq, Bool.or_true, Bool.true_or, Bool.or_false, Bool.false_or, Bool.false_and, Bool.and_false, beq_self_eq_true, BEq.rfl, List.any_cons, List.any_nil, sizeLine_eq, rLenB, Bool.true_eq_false, implies_true, Nat.zero_le, Bool.or_self, String.reduceEq, dAdd_ii, dAdd_ss, dAdd_tt, dMulA_ii, dMulA_si, dIxS_str, dIxS_tup, dIxS_lst, dIxS_ref, dCat, dCatF, dRep, dSl, dNoP, dPart, dJoin, mExtend, mIndex, rAnyL, rAllL, rSumL, rMaxL, rMinL, dLRg, diEnum, rSortD, dLc2F, dLc2, dYes, diEnumT, dSlS, rSortK, dFzS, dTupRev, diRev, diZip, dMulT, zipD, dDc, dDGet1, dLtD, dGtD, rListK, dUpper, diStr, dInS, dSortL, dSortSet, dSortSetT, dLenSetT, dStar, rIntS, rStrI, dKIx, dKIn, dKNotIn, rLenK, dKNew, dFzK, dFzD, dKPut, diKeys, diVals, diItems, mInsert, mPopAt, dKGet1, dKGet2, dKc, dDict_dct, dDict_put, isKb_int, isKb_str, true_implies, false_implies])
section
variable {P : Program} {w : World} {K : PySem.W.Frag} {mg : Str → Option Value} {base : Heap} {tb : Addr}
def topS (i : Nat) : Stmt := PySem.Challenge.pw_doubtbook_k18_renamed_rules.main.body.getD i (.Pass ⟨0, 0, 0, 0⟩)
abbrev s_terms_of : Stmt := topS 1
abbrev N_terms_of : List Str := ["literal"]
theorem sc_terms_of : FnScope N_terms_of ["literal"] (defScope s_terms_of) := ⟨rfl, rfl, rfl, by decide +kernel, rfl, by decide +kernel, by decide +kernel⟩
abbrev s_with_terms : Stmt := topS 2
abbrev N_with_terms : List Str := ["literal", "terms"]
theorem sc_with_terms : FnScope N_with_terms ["literal", "terms"] (defScope s_with_terms) := ⟨rfl, rfl, rfl, by decide +kernel, rfl, by decide +kernel, by decide +kernel⟩
abbrev s_renamed_terms : Stmt := topS 4
abbrev N_renamed_terms : List Str := ["terms", "words", "term"]
theorem sc_renamed_terms : FnScope N_renamed_terms ["terms", "words"] (defScope s_renamed_terms) := ⟨rfl, rfl, rfl, by decide +kernel, rfl, by decide +kernel, by decide +kernel⟩
abbrev s_renamed : Stmt := topS 5
abbrev N_renamed : List Str := ["rule", "words", "name", "terms", "body", "literals", "literal"]
theorem sc_renamed : FnScope N_renamed ["rule", "words"] (defScope s_renamed) := ⟨rfl, rfl, rfl, by decide +kernel, rfl, by decide +kernel, by decide +kernel⟩
abbrev s_l_draws : Stmt := topS 7
abbrev N_l_draws : List Str := ["script", "many", "cells", "left", "draws", "k", "place", "mixed", "cell"]
theorem sc_l_draws : FnScope N_l_draws ["script", "many"] (defScope s_l_draws) := ⟨rfl, rfl, rfl, by decide +kernel, rfl, by decide +kernel, by decide +kernel⟩
abbrev s_l_take : Stmt := topS 8
abbrev N_l_take : List Str := ["draws", "many"]
theorem sc_l_take : FnScope N_l_take ["draws", "many"] (defScope s_l_take) := ⟨rfl, rfl, rfl, by decide +kernel, rfl, by decide +kernel, by decide +kernel⟩
abbrev s_l_pick : Stmt := topS 9
abbrev N_l_pick : List Str := ["draws", "row"]
theorem sc_l_pick : FnScope N_l_pick ["draws", "row"] (defScope s_l_pick) := ⟨rfl, rfl, rfl, by decide +kernel, rfl, by decide +kernel, by decide +kernel⟩
abbrev s_l_same : Stmt := topS 10
abbrev N_l_same : List Str := ["actual", "due", "k"]
theorem sc_l_same : FnScope N_l_same ["actual", "due"] (defScope s_l_same) := ⟨rfl, rfl, rfl, by decide +kernel, rfl, by decide +kernel, by decide +kernel⟩
abbrev s_l_words : Stmt := topS 11
abbrev N_l_words : List Str := ["draws", "many", "words", "k", "size", "word", "j", "other"]
theorem sc_l_words : FnScope N_l_words ["draws", "many"] (defScope s_l_words) := ⟨rfl, rfl, rfl, by decide +kernel, rfl, by decide +kernel, by decide +kernel⟩
abbrev s_l_values : Stmt := topS 12
abbrev N_l_values : List Str := ["draws", "words", "number"]
theorem sc_l_values : FnScope N_l_values ["draws", "words"] (defScope s_l_values) := ⟨rfl, rfl, rfl, by decide +kernel, rfl, by decide +kernel, by decide +kernel⟩
abbrev s_l_schema : Stmt := topS 13
abbrev N_l_schema : List Str := ["draws", "words", "forms", "tables"]
theorem sc_l_schema : FnScope N_l_schema ["draws", "words"] (defScope s_l_schema) := ⟨rfl, rfl, rfl, by decide +kernel, rfl, by decide +kernel, by decide +kernel⟩
abbrev s_l_how : Stmt := topS 14
abbrev N_l_how : List Str := ["draws", "kind"]
theorem sc_l_how : FnScope N_l_how ["draws"] (defScope s_l_how) := ⟨rfl, rfl, rfl, by decide +kernel, rfl, by decide +kernel, by decide +kernel⟩
abbrev s_l_term : Stmt := topS 15
abbrev N_l_term : List Str := ["draws", "variables", "values"]
theorem sc_l_term : FnScope N_l_term ["draws", "variables", "values"] (defScope s_l_term) := ⟨rfl, rfl, rfl, by decide +kernel, rfl, by decide +kernel, by decide +kernel⟩
abbrev s_l_atom : Stmt := topS 16
abbrev N_l_atom : List Str := ["draws", "places", "variables", "values", "how", "place", "k"]
theorem sc_l_atom : FnScope N_l_atom ["draws", "places", "variables", "values", "how"] (defScope s_l_atom) := ⟨rfl, rfl, rfl, by decide +kernel, rfl, by decide +kernel, by decide +kernel⟩
abbrev s_l_bound : Stmt := topS 17
abbrev N_l_bound : List Str := ["body", "found", "literal", "term"]
theorem sc_l_bound : FnScope N_l_bound ["body"] (defScope s_l_bound) := ⟨rfl, rfl, rfl, by decide +kernel, rfl, by decide +kernel, by decide +kernel⟩
abbrev s_l_safe : Stmt := topS 18
abbrev N_l_safe : List Str := ["draws", "term", "bound", "values"]
theorem sc_l_safe : FnScope N_l_safe ["draws", "term", "bound", "values"] (defScope s_l_safe) := ⟨rfl, rfl, rfl, by decide +kernel, rfl, by decide +kernel, by decide +kernel⟩
abbrev s_l_rule : Stmt := topS 19
abbrev N_l_rule : List Str := ["draws", "name", "width", "places", "ring", "variables", "values", "many", "body", "k", "bound", "terms", "pair", "test"]
theorem sc_l_rule : FnScope N_l_rule ["draws", "name", "width", "places", "ring", "variables", "values", "many"] (defScope s_l_rule) := ⟨rfl, rfl, rfl, by decide +kernel, rfl, by decide +kernel, by decide +kernel⟩
abbrev s_l_rules : Stmt := topS 20
abbrev N_l_rules : List Str := ["draws", "schema", "names", "variables", "values", "many", "places", "rules", "k", "width", "ring", "table", "rule"]
theorem sc_l_rules : FnScope N_l_rules ["draws", "schema", "names", "variables", "values", "many"] (defScope s_l_rules) := ⟨rfl, rfl, rfl, by decide +kernel, rfl, by decide +kernel, by decide +kernel⟩
abbrev s_l_two_ring : Stmt := topS 21
abbrev N_l_two_ring : List Str := ["draws", "rules", "places", "variables", "values", "pair", "found", "rule", "body", "literal", "k"]
theorem sc_l_two_ring : FnScope N_l_two_ring ["draws", "rules", "places", "variables", "values"] (defScope s_l_two_ring) := ⟨rfl, rfl, rfl, by decide +kernel, rfl, by decide +kernel, by decide +kernel⟩
abbrev s_l_words_of : Stmt := topS 22
abbrev N_l_words_of : List Str := ["rule", "terms", "literal", "term"]
theorem sc_l_words_of : FnScope N_l_words_of ["rule"] (defScope s_l_words_of) := ⟨rfl, rfl, rfl, by decide +kernel, rfl, by decide +kernel, by decide +kernel⟩
abbrev s_l_new_term : Stmt := topS 23
abbrev N_l_new_term : List Str := ["term", "pairs", "pair"]
theorem sc_l_new_term : FnScope N_l_new_term ["term", "pairs"] (defScope s_l_new_term) := ⟨rfl, rfl, rfl, by decide +kernel, rfl, by decide +kernel, by decide +kernel⟩
abbrev s_l_new_rule : Stmt := topS 24
abbrev N_l_new_rule : List Str := ["rule", "pairs", "body", "literal", "terms", "term"]
theorem sc_l_new_rule : FnScope N_l_new_rule ["rule", "pairs"] (defScope s_l_new_rule) := ⟨rfl, rfl, rfl, by decide +kernel, rfl, by decide +kernel, by decide +kernel⟩
abbrev s_l_shuffled : Stmt := topS 25
abbrev N_l_shuffled : List Str := ["draws", "row", "left", "found", "k", "place"]
theorem sc_l_shuffled : FnScope N_l_shuffled ["draws", "row"] (defScope s_l_shuffled) := ⟨rfl, rfl, rfl, by decide +kernel, rfl, by decide +kernel, by decide +kernel⟩
abbrev s_l_is_renamed : Stmt := topS 26
abbrev N_l_is_renamed : List Str := ["draws", "rule", "pairs", "words", "pair", "due", "first", "back"]
theorem sc_l_is_renamed : FnScope N_l_is_renamed ["draws", "rule", "pairs"] (defScope s_l_is_renamed) := ⟨rfl, rfl, rfl, by decide +kernel, rfl, by decide +kernel, by decide +kernel⟩
abbrev s_l_wide : Stmt := topS 27
abbrev N_l_wide : List Str := ["draws", "words", "values", "body", "k", "bound", "kind", "pair", "terms"]
theorem sc_l_wide : FnScope N_l_wide ["draws", "words", "values"] (defScope s_l_wide) := ⟨rfl, rfl, rfl, by decide +kernel, rfl, by decide +kernel, by decide +kernel⟩
abbrev s_law : Stmt := topS 28
abbrev N_law : List Str := ["script", "draws", "words", "schema", "values", "rules", "extra", "rule", "old", "lists", "new", "word", "k"]
theorem sc_law : FnScope N_law ["script"] (defScope s_law) := ⟨rfl, rfl, rfl, by decide +kernel, rfl, by decide +kernel, by decide +kernel⟩

structure Bi (K : PySem.W.Frag) (mg : Str → Option Value) : Prop where
  b_bool : mg "bool" = none
  b_int : mg "int" = none
  b_isinstance : mg "isinstance" = none
  b_len : mg "len" = none
  b_list : mg "list" = none
  b_max : mg "max" = none
  b_range : mg "range" = none
  b_set : mg "set" = none
  b_sorted : mg "sorted" = none
  b_str : mg "str" = none
  b_tuple : mg "tuple" = none
structure Im (mg : Str → Option Value) : Prop where
  i_ok : True
/-! ### draws -/
abbrev sp_l_draws : DSp := ar2 fun a b M Q => ∃ (ns : List Int) (n : Int), a = .lst (ns.map D.int) ∧ b = .int n ∧ 0 ≤ n ∧ n ≤ 4000 ∧ ∀ p o, M p = none → DrO o → Q (.ref p) (mput M p o)
theorem ok_l_draws (F : Def K mg "_law_draws" s_l_draws ["script", "many"]) (B : Bi K mg) (I : Im mg)  : Cal P w K mg base 1 "_law_draws" ["script", "many"] sp_l_draws := by
  have sc := sc_l_draws
  refine F.cal sc (fun ds M Q h => len2 h) (fun f cdv A outer s H E hr => (ds_cons (ds_setLc (i := 2) rfl sc.nd rfl rfl (sw_true rfl rfl rfl (by decide +kernel)) (own := [("cell", 8)]) (di_seq (d_v 0)) (blkOk_by (N := N_l_draws) (sc := defScope s_l_draws) (by decide +kernel)) (by decide) (fun _ _ _ _ _ => (dg_name (i := 8) sc.nd rfl (Or.inl rfl))) (fun _ _ _ _ _ => dts_nil) (fun _ _ _ _ _ => (d_ct c_int rfl B.b_int boot_int (da_cons (d_v 8) da_nil))))
    (ds_cons (ds_if (dt_cmp (o_eq (hu_eq hr)) (d_cb c_len rfl B.b_len boot_len (da_cons (d_v 2) da_nil)) d_int (nomark _))
    (ds_one (ds_expr (d_mt PySem.F.slot_list_append PySem.F.type_list_append m_append (d_v 2) (da_cons d_int da_nil))))
    ds_nil)
    (ds_cons (ds_set (i := 3) sc.nd rfl (Or.inl rfl) (d_ct c_list rfl B.b_list boot_list (da_cons (d_v 2) da_nil)))
    (ds_cons (ds_set (i := 4) sc.nd rfl (Or.inl rfl) (d_lst da_nil))
    (ds_cons (ds_for PassesOwn.never rfl (di_range1 rfl B.b_range (da_cons (d_v 1) da_nil)) (dg_name (i := 5) sc.nd rfl (Or.inl rfl))
    (ds_cons (ds_set (i := 6) sc.nd rfl (Or.inl rfl) (d_op o_mod (d_v 5) (d_cb c_len rfl B.b_len boot_len (da_cons (d_v 2) da_nil))))
    (ds_one (ds_if (dt_cmp o_ge (d_ix x_ix (d_v 2) (d_v 6) (fun _ _ => rfl)) (d_op o_pow d_int d_int) (nomark _))
    (ds_cons (ds_expr (d_mt PySem.F.slot_list_append PySem.F.type_list_append m_append (d_v 4) (da_cons (d_op o_mod (d_ct c_int rfl B.b_int boot_int (da_cons (d_ix x_ix (d_v 3) (d_v 6) (fun _ _ => rfl)) da_nil)) d_int) da_nil)))
    (ds_one (ds_put (d_op o_div (d_ix x_ix (d_v 3) (d_v 6) (fun _ _ => rfl)) d_int) (d_v 3) (d_v 6) s_lst)))
    (ds_cons (ds_set (i := 7) sc.nd rfl (Or.inl rfl) (d_op o_mod (d_ct c_int rfl B.b_int boot_int (da_cons (d_op o_add (d_op o_add (d_op o_mul (d_ix x_ix (d_v 2) (d_v 6) (fun _ _ => rfl)) d_int) (d_op o_mul (d_v 5) d_int)) d_int) da_nil)) d_int))
    (ds_one (ds_expr (d_mt PySem.F.slot_list_append PySem.F.type_list_append m_append (d_v 4) (da_cons (d_op o_mod (d_ct c_int rfl B.b_int boot_int (da_cons (d_op o_add (d_op o_add (d_op o_mul (d_v 7) (d_v 7)) (d_op o_mul d_int (d_v 7))) (d_v 5)) da_nil)) d_int) da_nil)))))))))
    (ds_cons (ds_expr (d_mt0 PySem.F.slot_list_reverse PySem.F.type_list_reverse m_reverse (d_v 4)))
    (ds_one (ds_ret (d_v 4)))))))))) (fun ds M Q h => ?_)
  obtain ⟨a, b, rfl, ns, n, rfl, rfl, h0, h1, h⟩ := h
  walk_at "st"
  intro _
  refine lc_map ns D.int D.int rfl srcV_none (fun x hx M l C1 h1 => by walk_at "s1"; exact h1) fun c hc => ?_
  refine seq_cut (fun m1 M1 => ∃ cs : List Int, cs ≠ [] ∧ M1 c = some (.lst (cs.map D.int)) ∧ MLe M M1 ∧ m1 = [some (.lst (ns.map D.int)), some (.int n), some (.ref c), none, none, none, none, none, none]) (fun Cn hC => ?_) ?_
  · walk_at "s1"
    split
    · next e =>
      refine ⟨⟨_, rfl⟩, _, rfl, ?_⟩
      have e2 : ns = [] := by
        rw [List.length_map] at e
        exact List.eq_nil_of_length_eq_zero (by omega)
      subst e2
      exact ⟨by decide, hC _ _ ⟨[0], by simp, by rw [mput_same]; rfl, MLe.put (.refl M) hc, rfl⟩⟩
    · next e =>
      refine hC _ _ ⟨ns, fun z => e ?_, mput_same, MLe.put (.refl M) hc, rfl⟩
      rw [z]
      rfl
  rintro _ M1 ⟨cs, hcs, hM1, le1, rfl⟩
  walk_at "st"
  refine ⟨_, by rw [hM1], fun l hl => ?_⟩
  have hcl : c ≠ l := ne_of_fresh hM1 hl
  walk_at "st"
  intro d hd
  have hM2 : mput M1 l (.lst (cs.map D.int)) c = some (.lst (cs.map D.int)) := by rw [mput_ne hcl]; exact hM1
  have hcd : c ≠ d := ne_of_fresh hM2 hd
  have hld : l ≠ d := ne_of_fresh mput_same hd
  have hMl : M l = none := by
    cases q : M l with
    | none => rfl
    | some o => rw [le1 l o q] at hl; cases hl
  have hMd : M d = none := by
    cases q : M d with
    | none => rfl
    | some o => rw [mput_ne hld.symm, le1 d o q] at hd; cases hd
  walk_at "st"
  refine ⟨by omega, by omega, fun _ => ?_⟩
  have hpos : (0 : Int) < (cs.length : Int) := by
    cases cs with
    | nil => exact absurd rfl hcs
    | cons x r => rw [List.length_cons]; omega
  refine for_ind (fun items m1 M2 => ∃ (ls ks : List Int) (x5 x6 x7 x8 : Option D), m1 = [some (.lst (ns.map D.int)), some (.int n), some (.ref c), some (.ref l), some (.ref d), x5, x6, x7, x8] ∧
    M2 c = some (.lst (cs.map D.int)) ∧ M2 l = some (.lst (ls.map D.int)) ∧ ls.length = cs.length ∧ M2 d = some (.lst (ks.map D.int)) ∧ ks.length + items.length ≤ 4000 ∧ MLe M M2 ∧ ∀ z ∈ items, ∃ k : Int, z = .int k ∧ 0 ≤ k ∧ k < 4000) ?_ ?_ _ _ _ ?_
  · rintro m1 M2 ⟨ls, ks, x5, x6, x7, x8, rfl, e1, e2, e3, e4, e5, e6, _⟩
    refine ⟨srcV_none, ?_⟩
    walk_at "rd"
    rw [e4]
    refine ⟨⟨_, rfl⟩, _, rfl, ?_⟩
    rw [← List.map_reverse]
    exact ret_le (MLe.with (MLe.put e6 hMd) mput_same) (h d _ hMd ⟨_, rfl⟩)
  · rintro z items m1 M2 Cn hC ⟨ls, ks, x5, x6, x7, x8, rfl, e1, e2, e3, e4, e5, e6, e7⟩
    refine ⟨srcV_none, ?_⟩
    obtain ⟨k, rfl, k0, k1⟩ := e7 z (by simp)
    rw [List.length_cons] at e5
    have hksz : ks.length < 16777216 := by omega
    have e7' : ∀ z ∈ items, ∃ k : Int, z = .int k ∧ 0 ≤ k ∧ k < 4000 := fun z hz => e7 z (by simp [hz])
    walk_at "st"
    rw [e1]
    refine ⟨_, rfl, by rw [List.length_map]; exact hpos, ?_⟩
    rw [List.length_map]
    have p0 : 0 ≤ k % (cs.length : Int) := Int.emod_nonneg _ (by omega)
    have p1 : k % (cs.length : Int) < cs.length := Int.emod_lt_of_pos _ hpos
    generalize k % (cs.length : Int) = pl at p0 p1
    obtain ⟨cv, _, hcv⟩ := atI_lt p0 p1
    obtain ⟨lv, _, hlv⟩ := atI_lt (xs := ls) p0 (by rw [e3]; exact p1)
    walk_at "s1"
    refine ⟨_, by rw [atI_map, hcv]; rfl, _, rfl, ?_⟩
    split
    · walk_at "st"
      rw [e2, e4]
      refine ⟨⟨_, rfl⟩, _, rfl, _, by rw [atI_map, hlv]; rfl, _, rfl, _, rfl, by rw [List.length_map]; exact hksz, ?_⟩
      have e2' : mput M2 d (.lst (ks.map D.int ++ [.int (lv % 1000)])) l = some (.lst (ls.map D.int)) := by rw [mput_ne hld]; exact e2
      rw [e2']
      refine ⟨_, rfl, _, by rw [atI_map, hlv]; rfl, _, rfl, _, rfl, _, ixN_lt p0 (by rw [List.length_map, e3]; exact p1), ?_⟩
      refine fg_of (hC _ _ ⟨ls.set pl.toNat (lv / 1000), ks ++ [lv % 1000], _, _, _, _, rfl, ?_, ?_, by rw [List.length_set]; exact e3, ?_, by rw [List.length_append, List.length_singleton]; omega, MLe.put (MLe.put e6 hMd) hMl, e7'⟩)
      · rw [mput_ne hcl, mput_ne hcd]
        exact e1
      · rw [mput_same, List.map_set]
      · rw [mput_ne hld.symm, mput_same, List.map_append]
        rfl
    · walk_at "st"
      rw [e1]
      refine ⟨_, rfl, _, by rw [atI_map, hcv]; rfl, _, rfl, ?_⟩
      have m0 : 0 ≤ (cv * 48271 + k * 69621 + 11) % 2147483647 := Int.emod_nonneg _ (by omega)
      have m1 : (cv * 48271 + k * 69621 + 11) % 2147483647 < 2147483647 := Int.emod_lt_of_pos _ (by omega)
      generalize (cv * 48271 + k * 69621 + 11) % 2147483647 = mx at m0 m1
      rw [e4]
      refine ⟨⟨_, rfl⟩, .inl ⟨by omega, by omega⟩, _, rfl, by rw [List.length_map]; exact hksz, ?_⟩
      refine fg_of (hC _ _ ⟨ls, ks ++ [(mx * mx + 3 * mx + k) % 1000003], _, _, _, _, rfl, ?_, ?_, e3, ?_, by rw [List.length_append, List.length_singleton]; omega, MLe.put e6 hMd, e7'⟩)
      · rw [mput_ne hcd]
        exact e1
      · rw [mput_ne hld]
        exact e2
      · rw [mput_same, List.map_append]
        rfl
  · refine ⟨cs, [], _, _, _, _, rfl, ?_, ?_, rfl, mput_same, ?_, MLe.put (MLe.put le1 hMl) hMd, fun z hz => ?_⟩
    · rw [mput_ne hcd]
      exact hM2
    · rw [mput_ne hld]
      exact mput_same
    · simp [rangeD]
      omega
    · simp only [rangeD, List.mem_map, List.mem_range] at hz
      obtain ⟨i, hi, rfl⟩ := hz
      exact ⟨_, rfl, by omega, by omega⟩
/-- the next draw -/
abbrev sp_l_take : DSp := ar2 fun a b M Q => ∃ (p : Addr) (n : Int), a = .ref p ∧ b = .int n ∧ Dr M p ∧ 0 < n ∧ ∀ (o : DO) (r : Int), DrO o → 0 ≤ r → r < n → Q (.int r) (mput M p o)
theorem ok_l_take (F : Def K mg "_law_take" s_l_take ["draws", "many"]) (B : Bi K mg) (I : Im mg)  : Cal P w K mg base 1 "_law_take" ["draws", "many"] sp_l_take := by
  have sc := sc_l_take
  refine F.cal sc (fun ds M Q h => len2 h) (fun f cdv A outer s H E hr => (ds_cons (ds_if (dt_cmp (o_eq (hu_eq hr)) (d_cb c_len rfl B.b_len boot_len (da_cons (d_v 0) da_nil)) d_int (nomark _))
    (ds_one (ds_ret d_int))
    ds_nil)
    (ds_one (ds_ret (d_op o_mod (d_ct c_int rfl B.b_int boot_int (da_cons (d_mt0 PySem.F.slot_list_pop PySem.F.type_list_pop m_pop (d_v 0)) da_nil)) (d_v 1)))))) (fun ds M Q h => ?_)
  obtain ⟨a, b, rfl, p, n, rfl, rfl, ⟨_, e, ks, rfl⟩, hn, h⟩ := h
  walk_at "rd"
  rw [e]
  refine ⟨_, rfl, ?_⟩
  split
  · have z := h _ 0 ⟨ks, rfl⟩ (by omega) hn
    rw [mput_self e] at z
    exact ret_of z
  · next ne =>
    cases q : ks.getLast? with
    | none =>
      rw [List.getLast?_eq_none_iff] at q
      subst q
      exact absurd rfl ne
    | some k =>
      refine ⟨⟨_, rfl⟩, _, rfl, _, by rw [List.getLast?_map, q]; rfl, _, rfl, hn, ?_⟩
      rw [← List.map_dropLast]
      exact ret_of (h _ _ ⟨_, rfl⟩ (Int.emod_nonneg _ (by omega)) (Int.emod_lt_of_pos _ hn))
/-- one of a row -/
abbrev sp_l_pick : DSp := ar2 fun a b M Q => ∃ (p : Addr) (row : List D), a = .ref p ∧ dItems b M = some row ∧ b ≠ .ref p ∧ Dr M p ∧ row ≠ [] ∧
  ∀ (o : DO) (x : D), DrO o → x ∈ row → Q x (mput M p o)
theorem ok_l_pick (F : Def K mg "_law_pick" s_l_pick ["draws", "row"]) (B : Bi K mg) (I : Im mg) (c_l_take : Cal P w K mg base 1 "_law_take" ["draws", "many"] sp_l_take) : Cal P w K mg base 2 "_law_pick" ["draws", "row"] sp_l_pick := by
  have sc := sc_l_pick
  refine F.cal sc (fun ds M Q h => len2 h) (fun f cdv A outer s H E hr => (ds_one (ds_ret (d_ix x_ix (d_v 1) (d_call c_l_take (hr.mono (by first | decide | omega)) rfl (da_cons (d_v 0) (da_cons (d_cb c_len rfl B.b_len boot_len (da_cons (d_v 1) da_nil)) da_nil))) (fun _ _ => rfl))))) (fun ds M Q h => ?_)
  obtain ⟨a, b, rfl, p, row, rfl, hb, hne, e, hr, h⟩ := h
  walk_at "p"
  have hl := len_items hb
  have hpos : (0 : Int) < (row.length : Int) := by
    cases row with
    | nil => exact absurd rfl hr
    | cons x r => rw [List.length_cons]; omega
  refine ⟨_, hl, e, hpos, fun o r ho r0 r1 => ?_⟩
  obtain ⟨x, hx, hat⟩ := atI_lt r0 r1
  exact ⟨row, by rw [items_put hne]; exact hb, x, hat, ret_of (h o x ho hx)⟩

/-- equal values of the same kinds -/
def spS (n : Nat) : DSp := ar2 fun a b M Q => a = b ∧ dOk n b = true ∧ Q (.bl true) M
def spS' : Nat → DSp
  | 0 => fun _ _ _ => False
  | n + 1 => spS n
abbrev sp_l_same : DSp := ar2 fun a b M Q => a = b ∧ dOk 12 b = true ∧ Q (.bl true) M
theorem l_same_list {n : Nat} {b : D} {xs : List D} (hb : ∀ M, dItems b M = some xs) (hd : dOk (n + 1) b = true) (hx : xs.all (dOk n) = true) {j : Nat} {M : DM} {C1 : D → DM → Prop} (hj : j < xs.length) (q : C1 (.bl true) M) (m : DSt) (h0 : m[0]? = some (some b)) (h1 : m[1]? = some (some b)) (h2 : m[2]? = some (some (.int j))) :
    dCall (spS n) (dCons (dOp dIx (dVar 0) (dVar 2)) (dCons (dOp dIx (dVar 1) (dVar 2)) dNil)) m M C1 := by
  have ho : dOk n xs[j] = true := List.all_eq_true.mp hx _ (List.getElem_mem hj)
  have hi : atI xs (j : Int) = some xs[j] := by rw [atI_n, List.getElem?_eq_getElem hj]
  refine ⟨b, h0, .int j, h2, xs, j, xs[j], hb M, rfl, hi, b, h1, .int j, h2, xs, j, xs[j], hb M, rfl, hi, xs[j], xs[j], rfl, rfl, ho, q⟩
theorem ok_l_same_step (F : Def K mg "_law_same" s_l_same ["actual", "due"]) (B : Bi K mg) (I : Im mg) (n : Nat) (c_l_same : Cal P w K mg base n "_law_same" ["actual", "due"] (spS' n)) : Cal P w K mg base (n + 1) "_law_same" ["actual", "due"] (spS n) := by
  have sc := sc_l_same
  refine F.cal sc (fun ds M Q h => len2 h) (fun f cdv A outer s H E hr => (ds_cons (ds_if (dt_val (d_cb c_isT rfl B.b_isinstance boot_isinstance (da_cons (d_v 1) (da_cons (d_tup (da_cons (d_ty rfl B.b_tuple boot_tuple) (da_cons (d_ty rfl B.b_list boot_list) da_nil))) da_nil))))
    (ds_cons (ds_if (dt_w (dw_or (dt_cmp (o_ne (hu_eq hr)) (d_cb c_is rfl B.b_isinstance boot_isinstance (da_cons (d_v 0) (da_cons (d_ty rfl B.b_tuple boot_tuple) da_nil))) (d_cb c_is rfl B.b_isinstance boot_isinstance (da_cons (d_v 1) (da_cons (d_ty rfl B.b_tuple boot_tuple) da_nil))) (nomark _)) (dw_or1 (dt_cmp (o_ne (hu_eq hr)) (d_cb c_is rfl B.b_isinstance boot_isinstance (da_cons (d_v 0) (da_cons (d_ty rfl B.b_list boot_list) da_nil))) (d_cb c_is rfl B.b_isinstance boot_isinstance (da_cons (d_v 1) (da_cons (d_ty rfl B.b_list boot_list) da_nil))) (nomark _)))))
    (ds_one (ds_ret d_bl))
    ds_nil)
    (ds_cons (ds_if (dt_cmp (o_ne (hu_eq hr)) (d_cb c_len rfl B.b_len boot_len (da_cons (d_v 0) da_nil)) (d_cb c_len rfl B.b_len boot_len (da_cons (d_v 1) da_nil)) (nomark _))
    (ds_one (ds_ret d_bl))
    ds_nil)
    (ds_one (ds_ret (d_cmp (o_notin (hu_in hr)) d_bl (d_lcF rfl sc.nd (own := [("k", 2)]) (di_range1 rfl B.b_range (da_cons (d_cb c_lenB rfl B.b_len boot_len (da_cons (d_v 1) da_nil)) da_nil)) (blkOk_by (N := N_l_same) (sc := defScope s_l_same) (by decide +kernel)) (by decide) (fun _ _ _ _ _ => (dg_name (i := 2) sc.nd rfl (Or.inl rfl))) (fun _ _ _ _ _ => dts_nil) (fun _ _ _ _ _ => (d_call c_l_same (hr.mono (by first | decide | omega)) rfl (da_cons (d_ix x_ix (d_v 0) (d_v 2) (fun _ _ => rfl)) (da_cons (d_ix x_ix (d_v 1) (d_v 2) (fun _ _ => rfl)) da_nil))))) rfl)))))
    ds_nil)
    (ds_cons (ds_if (dt_w (dw_or (dt_cmp (o_ne (hu_eq hr)) (d_cb c_is rfl B.b_isinstance boot_isinstance (da_cons (d_v 0) (da_cons (d_ty rfl B.b_bool boot_bool) da_nil))) (d_cb c_is rfl B.b_isinstance boot_isinstance (da_cons (d_v 1) (da_cons (d_ty rfl B.b_bool boot_bool) da_nil))) (nomark _)) (dw_or1 (dt_cmp (o_ne (hu_eq hr)) (d_cb c_is rfl B.b_isinstance boot_isinstance (da_cons (d_v 0) (da_cons (d_ty rfl B.b_int boot_int) da_nil))) (d_cb c_is rfl B.b_isinstance boot_isinstance (da_cons (d_v 1) (da_cons (d_ty rfl B.b_int boot_int) da_nil))) (nomark _)))))
    (ds_one (ds_ret d_bl))
    ds_nil)
    (ds_cons (ds_if (dt_w (dw_or (dt_cmp (o_ne (hu_eq hr)) (d_cb c_is rfl B.b_isinstance boot_isinstance (da_cons (d_v 0) (da_cons (d_ty rfl B.b_str boot_str) da_nil))) (d_cb c_is rfl B.b_isinstance boot_isinstance (da_cons (d_v 1) (da_cons (d_ty rfl B.b_str boot_str) da_nil))) (nomark _)) (dw_or1 (dt_cmp (o_ne (hu_eq hr)) (d_cmp o_is (d_v 0) d_non (nomark _)) (d_cmp o_is (d_v 1) d_non (nomark _)) (nomark _)))))
    (ds_one (ds_ret d_bl))
    ds_nil)
    (ds_one (ds_ret (d_cmp (o_eq (hu_eq hr)) (d_v 0) (d_v 1) (nomark _)))))))) (fun ds M Q h => ?_)
  obtain ⟨b, _, rfl, rfl, hb, h⟩ := h
  cases b with
  | non =>
    walk_at "rd"
    exact ret_of h
  | bl i =>
    walk_at "rd"
    exact ret_of h
  | int i =>
    walk_at "rd"
    exact ret_of h
  | str x =>
    have hx : PyData.strOk x = true := by
      rw [dOk_str] at hb
      exact hb
    walk_at "rd"
    exact ⟨hx, hx, ret_of h⟩
  | tup xs =>
    cases n with
    | zero => cases hb
    | succ n =>
      have hx : xs.all (dOk n) = true := hb
      walk_at "rd"
      intro hz
      refine ⟨by omega, by omega, fun _ => ?_⟩
      refine lc_map (List.range xs.length) (fun i => D.int (0 + (i : Nat))) (fun _ => .bl true) (by simp [rangeD]) srcV_none (fun x hx' M l C1 h1 => ?_) fun p hp => ?_
      · exact l_same_list (fun _ => rfl) hb hx (List.mem_range.mp hx') h1 _ rfl rfl (by simp)
      · simp only [mdel_mput hp]
        refine ⟨by simp, ?_⟩
        have e : (List.map (fun _ : Nat => D.bl true) (List.range xs.length)).any (fun z => z.eqv (D.bl false)) = false := by
          rw [List.any_map]
          simp [eqv_bl]
        rw [e]
        exact ret_of h
  | lst xs =>
    cases n with
    | zero => cases hb
    | succ n =>
      have hx : xs.all (dOk n) = true := hb
      walk_at "rd"
      intro hz
      refine ⟨by omega, by omega, fun _ => ?_⟩
      refine lc_map (List.range xs.length) (fun i => D.int (0 + (i : Nat))) (fun _ => .bl true) (by simp [rangeD]) srcV_none (fun x hx' M l C1 h1 => ?_) fun p hp => ?_
      · exact l_same_list (fun _ => rfl) hb hx (List.mem_range.mp hx') h1 _ rfl rfl (by simp)
      · simp only [mdel_mput hp]
        refine ⟨by simp, ?_⟩
        have e : (List.map (fun _ : Nat => D.bl true) (List.range xs.length)).any (fun z => z.eqv (D.bl false)) = false := by
          rw [List.any_map]
          simp [eqv_bl]
        rw [e]
        exact ret_of h
  | dct _ => cases n <;> cases hb
  | ref _ => cases n <;> cases hb
  | ty _ => cases n <;> cases hb
theorem ok_l_same (F : Def K mg "_law_same" s_l_same ["actual", "due"]) (B : Bi K mg) (I : Im mg) : Cal P w K mg base 13 "_law_same" ["actual", "due"] sp_l_same := by
  have z : ∀ n : Nat, Cal P w K mg base (n + 1) "_law_same" ["actual", "due"] (spS n) := by
    intro n
    induction n with
    | zero => exact ok_l_same_step F B I 0 F.nil
    | succ n ih => exact ok_l_same_step F B I (n + 1) ih
  exact z 12
/-! ### words -/
def wok (B : Nat) (w : Str) : Prop := 1 ≤ w.length ∧ w.length ≤ B ∧ (∀ c ∈ w.cps.toList, 97 ≤ c ∧ c ≤ 122) ∧ (w.length ≤ 25 ∨ ∀ c ∈ w.cps.toList, c = 122)
theorem wok_mono {A B : Nat} {w : Str} (h : wok A w) (l : A ≤ B) : wok B w := ⟨h.1, Nat.le_trans h.2.1 l, h.2.2⟩
theorem wok_str {B : Nat} {w : Str} (h : wok B w) : PyData.strOk w = true := by
  unfold PyData.strOk
  rw [← Array.all_toList]
  refine List.all_eq_true.mpr fun c hc => ?_
  have := (h.2.2.1 c hc).2
  exact decide_eq_true (by omega)
theorem alpha_sgn {i : Int} (h0 : 0 ≤ i) (h1 : i < 26) : ∃ c : Nat, sgn "abcdefghijklmnopqrstuvwxyz" i = some (SS [c]) ∧ 97 ≤ c ∧ c ≤ 122 := by
  have z : ∀ n : Fin 26, ∃ c : Nat, sgn "abcdefghijklmnopqrstuvwxyz" ((n.val : Nat) : Int) = some (SS [c]) ∧ 97 ≤ c ∧ c ≤ 122 := by
    intro n
    refine ⟨97 + n.val, ?_, by omega, by omega⟩
    revert n
    decide +kernel
  obtain ⟨n, rfl⟩ := Int.eq_ofNat_of_zero_le h0
  exact z ⟨n, by omega⟩
theorem ss_len (cs : List Nat) : (SS cs).length = cs.length := by simp [Str.length]
theorem srep_z {n c : Nat} (h : c ∈ (srep (Str.ofString "z") n).cps.toList) : c = 122 := by
  have e : (Str.ofString "z").cps.toList = [122] := by decide +kernel
  have h' : c ∈ (List.replicate n [122]).flatten := by simpa [srep, e] using h
  obtain ⟨l, hl, hc⟩ := List.mem_flatten.mp h'
  rw [(List.mem_replicate.mp hl).2] at hc
  simpa using hc
abbrev sp_l_words : DSp := ar2 fun a b M Q => ∃ (p : Addr) (n : Nat), a = .ref p ∧ b = .int n ∧ n ≤ 100 ∧ Dr M p ∧ ∀ (o : DO) (ws : List Str), DrO o → ws.length = n → ws.Nodup → (∀ w ∈ ws, wok (25 + n) w) → Q (.lst (ws.map D.str)) (mput M p o)
theorem ok_l_words (F : Def K mg "_law_words" s_l_words ["draws", "many"]) (B : Bi K mg) (I : Im mg) (c_l_take : Cal P w K mg base 1 "_law_take" ["draws", "many"] sp_l_take) : Cal P w K mg base 2 "_law_words" ["draws", "many"] sp_l_words := by
  have sc := sc_l_words
  refine F.cal sc (fun ds M Q h => len2 h) (fun f cdv A outer s H E hr => (ds_cons (ds_set (i := 2) sc.nd rfl (Or.inl rfl) (d_lst da_nil))
    (ds_cons (ds_for PassesOwn.never rfl (di_range1 rfl B.b_range (da_cons (d_v 1) da_nil)) (dg_name (i := 3) sc.nd rfl (Or.inl rfl))
    (ds_cons (ds_set (i := 4) sc.nd rfl (Or.inl rfl) (d_op o_add d_int (d_call c_l_take (hr.mono (by first | decide | omega)) rfl (da_cons (d_v 0) (da_cons d_int da_nil)))))
    (ds_cons (ds_if (dt_cmp (o_eq (hu_eq hr)) (d_call c_l_take (hr.mono (by first | decide | omega)) rfl (da_cons (d_v 0) (da_cons d_int da_nil))) d_int (nomark _))
    (ds_one (ds_set (i := 4) sc.nd rfl (Or.inl rfl) (d_op o_add (d_op o_add (d_v 4) d_int) (d_call c_l_take (hr.mono (by first | decide | omega)) rfl (da_cons (d_v 0) (da_cons d_int da_nil))))))
    ds_nil)
    (ds_cons (ds_set (i := 5) sc.nd rfl (Or.inl rfl) (d_join d_str (da_cons (d_lcF rfl sc.nd (own := [("j", 6)]) (di_range1 rfl B.b_range (da_cons (d_v 4) da_nil)) (blkOk_by (N := N_l_words) (sc := defScope s_l_words) (by decide +kernel)) (by decide) (fun _ _ _ _ _ => (dg_name (i := 6) sc.nd rfl (Or.inl rfl))) (fun _ _ _ _ _ => dts_nil) (fun _ _ _ _ _ => (d_ix x_ixS d_str (d_call c_l_take (hr.mono (by first | decide | omega)) rfl (da_cons (d_v 0) (da_cons d_int da_nil))) (fun _ _ => rfl)))) da_nil)))
    (ds_cons (ds_if (dt_cmp (o_in (hu_in hr)) (d_v 5) (d_v 2) rfl)
    (ds_one (ds_set (i := 5) sc.nd rfl (Or.inl rfl) (d_op o_mulA d_str (d_op o_add d_int (d_cb (c_max rfl) rfl B.b_max boot_max (da_cons (d_lcF rfl sc.nd (own := [("other", 7)]) (di_seq (d_v 2)) (blkOk_by (N := N_l_words) (sc := defScope s_l_words) (by decide +kernel)) (by decide) (fun _ _ _ _ _ => (dg_name (i := 7) sc.nd rfl (Or.inl rfl))) (fun _ _ _ _ _ => dts_nil) (fun _ _ _ _ _ => (d_cb c_len rfl B.b_len boot_len (da_cons (d_v 7) da_nil)))) da_nil))))))
    ds_nil)
    (ds_one (ds_expr (d_mt PySem.F.slot_list_append PySem.F.type_list_append m_append (d_v 2) (da_cons (d_v 5) da_nil)))))))))
    (ds_one (ds_ret (d_fz (d_v 2))))))) (fun ds M Q h => ?_)
  obtain ⟨a, b, rfl, p, n, rfl, rfl, hn, ⟨o0, e0, ho0⟩, h⟩ := h
  walk_at "st"
  intro q hq
  have hpq : p ≠ q := ne_of_fresh e0 hq
  walk_at "st"
  refine ⟨by omega, by omega, fun _ => ?_⟩
  have hl : (rangeD 0 ((n : Int)).toNat).length = n := by simp [rangeD]
  generalize rangeD 0 ((n : Int)).toNat = items at hl
  refine for_ind (fun items m1 M1 => ∃ (o : DO) (ws : List Str) (x3 x4 x5 x6 x7 : Option D), m1 = [some (.ref p), some (.int n), some (.ref q), x3, x4, x5, x6, x7] ∧ DrO o ∧ M1 = mput (mput M p o) q (.lst (ws.map D.str)) ∧
    ws.length + items.length = n ∧ ws.Nodup ∧ ∀ w ∈ ws, wok (25 + ws.length) w) ?_ ?_ _ _ _ ?_
  · rintro m1 M1 ⟨o, ws, x3, x4, x5, x6, x7, rfl, ho, rfl, e1, e2, e3⟩
    refine ⟨srcV_none, ?_⟩
    walk_at "rd"
    have e1' : ws.length = n := by simpa using e1
    refine ⟨_, rfl, ?_⟩
    rw [mdel_mput (mput_fresh hpq hq)]
    exact ret_of (h o ws ho e1' e2 (by rw [← e1']; exact e3))
  · rintro z items m1 M1 Cn hC ⟨o, ws, x3, x4, x5, x6, x7, rfl, ho, rfl, e1, e2, e3⟩
    refine ⟨srcV_none, ?_⟩
    rw [List.length_cons] at e1
    walk_at "st"
    refine ⟨dr_ne (dr_put ho) hpq, fun o1 r1 ho1 r10 r11 => ?_⟩
    rw [mput_swap hpq]
    have hd : ∀ o', DrO o' → Dr (mput (mput M p o') q (.lst (ws.map D.str))) p := fun o' ho' => dr_ne (dr_put ho') hpq
    refine seq_cut (fun m2 M2 => ∃ (o2 : DO) (s : Nat), DrO o2 ∧ 1 ≤ s ∧ s ≤ 25 ∧ M2 = mput (mput M p o2) q (.lst (ws.map D.str)) ∧ m2 = [some (.ref p), some (.int n), some (.ref q), some z, some (.int s), x5, x6, x7]) (fun Cn2 hC2 => ?_) ?_
    · walk_at "s1"
      refine ⟨hd o1 ho1, fun o2 r2 ho2 r20 r21 => ?_⟩
      rw [mput_swap hpq]
      split
      · refine ⟨hd o2 ho2, fun o3 r3 ho3 r30 r31 => ?_⟩
        rw [mput_swap hpq]
        refine hC2 _ _ ⟨o3, (1 + r1 + 3 + r3).toNat, ho3, by omega, by omega, rfl, ?_⟩
        have e : (((1 + r1 + 3 + r3).toNat : Nat) : Int) = 1 + r1 + 3 + r3 := by omega
        rw [e]
      · refine hC2 _ _ ⟨o2, (1 + r1).toNat, ho2, by omega, by omega, rfl, ?_⟩
        have e : (((1 + r1).toNat : Nat) : Int) = 1 + r1 := by omega
        rw [e]
    rintro m2 M2 ⟨o2, s, ho2, s0, s1, rfl, rfl⟩
    walk_at "st"
    refine ⟨by omega, by omega, fun _ r hr => ?_⟩
    have hpr : p ≠ r := by
      obtain ⟨o', e', _⟩ := hd o2 ho2
      exact ne_of_fresh e' hr
    have hqr : q ≠ r := ne_of_fresh mput_same hr
    have hrM : M r = none := by
      rw [mput_ne hqr.symm, mput_ne hpr.symm] at hr
      exact hr
    have hl2 : (rangeD 0 ((s : Int)).toNat).length = s := by simp [rangeD]
    generalize rangeD 0 ((s : Int)).toNat = its at hl2
    refine lc_ind (fun its acc M3 => ∃ (o3 : DO) (cs : List Nat), DrO o3 ∧ M3 = mput (mput (mput M p o3) q (.lst (ws.map D.str))) r (.lst acc) ∧ acc = (cs.map fun c => SS [c]).map D.str ∧ cs.length + its.length = s ∧ ∀ c ∈ cs, 97 ≤ c ∧ c ≤ 122) ?_ ?_ _ _ _ ?_
    · rintro acc M3 ⟨o3, cs, ho3, rfl, rfl, f1, f2⟩
      refine ⟨srcV_none, ?_⟩
      have f1' : cs.length = s := by simpa using f1
      have hfr : mput (mput M p o3) q (.lst (ws.map D.str)) r = none := by
        rw [mput_ne hqr.symm, mput_ne hpr.symm]
        exact hrM
      rw [mdel_mput hfr]
      refine ⟨cs.map fun c => SS [c], rfl, ?_, ?_⟩
      · rw [len_one, List.length_map]
        show _ + _ * 0 ≤ _
        omega
      rw [DL.join_one]
      have wk : wok 25 (SS cs) := ⟨by rw [ss_len]; omega, by rw [ss_len]; omega, f2, .inl (by rw [ss_len]; omega)⟩
      refine seq_cut (fun m4 M4 => ∃ (w : Str) (x7' : Option D), wok (25 + (ws.length + 1)) w ∧ w ∉ ws ∧ M4 = mput (mput M p o3) q (.lst (ws.map D.str)) ∧ m4 = [some (.ref p), some (.int n), some (.ref q), some z, some (.int s), some (.str w), x6, x7']) (fun Cn4 hC4 => ?_) ?_
      · have hws : (ws.map D.str).all (dOk 63) = true := by
          rw [List.all_map]
          exact List.all_eq_true.mpr fun w hw => by
            show dOk 63 (.str w) = true
            rw [dOk_str]
            exact wok_str (e3 w hw)
        walk_at "s1"
        refine ⟨wok_str wk, hws, ?_⟩
        rw [any_strs]
        split
        · next hin =>
          have hin' : SS cs ∈ ws := by simpa using hin
          intro _
          refine lc_map (ws) D.str (fun w => D.int (w.length : Nat)) rfl (fun a e => by cases e; exact mput_same) (fun w hw M5 l5 C1 h5 => ?_) fun r5 hr5 => ?_
          · walk_at "s1"
            have := (e3 w hw).2.1
            exact ⟨_, by rw [if_pos (by omega)], h5⟩
          · rw [mdel_mput hr5]
            refine ⟨ws.map fun w => ((w.length : Nat) : Int), by rw [List.map_map] <;> rfl, ?_, fun mx hmx hle => ?_⟩
            · rw [List.length_map]
              exact List.length_pos_of_mem hin'
            obtain ⟨w0, hw0, rfl⟩ := List.mem_map.mp hmx
            have b0 := (e3 w0 hw0).2.1
            have e5 : (1 + ((w0.length : Nat) : Int)).toNat = 1 + w0.length := by omega
            rw [e5]
            have e6 : (Str.ofString "z").length = 1 := by decide +kernel
            have e7 : (srep (Str.ofString "z") (1 + w0.length)).length = 1 + w0.length := by rw [srep_len, e6, Nat.one_mul]
            refine ⟨by omega, by omega, by rw [e6]; omega, hC4 _ _ ⟨_, _, ⟨by rw [e7]; omega, by rw [e7]; omega, ?_, .inr ?_⟩, ?_, rfl, rfl⟩⟩
            · intro c hc
              have : c = 122 := srep_z hc
              omega
            · exact fun c hc => srep_z hc
            · intro hm
              have := hle _ (List.mem_map.mpr ⟨_, hm, rfl⟩)
              rw [e7] at this
              omega
        · next hin => exact hC4 _ _ ⟨SS cs, _, wok_mono wk (by omega), by simpa using hin, rfl, rfl⟩
      rintro m4 M4 ⟨w, x7', hw, hnw, rfl, rfl⟩
      walk_at "rd"
      refine ⟨⟨_, rfl⟩, _, rfl, by rw [List.length_map]; omega, fg_of (hC _ _ ⟨o3, ws ++ [w], _, _, _, _, _, rfl, ho3, ?_, by rw [List.length_append, List.length_singleton]; omega, ?_, ?_⟩)⟩
      · rw [List.map_append]
        rfl
      · rw [List.nodup_append]
        refine ⟨e2, by simp, fun a ha b hb => ?_⟩
        have hb' : b = w := by simpa using hb
        rw [hb']
        exact fun e => hnw (e ▸ ha)
      · intro u hu
        rw [List.length_append, List.length_singleton]
        rcases List.mem_append.mp hu with hu | hu
        · exact wok_mono (e3 u hu) (by omega)
        · have hu' : u = w := by simpa using hu
          rw [hu']
          exact hw
    · rintro d its acc M3 Cn5 hC5 ⟨o3, cs, ho3, rfl, rfl, f1, f2⟩
      refine ⟨srcV_none, ?_⟩
      rw [List.length_cons] at f1
      walk_at "s1"
      refine ⟨dr_ne (dr_ne (dr_put ho3) hpq) hpr, fun o4 i ho4 i0 i1 => ?_⟩
      obtain ⟨c, hc, c0, c1⟩ := alpha_sgn i0 i1
      refine ⟨by decide +kernel, _, hc, ?_⟩
      rw [mput_comm hpr.symm, mput_swap hpq]
      refine ⟨mput_same, ?_⟩
      rw [mput_mput]
      refine hC5 _ _ ⟨o4, cs ++ [c], ho4, rfl, by simp, by rw [List.length_append, List.length_singleton]; omega, ?_⟩
      intro e he
      rcases List.mem_append.mp he with he | he
      · exact f2 e he
      · have : e = c := by simpa using he
        omega
    · exact ⟨o2, [], ho2, rfl, rfl, by simpa using hl2, by simp⟩
  · exact ⟨o0, [], _, _, _, _, _, rfl, ho0, by rw [mput_self e0]; rfl, by simpa using hl, by simp, by simp⟩
/-! ### entries of a schema: a name, how many keys, how many others -/
abbrev Ent := Str × Nat × Nat
def enE (e : Ent) : D := .tup [.str e.1, .int e.2.1, .int e.2.2]
theorem items_enE {e : Ent} {M : DM} : dItems (enE e) M = some [.str e.1, .int e.2.1, .int e.2.2] := rfl
local macro_rules | `(tactic| walk_at "rd") => `(tactic| simp only [dSeq, dSet, dIf, dTst, dOp, dVar, dC, dRet, dRetN, dNext, dDrop, dBreak, dCont, dAnd, dOr, dNot, dAndV, dOrV, dNotV, dIfE, dTup, dLstF, dLst, dCons, dNil, dCB, dCall, dUn, dNegI,
  dI, dI0, dEq, dNe, dIs, dIsNot, dIn, dNotIn, dIx, isN_non, isN_bl, isN_int, isN_str, isN_tup, isN_lst, isN_rf, DL.rLen, rInt, rAbs, rMax2, rMin2, DL.rGcd, rTuple, rList, rIs, rIsT, ar0, ar1, ar2, ar3, ar4, ar5, ar6, ar7, ar8, dEnds, dMt, dMt0, mAppend, mPop, mReverse, dSetL, dPut, dAsg, dgName, dgTup, dgCons, dgNil,
  dFor, diSeq, diRng1, diRng2, dLcF, dLc, dwipe, dFz,
  dstart, List.map_cons, List.map_nil, List.length_cons, List.length_nil, List.cons_append, List.nil_append, List.append_nil, List.replicate, Nat.reduceAdd, Nat.reduceSub, Nat.reduceLeDiff, Int.reduceNeg, List.set_cons_zero, List.set_cons_succ,
  List.getElem?_cons_zero, List.getElem?_cons_succ, Option.some.injEq, exists_eq_left', exists_eq_left, exists_eq_right, exists_eq, exists_and_left, exists_and_right, D.int.injEq, D.bl.injEq, D.str.injEq, D.tup.injEq, D.lst.injEq, D.ref.injEq, D.ty.injEq, D.dct.injEq,
  List.cons.injEq, and_assoc, and_true, true_and, and_self, reduceCtorEq, false_and, and_false, if_true, if_false, if_pos, ite_true, ite_false, Bool.false_eq_true, decide_eq_true_eq, Bool.not_eq_true', decide_eq_false_iff_not, Bool.not_true, Bool.not_false, decide_true, decide_false,
  eqv_int, eqv_str, eqv_bl, dOk_int, dOk_bl, dOk_non, dOk_tup, dOk_lst, dOk_str, List.all_cons, List.all_nil, Bool.and_true, Bool.true_and, Bool.and_self, dItems_tup, dItems_lst, dItems_rf, CMulA, CDivA, CPowA, Int.reduceLT, Int.reduceLE, Int.reducePow, Int.reduceToNat, Int.reduceMul, Int.reduceAdd, Int.reduceSub, Nat.reducePow, true_or, or_true, ne_eq, not_false_eq_true, not_true_eq_false, dAt_tup, dAt_lst, dAt_rf, dLenOf_tup, dLenOf_lst, dLenOf_rf, dLenOf_str, dTyN_non, dTyN_bl, dTyN_int, dTyN_str, dTyN_tup, dTyN_lst, dTyN_dct, dTyN_rf, dIntOf_int, dIntOf_bl, knownT, subT, atI_0, atI_1, atI_2, atI_3, atI_4, atI_5, atI_neg1, mput_same, mput_mput, eqv_non, tyNames, Option.map_some, String.reduceBEq, Bool.or_true, Bool.true_or, Bool.or_false, Bool.false_or, Bool.false_and, Bool.and_false, beq_self_eq_true, BEq.rfl, List.any_cons, List.any_nil, sizeLine_eq, rLenB, Bool.true_eq_false, implies_true, Nat.zero_le, Bool.or_self, String.reduceEq, dAdd_ii, dAdd_ss, dAdd_tt, dMulA_ii, dMulA_si, dIxS_str, dIxS_tup, dIxS_lst, dIxS_ref, dCat, dCatF, dRep, dSl, dNoP, dPart, dJoin, mExtend, mIndex, rAnyL, rAllL, rSumL, rMaxL, rMinL, dLRg, diEnum, rSortD, dLc2F, dLc2, dYes, diEnumT, dSlS, rSortK, dFzS, dTupRev, diRev, diZip, dMulT, zipD, dDc, dDGet1, dLtD, dGtD, rListK, dUpper, diStr, dInS, dSortL, dSortSet, dSortSetT, dLenSetT, dStar, rIntS, rStrI, dKIx, dKIn, dKNotIn, rLenK, dKNew, dFzK, dFzD, dKPut, diKeys, diVals, diItems, mInsert, mPopAt, dKGet1, dKGet2, dKc, dDict_dct, dDict_put, isKb_int, isKb_str, true_implies, false_implies, items_enE])
local macro_rules | `(tactic| walk_at "st") => `(tactic| (refine seq_i ?_; simp only [dSet, dIf, dTst, dOp, dVar, dC, dRet, dRetN, dNext, dDrop, dBreak, dCont, dAnd, dOr, dNot, dAndV, dOrV, dNotV, dIfE, dTup, dLstF, dLst, dCons, dNil, dCB, dCall, dUn, dNegI,
  dI, dI0, dEq, dNe, dIs, dIsNot, dIn, dNotIn, dIx, isN_non, isN_bl, isN_int, isN_str, isN_tup, isN_lst, isN_rf, DL.rLen, rInt, rAbs, rMax2, rMin2, DL.rGcd, rTuple, rList, rIs, rIsT, ar0, ar1, ar2, ar3, ar4, ar5, ar6, ar7, ar8, dEnds, dMt, dMt0, mAppend, mPop, mReverse, dSetL, dPut, dAsg, dgName, dgTup, dgCons, dgNil,
  dFor, diSeq, diRng1, diRng2, dLcF, dLc, dwipe, dFz,
  dstart, List.map_cons, List.map_nil, List.length_cons, List.length_nil, List.cons_append, List.nil_append, List.append_nil, List.replicate, Nat.reduceAdd, Nat.reduceSub, Nat.reduceLeDiff, Int.reduceNeg, List.set_cons_zero, List.set_cons_succ,
  List.getElem?_cons_zero, List.getElem?_cons_succ, Option.some.injEq, exists_eq_left', exists_eq_left, exists_eq_right, exists_eq, exists_and_left, exists_and_right, D.int.injEq, D.bl.injEq, D.str.injEq, D.tup.injEq, D.lst.injEq, D.ref.injEq, D.ty.injEq, D.dct.injEq,
  List.cons.injEq, and_assoc, and_true, true_and, and_self, reduceCtorEq, false_and, and_false, if_true, if_false, if_pos, ite_true, ite_false, Bool.false_eq_true, decide_eq_true_eq, Bool.not_eq_true', decide_eq_false_iff_not, Bool.not_true, Bool.not_false, decide_true, decide_false,
  eqv_int, eqv_str, eqv_bl, dOk_int, dOk_bl, dOk_non, dOk_tup, dOk_lst, dOk_str, List.all_cons, List.all_nil, Bool.and_true, Bool.true_and, Bool.and_self, dItems_tup, dItems_lst, dItems_rf, CMulA, CDivA, CPowA, Int.reduceLT, Int.reduceLE, Int.reducePow, Int.reduceToNat, Int.reduceMul, Int.reduceAdd, Int.reduceSub, Nat.reducePow, true_or, or_true, ne_eq, not_false_eq_true, not_true_eq_false, dAt_tup, dAt_lst, dAt_rf, dLenOf_tup, dLenOf_lst, dLenOf_rf, dLenOf_str, dTyN_non, dTyN_bl, dTyN_int, dTyN_str, dTyN_tup, dTyN_lst, dTyN_dct, dTyN_rf, dIntOf_int, dIntOf_bl, knownT, subT, atI_0, atI_1, atI_2, atI_3, atI_4, atI_5, atI_neg1, mput_same, mput_mput, eqv_non, tyNames, Option.map_some, String.reduceBEq, Bool.or_true, Bool.true_or, Bool.or_false, Bool.false_or, Bool.false_and, Bool.and_false, beq_self_eq_true, BEq.rfl, List.any_cons, List.any_nil, sizeLine_eq, rLenB, Bool.true_eq_false, implies_true, Nat.zero_le, Bool.or_self, String.reduceEq, dAdd_ii, dAdd_ss, dAdd_tt, dMulA_ii, dMulA_si, dIxS_str, dIxS_tup, dIxS_lst, dIxS_ref, dCat, dCatF, dRep, dSl, dNoP, dPart, dJoin, mExtend, mIndex, rAnyL, rAllL, rSumL, rMaxL, rMinL, dLRg, diEnum, rSortD, dLc2F, dLc2, dYes, diEnumT, dSlS, rSortK, dFzS, dTupRev, diRev, diZip, dMulT, zipD, dDc, dDGet1, dLtD, dGtD, rListK, dUpper, diStr, dInS, dSortL, dSortSet, dSortSetT, dLenSetT, dStar, rIntS, rStrI, dKIx, dKIn, dKNotIn, rLenK, dKNew, dFzK, dFzD, dKPut, diKeys, diVals, diItems, mInsert, mPopAt, dKGet1, dKGet2, dKc, dDict_dct, dDict_put, isKb_int, isKb_str, true_implies, false_implies, items_enE]))
local macro_rules | `(tactic| walk_at "p") => `(tactic| simp only [dRet, dOp, dVar, dCall, dCB, dCons, dNil, ar0, ar1, ar2, ar3, ar4, ar5, DL.rLen, dIx, dEnds, dstart, List.map_cons, List.map_nil, List.length_cons, List.length_nil, List.cons_append, List.nil_append, List.replicate, Nat.reduceAdd, Nat.reduceSub, Nat.reduceLeDiff, List.getElem?_cons_zero, List.getElem?_cons_succ, Option.some.injEq, exists_eq_left', exists_eq_left, exists_and_left, exists_and_right, List.cons.injEq, and_assoc, and_true, true_and, D.ref.injEq, D.int.injEq])
local macro_rules | `(tactic| walk_at "s1") => `(tactic| simp only [dSet, dIf, dTst, dOp, dVar, dC, dRet, dRetN, dNext, dDrop, dBreak, dCont, dAnd, dOr, dNot, dAndV, dOrV, dNotV, dIfE, dTup, dLstF, dLst, dCons, dNil, dCB, dCall, dUn, dNegI,
  dI, dI0, dEq, dNe, dIs, dIsNot, dIn, dNotIn, dIx, isN_non, isN_bl, isN_int, isN_str, isN_tup, isN_lst, isN_rf, DL.rLen, rInt, rAbs, rMax2, rMin2, DL.rGcd, rTuple, rList, rIs, rIsT, ar0, ar1, ar2, ar3, ar4, ar5, ar6, ar7, ar8, dEnds, dMt, dMt0, mAppend, mPop, mReverse, dSetL, dPut, dAsg, dgName, dgTup, dgCons, dgNil,
  dFor, diSeq, diRng1, diRng2, dLcF, dLc, dwipe, dFz,
  dstart, List.map_cons, List.map_nil, List.length_cons, List.length_nil, List.cons_append, List.nil_append, List.append_nil, List.replicate, Nat.reduceAdd, Nat.reduceSub, Nat.reduceLeDiff, Int.reduceNeg, List.set_cons_zero, List.set_cons_succ,
  List.getElem?_cons_zero, List.getElem?_cons_succ, Option.some.injEq, exists_eq_left', exists_eq_left, exists_eq_right, exists_eq, exists_and_left, exists_and_right, D.int.injEq, D.bl.injEq, D.str.injEq, D.tup.injEq, D.lst.injEq, D.ref.injEq, D.ty.injEq, D.dct.injEq,
  List.cons.injEq, and_assoc, and_true, true_and, and_self, reduceCtorEq, false_and, and_false, if_true, if_false, if_pos, ite_true, ite_false, Bool.false_eq_true, decide_eq_true_eq, Bool.not_eq_true', decide_eq_false_iff_not, Bool.not_true, Bool.not_false, decide_true, decide_false,
  eqv_int, eqv_str, eqv_bl, dOk_int, dOk_bl, dOk_non, dOk_tup, dOk_lst, dOk_str, List.all_cons, List.all_nil, Bool.and_true, Bool.true_and, Bool.and_self, dItems_tup, dItems_lst, dItems_rf, CMulA, CDivA, CPowA, Int.reduceLT, Int.reduceLE, Int.reducePow, Int.reduceToNat, Int.reduceMul, Int.reduceAdd, Int.reduceSub, Nat.reducePow, true_or, or_true, ne_eq, not_false_eq_true, not_true_eq_false, dAt_tup, dAt_lst, dAt_rf, dLenOf_tup, dLenOf_lst, dLenOf_rf, dLenOf_str, dTyN_non, dTyN_bl, dTyN_int, dTyN_str, dTyN_tup, dTyN_lst, dTyN_dct, dTyN_rf, dIntOf_int, dIntOf_bl, knownT, subT, atI_0, atI_1, atI_2, atI_3, atI_4, atI_5, atI_neg1, mput_same, mput_mput, eqv_non, tyNames, Option.map_some, String.reduceBEq, Bool.or_true, Bool.true_or, Bool.or_false, Bool.false_or, Bool.false_and, Bool.and_false, beq_self_eq_true, BEq.rfl, List.any_cons, List.any_nil, sizeLine_eq, rLenB, Bool.true_eq_false, implies_true, Nat.zero_le, Bool.or_self, String.reduceEq, dAdd_ii, dAdd_ss, dAdd_tt, dMulA_ii, dMulA_si, dIxS_str, dIxS_tup, dIxS_lst, dIxS_ref, dCat, dCatF, dRep, dSl, dNoP, dPart, dJoin, mExtend, mIndex, rAnyL, rAllL, rSumL, rMaxL, rMinL, dLRg, diEnum, rSortD, dLc2F, dLc2, dYes, diEnumT, dSlS, rSortK, dFzS, dTupRev, diRev, diZip, dMulT, zipD, dDc, dDGet1, dLtD, dGtD, rListK, dUpper, diStr, dInS, dSortL, dSortSet, dSortSetT, dLenSetT, dStar, rIntS, rStrI, dKIx, dKIn, dKNotIn, rLenK, dKNew, dFzK, dFzD, dKPut, diKeys, diVals, diItems, mInsert, mPopAt, dKGet1, dKGet2, dKc, dDict_dct, dDict_put, isKb_int, isKb_str, true_implies, false_implies, items_enE])
def unE : D → Ent
  | .tup [.str n, .int k, .int o] => (n, k.toNat, o.toNat)
  | _ => ("", 0, 0)
theorem unE_enE (e : Ent) : unE (enE e) = e := by
  obtain ⟨n, k, o⟩ := e
  simp [unE, enE]
theorem sort_ents (es : List Ent) : ∃ fs : List Ent, srtD (es.map enE) = fs.map enE ∧ fs.Perm es := by
  have hp := srtD_perm (es.map enE)
  refine ⟨(srtD (es.map enE)).map unE, ?_, ?_⟩
  · rw [List.map_map]
    conv => lhs; rw [← List.map_id (srtD (es.map enE))]
    refine List.map_congr_left fun x hx => ?_
    obtain ⟨e, _, rfl⟩ := List.mem_map.mp (hp.mem_iff.mp hx)
    show enE e = enE (unE (enE e))
    rw [unE_enE]
  · have := hp.map unE
    rw [List.map_map] at this
    have e : List.map (unE ∘ enE) es = es := by
      conv => rhs; rw [← List.map_id es]
      exact List.map_congr_left fun x _ => unE_enE x
    rw [e] at this
    exact this
open PySem.W (AllAlike Sortable alike alikeAll) in
theorem ents_alike (es : List Ent) : AllAlike ((es.map enE).map D.py) := by
  intro d hd d' hd'
  simp only [List.mem_map] at hd hd'
  obtain ⟨_, ⟨e, _, rfl⟩, rfl⟩ := hd
  obtain ⟨_, ⟨f, _, rfl⟩, rfl⟩ := hd'
  simp [enE, D.py, D.pys, alike, alikeAll]
open PySem.W (AllAlike Sortable alike alikeAll) in
theorem ents_sortable (es : List Ent) : Sortable ((es.map enE).map D.py) := by
  refine .inl fun d hd => ?_
  simp only [List.mem_map] at hd
  obtain ⟨_, ⟨e, _, rfl⟩, rfl⟩ := hd
  exact ⟨_, _, by simp only [enE, D.py, D.pys] <;> rfl⟩
theorem ents_ok {es : List Ent} (h : ∀ e ∈ es, PyData.strOk e.1 = true) : (es.map enE).all (dOk 32) = true := by
  rw [List.all_map]
  refine List.all_eq_true.mpr fun e he => ?_
  show dOk 32 (enE e) = true
  simp [enE, dOk_str, h e he]

/-- a form of a table -/
def fmOk (d : D) : Prop := ∃ k o : Nat, d = .tup [.int k, .int o] ∧ k + o ≤ 8
theorem fm_mk {k o : Nat} (h : k + o ≤ 8) : fmOk (.tup [.int (k : Nat), .int (o : Nat)]) := ⟨k, o, rfl, h⟩
def enOk (e : Ent) : Prop := PyData.strOk e.1 = true ∧ e.2.1 + e.2.2 ≤ 8
abbrev sp_l_schema : DSp := ar2 fun a b M Q => ∃ (p : Addr) (w0 w1 w2 : Str) (ws : List D), a = .ref p ∧ b = .lst (.str w0 :: .str w1 :: .str w2 :: ws) ∧ Dr M p ∧ PyData.strOk w0 = true ∧ PyData.strOk w1 = true ∧ PyData.strOk w2 = true ∧
  ∀ (o : DO) (sc : List Ent), DrO o → (∀ e ∈ sc, enOk e) → (∃ e ∈ sc, 0 < e.2.2) → ((sc.map (·.1)).Perm [w0, w1] ∨ (sc.map (·.1)).Perm [w0, w1, w2]) → Q (.tup (sc.map enE)) (mput M p o)
theorem ok_l_schema (F : Def K mg "_law_schema" s_l_schema ["draws", "words"]) (B : Bi K mg) (I : Im mg) (c_l_take : Cal P w K mg base 1 "_law_take" ["draws", "many"] sp_l_take) (c_l_pick : Cal P w K mg base 2 "_law_pick" ["draws", "row"] sp_l_pick) : Cal P w K mg base 3 "_law_schema" ["draws", "words"] sp_l_schema := by
  have sc := sc_l_schema
  refine F.cal sc (fun ds M Q h => len2 h) (fun f cdv A outer s H E hr => (ds_cons (ds_set (i := 2) sc.nd rfl (Or.inl rfl) (d_lstF (da_cons (d_tup (da_cons d_int (da_cons d_int da_nil))) (da_cons (d_tup (da_cons d_int (da_cons d_int da_nil))) (da_cons (d_tup (da_cons d_int (da_cons d_int da_nil))) (da_cons (d_tup (da_cons d_int (da_cons d_int da_nil))) (da_cons (d_tup (da_cons d_int (da_cons d_int da_nil))) (da_cons (d_tup (da_cons d_int (da_cons d_int da_nil))) (da_cons (d_tup (da_cons d_int (da_cons d_int da_nil))) (da_cons (d_tup (da_cons d_int (da_cons d_int da_nil))) da_nil))))))))))
    (ds_cons (ds_set (i := 3) sc.nd rfl (Or.inl rfl) (d_lst (da_cons (d_op o_addA (d_tup (da_cons (d_ix x_ix (d_v 1) d_int (fun _ _ => rfl)) da_nil)) (d_ix x_ix (d_v 2) (d_call c_l_take (hr.mono (by first | decide | omega)) rfl (da_cons (d_v 0) (da_cons d_int da_nil))) (fun _ _ => rfl))) (da_cons (d_op o_addA (d_tup (da_cons (d_ix x_ix (d_v 1) d_int (fun _ _ => rfl)) da_nil)) (d_call c_l_pick (hr.mono (by first | decide | omega)) rfl (da_cons (d_v 0) (da_cons (d_v 2) da_nil)))) da_nil))))
    (ds_cons (ds_if (dt_cmp (o_eq (hu_eq hr)) (d_call c_l_take (hr.mono (by first | decide | omega)) rfl (da_cons (d_v 0) (da_cons d_int da_nil))) d_int (nomark _))
    (ds_one (ds_put (d_op o_addA (d_tup (da_cons (d_ix x_ix (d_v 1) d_int (fun _ _ => rfl)) da_nil)) (d_call c_l_pick (hr.mono (by first | decide | omega)) rfl (da_cons (d_v 0) (da_cons (d_lstF (da_cons (d_tup (da_cons d_int (da_cons d_int da_nil))) (da_cons (d_tup (da_cons d_int (da_cons d_int da_nil))) (da_cons (d_tup (da_cons d_int (da_cons d_int da_nil))) (da_cons (d_tup (da_cons d_int (da_cons d_int da_nil))) da_nil))))) da_nil)))) (d_v 3) d_int s_lst))
    ds_nil)
    (ds_cons (ds_if (dt_cmp (o_eq (hu_eq hr)) (d_call c_l_take (hr.mono (by first | decide | omega)) rfl (da_cons (d_v 0) (da_cons d_int da_nil))) d_int (nomark _))
    (ds_one (ds_expr (d_mt PySem.F.slot_list_append PySem.F.type_list_append m_append (d_v 3) (da_cons (d_op o_addA (d_tup (da_cons (d_ix x_ix (d_v 1) d_int (fun _ _ => rfl)) da_nil)) (d_call c_l_pick (hr.mono (by first | decide | omega)) rfl (da_cons (d_v 0) (da_cons (d_v 2) da_nil)))) da_nil))))
    ds_nil)
    (ds_one (ds_ret (d_ct c_tuple rfl B.b_tuple boot_tuple (da_cons (d_fz (d_cb (c_sortD (hu_40 hr)) rfl B.b_sorted boot_sorted (da_cons (d_v 3) da_nil))) da_nil))))))))) (fun ds M Q h => ?_)
  obtain ⟨a, b, rfl, p, w0, w1, w2, ws, rfl, rfl, hp, h0, h1, h2, h⟩ := h
  have fms : ∀ x ∈ [D.tup [D.int 1, D.int 1], D.tup [D.int 0, D.int 1], D.tup [D.int 2, D.int 1], D.tup [D.int 1, D.int 2], D.tup [D.int 1, D.int 0], D.tup [D.int 0, D.int 2], D.tup [D.int 2, D.int 0], D.tup [D.int 0, D.int 0]], fmOk x := by
    intro d hd
    simp only [List.mem_cons, List.not_mem_nil, or_false] at hd
    rcases hd with rfl | rfl | rfl | rfl | rfl | rfl | rfl | rfl
    · exact fm_mk (k := 1) (o := 1) (by omega)
    · exact fm_mk (k := 0) (o := 1) (by omega)
    · exact fm_mk (k := 2) (o := 1) (by omega)
    · exact fm_mk (k := 1) (o := 2) (by omega)
    · exact fm_mk (k := 1) (o := 0) (by omega)
    · exact fm_mk (k := 0) (o := 2) (by omega)
    · exact fm_mk (k := 2) (o := 0) (by omega)
    · exact fm_mk (k := 0) (o := 0) (by omega)
  have gms : ∀ x ∈ [D.tup [D.int 3, D.int 2], D.tup [D.int 4, D.int 4], D.tup [D.int 1, D.int 6], D.tup [D.int 3, D.int 0]], fmOk x := by
    intro d hd
    simp only [List.mem_cons, List.not_mem_nil, or_false] at hd
    rcases hd with rfl | rfl | rfl | rfl
    · exact fm_mk (k := 3) (o := 2) (by omega)
    · exact fm_mk (k := 4) (o := 4) (by omega)
    · exact fm_mk (k := 1) (o := 6) (by omega)
    · exact fm_mk (k := 3) (o := 0) (by omega)
  walk_at "st"
  walk_at "st"
  refine ⟨hp, fun o1 r1 ho1 r10 r11 => ?_⟩
  obtain ⟨k0, c0, e0, hk0, hp0⟩ : ∃ k c : Nat, atI [D.tup [D.int 1, D.int 1], D.tup [D.int 0, D.int 1], D.tup [D.int 2, D.int 1], D.tup [D.int 1, D.int 2], D.tup [D.int 1, D.int 0], D.tup [D.int 0, D.int 2], D.tup [D.int 2, D.int 0], D.tup [D.int 0, D.int 0]] r1 = some (.tup [.int (k : Nat), .int (c : Nat)]) ∧ k + c ≤ 8 ∧ 0 < c := by
    rcases (by omega : r1 = 0 ∨ r1 = 1 ∨ r1 = 2 ∨ r1 = 3) with rfl | rfl | rfl | rfl
    · exact ⟨1, 1, rfl, by omega, by omega⟩
    · exact ⟨0, 1, rfl, by omega, by omega⟩
    · exact ⟨2, 1, rfl, by omega, by omega⟩
    · exact ⟨1, 2, rfl, by omega, by omega⟩
  refine ⟨_, e0, ?_⟩
  rw [dAdd_tt]
  refine ⟨by show 1 + 2 ≤ 16777216; decide, dr_put ho1, fun o2 x ho2 hx => ?_⟩
  obtain ⟨k1, c1, rfl, hk1⟩ := fms x hx
  rw [dAdd_tt]
  refine ⟨by show 1 + 2 ≤ 16777216; decide, fun q hq => ?_⟩
  rw [mput_mput] at hq ⊢
  have hpq : p ≠ q := ne_of_fresh mput_same hq
  have hqM : M q = none := by
    rw [mput_ne hpq.symm] at hq
    exact hq
  refine seq_cut (fun m2 M2 => ∃ (o : DO) (e1 : Ent), DrO o ∧ enOk e1 ∧ e1.1 = w1 ∧ M2 = mput (mput M p o) q (.lst [enE (w0, k0, c0), enE e1]) ∧ m2 = [some (.ref p), some (.lst (.str w0 :: .str w1 :: .str w2 :: ws)), some (.lst [D.tup [D.int 1, D.int 1], D.tup [D.int 0, D.int 1], D.tup [D.int 2, D.int 1], D.tup [D.int 1, D.int 2], D.tup [D.int 1, D.int 0], D.tup [D.int 0, D.int 2], D.tup [D.int 2, D.int 0], D.tup [D.int 0, D.int 0]]), some (.ref q)]) (fun Cn hC => ?_) ?_
  · walk_at "s1"
    refine ⟨dr_ne (dr_put ho2) hpq, fun o3 r3 ho3 _ _ => ?_⟩
    rw [mput_swap hpq]
    split
    · refine ⟨dr_ne (dr_put ho3) hpq, fun o4 x ho4 hx => ?_⟩
      obtain ⟨k2, c2, rfl, hk2⟩ := gms x hx
      rw [mput_swap hpq, dAdd_tt]
      refine ⟨by show 1 + 2 ≤ 16777216; decide, _, mput_same, _, rfl, ?_⟩
      rw [mput_mput]
      exact hC _ _ ⟨o4, (w1, k2, c2), ho4, ⟨h1, hk2⟩, rfl, rfl, rfl⟩
    · exact hC _ _ ⟨o3, (w1, k1, c1), ho3, ⟨h1, hk1⟩, rfl, rfl, rfl⟩
  rintro m2 M2 ⟨o3, e1, ho3, he1, hn1, rfl, rfl⟩
  refine seq_cut (fun m2 M2 => ∃ (o : DO) (es : List Ent), DrO o ∧ (∀ e ∈ es, enOk e) ∧ (w0, k0, c0) ∈ es ∧ (es.map (·.1) = [w0, w1] ∨ es.map (·.1) = [w0, w1, w2]) ∧ M2 = mput (mput M p o) q (.lst (es.map enE)) ∧ m2 = [some (.ref p), some (.lst (.str w0 :: .str w1 :: .str w2 :: ws)), some (.lst [D.tup [D.int 1, D.int 1], D.tup [D.int 0, D.int 1], D.tup [D.int 2, D.int 1], D.tup [D.int 1, D.int 2], D.tup [D.int 1, D.int 0], D.tup [D.int 0, D.int 2], D.tup [D.int 2, D.int 0], D.tup [D.int 0, D.int 0]]), some (.ref q)]) (fun Cn hC => ?_) ?_
  · walk_at "s1"
    refine ⟨dr_ne (dr_put ho3) hpq, fun o4 r4 ho4 _ _ => ?_⟩
    rw [mput_swap hpq]
    have e2ok : ∀ e ∈ [((w0, k0, c0) : Ent), e1], enOk e := by
      intro e he
      simp only [List.mem_cons, List.not_mem_nil, or_false] at he
      rcases he with rfl | rfl
      · exact ⟨h0, hk0⟩
      · exact he1
    split
    · refine ⟨⟨_, by rw [mput_same]⟩, dr_ne (dr_put ho4) hpq, fun o5 x ho5 hx => ?_⟩
      obtain ⟨k2, c2, rfl, hk2⟩ := fms x hx
      rw [mput_swap hpq, dAdd_tt]
      refine ⟨by show 1 + 2 ≤ 16777216; decide, _, mput_same, by show 2 < 16777216; decide, ?_⟩
      rw [mput_mput]
      refine hC _ _ ⟨o5, [(w0, k0, c0), e1, (w2, k2, c2)], ho5, fun e he => ?_, by simp, .inr (by simp [hn1]), rfl, rfl⟩
      simp only [List.mem_cons, List.not_mem_nil, or_false] at he
      rcases he with rfl | rfl | rfl
      · exact ⟨h0, hk0⟩
      · exact he1
      · exact ⟨h2, hk2⟩
    · exact hC _ _ ⟨o4, [(w0, k0, c0), e1], ho4, e2ok, by simp, .inl (by simp [hn1]), rfl, rfl⟩
  rintro m2 M2 ⟨o4, es, ho4, hes, hin, hnm, rfl, rfl⟩
  walk_at "rd"
  refine ⟨ents_ok fun e he => (hes e he).1, ents_alike es, ents_sortable es, fun p2 hp2 => ?_⟩
  obtain ⟨gs, hg, hperm⟩ := sort_ents es
  refine ⟨_, rfl, ?_⟩
  rw [mdel_mput hp2, hg]
  exact ret_le (MLe.put (.refl _) (mput_fresh hpq hqM)) (h o4 gs ho4 (fun e he => hes e (hperm.mem_iff.mp he)) ⟨_, hperm.mem_iff.mpr hin, hp0⟩ (hnm.imp (fun z => by rw [← z]; exact hperm.map _) fun z => by rw [← z]; exact hperm.map _))
/-! ### terms, literals, rules -/
def isV (d : D) : Prop := (∃ i, d = .int i) ∨ ∃ s, d = .str s ∧ PyData.strOk s = true
theorem isV_pl {d : D} (h : isV d) : pln d = true := by
  rcases h with ⟨i, rfl⟩ | ⟨s, rfl, _⟩ <;> rfl
theorem isV_ok {d : D} (h : isV d) (n : Nat) : dOk n d = true := by
  rcases h with ⟨i, rfl⟩ | ⟨s, rfl, hs⟩
  · simp
  · rw [dOk_str]; exact hs
inductive Tm where
  | var (x : Str)
  | val (d : D)
def tmD : Tm → D
  | .var x => .tup [.str "var", .str x]
  | .val d => .tup [.str "value", d]
def tmOk : Tm → Prop
  | .var x => PyData.strOk x = true
  | .val d => isV d
/-- a term's word -/
def tmV : Tm → Option Str
  | .var x => some x
  | .val _ => none
inductive Lit where
  | atom (how : D) (name : Str) (ts : List Tm)
  | test (kind : Str) (a b : Tm)
def liD : Lit → D
  | .atom h n ts => .tup [.str "atom", h, .str n, .tup (ts.map tmD)]
  | .test k a b => .tup [.str k, tmD a, tmD b]
theorem tmD_var (x : Str) : tmD (.var x) = .tup [.str "var", .str x] := rfl
theorem tmD_val (d : D) : tmD (.val d) = .tup [.str "value", d] := rfl
theorem liD_atom (h : D) (n : Str) (ts : List Tm) : liD (.atom h n ts) = .tup [.str "atom", h, .str n, .tup (ts.map tmD)] := rfl
theorem liD_test (k : Str) (a b : Tm) : liD (.test k a b) = .tup [.str k, tmD a, tmD b] := rfl
def howK (k : Str) : Prop := k = "once" ∨ k = "always" ∨ k = "ago" ∨ k = "ahead" ∨ k = "soon" ∨ k = "henceforth"
def howOk (d : D) : Prop := d = .tup [.str "now"] ∨ ∃ k, howK k ∧ (d = .tup [.str k, .non] ∨ ∃ i : Int, 0 ≤ i ∧ d = .tup [.str k, .int i])
theorem howK_str {k : Str} (h : howK k) : PyData.strOk k = true := by
  rcases h with rfl | rfl | rfl | rfl | rfl | rfl <;> decide +kernel
theorem howOk_pl {d : D} (h : howOk d) : pln d = true := by
  rcases h with rfl | ⟨k, _, rfl | ⟨i, _, rfl⟩⟩ <;> rfl
theorem howOk_ok {d : D} (h : howOk d) (n : Nat) : dOk (n + 1) d = true := by
  rcases h with rfl | ⟨k, hk, rfl | ⟨i, _, rfl⟩⟩
  · have : PyData.strOk (Str.ofString "now") = true := by decide +kernel
    simp [dOk_tup, dOk_str, this]
  · simp [dOk_tup, dOk_str, howK_str hk]
  · simp [dOk_tup, dOk_str, howK_str hk]
def liOk : Lit → Prop
  | .atom h n ts => howOk h ∧ PyData.strOk n = true ∧ ts.length ≤ 8 ∧ ∀ t ∈ ts, tmOk t
  | .test k a b => (k = "less" ∨ k = "unlike") ∧ tmOk a ∧ tmOk b
def isT : Lit → Bool
  | .atom _ _ _ => false
  | .test _ _ _ => true
def liTs : Lit → List Tm
  | .atom _ _ ts => ts
  | .test _ a b => [a, b]
theorem tmD_pl {t : Tm} (h : tmOk t) : pln (tmD t) = true := by
  cases t with
  | var x => rfl
  | val d =>
    show (true && (pln d && true)) = true
    rw [isV_pl h]
    rfl
theorem sk_var : PyData.strOk (Str.ofString "var") = true := by decide +kernel
theorem sk_value : PyData.strOk (Str.ofString "value") = true := by decide +kernel
theorem sk_atom : PyData.strOk (Str.ofString "atom") = true := by decide +kernel
theorem sk_less : PyData.strOk (Str.ofString "less") = true := by decide +kernel
theorem sk_unlike : PyData.strOk (Str.ofString "unlike") = true := by decide +kernel
theorem kn_value_var : (Str.ofString "value" = Str.ofString "var") = False := eq_false (by decide)
theorem kn_var_value : (Str.ofString "var" = Str.ofString "value") = False := eq_false (by decide)
theorem kn_less_atom : (Str.ofString "less" = Str.ofString "atom") = False := eq_false (by decide)
theorem kn_unlike_atom : (Str.ofString "unlike" = Str.ofString "atom") = False := eq_false (by decide)
theorem tmD_ok {t : Tm} (h : tmOk t) (n : Nat) : dOk (n + 1) (tmD t) = true := by
  cases t with
  | var x =>
    have h' : PyData.strOk x = true := h
    simp [tmD, dOk_tup, dOk_str, sk_var, h']
  | val d => simp [tmD, dOk_tup, dOk_str, sk_value, isV_ok h n]
theorem tms_pl {ts : List Tm} (h : ∀ t ∈ ts, tmOk t) : plns (ts.map tmD) = true := plns_iff.mpr fun x hx => by
  obtain ⟨t, ht, rfl⟩ := List.mem_map.mp hx
  exact tmD_pl (h t ht)
theorem tms_ok {ts : List Tm} (h : ∀ t ∈ ts, tmOk t) (n : Nat) : (ts.map tmD).all (dOk (n + 1)) = true := by
  rw [List.all_map]
  exact List.all_eq_true.mpr fun t ht => tmD_ok (h t ht) n
theorem kind_ok {k : Str} (h : k = "less" ∨ k = "unlike") : PyData.strOk k = true := by
  rcases h with rfl | rfl
  · exact sk_less
  · exact sk_unlike
theorem liD_pl {l : Lit} (h : liOk l) : pln (liD l) = true := by
  cases l with
  | atom w n ts =>
    obtain ⟨h1, h2, _, h3⟩ := h
    show (true && (pln w && (true && (plns (ts.map tmD) && true)))) = true
    rw [howOk_pl h1, tms_pl h3]
    rfl
  | test k a b =>
    obtain ⟨_, h1, h2⟩ := h
    show (true && (pln (tmD a) && (pln (tmD b) && true))) = true
    rw [tmD_pl h1, tmD_pl h2]
    rfl
theorem liD_ok {l : Lit} (h : liOk l) (n : Nat) : dOk (n + 3) (liD l) = true := by
  cases l with
  | atom w m ts =>
    obtain ⟨h1, h2, _, h3⟩ := h
    have e1 := howOk_ok h1 (n + 1)
    have e2 := tms_ok h3 n
    simp [liD, dOk_tup, dOk_str, sk_atom, e1, h2, e2]
  | test k a b =>
    obtain ⟨h0, h1, h2⟩ := h
    simp [liD, dOk_tup, dOk_str, kind_ok h0, tmD_ok h1 (n + 1), tmD_ok h2 (n + 1)]
structure Ru where
  name : Str
  head : List Tm
  body : List Lit
def ruD (r : Ru) : D := .tup [.str r.name, .tup (r.head.map tmD), .tup (r.body.map liD)]
theorem ruD_mk (n : Str) (hd : List Tm) (ls : List Lit) : ruD ⟨n, hd, ls⟩ = .tup [.str n, .tup (hd.map tmD), .tup (ls.map liD)] := rfl
/-- the words of terms, with those that come again -/
def vrs (ts : List Tm) : List Str := ts.filterMap tmV
/-- the words of the atoms -/
def bnd (ls : List Lit) : List Str := (ls.filter fun l => !isT l).flatMap fun l => vrs (liTs l)
structure RuOk (r : Ru) : Prop where
  name : PyData.strOk r.name = true
  head : ∀ t ∈ r.head, tmOk t
  body : ∀ l ∈ r.body, liOk l
  safe : ∀ x ∈ vrs r.head, x ∈ bnd r.body
  hlen : r.head.length ≤ 20
  blen : r.body.length ≤ 20
theorem vrs_app (a b : List Tm) : vrs (a ++ b) = vrs a ++ vrs b := List.filterMap_append ..
theorem mem_vrs {ts : List Tm} {x : Str} : x ∈ vrs ts ↔ Tm.var x ∈ ts := by
  unfold vrs
  rw [List.mem_filterMap]
  constructor
  · rintro ⟨t, h1, h2⟩
    cases t with
    | var y =>
      cases h2
      exact h1
    | val d => cases h2
  · intro h
    exact ⟨_, h, rfl⟩
theorem mem_bnd {ls : List Lit} {x : Str} : x ∈ bnd ls ↔ ∃ w n ts, Lit.atom w n ts ∈ ls ∧ x ∈ vrs ts := by
  unfold bnd
  rw [List.mem_flatMap]
  constructor
  · rintro ⟨l, hl, hx⟩
    rw [List.mem_filter] at hl
    cases l with
    | atom w n ts => exact ⟨w, n, ts, hl.1, hx⟩
    | test k a b => cases hl.2
  · rintro ⟨w, n, ts, hl, hx⟩
    exact ⟨_, List.mem_filter.mpr ⟨hl, rfl⟩, hx⟩

/-! ### registers: words with their numbers -/
def ix (x : Str) : List Str → Nat
  | [] => 0
  | w :: ws => if w = x then 0 else ix x ws + 1
theorem ix_lt {x : Str} : ∀ {ws : List Str}, x ∈ ws → ix x ws < ws.length
  | w :: ws, h => by
    unfold ix
    split
    · simp
    · next c =>
      have : x ∈ ws := by
        rcases List.mem_cons.mp h with rfl | h
        · exact absurd rfl c
        · exact h
      have := ix_lt this
      simp
      omega
theorem ix_get {x : Str} : ∀ {ws : List Str}, x ∈ ws → ws[ix x ws]? = some x
  | w :: ws, h => by
    unfold ix
    split
    · next c => simp [c]
    · next c =>
      have : x ∈ ws := by
        rcases List.mem_cons.mp h with rfl | h
        · exact absurd rfl c
        · exact h
      simpa using ix_get this
theorem ix_first {x : Str} : ∀ {ws : List Str} {i : Nat} {u : Str}, i < ix x ws → ws[i]? = some u → u ≠ x
  | [], i, u, h, e => by simp at e
  | w :: ws, i, u, h, e => by
    unfold ix at h
    split at h
    · omega
    · next c =>
      cases i with
      | zero =>
        simp at e
        exact e ▸ c
      | succ i => exact ix_first (ws := ws) (i := i) (by omega) (by simpa using e)
theorem ix_app {x : Str} : ∀ {ws : List Str} (more : List Str), x ∈ ws → ix x (ws ++ more) = ix x ws
  | w :: ws, more, h => by
    rw [List.cons_append]
    unfold ix
    split
    · rfl
    · next c =>
      have : x ∈ ws := by
        rcases List.mem_cons.mp h with rfl | h
        · exact absurd rfl c
        · exact h
      rw [ix_app more this]
theorem ix_new {x : Str} : ∀ {ws : List Str} (more : List Str), x ∉ ws → ix x (ws ++ x :: more) = ws.length
  | [], more, _ => by simp [ix]
  | w :: ws, more, h => by
    rw [List.mem_cons] at h
    rw [List.cons_append]
    unfold ix
    rw [if_neg (fun e => h (.inl e.symm)), ix_new more (fun e => h (.inr e))]
    rfl
def regF (k : Nat) : List Str → List (D × D)
  | [] => []
  | w :: ws => (.str w, .int (k : Nat)) :: regF (k + 1) ws
abbrev regD (ws : List Str) : List (D × D) := regF 0 ws
theorem regF_len : ∀ (k : Nat) (ws : List Str), (regF k ws).length = ws.length
  | _, [] => rfl
  | k, w :: ws => by simp [regF, regF_len (k + 1) ws]
theorem regF_keys : ∀ (k : Nat) (ws : List Str), (regF k ws).map (·.1) = ws.map D.str
  | _, [] => rfl
  | k, w :: ws => by simp [regF, regF_keys (k + 1) ws]
theorem regF_snoc (x : Str) : ∀ (k : Nat) (ws : List Str), regF k (ws ++ [x]) = regF k ws ++ [(.str x, .int ((k + ws.length : Nat) : Int))]
  | k, [] => rfl
  | k, w :: ws => by
    rw [List.cons_append]
    show _ :: regF (k + 1) (ws ++ [x]) = _ :: _
    rw [regF_snoc x (k + 1) ws, List.length_cons, show k + 1 + ws.length = k + (ws.length + 1) by omega]
    rfl
theorem regF_has (x : Str) : ∀ (k : Nat) (ws : List Str), dhas (regF k ws) (.str x) = decide (x ∈ ws)
  | _, [] => rfl
  | k, w :: ws => by
    have ih := regF_has x (k + 1) ws
    unfold dhas at ih ⊢
    show (decide (nk (.str w) = nk (.str x)) || _) = _
    rw [ih]
    by_cases c : w = x
    · simp [c]
    · have : ¬ nk (.str w) = nk (.str x) := fun z => c (by simpa [nk] using z)
      simp [this, Ne.symm c]
theorem regF_get {x : Str} : ∀ (k : Nat) {ws : List Str}, x ∈ ws → dget (regF k ws) (.str x) = some (.int ((k + ix x ws : Nat) : Int))
  | k, w :: ws, h => by
    unfold dget
    show (List.find? _ ((D.str w, D.int (k : Nat)) :: regF (k + 1) ws)).map (·.2) = _
    rw [List.find?_cons]
    unfold ix
    by_cases c : w = x
    · rw [if_pos c, c]
      simp
    · have : ¬ nk (.str w) = nk (.str x) := fun z => c (by simpa [nk] using z)
      rw [if_neg c]
      simp only [this, decide_false]
      have hm : x ∈ ws := by
        rcases List.mem_cons.mp h with rfl | h
        · exact absurd rfl c
        · exact h
      have ih := regF_get (k + 1) hm
      unfold dget at ih
      rw [ih, show k + 1 + ix x ws = k + (ix x ws + 1) by omega]
theorem regD_get {x : Str} {ws : List Str} (h : x ∈ ws) : dget (regD ws) (.str x) = some (.int ((ix x ws : Nat) : Int)) := by
  have := regF_get 0 h
  rwa [Nat.zero_add] at this
theorem regD_put {x : Str} {ws : List Str} (h : x ∉ ws) : dput (regD ws) (.str x) (.int ((ws.length : Nat) : Int)) = regD (ws ++ [x]) := by
  have e := regF_snoc x 0 ws
  rw [Nat.zero_add] at e
  rw [dput_new (by rw [regF_has]; exact decide_eq_false h)]
  exact e.symm
/-- words that are not there yet go behind -/
def addW (ws : List Str) (xs : List Str) : List Str := xs.foldl (fun a x => if x ∈ a then a else a ++ [x]) ws
theorem addW_cons (ws : List Str) (x : Str) (xs : List Str) : addW ws (x :: xs) = addW (if x ∈ ws then ws else ws ++ [x]) xs := rfl
theorem addW_pre : ∀ (xs ws : List Str), ∃ more, addW ws xs = ws ++ more
  | [], ws => ⟨[], (List.append_nil _).symm⟩
  | x :: xs, ws => by
    rw [addW_cons]
    split
    · exact addW_pre xs ws
    · obtain ⟨more, e⟩ := addW_pre xs (ws ++ [x])
      exact ⟨x :: more, by rw [e, List.append_assoc]; rfl⟩
theorem addW_nodup : ∀ (xs : List Str) {ws : List Str}, ws.Nodup → (addW ws xs).Nodup
  | [], ws, h => h
  | x :: xs, ws, h => by
    rw [addW_cons]
    split
    · exact addW_nodup xs h
    · next c =>
      refine addW_nodup xs (List.nodup_append.mpr ⟨h, by simp, fun a ha b hb => ?_⟩)
      rw [List.mem_singleton.mp hb]
      exact fun e => c (e ▸ ha)
theorem addW_mem {y : Str} : ∀ (xs : List Str) {ws : List Str}, y ∈ addW ws xs ↔ y ∈ ws ∨ y ∈ xs
  | [], ws => by simp [addW]
  | x :: xs, ws => by
    rw [addW_cons, addW_mem xs]
    split
    · next c =>
      rw [List.mem_cons]
      constructor
      · rintro (h | h)
        · exact .inl h
        · exact .inr (.inr h)
      · rintro (h | rfl | h)
        · exact .inl h
        · exact .inl c
        · exact .inr h
    · rw [List.mem_append, List.mem_singleton, List.mem_cons, or_assoc]
theorem addW_len : ∀ (xs ws : List Str), (addW ws xs).length ≤ ws.length + xs.length
  | [], ws => Nat.le_refl _
  | x :: xs, ws => by
    rw [addW_cons, List.length_cons]
    split
    · have := addW_len xs ws
      omega
    · have := addW_len xs (ws ++ [x])
      rw [List.length_append, List.length_singleton] at this
      omega

/-! ### what a rule is compiled to -/
def plD (ws : List Str) : Tm → D
  | .var x => .tup [.str "register", .int ((ix x ws : Nat) : Int)]
  | .val d => tmD (.val d)
def pat (ws : List Str) : List Tm → List D
  | [] => []
  | .var x :: ts => if x ∈ ws then .tup [.str "is", plD ws (.var x)] :: pat ws ts else .tup [.str "put", .int ((ws.length : Nat) : Int)] :: pat (ws ++ [x]) ts
  | .val d :: ts => .tup [.str "is", plD ws (.val d)] :: pat ws ts
theorem pat_var (ws : List Str) (x : Str) (ts : List Tm) : pat ws (.var x :: ts) = if x ∈ ws then .tup [.str "is", plD ws (.var x)] :: pat ws ts else .tup [.str "put", .int ((ws.length : Nat) : Int)] :: pat (ws ++ [x]) ts := by rw [pat]
theorem pat_val (ws : List Str) (d : D) (ts : List Tm) : pat ws (.val d :: ts) = .tup [.str "is", plD ws (.val d)] :: pat ws ts := by rw [pat]
def fiD (ws : List Str) (h : D) (n : Str) (ts : List Tm) : D := .tup [.str "find", h, .str n, .tup (pat ws ts)]
def teD (ws : List Str) (k : Str) (a b : Tm) : D := .tup [.str "test", .str k, plD ws a, plD ws b]
def teL (ws : List Str) : Lit → D
  | .test k a b => teD ws k a b
  | .atom _ _ _ => .non
/-- which tests are due: by their words -/
def dueP (bf : Option (List Str)) (af : List Str) (l : Lit) : Bool := match bf with
  | none => (vrs (liTs l)).isEmpty
  | some b => (vrs (liTs l)).all (fun x => decide (x ∈ af)) && !(vrs (liTs l)).all (fun x => decide (x ∈ b))
def dueL (ls : List Lit) (bf : Option (List Str)) (af : List Str) : List D := ((ls.filter isT).filter (dueP bf af)).map (teL af)
def emD (ws : List Str) (hd : List Tm) : D := .tup [.str "emit", .tup (hd.map (plD ws))]
/-- the steps from the atoms at the places on -/
def goC (ls : List Lit) (hd : List Tm) : List Str → List Nat → List D
  | ws, [] => [emD ws hd]
  | ws, k :: ks => match ls[k]? with
    | some (.atom h n ts) => fiD ws h n ts :: (dueL ls (some ws) (addW ws (vrs ts)) ++ goC ls hd (addW ws (vrs ts)) ks)
    | _ => []
def prog (ls : List Lit) (hd : List Tm) (ks : List Nat) : List D := dueL ls none [] ++ goC ls hd [] ks
/-- the words behind the atoms at the places -/
def finW (ls : List Lit) : List Str → List Nat → List Str
  | ws, [] => ws
  | ws, k :: ks => match ls[k]? with
    | some (.atom _ _ ts) => finW ls (addW ws (vrs ts)) ks
    | _ => ws
theorem goC_cons {ls : List Lit} {hd : List Tm} {ws : List Str} {k : Nat} {ks : List Nat} {h : D} {n : Str} {ts : List Tm} (e : ls[k]? = some (.atom h n ts)) : goC ls hd ws (k :: ks) = fiD ws h n ts :: (dueL ls (some ws) (addW ws (vrs ts)) ++ goC ls hd (addW ws (vrs ts)) ks) := by
  rw [goC, e]
theorem finW_cons {ls : List Lit} {ws : List Str} {k : Nat} {ks : List Nat} {h : D} {n : Str} {ts : List Tm} (e : ls[k]? = some (.atom h n ts)) : finW ls ws (k :: ks) = finW ls (addW ws (vrs ts)) ks := by
  rw [finW, e]
/-- all places are those of atoms -/
def atoms (ls : List Lit) (ks : List Nat) : Prop := ∀ k ∈ ks, ∃ h n ts, ls[k]? = some (.atom h n ts)
theorem finW_mem {ls : List Lit} {x : Str} : ∀ {ks : List Nat} {ws : List Str}, atoms ls ks → (x ∈ finW ls ws ks ↔ x ∈ ws ∨ ∃ k ∈ ks, ∃ h n ts, ls[k]? = some (.atom h n ts) ∧ x ∈ vrs ts)
  | [], ws, _ => by simp [finW]
  | k :: ks, ws, ha => by
    obtain ⟨h, n, ts, e⟩ := ha k (by simp)
    have ih := finW_mem (x := x) (ks := ks) (ws := addW ws (vrs ts)) fun j hj => ha j (by simp [hj])
    unfold finW
    rw [e]
    show x ∈ finW ls (addW ws (vrs ts)) ks ↔ _
    rw [ih, addW_mem]
    constructor
    · rintro ((h1 | h1) | ⟨j, h1, h2⟩)
      · exact .inl h1
      · exact .inr ⟨k, by simp, h, n, ts, e, h1⟩
      · exact .inr ⟨j, by simp [h1], h2⟩
    · rintro (h1 | ⟨j, h1, h', n', ts', e', h2⟩)
      · exact .inl (.inl h1)
      · rcases List.mem_cons.mp h1 with rfl | h1
        · rw [e] at e'
          cases e'
          exact .inl (.inr h2)
        · exact .inr ⟨j, h1, h', n', ts', e', h2⟩
theorem plD_app {ws : List Str} (more : List Str) {t : Tm} (h : ∀ x, tmV t = some x → x ∈ ws) : plD (ws ++ more) t = plD ws t := by
  cases t with
  | val d => rfl
  | var x =>
    show D.tup [.str "register", .int ((ix x (ws ++ more) : Nat) : Int)] = _
    rw [ix_app more (h x rfl)]
    rfl
/-! ### words in the place of variables -/
def lk (m : List (Str × Str)) (x : Str) : Str := ((m.find? fun p => decide (p.1 = x)).map (·.2)).getD x
def tmR (f : Str → Str) : Tm → Tm
  | .var x => .var (f x)
  | .val d => .val d
def liR (f : Str → Str) : Lit → Lit
  | .atom h n ts => .atom h n (ts.map (tmR f))
  | .test k a b => .test k (tmR f a) (tmR f b)
def ruR (f : Str → Str) (r : Ru) : Ru := ⟨r.name, r.head.map (tmR f), r.body.map (liR f)⟩
def mapD (m : List (Str × Str)) : List (D × D) := m.map fun p => (.str p.1, .str p.2)
theorem mapD_keys (m : List (Str × Str)) : (mapD m).map (·.1) = (m.map (·.1)).map D.str := by
  unfold mapD
  rw [List.map_map, List.map_map]
  rfl
theorem mapD_get {x : Str} : ∀ {m : List (Str × Str)}, x ∈ m.map (·.1) → dget (mapD m) (.str x) = some (.str (lk m x))
  | p :: m, h => by
    unfold dget lk
    show (List.find? _ ((D.str p.1, D.str p.2) :: mapD m)).map (·.2) = _
    rw [List.find?_cons, List.find?_cons]
    by_cases c : p.1 = x
    · rw [c]
      simp
    · have : ¬ nk (.str p.1) = nk (.str x) := fun z => c (by simpa [nk] using z)
      simp only [this, c, decide_false]
      have hm : x ∈ m.map (·.1) := by
        rw [List.map_cons] at h
        rcases List.mem_cons.mp h with e | h
        · exact absurd e.symm c
        · exact h
      have ih := mapD_get hm
      unfold dget lk at ih
      exact ih
theorem mapD_has (x : Str) : ∀ (m : List (Str × Str)), dhas (mapD m) (.str x) = decide (x ∈ m.map (·.1))
  | [] => rfl
  | p :: m => by
    have ih := mapD_has x m
    unfold dhas at ih ⊢
    show (decide (nk (.str p.1) = nk (.str x)) || _) = _
    have ih' : ((m.map fun p => (D.str p.1, D.str p.2)).any fun p => decide (nk p.1 = nk (.str x))) = decide (x ∈ m.map (·.1)) := ih
    rw [ih']
    by_cases c : p.1 = x
    · simp [c]
    · have : ¬ nk (.str p.1) = nk (.str x) := fun z => c (by simpa [nk] using z)
      simp [this, Ne.symm c]
theorem mapD_put {x y : Str} {m : List (Str × Str)} (h : x ∉ m.map (·.1)) : dput (mapD m) (.str x) (.str y) = mapD (m ++ [(x, y)]) := by
  rw [dput_new (by rw [mapD_has]; exact decide_eq_false h)]
  unfold mapD
  rw [List.map_append]
  rfl
theorem lk_mem : ∀ {m : List (Str × Str)} {x : Str}, x ∈ m.map (·.1) → (x, lk m x) ∈ m
  | p :: m, x, h => by
    unfold lk
    rw [List.find?_cons]
    by_cases c : p.1 = x
    · rw [decide_eq_true c]
      show (x, p.2) ∈ p :: m
      rw [← c]
      simp
    · have hm : x ∈ m.map (·.1) := by
        rw [List.map_cons] at h
        rcases List.mem_cons.mp h with e | h
        · exact absurd e.symm c
        · exact h
      simp only [c, decide_false]
      exact List.mem_cons_of_mem _ (lk_mem hm)
theorem nodup_snd : ∀ {m : List (Str × Str)} {x y v : Str}, (m.map (·.2)).Nodup → (x, v) ∈ m → (y, v) ∈ m → ((x, v) : Str × Str) = (y, v)
  | p :: m, x, y, v, h, h1, h2 => by
    rw [List.map_cons, List.nodup_cons] at h
    rcases List.mem_cons.mp h1 with e1 | h1
    · rcases List.mem_cons.mp h2 with e2 | h2
      · rw [e1, e2]
      · exact absurd (List.mem_map.mpr ⟨_, h2, rfl⟩) (by rw [← e1] at h; exact h.1)
    · rcases List.mem_cons.mp h2 with e2 | h2
      · exact absurd (List.mem_map.mpr ⟨_, h1, rfl⟩) (by rw [← e2] at h; exact h.1)
      · exact nodup_snd h.2 h1 h2
theorem vrs_ren (f : Str → Str) : ∀ ts : List Tm, vrs (ts.map (tmR f)) = (vrs ts).map f
  | [] => rfl
  | .var x :: ts => congrArg (f x :: ·) (vrs_ren f ts)
  | .val _ :: ts => vrs_ren f ts
theorem liTs_ren (f : Str → Str) (l : Lit) : liTs (liR f l) = (liTs l).map (tmR f) := by
  cases l <;> rfl
theorem isT_ren (f : Str → Str) (l : Lit) : isT (liR f l) = isT l := by
  cases l <;> rfl
theorem all_congr {α : Type} {p q : α → Bool} : ∀ {l : List α}, (∀ x ∈ l, p x = q x) → l.all p = l.all q
  | [], _ => rfl
  | x :: l, h => by rw [List.all_cons, List.all_cons, h x (by simp), all_congr fun y hy => h y (by simp [hy])]
def InjOn (f : Str → Str) (S : Str → Prop) : Prop := ∀ x y, S x → S y → f x = f y → x = y
section
variable {f : Str → Str} {S : Str → Prop} (hf : InjOn f S)
include hf
theorem mem_ren {x : Str} {ws : List Str} (hx : S x) (hw : ∀ w ∈ ws, S w) : f x ∈ ws.map f ↔ x ∈ ws := by
  rw [List.mem_map]
  constructor
  · rintro ⟨y, hy, e⟩
    rw [← hf y x (hw y hy) hx e]
    exact hy
  · intro h
    exact ⟨x, h, rfl⟩
theorem ix_ren {x : Str} (hx : S x) : ∀ {ws : List Str}, (∀ w ∈ ws, S w) → ix (f x) (ws.map f) = ix x ws
  | [], _ => rfl
  | w :: ws, hw => by
    rw [List.map_cons]
    unfold ix
    by_cases c : w = x
    · rw [if_pos c, if_pos (by rw [c])]
    · rw [if_neg c, if_neg (fun e => c (hf w x (hw w (by simp)) hx e)), ix_ren hx fun u hu => hw u (by simp [hu])]
theorem addW_ren : ∀ (xs : List Str) {ws : List Str}, (∀ w ∈ ws, S w) → (∀ x ∈ xs, S x) → addW (ws.map f) (xs.map f) = (addW ws xs).map f
  | [], ws, _, _ => rfl
  | x :: xs, ws, hw, hx => by
    have hx0 := hx x (by simp)
    rw [List.map_cons, addW_cons, addW_cons]
    by_cases c : x ∈ ws
    · rw [if_pos c, if_pos ((mem_ren hf hx0 hw).mpr c)]
      exact addW_ren xs hw fun y hy => hx y (by simp [hy])
    · rw [if_neg c, if_neg (fun z => c ((mem_ren hf hx0 hw).mp z))]
      have e : ws.map f ++ [f x] = (ws ++ [x]).map f := by rw [List.map_append]; rfl
      rw [e]
      refine addW_ren xs (fun w hw2 => ?_) fun y hy => hx y (by simp [hy])
      rcases List.mem_append.mp hw2 with h | h
      · exact hw w h
      · rw [List.mem_singleton.mp h]
        exact hx0
theorem plD_ren {ws : List Str} (hw : ∀ w ∈ ws, S w) {t : Tm} (ht : ∀ x, tmV t = some x → S x) : plD (ws.map f) (tmR f t) = plD ws t := by
  cases t with
  | val d => rfl
  | var x =>
    show D.tup [.str "register", .int ((ix (f x) (ws.map f) : Nat) : Int)] = _
    rw [ix_ren hf (ht x rfl) hw]
    rfl
theorem pat_ren : ∀ {ts : List Tm} {ws : List Str}, (∀ w ∈ ws, S w) → (∀ x ∈ vrs ts, S x) → pat (ws.map f) (ts.map (tmR f)) = pat ws ts
  | [], _, _, _ => rfl
  | .val d :: ts, ws, hw, ht => by
    show pat (ws.map f) (.val d :: ts.map (tmR f)) = _
    rw [pat_val, pat_val, pat_ren hw (show ∀ x ∈ vrs ts, S x from ht)]
    rfl
  | .var x :: ts, ws, hw, ht => by
    have hx : S x := ht x (by simp [vrs, tmV])
    have ht2 : ∀ y ∈ vrs ts, S y := fun y hy => ht y (List.mem_cons_of_mem _ hy)
    have e0 : plD (ws.map f) (.var (f x)) = plD ws (.var x) := plD_ren hf (t := .var x) hw fun y e => by cases e; exact hx
    show pat (ws.map f) (.var (f x) :: ts.map (tmR f)) = _
    rw [pat_var, pat_var]
    by_cases c : x ∈ ws
    · rw [if_pos c, if_pos ((mem_ren hf hx hw).mpr c), e0, pat_ren hw ht2]
    · have e : ws.map f ++ [f x] = (ws ++ [x]).map f := by rw [List.map_append]; rfl
      rw [if_neg c, if_neg (fun z => c ((mem_ren hf hx hw).mp z)), List.length_map, e, pat_ren (fun w hw2 => ?_) ht2]
      rcases List.mem_append.mp hw2 with h | h
      · exact hw w h
      · rw [List.mem_singleton.mp h]
        exact hx
theorem dueP_ren {bf : Option (List Str)} {af : List Str} (hb : ∀ b, bf = some b → ∀ w ∈ b, S w) (ha : ∀ w ∈ af, S w) {l : Lit} (hl : ∀ x ∈ vrs (liTs l), S x) : dueP (bf.map (·.map f)) (af.map f) (liR f l) = dueP bf af l := by
  have key : ∀ ws : List Str, (∀ w ∈ ws, S w) → (vrs (liTs (liR f l))).all (fun x => decide (x ∈ ws.map f)) = (vrs (liTs l)).all fun x => decide (x ∈ ws) := fun ws hw => by
    rw [liTs_ren, vrs_ren, List.all_map]
    refine all_congr fun x hx => ?_
    show decide (f x ∈ ws.map f) = decide (x ∈ ws)
    exact decide_eq_decide.mpr (mem_ren hf (hl x hx) hw)
  cases bf with
  | none =>
    show (vrs (liTs (liR f l))).isEmpty = (vrs (liTs l)).isEmpty
    rw [liTs_ren, vrs_ren]
    cases vrs (liTs l) <;> rfl
  | some b =>
    show ((vrs (liTs (liR f l))).all (fun x => decide (x ∈ af.map f)) && !(vrs (liTs (liR f l))).all (fun x => decide (x ∈ b.map f))) = _
    rw [key af ha, key b (hb b rfl)]
    rfl
theorem teL_ren {af : List Str} (ha : ∀ w ∈ af, S w) {l : Lit} (hl : ∀ x ∈ vrs (liTs l), S x) : teL (af.map f) (liR f l) = teL af l := by
  cases l with
  | atom h n ts => rfl
  | test k a b =>
    have h1 : plD (af.map f) (tmR f a) = plD af a := plD_ren hf ha fun x e => hl x (mem_vrs.mpr (by cases a <;> cases e; simp [liTs]))
    have h2 : plD (af.map f) (tmR f b) = plD af b := plD_ren hf ha fun x e => hl x (mem_vrs.mpr (by cases b <;> cases e; simp [liTs]))
    show D.tup [.str "test", .str k, plD (af.map f) (tmR f a), plD (af.map f) (tmR f b)] = _
    rw [h1, h2]
    rfl
theorem dueL_ren {bf : Option (List Str)} {af : List Str} (hb : ∀ b, bf = some b → ∀ w ∈ b, S w) (ha : ∀ w ∈ af, S w) : ∀ {ls : List Lit}, (∀ l ∈ ls, ∀ x ∈ vrs (liTs l), S x) → dueL (ls.map (liR f)) (bf.map (·.map f)) (af.map f) = dueL ls bf af
  | [], _ => rfl
  | l :: ls, h => by
    have ih := dueL_ren hb ha (ls := ls) fun m hm => h m (by simp [hm])
    have hl := h l (by simp)
    unfold dueL at ih ⊢
    rw [List.map_cons, List.filter_cons, List.filter_cons, isT_ren]
    cases isT l with
    | false => simpa using ih
    | true =>
      simp only [if_true]
      rw [List.filter_cons, List.filter_cons, dueP_ren hf hb ha hl]
      cases dueP bf af l with
      | false => simpa using ih
      | true =>
        simp only [if_true]
        rw [List.map_cons, List.map_cons, teL_ren hf ha hl, ih]
theorem goC_ren {ls : List Lit} {hd : List Tm} (hl : ∀ l ∈ ls, ∀ x ∈ vrs (liTs l), S x) (hh : ∀ x ∈ vrs hd, S x) : ∀ {ks : List Nat} {ws : List Str}, atoms ls ks → (∀ w ∈ ws, S w) → goC (ls.map (liR f)) (hd.map (tmR f)) (ws.map f) ks = goC ls hd ws ks
  | [], ws, _, hw => by
    show [D.tup [.str "emit", .tup ((hd.map (tmR f)).map (plD (ws.map f)))]] = [D.tup [.str "emit", .tup (hd.map (plD ws))]]
    have e : (hd.map (tmR f)).map (plD (ws.map f)) = hd.map (plD ws) := by
      rw [List.map_map]
      refine List.map_congr_left fun t ht => plD_ren hf hw fun x e => hh x (mem_vrs.mpr ?_)
      cases t with
      | var y =>
        cases e
        exact ht
      | val d => cases e
    rw [e]
  | k :: ks, ws, ha, hw => by
    obtain ⟨h, n, ts, e⟩ := ha k (by simp)
    have hts : ∀ x ∈ vrs ts, S x := hl _ (List.mem_of_getElem? e)
    have e2 : (ls.map (liR f))[k]? = some (.atom h n (ts.map (tmR f))) := by rw [List.getElem?_map, e]; rfl
    have hw2 : ∀ w ∈ addW ws (vrs ts), S w := fun w hw3 => by
      rcases (addW_mem _).mp hw3 with h | h
      · exact hw w h
      · exact hts w h
    have e3 : addW (ws.map f) (vrs (ts.map (tmR f))) = (addW ws (vrs ts)).map f := by rw [vrs_ren, addW_ren hf _ hw hts]
    rw [goC_cons e, goC_cons e2, e3, goC_ren hl hh (fun j hj => ha j (by simp [hj])) hw2]
    have e4 : fiD (ws.map f) h n (ts.map (tmR f)) = fiD ws h n ts := by
      show D.tup [.str "find", h, .str n, .tup (pat (ws.map f) (ts.map (tmR f)))] = _
      rw [pat_ren hf hw hts]
      rfl
    have e5 := dueL_ren hf (bf := some ws) (af := addW ws (vrs ts)) (fun b e => by cases e; exact hw) hw2 hl
    rw [e4]
    rw [show dueL (ls.map (liR f)) (some (ws.map f)) ((addW ws (vrs ts)).map f) = dueL ls (some ws) (addW ws (vrs ts)) from e5]
theorem prog_ren {r : Ru} (hl : ∀ l ∈ r.body, ∀ x ∈ vrs (liTs l), S x) (hh : ∀ x ∈ vrs r.head, S x) {ks : List Nat} (ha : atoms r.body ks) : prog (ruR f r).body (ruR f r).head ks = prog r.body r.head ks := by
  have e5 := dueL_ren hf (bf := none) (af := []) (fun b e => nomatch e) (by simp) hl
  have e6 := goC_ren hf hl hh (ks := ks) (ws := []) ha (by simp)
  unfold prog
  show dueL (r.body.map (liR f)) none [] ++ goC (r.body.map (liR f)) (r.head.map (tmR f)) [] ks = _
  rw [show dueL (r.body.map (liR f)) none [] = dueL r.body none [] from e5, show goC (r.body.map (liR f)) (r.head.map (tmR f)) [] ks = goC r.body r.head [] ks from e6]
end
theorem bnd_ren (f : Str → Str) : ∀ ls : List Lit, bnd (ls.map (liR f)) = (bnd ls).map f
  | [] => rfl
  | .atom h n ts :: ls => by
    show vrs (ts.map (tmR f)) ++ bnd (ls.map (liR f)) = _
    rw [vrs_ren, bnd_ren f ls]
    exact List.map_append.symm
  | .test k a b :: ls => bnd_ren f ls
theorem tmOk_ren {f : Str → Str} {t : Tm} (h : tmOk t) (hs : ∀ x, tmV t = some x → PyData.strOk (f x) = true) : tmOk (tmR f t) := by
  cases t with
  | val d => exact h
  | var x => exact hs x rfl
theorem ruOk_ren {f : Str → Str} {r : Ru} (hr : RuOk r) (hs : ∀ l ∈ r.body, ∀ x ∈ vrs (liTs l), PyData.strOk (f x) = true) : RuOk (ruR f r) := by
  have hb : ∀ x ∈ bnd r.body, PyData.strOk (f x) = true := fun x hx => by
    obtain ⟨w, n, ts, hl, hv⟩ := mem_bnd.mp hx
    exact hs _ hl x hv
  have mv : ∀ {ts : List Tm} {t : Tm} {x : Str}, t ∈ ts → tmV t = some x → x ∈ vrs ts := fun {ts t x} ht e => mem_vrs.mpr (by
    cases t with
    | var y =>
      cases e
      exact ht
    | val d => cases e)
  refine ⟨hr.name, fun t ht => ?_, fun l hl => ?_, fun x hx => ?_, ?_, ?_⟩
  · obtain ⟨u, hu, rfl⟩ := List.mem_map.mp ht
    exact tmOk_ren (hr.head u hu) fun x e => hb x (hr.safe x (mv hu e))
  · obtain ⟨m, hm, rfl⟩ := List.mem_map.mp hl
    have ho := hr.body m hm
    have hx := hs m hm
    cases m with
    | atom w n ts =>
      obtain ⟨h1, h2, h3, h4⟩ := ho
      refine ⟨h1, h2, by rw [List.length_map]; exact h3, fun t ht => ?_⟩
      obtain ⟨u, hu, rfl⟩ := List.mem_map.mp ht
      exact tmOk_ren (h4 u hu) fun x e => hx x (mv hu e)
    | test k a b =>
      obtain ⟨h1, h2, h3⟩ := ho
      exact ⟨h1, tmOk_ren h2 fun x e => hx x (mv (by simp [liTs]) e), tmOk_ren h3 fun x e => hx x (mv (by simp [liTs]) e)⟩
  · show x ∈ bnd (r.body.map (liR f))
    have hx : x ∈ vrs (r.head.map (tmR f)) := hx
    rw [vrs_ren] at hx
    rw [bnd_ren]
    obtain ⟨y, hy, rfl⟩ := List.mem_map.mp hx
    exact List.mem_map.mpr ⟨y, hr.safe y hy, rfl⟩
  · show (r.head.map (tmR f)).length ≤ 20
    rw [List.length_map]
    exact hr.hlen
  · show (r.body.map (liR f)).length ≤ 20
    rw [List.length_map]
    exact hr.blen
theorem inj_lk {m : List (Str × Str)} (h : (m.map (·.2)).Nodup) : InjOn (lk m) fun x => x ∈ m.map (·.1) := fun x y hx hy e => by
  have h1 := lk_mem hx
  have h2 := lk_mem hy
  rw [e] at h1
  exact congrArg Prod.fst (nodup_snd h h1 h2)
local macro_rules | `(tactic| walk_at "rd") => `(tactic| simp only [dSeq, dSet, dIf, dTst, dOp, dVar, dC, dRet, dRetN, dNext, dDrop, dBreak, dCont, dAnd, dOr, dNot, dAndV, dOrV, dNotV, dIfE, dTup, dLstF, dLst, dCons, dNil, dCB, dCall, dUn, dNegI,
  dI, dI0, dEq, dNe, dIs, dIsNot, dIn, dNotIn, dIx, isN_non, isN_bl, isN_int, isN_str, isN_tup, isN_lst, isN_rf, DL.rLen, rInt, rAbs, rMax2, rMin2, DL.rGcd, rTuple, rList, rIs, rIsT, ar0, ar1, ar2, ar3, ar4, ar5, ar6, ar7, ar8, dEnds, dMt, dMt0, mAppend, mPop, mReverse, dSetL, dPut, dAsg, dgName, dgTup, dgCons, dgNil,
  dFor, diSeq, diRng1, diRng2, dLcF, dLc, dwipe, dFz,
  dstart, List.map_cons, List.map_nil, List.length_cons, List.length_nil, List.cons_append, List.nil_append, List.append_nil, List.replicate, Nat.reduceAdd, Nat.reduceSub, Nat.reduceLeDiff, Int.reduceNeg, List.set_cons_zero, List.set_cons_succ,
  List.getElem?_cons_zero, List.getElem?_cons_succ, Option.some.injEq, exists_eq_left', exists_eq_left, exists_eq_right, exists_eq, exists_and_left, exists_and_right, D.int.injEq, D.bl.injEq, D.str.injEq, D.tup.injEq, D.lst.injEq, D.ref.injEq, D.ty.injEq, D.dct.injEq,
  List.cons.injEq, and_assoc, and_true, true_and, and_self, reduceCtorEq, false_and, and_false, if_true, if_false, if_pos, ite_true, ite_false, Bool.false_eq_true, decide_eq_true_eq, Bool.not_eq_true', decide_eq_false_iff_not, Bool.not_true, Bool.not_false, decide_true, decide_false,
  eqv_int, eqv_str, eqv_bl, dOk_int, dOk_bl, dOk_non, dOk_tup, dOk_lst, dOk_str, List.all_cons, List.all_nil, Bool.and_true, Bool.true_and, Bool.and_self, dItems_tup, dItems_lst, dItems_rf, CMulA, CDivA, CPowA, Int.reduceLT, Int.reduceLE, Int.reducePow, Int.reduceToNat, Int.reduceMul, Int.reduceAdd, Int.reduceSub, Nat.reducePow, true_or, or_true, ne_eq, not_false_eq_true, not_true_eq_false, dAt_tup, dAt_lst, dAt_rf, dLenOf_tup, dLenOf_lst, dLenOf_rf, dLenOf_str, dTyN_non, dTyN_bl, dTyN_int, dTyN_str, dTyN_tup, dTyN_lst, dTyN_dct, dTyN_rf, dIntOf_int, dIntOf_bl, knownT, subT, atI_0, atI_1, atI_2, atI_3, atI_4, atI_5, atI_neg1, mput_same, mput_mput, eqv_non, tyNames, Option.map_some, String.reduceBEq, Bool.or_true, Bool.true_or, Bool.or_false, Bool.false_or, Bool.false_and, Bool.and_false, beq_self_eq_true, BEq.rfl, List.any_cons, List.any_nil, sizeLine_eq, rLenB, Bool.true_eq_false, implies_true, Nat.zero_le, Bool.or_self, String.reduceEq, dAdd_ii, dAdd_ss, dAdd_tt, dMulA_ii, dMulA_si, dIxS_str, dIxS_tup, dIxS_lst, dIxS_ref, dCat, dCatF, dRep, dSl, dNoP, dPart, dJoin, mExtend, mIndex, rAnyL, rAllL, rSumL, rMaxL, rMinL, dLRg, diEnum, rSortD, dLc2F, dLc2, dYes, diEnumT, dSlS, rSortK, dFzS, dTupRev, diRev, diZip, dMulT, zipD, dDc, dDGet1, dLtD, dGtD, rListK, dUpper, diStr, dInS, dSortL, dSortSet, dSortSetT, dLenSetT, dStar, rIntS, rStrI, dKIx, dKIn, dKNotIn, rLenK, dKNew, dFzK, dFzD, dKPut, diKeys, diVals, diItems, mInsert, mPopAt, dKGet1, dKGet2, dKc, dDict_dct, dDict_put, isKb_int, isKb_str, true_implies, false_implies, items_enE, ruD_mk, liD_atom, liD_test, tmD_var, tmD_val, kn_value_var, kn_var_value, kn_less_atom, kn_unlike_atom, sk_var, sk_value, sk_atom, sk_less, sk_unlike])
local macro_rules | `(tactic| walk_at "st") => `(tactic| (refine seq_i ?_; simp only [dSet, dIf, dTst, dOp, dVar, dC, dRet, dRetN, dNext, dDrop, dBreak, dCont, dAnd, dOr, dNot, dAndV, dOrV, dNotV, dIfE, dTup, dLstF, dLst, dCons, dNil, dCB, dCall, dUn, dNegI,
  dI, dI0, dEq, dNe, dIs, dIsNot, dIn, dNotIn, dIx, isN_non, isN_bl, isN_int, isN_str, isN_tup, isN_lst, isN_rf, DL.rLen, rInt, rAbs, rMax2, rMin2, DL.rGcd, rTuple, rList, rIs, rIsT, ar0, ar1, ar2, ar3, ar4, ar5, ar6, ar7, ar8, dEnds, dMt, dMt0, mAppend, mPop, mReverse, dSetL, dPut, dAsg, dgName, dgTup, dgCons, dgNil,
  dFor, diSeq, diRng1, diRng2, dLcF, dLc, dwipe, dFz,
  dstart, List.map_cons, List.map_nil, List.length_cons, List.length_nil, List.cons_append, List.nil_append, List.append_nil, List.replicate, Nat.reduceAdd, Nat.reduceSub, Nat.reduceLeDiff, Int.reduceNeg, List.set_cons_zero, List.set_cons_succ,
  List.getElem?_cons_zero, List.getElem?_cons_succ, Option.some.injEq, exists_eq_left', exists_eq_left, exists_eq_right, exists_eq, exists_and_left, exists_and_right, D.int.injEq, D.bl.injEq, D.str.injEq, D.tup.injEq, D.lst.injEq, D.ref.injEq, D.ty.injEq, D.dct.injEq,
  List.cons.injEq, and_assoc, and_true, true_and, and_self, reduceCtorEq, false_and, and_false, if_true, if_false, if_pos, ite_true, ite_false, Bool.false_eq_true, decide_eq_true_eq, Bool.not_eq_true', decide_eq_false_iff_not, Bool.not_true, Bool.not_false, decide_true, decide_false,
  eqv_int, eqv_str, eqv_bl, dOk_int, dOk_bl, dOk_non, dOk_tup, dOk_lst, dOk_str, List.all_cons, List.all_nil, Bool.and_true, Bool.true_and, Bool.and_self, dItems_tup, dItems_lst, dItems_rf, CMulA, CDivA, CPowA, Int.reduceLT, Int.reduceLE, Int.reducePow, Int.reduceToNat, Int.reduceMul, Int.reduceAdd, Int.reduceSub, Nat.reducePow, true_or, or_true, ne_eq, not_false_eq_true, not_true_eq_false, dAt_tup, dAt_lst, dAt_rf, dLenOf_tup, dLenOf_lst, dLenOf_rf, dLenOf_str, dTyN_non, dTyN_bl, dTyN_int, dTyN_str, dTyN_tup, dTyN_lst, dTyN_dct, dTyN_rf, dIntOf_int, dIntOf_bl, knownT, subT, atI_0, atI_1, atI_2, atI_3, atI_4, atI_5, atI_neg1, mput_same, mput_mput, eqv_non, tyNames, Option.map_some, String.reduceBEq, Bool.or_true, Bool.true_or, Bool.or_false, Bool.false_or, Bool.false_and, Bool.and_false, beq_self_eq_true, BEq.rfl, List.any_cons, List.any_nil, sizeLine_eq, rLenB, Bool.true_eq_false, implies_true, Nat.zero_le, Bool.or_self, String.reduceEq, dAdd_ii, dAdd_ss, dAdd_tt, dMulA_ii, dMulA_si, dIxS_str, dIxS_tup, dIxS_lst, dIxS_ref, dCat, dCatF, dRep, dSl, dNoP, dPart, dJoin, mExtend, mIndex, rAnyL, rAllL, rSumL, rMaxL, rMinL, dLRg, diEnum, rSortD, dLc2F, dLc2, dYes, diEnumT, dSlS, rSortK, dFzS, dTupRev, diRev, diZip, dMulT, zipD, dDc, dDGet1, dLtD, dGtD, rListK, dUpper, diStr, dInS, dSortL, dSortSet, dSortSetT, dLenSetT, dStar, rIntS, rStrI, dKIx, dKIn, dKNotIn, rLenK, dKNew, dFzK, dFzD, dKPut, diKeys, diVals, diItems, mInsert, mPopAt, dKGet1, dKGet2, dKc, dDict_dct, dDict_put, isKb_int, isKb_str, true_implies, false_implies, items_enE, ruD_mk, liD_atom, liD_test, tmD_var, tmD_val, kn_value_var, kn_var_value, kn_less_atom, kn_unlike_atom, sk_var, sk_value, sk_atom, sk_less, sk_unlike]))
local macro_rules | `(tactic| walk_at "p") => `(tactic| simp only [dRet, dOp, dVar, dCall, dCB, dCons, dNil, ar0, ar1, ar2, ar3, ar4, ar5, DL.rLen, dIx, dEnds, dstart, List.map_cons, List.map_nil, List.length_cons, List.length_nil, List.cons_append, List.nil_append, List.replicate, Nat.reduceAdd, Nat.reduceSub, Nat.reduceLeDiff, List.getElem?_cons_zero, List.getElem?_cons_succ, Option.some.injEq, exists_eq_left', exists_eq_left, exists_and_left, exists_and_right, List.cons.injEq, and_assoc, and_true, true_and, D.ref.injEq, D.int.injEq])
local macro_rules | `(tactic| walk_at "s1") => `(tactic| simp only [dSet, dIf, dTst, dOp, dVar, dC, dRet, dRetN, dNext, dDrop, dBreak, dCont, dAnd, dOr, dNot, dAndV, dOrV, dNotV, dIfE, dTup, dLstF, dLst, dCons, dNil, dCB, dCall, dUn, dNegI,
  dI, dI0, dEq, dNe, dIs, dIsNot, dIn, dNotIn, dIx, isN_non, isN_bl, isN_int, isN_str, isN_tup, isN_lst, isN_rf, DL.rLen, rInt, rAbs, rMax2, rMin2, DL.rGcd, rTuple, rList, rIs, rIsT, ar0, ar1, ar2, ar3, ar4, ar5, ar6, ar7, ar8, dEnds, dMt, dMt0, mAppend, mPop, mReverse, dSetL, dPut, dAsg, dgName, dgTup, dgCons, dgNil,
  dFor, diSeq, diRng1, diRng2, dLcF, dLc, dwipe, dFz,
  dstart, List.map_cons, List.map_nil, List.length_cons, List.length_nil, List.cons_append, List.nil_append, List.append_nil, List.replicate, Nat.reduceAdd, Nat.reduceSub, Nat.reduceLeDiff, Int.reduceNeg, List.set_cons_zero, List.set_cons_succ,
  List.getElem?_cons_zero, List.getElem?_cons_succ, Option.some.injEq, exists_eq_left', exists_eq_left, exists_eq_right, exists_eq, exists_and_left, exists_and_right, D.int.injEq, D.bl.injEq, D.str.injEq, D.tup.injEq, D.lst.injEq, D.ref.injEq, D.ty.injEq, D.dct.injEq,
  List.cons.injEq, and_assoc, and_true, true_and, and_self, reduceCtorEq, false_and, and_false, if_true, if_false, if_pos, ite_true, ite_false, Bool.false_eq_true, decide_eq_true_eq, Bool.not_eq_true', decide_eq_false_iff_not, Bool.not_true, Bool.not_false, decide_true, decide_false,
  eqv_int, eqv_str, eqv_bl, dOk_int, dOk_bl, dOk_non, dOk_tup, dOk_lst, dOk_str, List.all_cons, List.all_nil, Bool.and_true, Bool.true_and, Bool.and_self, dItems_tup, dItems_lst, dItems_rf, CMulA, CDivA, CPowA, Int.reduceLT, Int.reduceLE, Int.reducePow, Int.reduceToNat, Int.reduceMul, Int.reduceAdd, Int.reduceSub, Nat.reducePow, true_or, or_true, ne_eq, not_false_eq_true, not_true_eq_false, dAt_tup, dAt_lst, dAt_rf, dLenOf_tup, dLenOf_lst, dLenOf_rf, dLenOf_str, dTyN_non, dTyN_bl, dTyN_int, dTyN_str, dTyN_tup, dTyN_lst, dTyN_dct, dTyN_rf, dIntOf_int, dIntOf_bl, knownT, subT, atI_0, atI_1, atI_2, atI_3, atI_4, atI_5, atI_neg1, mput_same, mput_mput, eqv_non, tyNames, Option.map_some, String.reduceBEq, Bool.or_true, Bool.true_or, Bool.or_false, Bool.false_or, Bool.false_and, Bool.and_false, beq_self_eq_true, BEq.rfl, List.any_cons, List.any_nil, sizeLine_eq, rLenB, Bool.true_eq_false, implies_true, Nat.zero_le, Bool.or_self, String.reduceEq, dAdd_ii, dAdd_ss, dAdd_tt, dMulA_ii, dMulA_si, dIxS_str, dIxS_tup, dIxS_lst, dIxS_ref, dCat, dCatF, dRep, dSl, dNoP, dPart, dJoin, mExtend, mIndex, rAnyL, rAllL, rSumL, rMaxL, rMinL, dLRg, diEnum, rSortD, dLc2F, dLc2, dYes, diEnumT, dSlS, rSortK, dFzS, dTupRev, diRev, diZip, dMulT, zipD, dDc, dDGet1, dLtD, dGtD, rListK, dUpper, diStr, dInS, dSortL, dSortSet, dSortSetT, dLenSetT, dStar, rIntS, rStrI, dKIx, dKIn, dKNotIn, rLenK, dKNew, dFzK, dFzD, dKPut, diKeys, diVals, diItems, mInsert, mPopAt, dKGet1, dKGet2, dKc, dDict_dct, dDict_put, isKb_int, isKb_str, true_implies, false_implies, items_enE, ruD_mk, liD_atom, liD_test, tmD_var, tmD_val, kn_value_var, kn_var_value, kn_less_atom, kn_unlike_atom, sk_var, sk_value, sk_atom, sk_less, sk_unlike])
theorem srcV_of {a : D} {xs : List D} {M : DM} (h : dItems a M = some xs) : SrcV (xs, dAt a) M := by
  intro p hp
  cases a with
  | ref q =>
    have e : q = p := Option.some.inj hp
    subst e
    rw [dItems_rf] at h
    cases c : M q with
    | none => rw [c] at h; cases h
    | some o =>
      rw [c] at h
      cases o with
      | lst ys =>
        cases h
        rfl
      | _ => cases h
  | _ => cases hp
theorem items_le {M N : DM} {b : D} {xs : List D} (h : dItems b M = some xs) (l : MLe M N) : dItems b N = some xs := by
  cases b with
  | ref r =>
    cases q : M r with
    | none => simp [dItems, q] at h
    | some o =>
      cases o with
      | lst ys =>
        simp [dItems, q] at h
        exact dItems_ref (by rw [l _ _ q, h])
      | _ => simp [dItems, q] at h
  | _ => first | exact h | cases h
theorem ne_ref_of {a : D} {xs : List D} {M : DM} {q : Addr} (h : dItems a M = some xs) (hq : M q = none) : a ≠ .ref q := fun z => by
  rw [z] at h
  simp [dItems, hq] at h
abbrev sp_l_values : DSp := ar2 fun a b M Q => ∃ (p : Addr) (ws : List Str), a = .ref p ∧ b = .lst (ws.map D.str) ∧ Dr M p ∧ 2 ≤ ws.length ∧ (∀ x ∈ ws, PyData.strOk x = true) ∧ ∀ (o : DO) (vs : List D), DrO o → vs.length = 3 → (∀ v ∈ vs, isV v) → Q (.lst vs) (mput M p o)
theorem ok_l_values (F : Def K mg "_law_values" s_l_values ["draws", "words"]) (B : Bi K mg) (I : Im mg) (c_l_take : Cal P w K mg base 1 "_law_take" ["draws", "many"] sp_l_take) (c_l_pick : Cal P w K mg base 2 "_law_pick" ["draws", "row"] sp_l_pick) : Cal P w K mg base 3 "_law_values" ["draws", "words"] sp_l_values := by
  have sc := sc_l_values
  refine F.cal sc (fun ds M Q h => len2 h) (fun f cdv A outer s H E hr => (ds_cons (ds_set (i := 2) sc.nd rfl (Or.inl rfl) (d_op o_sub (d_call c_l_take (hr.mono (by first | decide | omega)) rfl (da_cons (d_v 0) (da_cons d_int da_nil))) d_int))
    (ds_cons (ds_if (dt_cmp (o_eq (hu_eq hr)) (d_call c_l_take (hr.mono (by first | decide | omega)) rfl (da_cons (d_v 0) (da_cons d_int da_nil))) d_int (nomark _))
    (ds_one (ds_set (i := 2) sc.nd rfl (Or.inl rfl) (d_op o_mul (d_v 2) (d_call c_l_pick (hr.mono (by first | decide | omega)) rfl (da_cons (d_v 0) (da_cons (d_lstF (da_cons d_int (da_cons (d_op o_add (d_op o_pow d_int d_int) d_int) (da_cons (d_op o_add (d_op o_pow d_int d_int) d_int) (da_cons (d_op o_add (d_op o_pow d_int d_int) d_int) (da_cons (d_op o_add (d_op o_pow d_int d_int) d_int) da_nil)))))) da_nil))))))
    ds_nil)
    (ds_one (ds_ret (d_ix x_ix (d_lstF (da_cons (d_lstF (da_cons (d_v 2) (da_cons (d_op o_add (d_v 2) d_int) (da_cons (d_call c_l_pick (hr.mono (by first | decide | omega)) rfl (da_cons (d_v 0) (da_cons (d_v 1) da_nil))) da_nil)))) (da_cons (d_lstF (da_cons (d_ix x_ix (d_v 1) d_int (fun _ _ => rfl)) (da_cons (d_v 2) (da_cons (d_ix x_ix (d_v 1) d_int (fun _ _ => rfl)) da_nil)))) da_nil))) (d_call c_l_take (hr.mono (by first | decide | omega)) rfl (da_cons (d_v 0) (da_cons d_int da_nil))) (fun _ _ => rfl))))))) (fun ds M Q h => ?_)
  obtain ⟨a, b, rfl, p, ws, rfl, rfl, hd, hl, hok, h⟩ := h
  walk_at "st"
  refine ⟨hd, fun o1 r1 ho1 r10 r11 => ?_⟩
  refine seq_cut (fun m1 M1 => ∃ (o : DO) (i : Int), DrO o ∧ M1 = mput M p o ∧ m1 = [some (.ref p), some (.lst (ws.map D.str)), some (.int i)]) (fun Cn hC => ?_) ?_
  · walk_at "s1"
    refine ⟨dr_put ho1, fun o2 r2 ho2 r20 r21 => ?_⟩
    split
    · refine ⟨dr_put ho2, fun o3 x ho3 hx => ?_⟩
      obtain ⟨i, rfl⟩ : ∃ i : Int, x = .int i := by
        simp only [List.mem_cons, List.not_mem_nil, or_false] at hx
        rcases hx with rfl | rfl | rfl | rfl | rfl <;> exact ⟨_, rfl⟩
      exact ⟨i, rfl, .inl ⟨by omega, by omega⟩, hC _ _ ⟨o3, _, ho3, rfl, rfl⟩⟩
    · exact hC _ _ ⟨o2, _, ho2, rfl, rfl⟩
  rintro _ _ ⟨o, i, ho, rfl, rfl⟩
  match ws, hl, hok, h with
  | w0 :: w1 :: wr, hl, hok, h =>
    walk_at "rd"
    refine ⟨dr_put ho, fun o2 x ho2 hx => ?_⟩
    have hxV : isV x := by
      rw [List.mem_cons, List.mem_cons] at hx
      rcases hx with rfl | rfl | hx
      · exact .inr ⟨_, rfl, hok _ (by simp)⟩
      · exact .inr ⟨_, rfl, hok _ (by simp)⟩
      · obtain ⟨y, hy, rfl⟩ := List.mem_map.mp hx
        exact .inr ⟨y, rfl, hok y (by simp [hy])⟩
    refine ⟨dr_put ho2, fun o3 r3 ho3 r30 r31 => ?_⟩
    obtain ⟨z, hz, hat⟩ := atI_lt (xs := [D.lst [.int i, .int (i + 1), x], .lst [.str w0, .int i, .str w1]]) r30 r31
    refine ⟨z, hat, ?_⟩
    simp only [List.mem_cons, List.not_mem_nil, or_false] at hz
    rcases hz with rfl | rfl
    · refine ret_of (h o3 _ ho3 rfl fun v hv => ?_)
      simp only [List.mem_cons, List.not_mem_nil, or_false] at hv
      rcases hv with rfl | rfl | rfl
      · exact .inl ⟨_, rfl⟩
      · exact .inl ⟨_, rfl⟩
      · exact hxV
    · refine ret_of (h o3 _ ho3 rfl fun v hv => ?_)
      simp only [List.mem_cons, List.not_mem_nil, or_false] at hv
      rcases hv with rfl | rfl | rfl
      · exact .inr ⟨_, rfl, hok _ (by simp)⟩
      · exact .inl ⟨_, rfl⟩
      · exact .inr ⟨_, rfl, hok _ (by simp)⟩
abbrev sp_l_how : DSp := ar1 fun a M Q => ∃ p, a = .ref p ∧ Dr M p ∧ ∀ (o : DO) (w : D), DrO o → howOk w → Q w (mput M p o)
theorem ok_l_how (F : Def K mg "_law_how" s_l_how ["draws"]) (B : Bi K mg) (I : Im mg) (c_l_take : Cal P w K mg base 1 "_law_take" ["draws", "many"] sp_l_take) : Cal P w K mg base 2 "_law_how" ["draws"] sp_l_how := by
  have sc := sc_l_how
  refine F.cal sc (fun ds M Q h => len1 h) (fun f cdv A outer s H E hr => (ds_cons (ds_if (dt_cmp (o_eq (hu_eq hr)) (d_call c_l_take (hr.mono (by first | decide | omega)) rfl (da_cons (d_v 0) (da_cons d_int da_nil))) d_int (nomark _))
    (ds_one (ds_ret (d_tup (da_cons d_str da_nil))))
    ds_nil)
    (ds_cons (ds_set (i := 1) sc.nd rfl (Or.inl rfl) (d_ix x_ix (d_lstF (da_cons d_str (da_cons d_str (da_cons d_str (da_cons d_str (da_cons d_str (da_cons d_str da_nil))))))) (d_call c_l_take (hr.mono (by first | decide | omega)) rfl (da_cons (d_v 0) (da_cons d_int da_nil))) (fun _ _ => rfl)))
    (ds_cons (ds_if (dt_w (dw_and (dt_cmp (o_notin (hu_in hr)) (d_v 1) (d_lstF (da_cons d_str (da_cons d_str da_nil))) rfl) (dw_and1 (dt_cmp (o_eq (hu_eq hr)) (d_call c_l_take (hr.mono (by first | decide | omega)) rfl (da_cons (d_v 0) (da_cons d_int da_nil))) d_int (nomark _)))))
    (ds_one (ds_ret (d_tup (da_cons (d_v 1) (da_cons d_non da_nil)))))
    ds_nil)
    (ds_one (ds_ret (d_tup (da_cons (d_v 1) (da_cons (d_call c_l_take (hr.mono (by first | decide | omega)) rfl (da_cons (d_v 0) (da_cons d_int da_nil))) da_nil))))))))) (fun ds M Q h => ?_)
  obtain ⟨a, rfl, p, rfl, hd, h⟩ := h
  walk_at "st"
  refine ⟨hd, fun o1 r1 ho1 r10 r11 => ?_⟩
  split
  · exact ret_of (h o1 _ ho1 (.inl rfl))
  walk_at "st"
  refine ⟨dr_put ho1, fun o2 r2 ho2 r20 r21 => ?_⟩
  obtain ⟨x, hx, hat⟩ := atI_lt (xs := [D.str (Str.ofString "once"), D.str (Str.ofString "always"), D.str (Str.ofString "ago"), D.str (Str.ofString "ahead"), D.str (Str.ofString "soon"), D.str (Str.ofString "henceforth")]) r20 r21
  obtain ⟨k, rfl, hk⟩ : ∃ k, x = .str k ∧ howK k := by
    simp only [List.mem_cons, List.not_mem_nil, or_false] at hx
    rcases hx with rfl | rfl | rfl | rfl | rfl | rfl
    · exact ⟨_, rfl, .inl rfl⟩
    · exact ⟨_, rfl, .inr (.inl rfl)⟩
    · exact ⟨_, rfl, .inr (.inr (.inl rfl))⟩
    · exact ⟨_, rfl, .inr (.inr (.inr (.inl rfl)))⟩
    · exact ⟨_, rfl, .inr (.inr (.inr (.inr (.inl rfl))))⟩
    · exact ⟨_, rfl, .inr (.inr (.inr (.inr (.inr rfl))))⟩
  refine ⟨_, hat, ?_⟩
  walk_at "rd"
  refine ⟨howK_str hk, by decide +kernel, ?_⟩
  split
  · refine ⟨dr_put ho2, fun o3 r3 ho3 r30 r31 => ?_⟩
    split
    · exact ret_of (h o3 _ ho3 (.inr ⟨k, hk, .inl rfl⟩))
    · exact ⟨dr_put ho3, fun o4 r4 ho4 r40 r41 => ret_of (h o4 _ ho4 (.inr ⟨k, hk, .inr ⟨r4, r40, rfl⟩⟩))⟩
  · exact ⟨dr_put ho2, fun o4 r4 ho4 r40 r41 => ret_of (h o4 _ ho4 (.inr ⟨k, hk, .inr ⟨r4, r40, rfl⟩⟩))⟩
abbrev sp_l_term : DSp := ar3 fun a b c M Q => ∃ (p : Addr) (vs : List Str) (vals : List D), a = .ref p ∧ b = .lst (vs.map D.str) ∧ c = .lst vals ∧ Dr M p ∧ vs ≠ [] ∧ vals ≠ [] ∧ (∀ v ∈ vals, isV v) ∧ (∀ x ∈ vs, PyData.strOk x = true) ∧ ∀ (o : DO) (t : Tm), DrO o → tmOk t → (∀ x, tmV t = some x → x ∈ vs) → Q (tmD t) (mput M p o)
theorem ok_l_term (F : Def K mg "_law_term" s_l_term ["draws", "variables", "values"]) (B : Bi K mg) (I : Im mg) (c_l_take : Cal P w K mg base 1 "_law_take" ["draws", "many"] sp_l_take) (c_l_pick : Cal P w K mg base 2 "_law_pick" ["draws", "row"] sp_l_pick) : Cal P w K mg base 3 "_law_term" ["draws", "variables", "values"] sp_l_term := by
  have sc := sc_l_term
  refine F.cal sc (fun ds M Q h => len3 h) (fun f cdv A outer s H E hr => (ds_cons (ds_if (dt_cmp (o_eq (hu_eq hr)) (d_call c_l_take (hr.mono (by first | decide | omega)) rfl (da_cons (d_v 0) (da_cons d_int da_nil))) d_int (nomark _))
    (ds_one (ds_ret (d_tup (da_cons d_str (da_cons (d_call c_l_pick (hr.mono (by first | decide | omega)) rfl (da_cons (d_v 0) (da_cons (d_v 2) da_nil))) da_nil)))))
    ds_nil)
    (ds_one (ds_ret (d_tup (da_cons d_str (da_cons (d_call c_l_pick (hr.mono (by first | decide | omega)) rfl (da_cons (d_v 0) (da_cons (d_v 1) da_nil))) da_nil))))))) (fun ds M Q h => ?_)
  obtain ⟨a, b, c, rfl, p, vs, vals, rfl, rfl, rfl, hd, hvs, hvals, hV, hS, h⟩ := h
  walk_at "rd"
  refine ⟨hd, fun o1 r1 ho1 r10 r11 => ?_⟩
  split
  · refine ⟨dr_put ho1, hvals, fun o2 x ho2 hx => ret_of (h o2 (.val x) ho2 (hV x hx) fun y e => nomatch e)⟩
  · refine ⟨dr_put ho1, by simpa using hvs, fun o2 x ho2 hx => ?_⟩
    obtain ⟨y, hy, rfl⟩ := List.mem_map.mp hx
    exact ret_of (h o2 (.var y) ho2 (hS y hy) fun z e => by cases e; exact hy)
theorem map_of {α : Type} {P : α → Prop} (f : α → D) : ∀ {ys : List D}, (∀ y ∈ ys, ∃ t, y = f t ∧ P t) → ∃ ts : List α, ys = ts.map f ∧ ∀ t ∈ ts, P t
  | [], _ => ⟨[], rfl, by simp⟩
  | y :: ys, h => by
    obtain ⟨t, rfl, ht⟩ := h y (by simp)
    obtain ⟨ts, rfl, hts⟩ := map_of (P := P) f (ys := ys) fun z hz => h z (by simp [hz])
    refine ⟨t :: ts, rfl, fun x hx => ?_⟩
    rcases List.mem_cons.mp hx with rfl | hx
    · exact ht
    · exact hts x hx
def plc (e : Str × Nat) : D := .tup [.str e.1, .int ((e.2 : Nat) : Int)]
theorem plc_mk (n : Str) (m : Nat) : plc (n, m) = .tup [.str n, .int ((m : Nat) : Int)] := rfl
abbrev sp_l_atom : DSp := ar5 fun a b c d e M Q => ∃ (p : Addr) (ps : List (Str × Nat)) (vs : List Str) (vals : List D), a = .ref p ∧ b = .lst (ps.map plc) ∧ c = .lst (vs.map D.str) ∧ d = .lst vals ∧ howOk e ∧ Dr M p ∧ ps ≠ [] ∧ (∀ q ∈ ps, PyData.strOk q.1 = true ∧ q.2 ≤ 8) ∧ vs ≠ [] ∧ vals ≠ [] ∧ (∀ v ∈ vals, isV v) ∧ (∀ x ∈ vs, PyData.strOk x = true) ∧
  ∀ (o : DO) (n : Str) (ts : List Tm), DrO o → liOk (.atom e n ts) → (n, ts.length) ∈ ps → (∀ x ∈ vrs ts, x ∈ vs) → Q (liD (.atom e n ts)) (mput M p o)
theorem ok_l_atom (F : Def K mg "_law_atom" s_l_atom ["draws", "places", "variables", "values", "how"]) (B : Bi K mg) (I : Im mg) (c_l_pick : Cal P w K mg base 2 "_law_pick" ["draws", "row"] sp_l_pick) (c_l_term : Cal P w K mg base 3 "_law_term" ["draws", "variables", "values"] sp_l_term) : Cal P w K mg base 4 "_law_atom" ["draws", "places", "variables", "values", "how"] sp_l_atom := by
  have sc := sc_l_atom
  refine F.cal sc (fun ds M Q h => len5 h) (fun f cdv A outer s H E hr => (ds_cons (ds_set (i := 5) sc.nd rfl (Or.inl rfl) (d_call c_l_pick (hr.mono (by first | decide | omega)) rfl (da_cons (d_v 0) (da_cons (d_v 1) da_nil))))
    (ds_one (ds_ret (d_tup (da_cons d_str (da_cons (d_v 4) (da_cons (d_ix x_ix (d_v 5) d_int (fun _ _ => rfl)) (da_cons (d_ct c_tuple rfl B.b_tuple boot_tuple (da_cons (d_lcF rfl sc.nd (own := [("k", 6)]) (di_range1 rfl B.b_range (da_cons (d_ix x_ix (d_v 5) d_int (fun _ _ => rfl)) da_nil)) (blkOk_by (N := N_l_atom) (sc := defScope s_l_atom) (by decide +kernel)) (by decide) (fun _ _ _ _ _ => (dg_name (i := 6) sc.nd rfl (Or.inl rfl))) (fun _ _ _ _ _ => dts_nil) (fun _ _ _ _ _ => (d_call c_l_term (hr.mono (by first | decide | omega)) rfl (da_cons (d_v 0) (da_cons (d_v 2) (da_cons (d_v 3) da_nil)))))) da_nil)) da_nil))))))))) (fun ds M Q h => ?_)
  obtain ⟨a, b, c, d, e, rfl, p, ps, vs, vals, rfl, rfl, rfl, rfl, hw, hd, hps, hpo, hvs, hvals, hV, hS, h⟩ := h
  walk_at "st"
  refine ⟨hd, by simpa using hps, fun o1 x ho1 hx => ?_⟩
  obtain ⟨⟨n, m⟩, hnm, rfl⟩ := List.mem_map.mp hx
  obtain ⟨hn, hm⟩ := hpo _ hnm
  rw [plc_mk]
  walk_at "rd"
  have hm : m ≤ 8 := hm
  refine ⟨by omega, by omega, fun _ => ?_⟩
  refine lc_draw (fun y => ∃ t : Tm, y = tmD t ∧ tmOk t ∧ ∀ x, tmV t = some x → x ∈ vs) rfl ho1 (fun d _ r l o hpr hr ho C1 h1 => ?_) fun r o acc hpr hr ho hl hacc => ?_
  · walk_at "rd"
    refine ⟨vs, rfl, dr_ne (dr_put ho) hpr, hvs, hvals, hV, hS, fun o3 t ho3 ht htv => ?_⟩
    rw [mput_swap hpr]
    exact h1 o3 _ ho3 ⟨t, rfl, ht, htv⟩
  · obtain ⟨ts, hts, hta⟩ := map_of tmD hacc
    rw [mdel_mput hr]
    subst hts
    have hl' : ts.length = m := by
      rw [rangeD_len, List.length_map] at hl
      omega
    refine ret_of (h o n ts ho ⟨hw, hn, by omega, fun t ht => (hta t ht).1⟩ (by rw [hl']; exact hnm) fun x hx => ?_)
    have := mem_vrs.mp hx
    exact (hta _ this).2 x rfl
/-- the words of atoms, each once -/
def bdW (ls : List Lit) : List Str := addW [] (bnd ls)
theorem bnd_atom (w : D) (n : Str) (ts : List Tm) (ls : List Lit) : bnd (.atom w n ts :: ls) = vrs ts ++ bnd ls := rfl
theorem bnd_test (k : Str) (a b : Tm) (ls : List Lit) : bnd (.test k a b :: ls) = bnd ls := rfl
theorem addW_app (ws xs ys : List Str) : addW ws (xs ++ ys) = addW (addW ws xs) ys := List.foldl_append ..
abbrev sp_l_bound : DSp := ar1 fun a M Q => ∃ ls : List Lit, dItems a M = some (ls.map liD) ∧ (∀ l ∈ ls, liOk l) ∧ ls.length ≤ 1000 ∧ Q (.lst ((bdW ls).map D.str)) M
theorem ok_l_bound (F : Def K mg "_law_bound" s_l_bound ["body"]) (B : Bi K mg) (I : Im mg)  : Cal P w K mg base 1 "_law_bound" ["body"] sp_l_bound := by
  have sc := sc_l_bound
  refine F.cal sc (fun ds M Q h => len1 h) (fun f cdv A outer s H E hr => (ds_cons (ds_set (i := 1) sc.nd rfl (Or.inl rfl) (d_lst da_nil))
    (ds_cons (ds_for PassesOwn.never rfl (di_seq (d_v 0)) (dg_name (i := 2) sc.nd rfl (Or.inl rfl))
    (ds_one (ds_if (dt_cmp (o_eq (hu_eq hr)) (d_ix x_ix (d_v 2) d_int (fun _ _ => rfl)) d_str (nomark _))
    (ds_one (ds_for PassesOwn.never rfl (di_seq (d_ix x_ix (d_v 2) d_int (fun _ _ => rfl))) (dg_name (i := 3) sc.nd rfl (Or.inl rfl))
    (ds_one (ds_if (dt_w (dw_and (dt_cmp (o_eq (hu_eq hr)) (d_ix x_ix (d_v 3) d_int (fun _ _ => rfl)) d_str (nomark _)) (dw_and1 (dt_cmp (o_notin (hu_in hr)) (d_ix x_ix (d_v 3) d_int (fun _ _ => rfl)) (d_v 1) rfl))))
    (ds_one (ds_expr (d_mt PySem.F.slot_list_append PySem.F.type_list_append m_append (d_v 1) (da_cons (d_ix x_ix (d_v 3) d_int (fun _ _ => rfl)) da_nil))))
    ds_nil))))
    ds_nil)))
    (ds_one (ds_ret (d_fz (d_v 1))))))) (fun ds M Q h => ?_)
  obtain ⟨a, rfl, ls, hi0, hok, hll, h⟩ := h
  walk_at "st"
  intro q hq
  have hne := ne_ref_of hi0 hq
  have hit : ∀ o, dItems a (mput M q o) = some (ls.map liD) := fun o => by rw [items_put hne]; exact hi0
  walk_at "st"
  refine ⟨_, hit _, fun _ => ?_⟩
  refine for_ind (fun items m1 M1 => ∃ (rest : List Lit) (fw : List Str) (x2 x3 : Option D), items = rest.map liD ∧ (∀ l ∈ rest, l ∈ ls) ∧ addW fw (bnd rest) = bdW ls ∧ fw.length + 8 * rest.length ≤ 8000 ∧ (∀ x ∈ fw, PyData.strOk x = true) ∧ M1 = mput M q (.lst (fw.map D.str)) ∧ m1 = [some a, some (.ref q), x2, x3]) ?_ ?_ _ _ _ ⟨ls, [], _, _, rfl, fun _ h => h, rfl, by simp; omega, by simp, rfl, rfl⟩
  · rintro m1 M1 ⟨rest, fw, x2, x3, hi, hs, he, hl2, hfo, rfl, rfl⟩
    refine ⟨srcV_of (hit _), ?_⟩
    cases rest with
    | cons x r => cases hi
    | nil =>
      have he : fw = bdW ls := he
      subst he
      walk_at "rd"
      refine ⟨_, rfl, ?_⟩
      rw [mdel_mput hq]
      exact ret_of h
  · rintro z items m1 M1 Cn hC ⟨rest, fw, x2, x3, hi, hs, he, hl2, hfo, rfl, rfl⟩
    refine ⟨srcV_of (hit _), ?_⟩
    cases rest with
    | nil => cases hi
    | cons l rest =>
      rw [List.map_cons] at hi
      injection hi with e1 e2
      subst e1
      subst e2
      rw [List.length_cons] at hl2
      have hlo := hok l (hs l (by simp))
      have hs2 : ∀ l ∈ rest, l ∈ ls := fun l hl => hs l (by simp [hl])
      cases l with
      | test k b c =>
        obtain ⟨hk, _⟩ := hlo
        rcases hk with rfl | rfl
        · walk_at "rd"
          exact fg_of (hC _ _ ⟨rest, fw, _, _, rfl, hs2, he, by omega, hfo, rfl, rfl⟩)
        · walk_at "rd"
          exact fg_of (hC _ _ ⟨rest, fw, _, _, rfl, hs2, he, by omega, hfo, rfl, rfl⟩)
      | atom w n ts =>
        obtain ⟨_, _, htl, hto⟩ := hlo
        walk_at "rd"
        intro _
        refine for_ind (fun items m1 M1 => ∃ (tr : List Tm) (gw : List Str) (x3 : Option D), items = tr.map tmD ∧ (∀ t ∈ tr, tmOk t) ∧ addW gw (vrs tr ++ bnd rest) = bdW ls ∧ gw.length + tr.length + 8 * rest.length ≤ 8000 ∧ (∀ x ∈ gw, PyData.strOk x = true) ∧ M1 = mput M q (.lst (gw.map D.str)) ∧ m1 = [some a, some (.ref q), some (liD (.atom w n ts)), x3]) ?_ ?_ _ _ _ ⟨ts, fw, _, rfl, hto, he, by omega, hfo, rfl, rfl⟩
        · rintro m1 M1 ⟨tr, gw, x3, hi, hs, he, hl2, hfo, rfl, rfl⟩
          refine ⟨srcV_none, ?_⟩
          cases tr with
          | cons x r => cases hi
          | nil => exact fg_of (hC _ _ ⟨rest, gw, _, _, rfl, hs2, he, by simp at hl2; omega, hfo, rfl, rfl⟩)
        · rintro z items m1 M1 Cn2 hC2 ⟨tr, gw, x3, hi, hs, he, hl2, hfo, rfl, rfl⟩
          refine ⟨srcV_none, ?_⟩
          cases tr with
          | nil => cases hi
          | cons t tr =>
            rw [List.map_cons] at hi
            injection hi with e1 e2
            subst e1
            subst e2
            rw [List.length_cons] at hl2
            cases t with
            | val d =>
              walk_at "rd"
              exact fg_of (hC2 _ _ ⟨tr, gw, _, rfl, fun t ht => hs t (by simp [ht]), he, by omega, hfo, rfl, rfl⟩)
            | var x =>
              have hx : PyData.strOk x = true := hs (.var x) (by simp)
              have hgo : (gw.map D.str).all (dOk 63) = true := by
                rw [List.all_map]
                exact List.all_eq_true.mpr fun y hy => by
                  show dOk 63 (.str y) = true
                  rw [dOk_str]
                  exact hfo y hy
              have he' : addW (if x ∈ gw then gw else gw ++ [x]) (vrs tr ++ bnd rest) = bdW ls := he
              walk_at "rd"
              refine ⟨hx, hgo, ?_⟩
              rw [any_strs]
              split
              · next c =>
                have c' : x ∉ gw := of_decide_eq_false c
                rw [if_neg c'] at he'
                refine ⟨⟨_, rfl⟩, _, rfl, by rw [List.length_map]; omega, fg_of (hC2 _ _ ⟨tr, gw ++ [x], _, rfl, fun t ht => hs t (by simp [ht]), he', by rw [List.length_append, List.length_singleton]; omega, fun y hy => ?_, by rw [List.map_append]; rfl, rfl⟩)⟩
                rcases List.mem_append.mp hy with hy | hy
                · exact hfo y hy
                · rw [List.mem_singleton.mp hy]
                  exact hx
              · next c =>
                have c' : x ∈ gw := by
                  cases e : decide (x ∈ gw) with
                  | false => exact absurd e c
                  | true => exact of_decide_eq_true e
                rw [if_pos c'] at he'
                exact fg_of (hC2 _ _ ⟨tr, gw, _, rfl, fun t ht => hs t (by simp [ht]), he', by omega, hfo, rfl, rfl⟩)
theorem mem_bdW {ls : List Lit} {x : Str} : x ∈ bdW ls ↔ x ∈ bnd ls := by
  unfold bdW
  rw [addW_mem]
  simp
theorem bnd_str {ls : List Lit} (h : ∀ l ∈ ls, liOk l) {x : Str} (hx : x ∈ bnd ls) : PyData.strOk x = true := by
  obtain ⟨w, n, ts, hl, hx⟩ := mem_bnd.mp hx
  exact (h _ hl).2.2.2 _ (mem_vrs.mp hx)
abbrev sp_l_safe : DSp := ar4 fun a b c d M Q => ∃ (p : Addr) (t : Tm) (bd : List Str) (vals : List D), a = .ref p ∧ b = tmD t ∧ c = .lst (bd.map D.str) ∧ d = .lst vals ∧ Dr M p ∧ tmOk t ∧ vals ≠ [] ∧ (∀ v ∈ vals, isV v) ∧ (∀ x ∈ bd, PyData.strOk x = true) ∧ ∀ (o : DO) (t : Tm), DrO o → tmOk t → (∀ x, tmV t = some x → x ∈ bd) → Q (tmD t) (mput M p o)
theorem ok_l_safe (F : Def K mg "_law_safe" s_l_safe ["draws", "term", "bound", "values"]) (B : Bi K mg) (I : Im mg) (c_l_pick : Cal P w K mg base 2 "_law_pick" ["draws", "row"] sp_l_pick) : Cal P w K mg base 3 "_law_safe" ["draws", "term", "bound", "values"] sp_l_safe := by
  have sc := sc_l_safe
  refine F.cal sc (fun ds M Q h => len4 h) (fun f cdv A outer s H E hr => (ds_cons (ds_if (dt_w (dw_or (dt_cmp (o_eq (hu_eq hr)) (d_ix x_ix (d_v 1) d_int (fun _ _ => rfl)) d_str (nomark _)) (dw_or1 (dt_cmp (o_in (hu_in hr)) (d_ix x_ix (d_v 1) d_int (fun _ _ => rfl)) (d_v 2) rfl))))
    (ds_one (ds_ret (d_v 1)))
    ds_nil)
    (ds_cons (ds_if (dt_cmp o_gt (d_cb c_len rfl B.b_len boot_len (da_cons (d_v 2) da_nil)) d_int (nomark _))
    (ds_one (ds_ret (d_tup (da_cons d_str (da_cons (d_call c_l_pick (hr.mono (by first | decide | omega)) rfl (da_cons (d_v 0) (da_cons (d_v 2) da_nil))) da_nil)))))
    ds_nil)
    (ds_one (ds_ret (d_tup (da_cons d_str (da_cons (d_call c_l_pick (hr.mono (by first | decide | omega)) rfl (da_cons (d_v 0) (da_cons (d_v 3) da_nil))) da_nil)))))))) (fun ds M Q h => ?_)
  obtain ⟨a, b, c, d, rfl, p, t, bd, vals, rfl, rfl, rfl, rfl, hd, ht, hvals, hV, hS, h⟩ := h
  obtain ⟨o0, e0, ho0⟩ := id hd
  have hid : ∀ t, tmOk t → (∀ x, tmV t = some x → x ∈ bd) → Q (tmD t) M := fun t h1 h2 => by
    have z := h o0 t ho0 h1 h2
    rwa [mput_self e0] at z
  cases t with
  | val v =>
    walk_at "rd"
    exact ret_of (hid (.val v) ht fun x e => nomatch e)
  | var x =>
    have hx : PyData.strOk x = true := ht
    have hbo : (bd.map D.str).all (dOk 63) = true := by
      rw [List.all_map]
      exact List.all_eq_true.mpr fun y hy => by
        show dOk 63 (.str y) = true
        rw [dOk_str]
        exact hS y hy
    walk_at "rd"
    refine ⟨hx, hbo, ?_⟩
    rw [any_strs]
    split
    · next c => exact ret_of (hid (.var x) ht fun y e => by cases e; exact of_decide_eq_true c)
    · split
      · next c2 =>
        refine ⟨hd, fun z => ?_, fun o y ho hy => ?_⟩
        · rw [z] at c2
          simp at c2
        · obtain ⟨b, hb, rfl⟩ := List.mem_map.mp hy
          exact ret_of (h o (.var b) ho (hS b hb) fun y e => by cases e; exact hb)
      · exact ⟨hd, hvals, fun o y ho hy => ret_of (h o (.val y) ho (hV y hy) fun y e => nomatch e)⟩
abbrev sp_l_rule : DSp := ar8 fun a b c d e f g h M Q => ∃ (p : Addr) (name : Str) (w : Int) (ps rg : List (Str × Nat)) (vs : List Str) (vals : List D) (mn : Int), a = .ref p ∧ b = .str name ∧ c = .int w ∧ d = .lst (ps.map plc) ∧ e = .lst (rg.map plc) ∧ f = .lst (vs.map D.str) ∧ g = .lst vals ∧ h = .int mn ∧ 0 ≤ w ∧ w ≤ 8 ∧ 1 ≤ mn ∧ mn ≤ 6 ∧
  PyData.strOk name = true ∧ Dr M p ∧ ps ≠ [] ∧ (∀ q ∈ ps, PyData.strOk q.1 = true ∧ q.2 ≤ 8) ∧ (∀ q ∈ rg, PyData.strOk q.1 = true ∧ q.2 ≤ 8) ∧ vs ≠ [] ∧ vals ≠ [] ∧ (∀ v ∈ vals, isV v) ∧ (∀ x ∈ vs, PyData.strOk x = true) ∧
  ∀ (o : DO) (r : Ru), DrO o → RuOk r → r.name = name → (r.head.length : Int) = w → (∀ x ∈ bnd r.body, x ∈ vs) → (∀ l ∈ r.body, ∀ x ∈ vrs (liTs l), x ∈ bnd r.body) → (∀ l ∈ r.body, ∀ h n ts, l = .atom h n ts → (n, ts.length) ∈ ps ∨ (h = .tup [.str "now"] ∧ (n, ts.length) ∈ rg)) → Q (ruD r) (mput M p o)
theorem ok_l_rule (F : Def K mg "_law_rule" s_l_rule ["draws", "name", "width", "places", "ring", "variables", "values", "many"]) (B : Bi K mg) (I : Im mg) (c_l_take : Cal P w K mg base 1 "_law_take" ["draws", "many"] sp_l_take) (c_l_pick : Cal P w K mg base 2 "_law_pick" ["draws", "row"] sp_l_pick) (c_l_how : Cal P w K mg base 2 "_law_how" ["draws"] sp_l_how) (c_l_term : Cal P w K mg base 3 "_law_term" ["draws", "variables", "values"] sp_l_term) (c_l_atom : Cal P w K mg base 4 "_law_atom" ["draws", "places", "variables", "values", "how"] sp_l_atom) (c_l_bound : Cal P w K mg base 1 "_law_bound" ["body"] sp_l_bound) (c_l_safe : Cal P w K mg base 3 "_law_safe" ["draws", "term", "bound", "values"] sp_l_safe) : Cal P w K mg base 5 "_law_rule" ["draws", "name", "width", "places", "ring", "variables", "values", "many"] sp_l_rule := by
  have sc := sc_l_rule
  refine F.cal sc (fun ds M Q h => len8 h) (fun f cdv A outer s H E hr => (ds_cons (ds_set (i := 8) sc.nd rfl (Or.inl rfl) (d_lst da_nil))
    (ds_cons (ds_for PassesOwn.never rfl (di_range1 rfl B.b_range (da_cons (d_op o_add d_int (d_call c_l_take (hr.mono (by first | decide | omega)) rfl (da_cons (d_v 0) (da_cons (d_v 7) da_nil)))) da_nil)) (dg_name (i := 9) sc.nd rfl (Or.inl rfl))
    (ds_one (ds_if (dt_w (dw_and (dt_cmp o_gt (d_cb c_len rfl B.b_len boot_len (da_cons (d_v 4) da_nil)) d_int (nomark _)) (dw_and1 (dt_cmp (o_eq (hu_eq hr)) (d_call c_l_take (hr.mono (by first | decide | omega)) rfl (da_cons (d_v 0) (da_cons d_int da_nil))) d_int (nomark _)))))
    (ds_one (ds_expr (d_mt PySem.F.slot_list_append PySem.F.type_list_append m_append (d_v 8) (da_cons (d_call c_l_atom (hr.mono (by first | decide | omega)) rfl (da_cons (d_v 0) (da_cons (d_v 4) (da_cons (d_v 5) (da_cons (d_v 6) (da_cons (d_tup (da_cons d_str da_nil)) da_nil)))))) da_nil))))
    (ds_one (ds_expr (d_mt PySem.F.slot_list_append PySem.F.type_list_append m_append (d_v 8) (da_cons (d_call c_l_atom (hr.mono (by first | decide | omega)) rfl (da_cons (d_v 0) (da_cons (d_v 3) (da_cons (d_v 5) (da_cons (d_v 6) (da_cons (d_call c_l_how (hr.mono (by first | decide | omega)) rfl (da_cons (d_v 0) da_nil)) da_nil)))))) da_nil)))))))
    (ds_cons (ds_set (i := 10) sc.nd rfl (Or.inr rfl) (d_call c_l_bound (hr.mono (by first | decide | omega)) rfl (da_cons (d_v 8) da_nil)))
    (ds_cons (ds_set (i := 11) sc.nd rfl (Or.inl rfl) (d_ct c_tuple rfl B.b_tuple boot_tuple (da_cons (d_lcF rfl sc.nd (own := [("k", 9)]) (di_range1 rfl B.b_range (da_cons (d_v 2) da_nil)) (blkOk_by (N := N_l_rule) (sc := defScope s_l_rule) (by decide +kernel)) (by decide) (fun _ _ _ _ _ => (dg_name (i := 9) sc.nd rfl (Or.inl rfl))) (fun _ _ _ _ _ => dts_nil) (fun _ _ _ _ _ => (d_call c_l_safe (hr.mono (by first | decide | omega)) rfl (da_cons (d_v 0) (da_cons (d_call c_l_term (hr.mono (by first | decide | omega)) rfl (da_cons (d_v 0) (da_cons (d_v 5) (da_cons (d_v 6) da_nil)))) (da_cons (d_v 10) (da_cons (d_v 6) da_nil))))))) da_nil)))
    (ds_cons (ds_if (dt_cmp (o_eq (hu_eq hr)) (d_call c_l_take (hr.mono (by first | decide | omega)) rfl (da_cons (d_v 0) (da_cons d_int da_nil))) d_int (nomark _))
    (ds_cons (ds_setLcF (i := 12) rfl sc.nd rfl rfl (sw_true rfl rfl rfl (by decide +kernel)) (own := [("k", 9)]) (di_range1 rfl B.b_range (da_cons d_int da_nil)) (blkOk_by (N := N_l_rule) (sc := defScope s_l_rule) (by decide +kernel)) (by decide) (fun _ _ _ _ _ => (dg_name (i := 9) sc.nd rfl (Or.inl rfl))) (fun _ _ _ _ _ => dts_nil) (fun _ _ _ _ _ => (d_call c_l_safe (hr.mono (by first | decide | omega)) rfl (da_cons (d_v 0) (da_cons (d_call c_l_term (hr.mono (by first | decide | omega)) rfl (da_cons (d_v 0) (da_cons (d_v 5) (da_cons (d_v 6) da_nil)))) (da_cons (d_v 10) (da_cons (d_v 6) da_nil)))))))
    (ds_cons (ds_set (i := 13) sc.nd rfl (Or.inl rfl) (d_tup (da_cons (d_ix x_ix (d_lstF (da_cons d_str (da_cons d_str da_nil))) (d_call c_l_take (hr.mono (by first | decide | omega)) rfl (da_cons (d_v 0) (da_cons d_int da_nil))) (fun _ _ => rfl)) (da_cons (d_ix x_ix (d_v 12) d_int (fun _ _ => rfl)) (da_cons (d_ix x_ix (d_v 12) d_int (fun _ _ => rfl)) da_nil)))))
    (ds_one (ds_expr (d_mt PySem.F.slot_list_insert PySem.F.type_list_insert m_insert (d_v 8) (da_cons (d_call c_l_take (hr.mono (by first | decide | omega)) rfl (da_cons (d_v 0) (da_cons (d_op o_add (d_cb c_len rfl B.b_len boot_len (da_cons (d_v 8) da_nil)) d_int) da_nil))) (da_cons (d_v 13) da_nil)))))))
    ds_nil)
    (ds_cons (ds_if (dt_cmp (o_eq (hu_eq hr)) (d_call c_l_take (hr.mono (by first | decide | omega)) rfl (da_cons (d_v 0) (da_cons d_int da_nil))) d_int (nomark _))
    (ds_cons (ds_setLcF (i := 12) rfl sc.nd rfl rfl (sw_true rfl rfl rfl (by decide +kernel)) (own := [("k", 9)]) (di_range1 rfl B.b_range (da_cons d_int da_nil)) (blkOk_by (N := N_l_rule) (sc := defScope s_l_rule) (by decide +kernel)) (by decide) (fun _ _ _ _ _ => (dg_name (i := 9) sc.nd rfl (Or.inl rfl))) (fun _ _ _ _ _ => dts_nil) (fun _ _ _ _ _ => (d_tup (da_cons d_str (da_cons (d_call c_l_pick (hr.mono (by first | decide | omega)) rfl (da_cons (d_v 0) (da_cons (d_v 6) da_nil))) da_nil)))))
    (ds_cons (ds_set (i := 8) sc.nd rfl (Or.inl rfl) (d_sl (d_lstF (da_cons (d_tup (da_cons d_str (da_cons (d_ix x_ix (d_v 12) d_int (fun _ _ => rfl)) (da_cons (d_ix x_ix (d_v 12) d_int (fun _ _ => rfl)) da_nil)))) da_nil)) dp_none (dp_some (d_call c_l_take (hr.mono (by first | decide | omega)) rfl (da_cons (d_v 0) (da_cons d_int da_nil))))))
    (ds_one (ds_set (i := 11) sc.nd rfl (Or.inl rfl) (d_ct c_tuple rfl B.b_tuple boot_tuple (da_cons (d_lcF rfl sc.nd (own := [("k", 9)]) (di_range1 rfl B.b_range (da_cons (d_v 2) da_nil)) (blkOk_by (N := N_l_rule) (sc := defScope s_l_rule) (by decide +kernel)) (by decide) (fun _ _ _ _ _ => (dg_name (i := 9) sc.nd rfl (Or.inl rfl))) (fun _ _ _ _ _ => dts_nil) (fun _ _ _ _ _ => (d_tup (da_cons d_str (da_cons (d_call c_l_pick (hr.mono (by first | decide | omega)) rfl (da_cons (d_v 0) (da_cons (d_v 6) da_nil))) da_nil))))) da_nil))))))
    ds_nil)
    (ds_one (ds_ret (d_tup (da_cons (d_v 1) (da_cons (d_v 11) (da_cons (d_ct c_tuple rfl B.b_tuple boot_tuple (da_cons (d_v 8) da_nil)) da_nil))))))))))))) (fun ds M Q h => ?_)
  obtain ⟨a, b, c, d, e, f, g, h1, rfl, p, name, w, ps, rg, vs, vals, mn, rfl, rfl, rfl, rfl, rfl, rfl, rfl, rfl, hw0, hw1, hm0, hm1, hnm, hd, hps, hpo, hro, hvs, hvals, hV, hS, h⟩ := h
  obtain ⟨o0, e0, ho0⟩ := hd
  have hvsD : ¬ vs.map D.str = [] := by simpa using hvs
  walk_at "st"
  intro q hq
  have hpq : p ≠ q := ne_of_fresh e0 hq
  have hqM : ∀ o, mput M p o q = none := fun o => mput_fresh hpq hq
  refine seq_cut (fun m2 M2 => ∃ (o : DO) (bl : List Lit) (x9 : Option D), DrO o ∧ (∀ l ∈ bl, liOk l ∧ isT l = false ∧ ∀ x ∈ vrs (liTs l), x ∈ vs) ∧ (∀ l ∈ bl, ∀ h n ts, l = .atom h n ts → (n, ts.length) ∈ ps ∨ (h = .tup [.str "now"] ∧ (n, ts.length) ∈ rg)) ∧ bl.length ≤ 6 ∧ M2 = mput (mput M p o) q (.lst (bl.map liD)) ∧
    m2 = [some (.ref p), some (.str name), some (.int w), some (.lst (ps.map plc)), some (.lst (rg.map plc)), some (.lst (vs.map D.str)), some (.lst vals), some (.int mn), some (.ref q), x9, none, none, none, none]) (fun Cn hC => ?_) ?_
  · walk_at "s1"
    rw [← mput_self e0]
    refine ⟨dr_ne (dr_put ho0) hpq, by omega, fun o1 r1 ho1 r10 r11 => ?_⟩
    rw [mput_swap hpq]
    refine ⟨by omega, by omega, fun _ => ?_⟩
    have hn : (rangeD 0 (1 + r1).toNat).length ≤ 6 := by rw [rangeD_len]; omega
    generalize rangeD 0 (1 + r1).toNat = items at hn
    refine for_ind (fun items m1 M1 => ∃ (o : DO) (bl : List Lit) (x9 : Option D), DrO o ∧ (∀ l ∈ bl, liOk l ∧ isT l = false ∧ ∀ x ∈ vrs (liTs l), x ∈ vs) ∧ (∀ l ∈ bl, ∀ h n ts, l = .atom h n ts → (n, ts.length) ∈ ps ∨ (h = .tup [.str "now"] ∧ (n, ts.length) ∈ rg)) ∧ bl.length + items.length ≤ 6 ∧ M1 = mput (mput M p o) q (.lst (bl.map liD)) ∧
      m1 = [some (.ref p), some (.str name), some (.int w), some (.lst (ps.map plc)), some (.lst (rg.map plc)), some (.lst (vs.map D.str)), some (.lst vals), some (.int mn), some (.ref q), x9, none, none, none, none]) ?_ ?_ _ _ _ ⟨o1, [], _, ho1, by simp, by simp, by simpa using hn, rfl, rfl⟩
    · rintro m1 M1 ⟨o, bl, x9, ho, hb1, hb2, hbl, rfl, rfl⟩
      exact ⟨srcV_none, hC _ _ ⟨o, bl, _, ho, hb1, hb2, by simpa using hbl, rfl, rfl⟩⟩
    · rintro z items m1 M1 Cn2 hC2 ⟨o, bl, x9, ho, hb1, hb2, hbl, rfl, rfl⟩
      refine ⟨srcV_none, ?_⟩
      rw [List.length_cons] at hbl
      have fin : ∀ (o : DO) (l : Lit), DrO o → liOk l → isT l = false → (∀ x ∈ vrs (liTs l), x ∈ vs) → (∀ h n ts, l = .atom h n ts → (n, ts.length) ∈ ps ∨ (h = .tup [.str "now"] ∧ (n, ts.length) ∈ rg)) →
          fg Cn2 [some (.ref p), some (.str name), some (.int w), some (.lst (ps.map plc)), some (.lst (rg.map plc)), some (.lst (vs.map D.str)), some (.lst vals), some (.int mn), some (.ref q), some z, none, none, none, none] (mput (mput M p o) q (.lst (bl.map liD ++ [liD l]))) := fun o l ho h1 h2 h3 h4 => by
        refine fg_of (hC2 _ _ ⟨o, bl ++ [l], _, ho, fun m hm => ?_, fun m hm => ?_, by rw [List.length_append, List.length_singleton]; omega, by rw [List.map_append]; rfl, rfl⟩)
        · rcases List.mem_append.mp hm with hm | hm
          · exact hb1 m hm
          · rw [List.mem_singleton.mp hm]
            exact ⟨h1, h2, h3⟩
        · rcases List.mem_append.mp hm with hm | hm
          · exact hb2 m hm
          · rw [List.mem_singleton.mp hm]
            exact h4
      walk_at "rd"
      split
      · next cr =>
        have hrg : ¬ rg = [] := fun z => by rw [z] at cr; simp at cr
        refine ⟨dr_ne (dr_put ho) hpq, fun o2 r2 ho2 _ _ => ?_⟩
        rw [mput_swap hpq]
        split
        · refine ⟨⟨_, by rw [mput_same]⟩, rg, rfl, vs, rfl, .inl rfl, dr_ne (dr_put ho2) hpq, hrg, hro, hvs, hvals, hV, hS, fun o3 n ts ho3 hlo hnp hsub => ?_⟩
          rw [mput_swap hpq]
          refine ⟨_, mput_same, by rw [List.length_map]; omega, ?_⟩
          rw [mput_mput, ← liD_atom]
          exact fin o3 _ ho3 hlo rfl hsub fun h n2 ts2 e => by cases e; exact .inr ⟨rfl, hnp⟩
        · refine ⟨⟨_, by rw [mput_same]⟩, dr_ne (dr_put ho2) hpq, fun o3 wv ho3 hwv => ?_⟩
          rw [mput_swap hpq]
          refine ⟨ps, rfl, vs, rfl, hwv, dr_ne (dr_put ho3) hpq, hps, hpo, hvs, hvals, hV, hS, fun o4 n ts ho4 hlo hnp hsub => ?_⟩
          rw [mput_swap hpq]
          refine ⟨_, mput_same, by rw [List.length_map]; omega, ?_⟩
          rw [mput_mput, ← liD_atom]
          exact fin o4 _ ho4 hlo rfl hsub fun h n2 ts2 e => by cases e; exact .inl hnp
      · refine ⟨⟨_, rfl⟩, dr_ne (dr_put ho) hpq, fun o3 wv ho3 hwv => ?_⟩
        rw [mput_swap hpq]
        refine ⟨ps, rfl, vs, rfl, hwv, dr_ne (dr_put ho3) hpq, hps, hpo, hvs, hvals, hV, hS, fun o4 n ts ho4 hlo hnp hsub => ?_⟩
        rw [mput_swap hpq]
        refine ⟨_, mput_same, by rw [List.length_map]; omega, ?_⟩
        rw [mput_mput, ← liD_atom]
        exact fin o4 _ ho4 hlo rfl hsub fun h n2 ts2 e => by cases e; exact .inl hnp
  rintro _ _ ⟨o, bl, x9, ho, hb1, hb2, hbl, rfl, rfl⟩
  have hbdo : ∀ x ∈ bdW bl, PyData.strOk x = true := fun x hx => bnd_str (fun l hl => (hb1 l hl).1) (mem_bdW.mp hx)
  have hbds : ∀ x ∈ bdW bl, x ∈ vs := fun x hx => by
    obtain ⟨w, n, ts, hl, hv⟩ := mem_bnd.mp (mem_bdW.mp hx)
    exact (hb1 _ hl).2.2 x hv
  walk_at "st"
  refine ⟨bl, rfl, fun l hl => (hb1 l hl).1, by omega, ?_⟩
  walk_at "st"
  refine ⟨by omega, by omega, fun _ => ?_⟩
  rw [mput_comm hpq]
  refine lc_draw (fun y => ∃ t : Tm, y = tmD t ∧ tmOk t ∧ ∀ x, tmV t = some x → x ∈ bdW bl) rfl ho (fun d _ r l o hpr hr ho C1 h1 => ?_) fun r o acc hpr hr ho hl hacc => ?_
  · walk_at "rd"
    refine ⟨vs, rfl, dr_ne (dr_put ho) hpr, hvs, hvals, hV, hS, fun o3 t ho3 ht _ => ?_⟩
    rw [mput_swap hpr]
    refine ⟨t, rfl, bdW bl, rfl, dr_ne (dr_put ho3) hpr, ht, hvals, hV, hbdo, fun o4 t4 ho4 ht4 hv4 => ?_⟩
    rw [mput_swap hpr]
    exact h1 o4 _ ho4 ⟨t4, rfl, ht4, hv4⟩
  rw [mdel_mput hr]
  obtain ⟨hd, hhd, hta⟩ := map_of tmD hacc
  subst hhd
  have hdl : (hd.length : Int) = w := by
    rw [List.length_map, rangeD_len] at hl
    omega
  clear hr hl hacc
  rw [mput_comm hpq.symm]
  refine seq_cut (fun m2 M2 => ∃ (o : DO) (cl : List Lit) (x12 x13 : Option D), DrO o ∧ (∀ l ∈ cl, liOk l) ∧ (∀ x, x ∈ bnd cl ↔ x ∈ bdW bl) ∧ (∀ l ∈ cl, ∀ x ∈ vrs (liTs l), x ∈ bdW bl) ∧ cl.length ≤ 7 ∧ (∀ l ∈ cl, ∀ h n ts, l = .atom h n ts → (n, ts.length) ∈ ps ∨ (h = .tup [.str "now"] ∧ (n, ts.length) ∈ rg)) ∧ M2 = mput (mput M p o) q (.lst (cl.map liD)) ∧
    m2 = [some (.ref p), some (.str name), some (.int w), some (.lst (ps.map plc)), some (.lst (rg.map plc)), some (.lst (vs.map D.str)), some (.lst vals), some (.int mn), some (.ref q), x9, some (.lst ((bdW bl).map D.str)), some (.tup (hd.map tmD)), x12, x13]) (fun Cn hC => ?_) ?_
  · have hbb : ∀ x, x ∈ bnd bl ↔ x ∈ bdW bl := fun x => mem_bdW.symm
    have hbt : ∀ l ∈ bl, ∀ x ∈ vrs (liTs l), x ∈ bdW bl := fun l hl x hx => by
      rw [mem_bdW]
      have := hb1 l hl
      cases l with
      | test k a b => exact absurd this.2.1 (by simp [isT])
      | atom w n ts => exact mem_bnd.mpr ⟨w, n, ts, hl, hx⟩
    walk_at "s1"
    refine ⟨dr_ne (dr_put ho) hpq, fun o2 r2 ho2 _ _ => ?_⟩
    rw [mput_swap hpq]
    split
    · walk_at "st"
      intro _
      rw [mput_comm hpq]
      refine lc_draw (fun y => ∃ t : Tm, y = tmD t ∧ tmOk t ∧ ∀ x, tmV t = some x → x ∈ bdW bl) rfl ho2 (fun d _ r l o hpr hr ho C1 h1 => ?_) fun r o acc hpr hr ho hl hacc => ?_
      · walk_at "rd"
        refine ⟨vs, rfl, dr_ne (dr_put ho) hpr, hvs, hvals, hV, hS, fun o3 t ho3 ht _ => ?_⟩
        rw [mput_swap hpr]
        refine ⟨t, rfl, bdW bl, rfl, dr_ne (dr_put ho3) hpr, ht, hvals, hV, hbdo, fun o4 t4 ho4 ht4 hv4 => ?_⟩
        rw [mput_swap hpr]
        exact h1 o4 _ ho4 ⟨t4, rfl, ht4, hv4⟩
      · rw [mdel_mput hr]
        obtain ⟨ts, hts, hta2⟩ := map_of tmD hacc
        subst hts
        have hl2 : ts.length = 2 := by rw [List.length_map] at hl; exact hl
        rw [mput_comm hpq.symm]
        match ts, hl2, hta2 with
        | [t1, t2], _, hta2 =>
          walk_at "st"
          refine ⟨dr_ne (dr_put ho) hpq, fun o3 r3 ho3 r30 r31 => ?_⟩
          rw [mput_swap hpq]
          obtain ⟨x, hx, hat⟩ := atI_lt (xs := [D.str (Str.ofString "less"), .str (Str.ofString "unlike")]) r30 r31
          obtain ⟨k, rfl, hk⟩ : ∃ k, x = .str k ∧ (k = "less" ∨ k = "unlike") := by
            simp only [List.mem_cons, List.not_mem_nil, or_false] at hx
            rcases hx with rfl | rfl
            · exact ⟨_, rfl, .inl rfl⟩
            · exact ⟨_, rfl, .inr rfl⟩
          refine ⟨_, hat, ?_⟩
          walk_at "rd"
          refine ⟨⟨_, rfl⟩, dr_ne (dr_put ho3) hpq, by omega, fun o4 r4 ho4 r40 r41 => ?_⟩
          rw [mput_swap hpq]
          rw [List.length_map] at r41
          refine ⟨_, mput_same, by rw [List.length_map]; omega, r40, by omega, ?_⟩
          rw [mput_mput]
          refine hC _ _ ⟨o4, bl.take r4.toNat ++ [.test k t1 t2] ++ bl.drop r4.toNat, _, _, ho4, fun l hl => ?_, fun x => ?_, fun l hl x hx => ?_, ?_, fun l hl h n ts e => ?_, ?_, rfl⟩
          · rcases List.mem_append.mp hl with hl | hl
            · rcases List.mem_append.mp hl with hl | hl
              · exact (hb1 l (List.mem_of_mem_take hl)).1
              · rw [List.mem_singleton.mp hl]
                exact ⟨hk, (hta2 t1 (by simp)).1, (hta2 t2 (by simp)).1⟩
            · exact (hb1 l (List.mem_of_mem_drop hl)).1
          · rw [← hbb x, mem_bnd, mem_bnd]
            constructor
            · rintro ⟨w, n, ts, hl, hv⟩
              refine ⟨w, n, ts, ?_, hv⟩
              rcases List.mem_append.mp hl with hl | hl
              · rcases List.mem_append.mp hl with hl | hl
                · exact List.mem_of_mem_take hl
                · cases List.mem_singleton.mp hl
              · exact List.mem_of_mem_drop hl
            · rintro ⟨w, n, ts, hl, hv⟩
              refine ⟨w, n, ts, ?_, hv⟩
              rw [← List.take_append_drop r4.toNat bl] at hl
              rcases List.mem_append.mp hl with hl | hl
              · exact List.mem_append_left _ (List.mem_append_left _ hl)
              · exact List.mem_append_right _ hl
          · rcases List.mem_append.mp hl with hl | hl
            · rcases List.mem_append.mp hl with hl | hl
              · exact hbt l (List.mem_of_mem_take hl) x hx
              · rw [List.mem_singleton.mp hl] at hx
                exact (hta2 _ (mem_vrs.mp hx)).2 x rfl
            · exact hbt l (List.mem_of_mem_drop hl) x hx
          · simp only [List.length_append, List.length_take, List.length_drop, List.length_singleton]
            omega
          · rcases List.mem_append.mp hl with hl | hl
            · rcases List.mem_append.mp hl with hl | hl
              · exact hb2 l (List.mem_of_mem_take hl) h n ts e
              · rw [List.mem_singleton.mp hl] at e
                cases e
            · exact hb2 l (List.mem_of_mem_drop hl) h n ts e
          · rw [List.map_append, List.map_append, List.map_take, List.map_drop]
            rfl
    · exact hC _ _ ⟨o2, bl, _, _, ho2, fun l hl => (hb1 l hl).1, hbb, hbt, by omega, hb2, rfl, rfl⟩
  rintro _ _ ⟨o, cl, x12, x13, ho, hc1, hc2, hc3, hc4, hc5, rfl, rfl⟩
  refine seq_cut (fun m2 M2 => ∃ (o : DO) (r : Ru) (b8 : D) (x12 : Option D), DrO o ∧ RuOk r ∧ r.name = name ∧ (r.head.length : Int) = w ∧ (∀ x ∈ bnd r.body, x ∈ vs) ∧ (∀ l ∈ r.body, ∀ x ∈ vrs (liTs l), x ∈ bnd r.body) ∧ (∀ l ∈ r.body, ∀ h n ts, l = .atom h n ts → (n, ts.length) ∈ ps ∨ (h = .tup [.str "now"] ∧ (n, ts.length) ∈ rg)) ∧ dItems b8 M2 = some (r.body.map liD) ∧ MLe (mput M p o) M2 ∧
    m2 = [some (.ref p), some (.str name), some (.int w), some (.lst (ps.map plc)), some (.lst (rg.map plc)), some (.lst (vs.map D.str)), some (.lst vals), some (.int mn), some b8, x9, some (.lst ((bdW bl).map D.str)), some (.tup (r.head.map tmD)), x12, x13]) (fun Cn hC => ?_) ?_
  · walk_at "s1"
    refine ⟨dr_ne (dr_put ho) hpq, fun o2 r2 ho2 _ _ => ?_⟩
    rw [mput_swap hpq]
    split
    · walk_at "st"
      intro _
      rw [mput_comm hpq]
      refine lc_draw (fun y => ∃ t : Tm, y = tmD t ∧ tmOk t ∧ tmV t = none) rfl ho2 (fun d _ r l o hpr hr ho C1 h1 => ?_) fun r o acc hpr hr ho hl hacc => ?_
      · walk_at "rd"
        refine ⟨dr_ne (dr_put ho) hpr, hvals, fun o3 v ho3 hv => ?_⟩
        rw [mput_swap hpr]
        exact h1 o3 _ ho3 ⟨.val v, rfl, hV v hv, rfl⟩
      · rw [mdel_mput hr]
        obtain ⟨ts, hts, hta2⟩ := map_of tmD hacc
        subst hts
        have hl2 : ts.length = 2 := by rw [List.length_map] at hl; exact hl
        rw [mput_comm hpq.symm]
        match ts, hl2, hta2 with
        | [t1, t2], _, hta2 =>
          walk_at "st"
          refine ⟨dr_ne (dr_put ho) hpq, fun o3 r3 ho3 r30 r31 => ⟨by omega, by omega, fun _ => ?_⟩⟩
          rw [mput_swap hpq, mput_comm hpq]
          refine lc_draw (fun y => ∃ t : Tm, y = tmD t ∧ tmOk t ∧ tmV t = none) rfl ho3 (fun d _ r l o hpr hr ho C1 h1 => ?_) fun r o acc hpr hr ho hl hacc => ?_
          · walk_at "rd"
            refine ⟨dr_ne (dr_put ho) hpr, hvals, fun o3 v ho3 hv => ?_⟩
            rw [mput_swap hpr]
            exact h1 o3 _ ho3 ⟨.val v, rfl, hV v hv, rfl⟩
          · rw [mdel_mput hr]
            obtain ⟨hd3, hts3, hta3⟩ := map_of tmD hacc
            subst hts3
            have hdl3 : (hd3.length : Int) = w := by
              rw [List.length_map, rangeD_len] at hl
              omega
            rw [mput_comm hpq.symm]
            obtain ⟨i, rfl⟩ := Int.eq_ofNat_of_zero_le r30
            have novar : ∀ {us : List Tm}, (∀ t ∈ us, tmOk t ∧ tmV t = none) → vrs us = [] := fun {us} hu => by
              refine List.eq_nil_iff_forall_not_mem.mpr fun x hx => ?_
              have := (hu _ (mem_vrs.mp hx)).2
              cases this
            have hcut : DL.cutD [D.tup [D.str (Str.ofString "less"), tmD t1, tmD t2]] none (some (i : Int)) = ([Lit.test "less" t1 t2].take i).map liD := by
              rw [cutD_to, List.map_take]
              rfl
            have htk : ∀ l ∈ [Lit.test "less" t1 t2].take i, l = Lit.test "less" t1 t2 := fun l hl => by simpa using List.mem_of_mem_take hl
            have hbn : bnd ([Lit.test "less" t1 t2].take i) = [] := by
              refine List.eq_nil_iff_forall_not_mem.mpr fun x hx => ?_
              obtain ⟨w, n, ts, hl, _⟩ := mem_bnd.mp hx
              cases htk _ hl
            refine hC _ _ ⟨o, ⟨name, hd3, [Lit.test "less" t1 t2].take i⟩, .lst (DL.cutD [D.tup [D.str (Str.ofString "less"), tmD t1, tmD t2]] none (some (i : Int))), _, ho, ⟨hnm, fun t ht => (hta3 t ht).1, fun l hl => ?_, fun x hx => ?_, by show hd3.length ≤ 20; omega, Nat.le_trans (List.length_take_le ..) (by omega)⟩, rfl, hdl3, fun x hx => ?_, fun l hl x hx => ?_, fun l hl h n ts e => ?_, by rw [hcut]; rfl, .put (.refl _) (hqM o), rfl⟩
            · rw [htk l hl]
              exact ⟨.inl rfl, (hta2 t1 (by simp)).1, (hta2 t2 (by simp)).1⟩
            · have hx : x ∈ vrs hd3 := hx
              rw [novar hta3] at hx
              cases hx
            · have hx : x ∈ bnd ([Lit.test "less" t1 t2].take i) := hx
              rw [hbn] at hx
              cases hx
            · rw [htk l hl] at hx
              have hx : x ∈ vrs [t1, t2] := hx
              rw [novar hta2] at hx
              cases hx
            · rw [htk l hl] at e
              cases e
    · refine hC _ _ ⟨o2, ⟨name, hd, cl⟩, .ref q, _, ho2, ⟨hnm, fun t ht => (hta t ht).1, hc1, fun x hx => ?_, by show hd.length ≤ 20; omega, by show cl.length ≤ 20; omega⟩, rfl, hdl, fun x hx => hbds x ((hc2 x).mp hx), fun l hl x hx => (hc2 x).mpr (hc3 l hl x hx), hc5, dItems_ref mput_same, .put (.refl _) (hqM o2), rfl⟩
      exact (hc2 x).mpr ((hta _ (mem_vrs.mp hx)).2 x rfl)
  rintro _ M2 ⟨o, r, b8, x12, ho, hr, hrn, hrh, hrb, hrt, hrp, hb8, hle, rfl⟩
  walk_at "rd"
  refine ⟨_, hb8, ?_⟩
  have e : D.tup [.str name, .tup (r.head.map tmD), .tup (r.body.map liD)] = ruD r := by rw [← hrn]; rfl
  rw [e]
  exact ret_le hle (h o r ho hr hrn hrh hrb hrt hrp)
/-- atoms of the two names are asked now -/
def nowL (a b : Str) : Lit → Lit
  | .atom h n ts => .atom (if n = a ∨ n = b then .tup [.str "now"] else h) n ts
  | .test k x y => .test k x y
def nowR (a b : Str) (r : Ru) : Ru := ⟨r.name, r.head, r.body.map (nowL a b)⟩
theorem nowL_ok {a b : Str} {l : Lit} (h : liOk l) : liOk (nowL a b l) := by
  cases l with
  | test k x y => exact h
  | atom w n ts =>
    refine ⟨?_, h.2⟩
    split
    · exact .inl rfl
    · exact h.1
theorem nowL_ts (a b : Str) (l : Lit) : liTs (nowL a b l) = liTs l := by
  cases l <;> rfl
theorem nowL_T (a b : Str) (l : Lit) : isT (nowL a b l) = isT l := by
  cases l <;> rfl
theorem bnd_now (a b : Str) : ∀ ls : List Lit, bnd (ls.map (nowL a b)) = bnd ls
  | [] => rfl
  | l :: ls => by
    have ih := bnd_now a b ls
    unfold bnd at ih ⊢
    rw [List.map_cons, List.filter_cons, List.filter_cons, nowL_T]
    split
    · rw [List.flatMap_cons, List.flatMap_cons, nowL_ts, ih]
    · exact ih
theorem nowR_ok {a b : Str} {r : Ru} (h : RuOk r) : RuOk (nowR a b r) := by
  refine ⟨h.name, h.head, fun l hl => ?_, fun x hx => ?_, h.hlen, ?_⟩
  · obtain ⟨m, hm, rfl⟩ := List.mem_map.mp hl
    exact nowL_ok (h.body m hm)
  · show x ∈ bnd (r.body.map (nowL a b))
    rw [bnd_now]
    exact h.safe x hx
  · show (r.body.map (nowL a b)).length ≤ 20
    rw [List.length_map]
    exact h.blen
/-- all variables of the rule are among these -/
def VarIn (vs : List Str) (r : Ru) : Prop := (∀ x ∈ bnd r.body, x ∈ vs) ∧ ∀ l ∈ r.body, ∀ x ∈ vrs (liTs l), x ∈ vs
theorem nowR_in {vs : List Str} {a b : Str} {r : Ru} (h : VarIn vs r) : VarIn vs (nowR a b r) := by
  refine ⟨fun x hx => ?_, fun l hl x hx => ?_⟩
  · have hx : x ∈ bnd (r.body.map (nowL a b)) := hx
    rw [bnd_now] at hx
    exact h.1 x hx
  · obtain ⟨m, hm, rfl⟩ := List.mem_map.mp hl
    rw [nowL_ts] at hx
    exact h.2 m hm x hx
abbrev sp_l_two_ring : DSp := ar5 fun a b c d e M Q => ∃ (p : Addr) (rs : List Ru) (ps : List (Str × Nat)) (vs : List Str) (vals : List D), a = .ref p ∧ dItems b M = some (rs.map ruD) ∧ b ≠ .ref p ∧ c = .lst (ps.map plc) ∧ d = .lst (vs.map D.str) ∧ e = .lst vals ∧ Dr M p ∧ rs ≠ [] ∧ rs.length ≤ 20 ∧ (∀ r ∈ rs, (RuOk r ∧ VarIn vs r) ∧ r.head.length ≤ 8) ∧
  ps ≠ [] ∧ (∀ q ∈ ps, PyData.strOk q.1 = true ∧ q.2 ≤ 8) ∧ vs ≠ [] ∧ vals ≠ [] ∧ (∀ v ∈ vals, isV v) ∧ (∀ x ∈ vs, PyData.strOk x = true) ∧
  ∀ (o : DO) (fs : List Ru), DrO o → fs.length ≤ rs.length + 2 → (∀ r ∈ fs, RuOk r ∧ VarIn vs r) → Q (.lst (fs.map ruD)) (mput M p o)
theorem ok_l_two_ring (F : Def K mg "_law_two_ring" s_l_two_ring ["draws", "rules", "places", "variables", "values"]) (B : Bi K mg) (I : Im mg) (c_l_rule : Cal P w K mg base 5 "_law_rule" ["draws", "name", "width", "places", "ring", "variables", "values", "many"] sp_l_rule) : Cal P w K mg base 6 "_law_two_ring" ["draws", "rules", "places", "variables", "values"] sp_l_two_ring := by
  have sc := sc_l_two_ring
  refine F.cal sc (fun ds M Q h => len5 h) (fun f cdv A outer s H E hr => (ds_cons (ds_set (i := 5) sc.nd rfl (Or.inl rfl) (d_lstF (da_cons (d_tup (da_cons (d_ix x_ix (d_ix x_ix (d_v 1) d_int (fun _ _ => rfl)) d_int (fun _ _ => rfl)) (da_cons (d_cb c_len rfl B.b_len boot_len (da_cons (d_ix x_ix (d_ix x_ix (d_v 1) d_int (fun _ _ => rfl)) d_int (fun _ _ => rfl)) da_nil)) da_nil))) (da_cons (d_tup (da_cons (d_ix x_ix (d_ix x_ix (d_v 1) (d_neg d_int) (fun _ _ => rfl)) d_int (fun _ _ => rfl)) (da_cons (d_cb c_len rfl B.b_len boot_len (da_cons (d_ix x_ix (d_ix x_ix (d_v 1) (d_neg d_int) (fun _ _ => rfl)) d_int (fun _ _ => rfl)) da_nil)) da_nil))) da_nil))))
    (ds_cons (ds_set (i := 6) sc.nd rfl (Or.inl rfl) (d_lst da_nil))
    (ds_cons (ds_for PassesOwn.never rfl (di_seq (d_v 1)) (dg_name (i := 7) sc.nd rfl (Or.inl rfl))
    (ds_cons (ds_set (i := 8) sc.nd rfl (Or.inl rfl) (d_lst da_nil))
    (ds_cons (ds_for PassesOwn.never rfl (di_seq (d_ix x_ix (d_v 7) d_int (fun _ _ => rfl))) (dg_name (i := 9) sc.nd rfl (Or.inl rfl))
    (ds_cons (ds_if (dt_w (dw_and (dt_cmp (o_eq (hu_eq hr)) (d_ix x_ix (d_v 9) d_int (fun _ _ => rfl)) d_str (nomark _)) (dw_and1 (dt_cmp (o_in (hu_in hr)) (d_ix x_ix (d_v 9) d_int (fun _ _ => rfl)) (d_lstF (da_cons (d_ix x_ix (d_ix x_ix (d_v 5) d_int (fun _ _ => rfl)) d_int (fun _ _ => rfl)) (da_cons (d_ix x_ix (d_ix x_ix (d_v 5) d_int (fun _ _ => rfl)) d_int (fun _ _ => rfl)) da_nil))) rfl))))
    (ds_one (ds_set (i := 9) sc.nd rfl (Or.inl rfl) (d_tup (da_cons d_str (da_cons (d_tup (da_cons d_str da_nil)) (da_cons (d_ix x_ix (d_v 9) d_int (fun _ _ => rfl)) (da_cons (d_ix x_ix (d_v 9) d_int (fun _ _ => rfl)) da_nil)))))))
    ds_nil)
    (ds_one (ds_expr (d_mt PySem.F.slot_list_append PySem.F.type_list_append m_append (d_v 8) (da_cons (d_v 9) da_nil))))))
    (ds_one (ds_if (dt_cmp (o_in (hu_in hr)) (d_ix x_ix (d_v 7) d_int (fun _ _ => rfl)) (d_lstF (da_cons (d_ix x_ix (d_ix x_ix (d_v 5) d_int (fun _ _ => rfl)) d_int (fun _ _ => rfl)) (da_cons (d_ix x_ix (d_ix x_ix (d_v 5) d_int (fun _ _ => rfl)) d_int (fun _ _ => rfl)) da_nil))) rfl)
    (ds_one (ds_expr (d_mt PySem.F.slot_list_append PySem.F.type_list_append m_append (d_v 6) (da_cons (d_tup (da_cons (d_ix x_ix (d_v 7) d_int (fun _ _ => rfl)) (da_cons (d_ix x_ix (d_v 7) d_int (fun _ _ => rfl)) (da_cons (d_ct c_tuple rfl B.b_tuple boot_tuple (da_cons (d_v 8) da_nil)) da_nil)))) da_nil))))
    ds_nil)))))
    (ds_cons (ds_for PassesOwn.never rfl (di_range1 rfl B.b_range (da_cons d_int da_nil)) (dg_name (i := 10) sc.nd rfl (Or.inl rfl))
    (ds_one (ds_expr (d_mt PySem.F.slot_list_append PySem.F.type_list_append m_append (d_v 6) (da_cons (d_call c_l_rule (hr.mono (by first | decide | omega)) rfl (da_cons (d_v 0) (da_cons (d_ix x_ix (d_ix x_ix (d_v 5) (d_v 10) (fun _ _ => rfl)) d_int (fun _ _ => rfl)) (da_cons (d_ix x_ix (d_ix x_ix (d_v 5) (d_v 10) (fun _ _ => rfl)) d_int (fun _ _ => rfl)) (da_cons (d_v 2) (da_cons (d_lstF (da_cons (d_ix x_ix (d_v 5) (d_op o_sub d_int (d_v 10)) (fun _ _ => rfl)) da_nil)) (da_cons (d_v 3) (da_cons (d_v 4) (da_cons d_int da_nil))))))))) da_nil)))))
    (ds_one (ds_ret (d_fz (d_v 6))))))))) (fun ds M Q h => ?_)
  obtain ⟨a, b, c, d, e, rfl, p, rs, ps, vs, vals, rfl, hb, hbp, rfl, rfl, rfl, ⟨o0, e0, ho0⟩, hrn, hrl, hrs, hps, hpo, hvs, hvals, hV, hS, h⟩ := h
  obtain ⟨r0, hr0⟩ : ∃ r0, rs.head? = some r0 := by
    cases rs with
    | nil => exact absurd rfl hrn
    | cons x r => exact ⟨x, rfl⟩
  obtain ⟨rl, hrlast⟩ : ∃ rl, rs.getLast? = some rl := by
    cases q : rs.getLast? with
    | none => exact absurd (List.getLast?_eq_none_iff.mp q) hrn
    | some l => exact ⟨l, rfl⟩
  have hm0 : r0 ∈ rs := List.mem_of_head? hr0
  have hml : rl ∈ rs := List.mem_of_getLast? hrlast
  have at0 : atI (rs.map ruD) 0 = some (ruD r0) := by
    cases rs with
    | nil => exact absurd rfl hrn
    | cons x r =>
      cases hr0
      exact atI_0 _ _
  have atl : (rs.map ruD).getLast? = some (ruD rl) := by rw [List.getLast?_map, hrlast]; rfl
  obtain ⟨⟨h0o, h0v⟩, h0l⟩ := hrs r0 hm0
  obtain ⟨⟨hlo, hlv⟩, hll⟩ := hrs rl hml
  obtain ⟨n0, hd0, ls0⟩ := r0
  obtain ⟨nl, hdl, lsl⟩ := rl
  walk_at "st"
  refine ⟨_, hb, _, at0, _, rfl, .str n0, rfl, _, hb, _, at0, _, rfl, _, rfl, hd0.length, ?_, _, hb, _, atl, _, rfl, .str nl, rfl, _, hb, _, atl, _, rfl, _, rfl, hdl.length, ?_, ?_⟩
  · rw [dLenOf_tup, List.length_map]
  · rw [dLenOf_tup, List.length_map]
  walk_at "st"
  intro f hf
  have hpf : p ≠ f := ne_of_fresh e0 hf
  have hfM : ∀ o, mput M p o f = none := fun o => mput_fresh hpf hf
  obtain ⟨prW, hprW⟩ : ∃ z, z = D.lst [.tup [.str n0, .int (hd0.length : Nat)], .tup [.str nl, .int (hdl.length : Nat)]] := ⟨_, rfl⟩
  have hn0 : PyData.strOk n0 = true := h0o.name
  have hnl : PyData.strOk nl = true := hlo.name
  have two : ∀ n : Str, ([D.str n0, D.str nl].any fun z => D.eqv z (.str n)) = decide (n = n0 ∨ n = nl) := fun n => by
    have e : [D.str n0, D.str nl] = [n0, nl].map D.str := rfl
    rw [e, any_strs]
    simp
  refine seq_cut (fun m2 M2 => ∃ (fl : List Ru) (x7 x8 x9 : Option D), M2 f = some (.lst (fl.map ruD)) ∧ (∀ r ∈ fl, RuOk r ∧ VarIn vs r) ∧ fl.length ≤ rs.length ∧ MLe M M2 ∧ m2 = [some (.ref p), some b, some (.lst (ps.map plc)), some (.lst (vs.map D.str)), some (.lst vals), some prW, some (.ref f), x7, x8, x9, none]) (fun Cn hC => ?_) ?_
  · walk_at "s1"
    rw [← hprW]
    refine ⟨_, items_le hb (.put (.refl M) hf), fun _ => ?_⟩
    refine for_ind (fun items m1 M1 => ∃ (rest : List Ru) (fl : List Ru) (x7 x8 x9 : Option D), items = rest.map ruD ∧ (∀ r ∈ rest, r ∈ rs) ∧ fl.length + rest.length ≤ rs.length ∧ M1 f = some (.lst (fl.map ruD)) ∧ (∀ r ∈ fl, RuOk r ∧ VarIn vs r) ∧ MLe M M1 ∧ m1 = [some (.ref p), some b, some (.lst (ps.map plc)), some (.lst (vs.map D.str)), some (.lst vals), some prW, some (.ref f), x7, x8, x9, none]) ?_ ?_ _ _ _ ⟨rs, [], _, _, _, rfl, fun _ h => h, by simp, mput_same, by simp, .put (.refl M) hf, rfl⟩
    · rintro m1 M1 ⟨rest, fl, x7, x8, x9, hi, hsub, hl, hM, hfo, hle, rfl⟩
      refine ⟨srcV_of (items_le hb hle), ?_⟩
      exact hC _ _ ⟨fl, _, _, _, hM, hfo, by omega, hle, rfl⟩
    · rintro z items m1 M1 Cn2 hC2 ⟨rest, fl, x7, x8, x9, hi, hsub, hl, hM, hfo, hle, rfl⟩
      refine ⟨srcV_of (items_le hb hle), ?_⟩
      cases rest with
      | nil => cases hi
      | cons r rest =>
        rw [List.map_cons] at hi
        injection hi with e1 e2
        subst e1
        subst e2
        rw [List.length_cons] at hl
        obtain ⟨⟨hro, hrv⟩, hrh⟩ := hrs r (hsub r (by simp))
        have hsub2 : ∀ r ∈ rest, r ∈ rs := fun r hr => hsub r (by simp [hr])
        have hbl : r.body.length ≤ 20 := hro.blen
        obtain ⟨nm, hd, ls⟩ := r
        walk_at "st"
        intro q hq
        have hfq : f ≠ q := ne_of_fresh hM hq
        refine seq_cut (fun m2 M2 => ∃ (x9 : Option D), M2 f = some (.lst (fl.map ruD)) ∧ M2 q = some (.lst ((ls.map (nowL n0 nl)).map liD)) ∧ MLe M M2 ∧ m2 = [some (.ref p), some b, some (.lst (ps.map plc)), some (.lst (vs.map D.str)), some (.lst vals), some prW, some (.ref f), some (ruD ⟨nm, hd, ls⟩), some (.ref q), x9, none]) (fun Cn3 hC3 => ?_) ?_
        · walk_at "s1"
          intro _
          refine for_ind (fun items m1 M1 => ∃ (tr dn : List Lit) (x9 : Option D), items = tr.map liD ∧ dn ++ tr = ls ∧ M1 f = some (.lst (fl.map ruD)) ∧ M1 q = some (.lst ((dn.map (nowL n0 nl)).map liD)) ∧ MLe M M1 ∧ m1 = [some (.ref p), some b, some (.lst (ps.map plc)), some (.lst (vs.map D.str)), some (.lst vals), some prW, some (.ref f), some (ruD ⟨nm, hd, ls⟩), some (.ref q), x9, none]) ?_ ?_ _ _ _ ⟨ls, [], _, rfl, rfl, by rw [mput_ne hfq]; exact hM, mput_same, hle.put (hle.none hq), rfl⟩
          · rintro m1 M1 ⟨tr, dn, x9, hi, hd2, hMf, hMq, hle2, rfl⟩
            refine ⟨srcV_none, ?_⟩
            cases tr with
            | cons x r => cases hi
            | nil =>
              rw [List.append_nil] at hd2
              subst hd2
              exact hC3 _ _ ⟨_, hMf, hMq, hle2, rfl⟩
          · rintro z items m1 M1 Cn4 hC4 ⟨tr, dn, x9, hi, hd2, hMf, hMq, hle2, rfl⟩
            refine ⟨srcV_none, ?_⟩
            cases tr with
            | nil => cases hi
            | cons l tr =>
              rw [List.map_cons] at hi
              injection hi with e1 e2
              subst e1
              subst e2
              have hlo2 := hro.body l (by show l ∈ ls; rw [← hd2]; simp)
              have hdn : dn.length ≤ 20 := by
                have : ls.length ≤ 20 := hbl
                rw [← hd2, List.length_append] at this
                omega
              refine seq_cut (fun m2 M2 => M2 = M1 ∧ m2 = [some (.ref p), some b, some (.lst (ps.map plc)), some (.lst (vs.map D.str)), some (.lst vals), some prW, some (.ref f), some (ruD ⟨nm, hd, ls⟩), some (.ref q), some (liD (nowL n0 nl l)), none]) (fun Cn5 hC5 => ?_) ?_
              · cases l with
                | atom w n ts =>
                  rw [hprW]
                  walk_at "s1"
                  have ec : (decide (n0 = n) || decide (nl = n)) = decide (n = n0 ∨ n = nl) := by
                    rw [Bool.decide_or]
                    congr 1
                    · exact decide_eq_decide.mpr ⟨Eq.symm, Eq.symm⟩
                    · exact decide_eq_decide.mpr ⟨Eq.symm, Eq.symm⟩
                  rw [ec, ← hprW]
                  refine ⟨hlo2.2.1, by rw [hn0, hnl]; rfl, ?_⟩
                  split
                  · next c =>
                    have c' := of_decide_eq_true c
                    refine hC5 _ _ ⟨rfl, ?_⟩
                    show _ = [some (.ref p), some b, some (.lst (ps.map plc)), some (.lst (vs.map D.str)), some (.lst vals), some prW, some (.ref f), some (ruD ⟨nm, hd, ls⟩), some (.ref q), some (liD (.atom (if n = n0 ∨ n = nl then .tup [.str "now"] else w) n ts)), none]
                    rw [if_pos c']
                    rfl
                  · next c =>
                    have c' : ¬ (n = n0 ∨ n = nl) := fun z => c (decide_eq_true z)
                    refine hC5 _ _ ⟨rfl, ?_⟩
                    show _ = [some (.ref p), some b, some (.lst (ps.map plc)), some (.lst (vs.map D.str)), some (.lst vals), some prW, some (.ref f), some (ruD ⟨nm, hd, ls⟩), some (.ref q), some (liD (.atom (if n = n0 ∨ n = nl then .tup [.str "now"] else w) n ts)), none]
                    rw [if_neg c']
                    rfl
                | test k x y =>
                  rcases hlo2.1 with rfl | rfl
                  · walk_at "s1"
                    exact hC5 _ _ ⟨rfl, rfl⟩
                  · walk_at "s1"
                    exact hC5 _ _ ⟨rfl, rfl⟩
              rintro _ _ ⟨rfl, rfl⟩
              have hqM : M q = none := hle.none hq
              walk_at "rd"
              refine ⟨⟨_, by rw [hMq]⟩, _, hMq, by rw [List.length_map, List.length_map]; omega, fg_of (hC4 _ _ ⟨tr, dn ++ [l], _, rfl, by rw [← hd2]; simp, by rw [mput_ne hfq]; exact hMf, by rw [mput_same, List.map_append, List.map_append]; rfl, hle2.put hqM, rfl⟩)⟩
        rintro _ M2 ⟨x9, hMf, hMq, hle2, rfl⟩
        have hnm : PyData.strOk nm = true := hro.name
        rw [hprW]
        walk_at "rd"
        rw [← hprW]
        refine ⟨hnm, by rw [hn0, hnl]; rfl, ?_⟩
        split
        · refine ⟨⟨_, by rw [hMf]⟩, _, by rw [hMq], _, hMf, by rw [List.length_map]; omega, ?_⟩
          refine fg_of (hC2 _ _ ⟨rest, fl ++ [nowR n0 nl ⟨nm, hd, ls⟩], _, _, _, rfl, hsub2, by rw [List.length_append, List.length_singleton]; omega, by rw [mput_same, List.map_append]; rfl, fun r hr => ?_, hle2.put hf, rfl⟩)
          rcases List.mem_append.mp hr with hr | hr
          · exact hfo r hr
          · rw [List.mem_singleton.mp hr]
            exact ⟨nowR_ok hro, nowR_in hrv⟩
        · exact fg_of (hC2 _ _ ⟨rest, fl, _, _, _, rfl, hsub2, by omega, hMf, hfo, hle2, rfl⟩)
  rintro _ M2 ⟨fl, x7, x8, x9, hM, hfo, hfl, hle, rfl⟩
  refine seq_cut (fun m2 M3 => ∃ (o : DO) (gl : List Ru) (x10 : Option D), DrO o ∧ MLe (mput M p o) M3 ∧ M3 f = some (.lst (gl.map ruD)) ∧ (∀ r ∈ gl, RuOk r ∧ VarIn vs r) ∧ gl.length ≤ rs.length + 2 ∧ m2 = [some (.ref p), some b, some (.lst (ps.map plc)), some (.lst (vs.map D.str)), some (.lst vals), some prW, some (.ref f), x7, x8, x9, x10]) (fun Cn hC => ?_) ?_
  · walk_at "s1"
    intro _
    refine for_ind (fun items m1 M1 => ∃ (o : DO) (j : Nat) (gl : List Ru) (x10 : Option D), items = rangeD (j : Int) (2 - j) ∧ j ≤ 2 ∧ DrO o ∧ MLe (mput M p o) M1 ∧ M1 f = some (.lst (gl.map ruD)) ∧ (∀ r ∈ gl, RuOk r ∧ VarIn vs r) ∧ gl.length ≤ rs.length + j ∧ m1 = [some (.ref p), some b, some (.lst (ps.map plc)), some (.lst (vs.map D.str)), some (.lst vals), some prW, some (.ref f), x7, x8, x9, x10]) ?_ ?_ _ _ _ ⟨o0, 0, fl, _, rfl, by omega, ho0, by rw [mput_self e0]; exact hle, hM, hfo, by omega, rfl⟩
    · rintro m1 M1 ⟨o, j, gl, x10, hi, hj, ho, hle3, hMf, hgo, hgl, rfl⟩
      exact ⟨srcV_none, hC _ _ ⟨o, gl, _, ho, hle3, hMf, hgo, by omega, rfl⟩⟩
    · rintro z items m1 M1 Cn2 hC2 ⟨o, j, gl, x10, hi, hj, ho, hle3, hMf, hgo, hgl, rfl⟩
      refine ⟨srcV_none, ?_⟩
      have hj2 : j < 2 := by
        rcases Nat.lt_or_ge j 2 with c | c
        · exact c
        · rw [show 2 - j = 0 by omega] at hi
          simp [rangeD] at hi
      rw [show 2 - j = (2 - (j + 1)) + 1 by omega, rangeD_cons] at hi
      injection hi with h1 h2
      subst h1
      subst h2
      obtain ⟨na, wa, ha1, ha2, hna, hwa⟩ : ∃ (na : Str) (wa : Nat), atI [D.tup [.str n0, .int (hd0.length : Nat)], .tup [.str nl, .int (hdl.length : Nat)]] (j : Int) = some (.tup [.str na, .int (wa : Nat)]) ∧ True ∧ PyData.strOk na = true ∧ wa ≤ 8 := by
        rcases (by omega : j = 0 ∨ j = 1) with rfl | rfl
        · exact ⟨n0, hd0.length, rfl, trivial, hn0, h0l⟩
        · exact ⟨nl, hdl.length, rfl, trivial, hnl, hll⟩
      obtain ⟨nb, wb, hb1, hb2, hnb, hwb⟩ : ∃ (na : Str) (wa : Nat), atI [D.tup [.str n0, .int (hd0.length : Nat)], .tup [.str nl, .int (hdl.length : Nat)]] (1 - (j : Int)) = some (.tup [.str na, .int (wa : Nat)]) ∧ True ∧ PyData.strOk na = true ∧ wa ≤ 8 := by
        rcases (by omega : j = 0 ∨ j = 1) with rfl | rfl
        · exact ⟨nl, hdl.length, rfl, trivial, hnl, hll⟩
        · exact ⟨n0, hd0.length, rfl, trivial, hn0, h0l⟩
      rw [hprW]
      walk_at "rd"
      refine ⟨⟨_, by rw [hMf]⟩, _, ha1, _, rfl, .str na, rfl, _, ha1, _, rfl, _, rfl, _, hb1, na, rfl, _, rfl, ps, rfl, [(nb, wb)], rfl, vs, rfl, by omega, by omega, hna, ⟨o, hle3 _ _ mput_same, ho⟩, hps, hpo, fun q hq => ?_, hvs, hvals, hV, hS, fun o2 r ho2 hr hrn _ hv1 hv2 _ => ⟨_, by rw [mput_ne hpf.symm]; exact hMf, by rw [List.length_map]; omega, ?_⟩⟩
      · rw [List.mem_singleton.mp hq]
        exact ⟨hnb, hwb⟩
      have hle4 : MLe (mput M p o2) (mput M1 p o2) := by
        have z := hle3.both (a := p) (o := o2)
        rw [mput_mput] at z
        exact z
      subst hprW
      refine fg_of (hC2 _ _ ⟨o2, j + 1, gl ++ [r], _, rfl, by omega, ho2, hle4.put (hfM o2), by rw [mput_same, List.map_append]; rfl, fun r2 hr2 => ?_, by rw [List.length_append, List.length_singleton]; omega, rfl⟩)
      · rcases List.mem_append.mp hr2 with hr2 | hr2
        · exact hgo r2 hr2
        · rw [List.mem_singleton.mp hr2]
          exact ⟨hr, hv1, fun l hl x hx => hv1 x (hv2 l hl x hx)⟩
  rintro _ M3 ⟨o, gl, x10, ho, hle3, hMf, hgo, hgl, rfl⟩
  walk_at "rd"
  exact ⟨_, hMf, ret_le (hle3.del (hfM o)) (h o gl ho hgl hgo)⟩
theorem up_p {M M1 : DM} {p : Addr} {o : DO} (o2 : DO) (h : MLe (mput M p o) M1) : MLe (mput M p o2) (mput M1 p o2) := by
  have z := h.both (a := p) (o := o2)
  rw [mput_mput] at z
  exact z
abbrev sp_l_rules : DSp := ar6 fun a b c d e f M Q => ∃ (p : Addr) (sc : List Ent) (ns vs : List Str) (vals : List D) (mn : Int), a = .ref p ∧ b = .tup (sc.map enE) ∧ c = .lst (ns.map D.str) ∧ d = .lst (vs.map D.str) ∧ e = .lst vals ∧ f = .int mn ∧ 1 ≤ mn ∧ mn ≤ ns.length ∧ mn ≤ 8 ∧ Dr M p ∧ sc ≠ [] ∧ sc.length ≤ 20 ∧ (∀ e ∈ sc, enOk e) ∧ (∀ x ∈ ns, PyData.strOk x = true) ∧ vs ≠ [] ∧ vals ≠ [] ∧ (∀ v ∈ vals, isV v) ∧ (∀ x ∈ vs, PyData.strOk x = true) ∧
  ∀ (o : DO) (rs : List Ru), DrO o → (∀ r ∈ rs, RuOk r ∧ VarIn vs r) → rs.length ≤ 18 → Q (.tup (rs.map ruD)) (mput M p o)
theorem ok_l_rules (F : Def K mg "_law_rules" s_l_rules ["draws", "schema", "names", "variables", "values", "many"]) (B : Bi K mg) (I : Im mg) (c_l_take : Cal P w K mg base 1 "_law_take" ["draws", "many"] sp_l_take) (c_l_rule : Cal P w K mg base 5 "_law_rule" ["draws", "name", "width", "places", "ring", "variables", "values", "many"] sp_l_rule) (c_l_two_ring : Cal P w K mg base 6 "_law_two_ring" ["draws", "rules", "places", "variables", "values"] sp_l_two_ring) : Cal P w K mg base 7 "_law_rules" ["draws", "schema", "names", "variables", "values", "many"] sp_l_rules := by
  have sc := sc_l_rules
  refine F.cal sc (fun ds M Q h => len6 h) (fun f cdv A outer s H E hr => (ds_cons (ds_setLcF (i := 6) rfl sc.nd rfl rfl (sw_true rfl rfl rfl (by decide +kernel)) (own := [("table", 11)]) (di_seq (d_v 1)) (blkOk_by (N := N_l_rules) (sc := defScope s_l_rules) (by decide +kernel)) (by decide) (fun _ _ _ _ _ => (dg_name (i := 11) sc.nd rfl (Or.inl rfl))) (fun _ _ _ _ _ => dts_nil) (fun _ _ _ _ _ => (d_tup (da_cons (d_ix x_ix (d_v 11) d_int (fun _ _ => rfl)) (da_cons (d_op o_add (d_ix x_ix (d_v 11) d_int (fun _ _ => rfl)) (d_ix x_ix (d_v 11) d_int (fun _ _ => rfl))) da_nil)))))
    (ds_cons (ds_set (i := 7) sc.nd rfl (Or.inl rfl) (d_lst da_nil))
    (ds_cons (ds_for PassesOwn.never rfl (di_range1 rfl B.b_range (da_cons (d_op o_add d_int (d_call c_l_take (hr.mono (by first | decide | omega)) rfl (da_cons (d_v 0) (da_cons (d_v 5) da_nil)))) da_nil)) (dg_name (i := 8) sc.nd rfl (Or.inl rfl))
    (ds_cons (ds_set (i := 9) sc.nd rfl (Or.inl rfl) (d_ix x_ix (d_lstF (da_cons d_int (da_cons d_int (da_cons d_int (da_cons d_int da_nil))))) (d_call c_l_take (hr.mono (by first | decide | omega)) rfl (da_cons (d_v 0) (da_cons d_int da_nil))) (fun _ _ => rfl)))
    (ds_cons (ds_expr (d_mt PySem.F.slot_list_append PySem.F.type_list_append m_append (d_v 7) (da_cons (d_call c_l_rule (hr.mono (by first | decide | omega)) rfl (da_cons (d_v 0) (da_cons (d_ix x_ix (d_v 2) (d_v 8) (fun _ _ => rfl)) (da_cons (d_v 9) (da_cons (d_v 6) (da_cons (d_lstF da_nil) (da_cons (d_v 3) (da_cons (d_v 4) (da_cons d_int da_nil))))))))) da_nil)))
    (ds_cons (ds_if (dt_cmp (o_eq (hu_eq hr)) (d_call c_l_take (hr.mono (by first | decide | omega)) rfl (da_cons (d_v 0) (da_cons d_int da_nil))) d_int (nomark _))
    (ds_cons (ds_set (i := 10) sc.nd rfl (Or.inl rfl) (d_fz (d_rep (d_lst (da_cons (d_tup (da_cons (d_ix x_ix (d_v 2) (d_v 8) (fun _ _ => rfl)) (da_cons (d_v 9) da_nil))) da_nil)) (d_ct c_int rfl B.b_int boot_int (da_cons (d_cmp o_gt (d_call c_l_take (hr.mono (by first | decide | omega)) rfl (da_cons (d_v 0) (da_cons d_int da_nil))) d_int (nomark _)) da_nil)))))
    (ds_one (ds_expr (d_mt PySem.F.slot_list_append PySem.F.type_list_append m_append (d_v 7) (da_cons (d_call c_l_rule (hr.mono (by first | decide | omega)) rfl (da_cons (d_v 0) (da_cons (d_ix x_ix (d_v 2) (d_v 8) (fun _ _ => rfl)) (da_cons (d_v 9) (da_cons (d_v 6) (da_cons (d_v 10) (da_cons (d_v 3) (da_cons (d_v 4) (da_cons d_int da_nil))))))))) da_nil)))))
    ds_nil)
    (ds_one (ds_set (i := 6) sc.nd rfl (Or.inl rfl) (d_catF (d_v 6) (d_fz (d_rep (d_lst (da_cons (d_tup (da_cons (d_ix x_ix (d_v 2) (d_v 8) (fun _ _ => rfl)) (da_cons (d_v 9) da_nil))) da_nil)) d_int)))))))))
    (ds_cons (ds_if (dt_w (dw_and (dt_cmp (o_eq (hu_eq hr)) (d_lenSetT rfl rfl B.b_len rfl B.b_set (d_lcF rfl sc.nd (own := [("rule", 12)]) (di_seq (d_v 7)) (blkOk_by (N := N_l_rules) (sc := defScope s_l_rules) (by decide +kernel)) (by decide) (fun _ _ _ _ _ => (dg_name (i := 12) sc.nd rfl (Or.inl rfl))) (fun _ _ _ _ _ => dts_nil) (fun _ _ _ _ _ => (d_ix x_ix (d_v 12) d_int (fun _ _ => rfl))))) d_int (nomark _)) (dw_and1 (dt_cmp (o_eq (hu_eq hr)) (d_call c_l_take (hr.mono (by first | decide | omega)) rfl (da_cons (d_v 0) (da_cons d_int da_nil))) d_int (nomark _)))))
    (ds_one (ds_set (i := 7) sc.nd rfl (Or.inl rfl) (d_call c_l_two_ring (hr.mono (by first | decide | omega)) rfl (da_cons (d_v 0) (da_cons (d_v 7) (da_cons (d_sl (d_v 6) dp_none (dp_some (d_cb c_len rfl B.b_len boot_len (da_cons (d_v 1) da_nil)))) (da_cons (d_v 3) (da_cons (d_v 4) da_nil))))))))
    ds_nil)
    (ds_one (ds_ret (d_ct c_tuple rfl B.b_tuple boot_tuple (da_cons (d_v 7) da_nil))))))))) (fun ds M Q h => ?_)
  obtain ⟨a, b, c, d, e, f, rfl, p, sc, ns, vs, vals, mn, rfl, rfl, rfl, rfl, rfl, rfl, hm1, hm2, hm8, ⟨o0, e0, ho0⟩, hsn, hsl, hso, hns, hvs, hvals, hV, hS, h⟩ := h
  walk_at "st"
  intro _
  refine lc_map sc enE (fun e => plc (e.1, e.2.1 + e.2.2)) rfl srcV_none (fun e he M5 l5 C1 h5 => ?_) fun p5 hp5 => ?_
  · walk_at "rd"
    exact h5
  rw [mdel_mput hp5]
  have epl : sc.map (fun e => plc (e.1, e.2.1 + e.2.2)) = (sc.map fun e => (e.1, e.2.1 + e.2.2)).map plc := by rw [List.map_map]; rfl
  rw [epl]
  obtain ⟨ps0, hps0⟩ : ∃ ps0, ps0 = sc.map fun e => (e.1, e.2.1 + e.2.2) := ⟨_, rfl⟩
  have hp0n : ps0 ≠ [] := by rw [hps0]; simpa using hsn
  have hp0l : ps0.length = sc.length := by rw [hps0, List.length_map]
  have hp0o : ∀ q ∈ ps0, PyData.strOk q.1 = true ∧ q.2 ≤ 8 := fun q hq => by
    rw [hps0] at hq
    obtain ⟨e, he, rfl⟩ := List.mem_map.mp hq
    exact hso e he
  rw [← hps0]
  walk_at "st"
  intro q hq
  have hpq : p ≠ q := ne_of_fresh e0 hq
  have hqM : ∀ o, mput M p o q = none := fun o => mput_fresh hpq hq
  obtain ⟨scV, hscV⟩ : ∃ z, z = D.tup (sc.map enE) := ⟨_, rfl⟩
  refine seq_cut (fun m2 M2 => ∃ (o : DO) (ps : List (Str × Nat)) (rs : List Ru) (x8 x9 x10 : Option D), DrO o ∧ sc.length ≤ ps.length ∧ ps.length ≤ 1000 ∧ (∀ q ∈ ps, PyData.strOk q.1 = true ∧ q.2 ≤ 8) ∧ rs ≠ [] ∧ rs.length ≤ 16 ∧ (∀ r ∈ rs, (RuOk r ∧ VarIn vs r) ∧ r.head.length ≤ 8) ∧ MLe (mput M p o) M2 ∧ M2 q = some (.lst (rs.map ruD)) ∧
    m2 = [some (.ref p), some scV, some (.lst (ns.map D.str)), some (.lst (vs.map D.str)), some (.lst vals), some (.int mn), some (.lst (ps.map plc)), some (.ref q), x8, x9, x10, none, none]) (fun Cn hC => ?_) ?_
  · walk_at "s1"
    refine ⟨⟨o0, by rw [mput_ne hpq]; exact e0, ho0⟩, by omega, fun o1 r1 ho1 r10 r11 => ?_⟩
    obtain ⟨n, rfl⟩ := Int.eq_ofNat_of_zero_le r10
    refine ⟨by omega, by omega, fun _ => ?_⟩
    rw [show ((1 : Int) + (n : Int)).toNat = n + 1 by omega]
    refine for_ind (fun items m1 M1 => ∃ (o : DO) (j : Nat) (ps : List (Str × Nat)) (rs : List Ru) (x8 x9 x10 : Option D), items = rangeD (j : Int) (n + 1 - j) ∧ j ≤ n + 1 ∧ DrO o ∧ sc.length ≤ ps.length ∧ ps.length ≤ 20 + 2 * j ∧ (∀ q ∈ ps, PyData.strOk q.1 = true ∧ q.2 ≤ 8) ∧ (0 < j → rs ≠ []) ∧ rs.length ≤ 2 * j ∧ (∀ r ∈ rs, (RuOk r ∧ VarIn vs r) ∧ r.head.length ≤ 8) ∧ MLe (mput M p o) M1 ∧ M1 q = some (.lst (rs.map ruD)) ∧
      m1 = [some (.ref p), some scV, some (.lst (ns.map D.str)), some (.lst (vs.map D.str)), some (.lst vals), some (.int mn), some (.lst (ps.map plc)), some (.ref q), x8, x9, x10, none, none]) ?_ ?_ _ _ _ ⟨o1, 0, ps0, [], _, _, _, rfl, by omega, ho1, by omega, by omega, hp0o, (fun z => by omega), by simp, by simp, (MLe.put (.refl M) hq).both, by rw [mput_ne hpq.symm]; exact mput_same, by rw [hscV]⟩
    · rintro m1 M1 ⟨o, j, ps, rs, x8, x9, x10, hi, hj, ho, hpl, hpl2, hpo, hrn, hrl, hrs, hle, hMq, rfl⟩
      have hjn : j = n + 1 := by
        rcases Nat.lt_or_ge j (n + 1) with c | c
        · rw [show n + 1 - j = (n + 1 - (j + 1)) + 1 by omega, rangeD_cons] at hi
          cases hi
        · omega
      exact ⟨srcV_none, hC _ _ ⟨o, ps, rs, _, _, _, ho, hpl, by omega, hpo, hrn (by omega), by omega, hrs, hle, hMq, rfl⟩⟩
    · rintro z items m1 M1 Cn2 hC2 ⟨o, j, ps, rs, x8, x9, x10, hi, hj, ho, hpl, hpl2, hpo, hrn, hrl, hrs, hle, hMq, rfl⟩
      refine ⟨srcV_none, ?_⟩
      have hj2 : j < n + 1 := by
        rcases Nat.lt_or_ge j (n + 1) with c | c
        · exact c
        · rw [show n + 1 - j = 0 by omega] at hi
          simp [rangeD] at hi
      rw [show n + 1 - j = (n + 1 - (j + 1)) + 1 by omega, rangeD_cons] at hi
      injection hi with h1 h2
      subst h1
      subst h2
      have hpn : ps ≠ [] := fun z => by
        rw [z] at hpl
        exact hsn (List.length_eq_zero_iff.mp (Nat.le_zero.mp hpl))
      walk_at "st"
      refine ⟨⟨o, hle _ _ mput_same, ho⟩, fun o2 r2 ho2 r20 r21 => ?_⟩
      obtain ⟨wd, hwd, hat⟩ : ∃ wd : Nat, wd ≤ 2 ∧ atI [D.int 1, .int 0, .int 2, .int 1] r2 = some (.int (wd : Nat)) := by
        rcases (by omega : r2 = 0 ∨ r2 = 1 ∨ r2 = 2 ∨ r2 = 3) with rfl | rfl | rfl | rfl
        · exact ⟨1, by omega, rfl⟩
        · exact ⟨0, by omega, rfl⟩
        · exact ⟨2, by omega, rfl⟩
        · exact ⟨1, by omega, rfl⟩
      refine ⟨_, hat, ?_⟩
      obtain ⟨nm, hnm, hatn⟩ : ∃ nm : Str, nm ∈ ns ∧ atI (ns.map D.str) (j : Int) = some (.str nm) := by
        obtain ⟨x, hx, hat⟩ := atI_lt (xs := ns.map D.str) (i := (j : Int)) (by omega) (by simp; omega)
        obtain ⟨y, hy, rfl⟩ := List.mem_map.mp hx
        exact ⟨y, hy, hat⟩
      have hnmo := hns nm hnm
      have hMq2 : ∀ o, mput M1 p o q = some (.lst (rs.map ruD)) := fun o => by rw [mput_ne hpq.symm]; exact hMq
      walk_at "st"
      refine ⟨⟨_, by rw [hMq2]⟩, _, hatn, nm, rfl, ps, rfl, [], rfl, vs, rfl, by omega, by omega, hnmo, dr_put ho2, hpn, hpo, (fun q hq => nomatch hq), hvs, hvals, hV, hS, fun o3 r3 ho3 hr3 _ hw3 hv1 hv2 _ => ?_⟩
      refine ⟨_, hMq2 _, by rw [List.length_map]; omega, ?_⟩
      have hw3' : r3.head.length = wd := by omega
      have eap : rs.map ruD ++ [ruD r3] = (rs ++ [r3]).map ruD := by rw [List.map_append]; rfl
      rw [eap]
      have hrs2 : ∀ r ∈ rs ++ [r3], (RuOk r ∧ VarIn vs r) ∧ r.head.length ≤ 8 := fun r hr => by
        rcases List.mem_append.mp hr with hr | hr
        · exact hrs r hr
        · rw [List.mem_singleton.mp hr]
          exact ⟨⟨hr3, hv1, fun l hl x hx => hv1 x (hv2 l hl x hx)⟩, by omega⟩
      have hrl2 : (rs ++ [r3]).length ≤ 2 * j + 1 := by rw [List.length_append, List.length_singleton]; omega
      have hrn2 : rs ++ [r3] ≠ [] := by simp
      obtain ⟨rs2, hrs2e⟩ : ∃ rs2, rs2 = rs ++ [r3] := ⟨_, rfl⟩
      rw [← hrs2e] at hrs2 hrl2 hrn2 ⊢
      have hle3 : MLe (mput M p o3) (mput (mput M1 p o3) q (.lst (rs2.map ruD))) := (up_p o3 hle).put (hqM o3)
      obtain ⟨M3, hM3⟩ : ∃ M3, M3 = mput (mput M1 p o3) q (.lst (rs2.map ruD)) := ⟨_, rfl⟩
      have hMq3 : M3 q = some (.lst (rs2.map ruD)) := by rw [hM3]; exact mput_same
      rw [← hM3] at hle3 ⊢
      refine seq_cut (fun m2 M2 => ∃ (o : DO) (rs : List Ru) (x10 : Option D), DrO o ∧ rs ≠ [] ∧ rs.length ≤ 2 * (j + 1) ∧ (∀ r ∈ rs, (RuOk r ∧ VarIn vs r) ∧ r.head.length ≤ 8) ∧ MLe (mput M p o) M2 ∧ M2 q = some (.lst (rs.map ruD)) ∧
        m2 = [some (.ref p), some scV, some (.lst (ns.map D.str)), some (.lst (vs.map D.str)), some (.lst vals), some (.int mn), some (.lst (ps.map plc)), some (.ref q), some (.int (j : Nat)), some (.int (wd : Nat)), x10, none, none]) (fun Cn3 hC3 => ?_) ?_
      · walk_at "s1"
        refine ⟨⟨o3, hle3 _ _ mput_same, ho3⟩, fun o4 r4 ho4 r40 r41 => ?_⟩
        have hMq4 : ∀ o, mput M3 p o q = some (.lst (rs2.map ruD)) := fun o => by rw [mput_ne hpq.symm]; exact hMq3
        split
        · refine seq_cut (fun m2 M2 => ∃ (o : DO) (rg : List (Str × Nat)), DrO o ∧ (∀ q ∈ rg, PyData.strOk q.1 = true ∧ q.2 ≤ 8) ∧ MLe (mput M p o) M2 ∧ M2 q = some (.lst (rs2.map ruD)) ∧
            m2 = [some (.ref p), some scV, some (.lst (ns.map D.str)), some (.lst (vs.map D.str)), some (.lst vals), some (.int mn), some (.lst (ps.map plc)), some (.ref q), some (.int (j : Nat)), some (.int (wd : Nat)), some (.lst (rg.map plc)), none, none]) (fun Cn5 hC5 => ?_) ?_
          · walk_at "s1"
            refine ⟨_, hatn, fun p6 hp6 => ?_⟩
            have hp6p : p ≠ p6 := ne_of_fresh mput_same hp6
            have hle6 := up_p o4 hle3
            have hle7 := MLe.put (o := .lst [D.tup [D.str nm, D.int (wd : Nat)]]) hle6 (MLe.none hle6 hp6)
            have hq6 : q ≠ p6 := ne_of_fresh (hMq4 o4) hp6
            refine ⟨⟨o4, by rw [mput_ne hp6p]; exact mput_same, ho4⟩, fun o5 r5 ho5 r50 r51 => ?_⟩
            refine ⟨_, by rw [mput_ne hp6p.symm]; exact mput_same, by split <;> omega, by split <;> omega, by split <;> simp, fun p7 hp7 => ?_⟩
            rw [mdel_mput hp7]
            by_cases c : 0 < r5
            · refine ⟨[D.tup [D.str nm, D.int (wd : Nat)]], by rw [if_pos c]; rfl, ?_⟩
              exact hC5 _ _ ⟨o5, [(nm, wd)], ho5, fun e he => by rw [List.mem_singleton.mp he]; exact ⟨hnmo, by show wd ≤ 8; omega⟩, up_p o5 hle7, by rw [mput_ne hpq.symm, mput_ne hq6]; exact hMq4 _, rfl⟩
            · refine ⟨[], by rw [if_neg c]; rfl, ?_⟩
              exact hC5 _ _ ⟨o5, [], ho5, (fun e he => nomatch he), up_p o5 hle7, by rw [mput_ne hpq.symm, mput_ne hq6]; exact hMq4 _, rfl⟩
          rintro _ M5 ⟨o5, rg, ho5, hrg, hle5, hMq5, rfl⟩
          walk_at "rd"
          refine ⟨⟨_, by rw [hMq5]⟩, _, hatn, nm, rfl, ps, rfl, rg, rfl, vs, rfl, by omega, by omega, hnmo, ⟨o5, hle5 _ _ mput_same, ho5⟩, hpn, hpo, hrg, hvs, hvals, hV, hS, fun o6 r6 ho6 hr6 _ hw6 hv3 hv4 _ => ?_⟩
          refine ⟨_, by rw [mput_ne hpq.symm]; exact hMq5, by rw [List.length_map]; omega, ?_⟩
          refine hC3 _ _ ⟨o6, rs2 ++ [r6], _, ho6, by simp, by rw [List.length_append, List.length_singleton]; omega, fun r hr => ?_, (up_p o6 hle5).put (hqM o6), by rw [mput_same, List.map_append]; rfl, rfl⟩
          rcases List.mem_append.mp hr with hr | hr
          · exact hrs2 r hr
          · rw [List.mem_singleton.mp hr]
            exact ⟨⟨hr6, hv3, fun l hl x hx => hv3 x (hv4 l hl x hx)⟩, by omega⟩
        · exact hC3 _ _ ⟨o4, rs2, _, ho4, hrn2, by omega, hrs2, up_p o4 hle3, hMq4 _, rfl⟩
      rintro _ M5 ⟨o5, rs5, x10b, ho5, hrn5, hrl5, hrs5, hle5, hMq5, rfl⟩
      walk_at "rd"
      refine ⟨_, hatn, fun p6 hp6 => ⟨_, rfl, by simp, fun p7 hp7 => ⟨_, rfl, by simp; omega, ?_⟩⟩⟩
      rw [mdel_mput hp7]
      refine fg_of (hC2 _ _ ⟨o5, j + 1, ps ++ [(nm, wd), (nm, wd)], rs5, _, _, _, rfl, by omega, ho5, by rw [List.length_append]; omega, by simp; omega, fun e he => ?_, fun _ => hrn5, hrl5, hrs5, MLe.put hle5 (MLe.none hle5 hp6), by rw [mput_ne (ne_of_fresh hMq5 hp6)]; exact hMq5, by rw [List.map_append]; rfl⟩)
      rcases List.mem_append.mp he with he | he
      · exact hpo e he
      · have e2 : e = (nm, wd) := by simpa using he
        rw [e2]
        exact ⟨hnmo, by show wd ≤ 8; omega⟩
  rintro _ M2 ⟨o, ps, rs, x8, x9, x10, ho, hpl, hpl2, hpo, hrn, hrl, hrs, hle, hMq, rfl⟩
  refine seq_cut (fun m2 M2 => ∃ (o : DO) (rs : List Ru) (z : D), DrO o ∧ MLe (mput M p o) M2 ∧ dItems z M2 = some (rs.map ruD) ∧ rs.length ≤ 18 ∧ (∀ r ∈ rs, RuOk r ∧ VarIn vs r) ∧
    m2 = [some (.ref p), some scV, some (.lst (ns.map D.str)), some (.lst (vs.map D.str)), some (.lst vals), some (.int mn), some (.lst (ps.map plc)), some z, x8, x9, x10, none, none]) (fun Cn hC => ?_) ?_
  · have hIt : dItems (.ref q) M2 = some (rs.map ruD) := by rw [dItems_rf, hMq]
    have hMq4 : ∀ o, mput M2 p o q = some (.lst (rs.map ruD)) := fun o => by rw [mput_ne hpq.symm]; exact hMq
    walk_at "s1"
    refine ⟨_, by rw [hMq], fun _ => ?_⟩
    refine lc_map rs ruD (fun r => D.str r.name) rfl (srcV_of (a := .ref q) hIt) (fun r hr M5 l5 C1 h5 => ?_) fun p6 hp6 => ?_
    · walk_at "rd"
      exact ⟨_, rfl, _, rfl, h5⟩
    rw [mdel_mput hp6]
    refine ⟨rs.map (·.name), by rw [List.map_map]; rfl, by rw [List.length_map]; omega, fun us _ _ => ?_⟩
    split
    · refine ⟨⟨o, hle _ _ mput_same, ho⟩, fun o2 r2 ho2 r20 r21 => ?_⟩
      split
      · have etk : DL.cutD (ps.map plc) none (some ((sc.length : Nat) : Int)) = (ps.take sc.length).map plc := by rw [DL.cutD_to, List.map_take]
        refine ⟨sc.length, by rw [hscV]; rw [dLenOf_tup, List.length_map], rs, by rw [hMq4], hpq.symm, ps.take sc.length, etk, vs, rfl, dr_put ho2, hrn, by omega, (fun r hr => ⟨(hrs r hr).1.1, (hrs r hr).1.2, (hrs r hr).2⟩), fun z => ?_, fun e he => hpo e (List.mem_of_mem_take he), hvs, hvals, hV, hS, fun o3 fs ho3 hfl hfs => ?_⟩
        · have z2 := congrArg List.length z
          rw [List.length_take] at z2
          have z3 : 0 < sc.length := List.length_pos_iff.mpr hsn
          rw [List.length_nil] at z2
          omega
        · exact hC _ _ ⟨o3, fs, .lst (fs.map ruD), ho3, up_p o3 hle, rfl, by omega, hfs, rfl⟩
      · exact hC _ _ ⟨o2, rs, .ref q, ho2, up_p o2 hle, by rw [dItems_rf, hMq4], by omega, fun r hr => (hrs r hr).1, rfl⟩
    · exact hC _ _ ⟨o, rs, .ref q, ho, hle, hIt, by omega, fun r hr => (hrs r hr).1, rfl⟩
  rintro _ M2 ⟨o2, rs2, z, ho2, hle, hz, hrl2, hrs2, rfl⟩
  walk_at "rd"
  exact ⟨_, hz, ret_le hle (h o2 rs2 ho2 hrs2 hrl2)⟩
theorem dDict_le {M N : DM} {b : D} {kvs : List (D × D)} (h : dDict b M = some kvs) (l : MLe M N) : dDict b N = some kvs := by
  cases b with
  | ref r =>
    cases q : M r with
    | none => simp [dDict, q] at h
    | some o =>
      cases o with
      | dk ys =>
        simp [dDict, q] at h
        exact dDict_ref (by rw [l _ _ q, h])
      | _ => simp [dDict, q] at h
  | _ => first | exact h | cases h
abbrev sp_terms_of : DSp := ar1 fun a M Q => ∃ l : Lit, a = liD l ∧ liOk l ∧ Q (.tup ((liTs l).map tmD)) M
theorem ok_terms_of (F : Def K mg "terms_of" s_terms_of ["literal"]) (B : Bi K mg) (I : Im mg)  : Cal P w K mg base 1 "terms_of" ["literal"] sp_terms_of := by
  have sc := sc_terms_of
  refine F.cal sc (fun ds M Q h => len1 h) (fun f cdv A outer s H E hr => (ds_cons (ds_if (dt_cmp (o_eq (hu_eq hr)) (d_ix x_ix (d_v 0) d_int (fun _ _ => rfl)) d_str (nomark _))
    (ds_one (ds_ret (d_ix x_ix (d_v 0) d_int (fun _ _ => rfl))))
    ds_nil)
    (ds_one (ds_ret (d_sl (d_v 0) (dp_some d_int) dp_none))))) (fun ds M Q h => ?_)
  obtain ⟨a, rfl, l, rfl, hl, h⟩ := h
  cases l with
  | atom w n ts =>
    walk_at "rd"
    exact ret_of h
  | test k a b =>
    obtain ⟨hk, _⟩ := hl
    have e : DL.cutD [D.str k, tmD a, tmD b] (some 1) none = [a, b].map tmD := rfl
    rcases hk with rfl | rfl
    · walk_at "rd"
      rw [e]
      exact ret_of h
    · walk_at "rd"
      rw [e]
      exact ret_of h
abbrev sp_with_terms : DSp := ar2 fun a b M Q => ∃ (l : Lit) (f : Str → Str), a = liD l ∧ liOk l ∧ b = .tup ((liTs (liR f l)).map tmD) ∧ Q (liD (liR f l)) M
theorem ok_with_terms (F : Def K mg "with_terms" s_with_terms ["literal", "terms"]) (B : Bi K mg) (I : Im mg)  : Cal P w K mg base 1 "with_terms" ["literal", "terms"] sp_with_terms := by
  have sc := sc_with_terms
  refine F.cal sc (fun ds M Q h => len2 h) (fun f cdv A outer s H E hr => (ds_cons (ds_if (dt_cmp (o_eq (hu_eq hr)) (d_ix x_ix (d_v 0) d_int (fun _ _ => rfl)) d_str (nomark _))
    (ds_one (ds_ret (d_tup (da_cons (d_ix x_ix (d_v 0) d_int (fun _ _ => rfl)) (da_cons (d_ix x_ix (d_v 0) d_int (fun _ _ => rfl)) (da_cons (d_ix x_ix (d_v 0) d_int (fun _ _ => rfl)) (da_cons (d_v 1) da_nil)))))))
    ds_nil)
    (ds_one (ds_ret (d_tup (da_cons (d_ix x_ix (d_v 0) d_int (fun _ _ => rfl)) (da_star (d_v 1) da_nil))))))) (fun ds M Q h => ?_)
  obtain ⟨a, b, rfl, l, f, rfl, hl, rfl, h⟩ := h
  cases l with
  | atom w n ts =>
    walk_at "rd"
    exact ret_of h
  | test k a b =>
    obtain ⟨hk, _⟩ := hl
    rcases hk with rfl | rfl
    · walk_at "rd"
      exact ⟨by simp [liTs, liR], ret_of h⟩
    · walk_at "rd"
      exact ⟨by simp [liTs, liR], ret_of h⟩
abbrev sp_renamed_terms : DSp := ar2 fun a b M Q => ∃ (ts : List Tm) (m : List (Str × Str)), a = .tup (ts.map tmD) ∧ dDict b M = some (mapD m) ∧ (∀ x ∈ vrs ts, x ∈ m.map (·.1)) ∧ Q (.tup ((ts.map (tmR (lk m))).map tmD)) M
theorem ok_renamed_terms (F : Def K mg "renamed_terms" s_renamed_terms ["terms", "words"]) (B : Bi K mg) (I : Im mg)  : Cal P w K mg base 1 "renamed_terms" ["terms", "words"] sp_renamed_terms := by
  have sc := sc_renamed_terms
  refine F.cal sc (fun ds M Q h => len2 h) (fun f cdv A outer s H E hr => (ds_one (ds_ret (d_ct c_tuple rfl B.b_tuple boot_tuple (da_cons (d_lcF rfl sc.nd (own := [("term", 2)]) (di_seq (d_v 0)) (blkOk_by (N := N_renamed_terms) (sc := defScope s_renamed_terms) (by decide +kernel)) (by decide) (fun _ _ _ _ _ => (dg_name (i := 2) sc.nd rfl (Or.inl rfl))) (fun _ _ _ _ _ => dts_nil) (fun _ _ _ _ _ => (d_ifE (dt_cmp (o_eq (hu_eq hr)) (d_ix x_ix (d_v 2) d_int (fun _ _ => rfl)) d_str (nomark _)) (d_tup (da_cons d_str (da_cons (d_kix (hu_1 hr) (d_v 1) (d_ix x_ix (d_v 2) d_int (fun _ _ => rfl)) (fun _ _ => rfl)) da_nil))) (d_v 2)))) da_nil))))) (fun ds M Q h => ?_)
  obtain ⟨a, b, rfl, ts, m, rfl, hb, hx, h⟩ := h
  walk_at "rd"
  intro _
  refine lc_map ts tmD (fun t => tmD (tmR (lk m) t)) rfl srcV_none (fun t ht M5 l5 C1 h5 => ?_) fun p hp => ?_
  · cases t with
    | var x =>
      walk_at "rd"
      exact ⟨_, dDict_le hb l5, _, mapD_get (hx x (mem_vrs.mpr ht)), h5⟩
    | val d =>
      walk_at "rd"
      exact h5
  · rw [mdel_mput hp]
    rw [List.map_map] at h
    exact ret_of h
abbrev sp_renamed : DSp := ar2 fun a b M Q => ∃ (r : Ru) (m : List (Str × Str)), a = ruD r ∧ dDict b M = some (mapD m) ∧ (∀ l ∈ r.body, liOk l) ∧ (∀ l ∈ r.body, ∀ x ∈ vrs (liTs l), x ∈ m.map (·.1)) ∧ (∀ x ∈ vrs r.head, x ∈ m.map (·.1)) ∧ Q (ruD (ruR (lk m) r)) M
theorem ok_renamed (F : Def K mg "renamed" s_renamed ["rule", "words"]) (B : Bi K mg) (I : Im mg) (c_terms_of : Cal P w K mg base 1 "terms_of" ["literal"] sp_terms_of) (c_with_terms : Cal P w K mg base 1 "with_terms" ["literal", "terms"] sp_with_terms) (c_renamed_terms : Cal P w K mg base 1 "renamed_terms" ["terms", "words"] sp_renamed_terms) : Cal P w K mg base 2 "renamed" ["rule", "words"] sp_renamed := by
  have sc := sc_renamed
  refine F.cal sc (fun ds M Q h => len2 h) (fun f cdv A outer s H E hr => (ds_cons (ds_asg (d_v 0) (dg_tup (n := 3) rfl (dgs_cons (dg_name (i := 2) sc.nd rfl (Or.inl rfl)) (dgs_cons (dg_name (i := 3) sc.nd rfl (Or.inl rfl)) (dgs_cons (dg_name (i := 4) sc.nd rfl (Or.inl rfl)) dgs_nil)))))
    (ds_cons (ds_setLcF (i := 5) rfl sc.nd rfl rfl (sw_true rfl rfl rfl (by decide +kernel)) (own := [("literal", 6)]) (di_seq (d_v 4)) (blkOk_by (N := N_renamed) (sc := defScope s_renamed) (by decide +kernel)) (by decide) (fun _ _ _ _ _ => (dg_name (i := 6) sc.nd rfl (Or.inl rfl))) (fun _ _ _ _ _ => dts_nil) (fun _ _ _ _ _ => (d_call c_with_terms (hr.mono (by first | decide | omega)) rfl (da_cons (d_v 6) (da_cons (d_call c_renamed_terms (hr.mono (by first | decide | omega)) rfl (da_cons (d_call c_terms_of (hr.mono (by first | decide | omega)) rfl (da_cons (d_v 6) da_nil)) (da_cons (d_v 1) da_nil))) da_nil)))))
    (ds_one (ds_ret (d_tup (da_cons (d_v 2) (da_cons (d_call c_renamed_terms (hr.mono (by first | decide | omega)) rfl (da_cons (d_v 3) (da_cons (d_v 1) da_nil))) (da_cons (d_ct c_tuple rfl B.b_tuple boot_tuple (da_cons (d_v 5) da_nil)) da_nil))))))))) (fun ds M Q h => ?_)
  obtain ⟨a, b, rfl, r, m, rfl, hb, hok, hx, hh, h⟩ := h
  obtain ⟨name, hd, ls⟩ := r
  walk_at "st"
  walk_at "st"
  intro _
  refine lc_map ls liD (fun l => liD (liR (lk m) l)) rfl srcV_none (fun l hl M5 l5 C1 h5 => ?_) fun p hp => ?_
  · walk_at "rd"
    refine ⟨l, rfl, hok l hl, liTs l, rfl, m, dDict_le hb l5, hx l hl, l, rfl, hok l hl, lk m, by rw [liTs_ren], h5⟩
  · rw [mdel_mput hp]
    refine ⟨hd, rfl, m, hb, hh, ?_⟩
    have e : ls.map (fun l => liD (liR (lk m) l)) = (ls.map (liR (lk m))).map liD := by rw [List.map_map]; rfl
    rw [e]
    exact ret_of h
theorem vrs_filt (ts : List Tm) : (ts.filter fun t => (tmV t).isSome).map (fun t => match t with | .var x => D.str x | .val d => d) = (vrs ts).map D.str := by
  induction ts with
  | nil => rfl
  | cons t ts ih =>
    cases t with
    | var x =>
      show D.str x :: ((ts.filter fun t => (tmV t).isSome).map _) = D.str x :: (vrs ts).map D.str
      rw [ih]
    | val d => exact ih
theorem mem_vrs_app {x : Str} {as bs : List Tm} : x ∈ vrs (as ++ bs) ↔ x ∈ vrs as ∨ x ∈ vrs bs := by
  rw [mem_vrs, mem_vrs, mem_vrs, List.mem_append]
abbrev sp_l_words_of : DSp := ar1 fun a M Q => ∃ r : Ru, a = ruD r ∧ RuOk r ∧ ∀ ws : List Str, ws.Pairwise LeS → ws.Nodup → (∀ x, x ∈ ws ↔ x ∈ vrs r.head ∨ ∃ l ∈ r.body, x ∈ vrs (liTs l)) → Q (.lst (ws.map D.str)) M
theorem ok_l_words_of (F : Def K mg "_law_words_of" s_l_words_of ["rule"]) (B : Bi K mg) (I : Im mg)  : Cal P w K mg base 1 "_law_words_of" ["rule"] sp_l_words_of := by
  have sc := sc_l_words_of
  refine F.cal sc (fun ds M Q h => len1 h) (fun f cdv A outer s H E hr => (ds_cons (ds_set (i := 1) sc.nd rfl (Or.inl rfl) (d_fz (d_ct c_list rfl B.b_list boot_list (da_cons (d_ix x_ix (d_v 0) d_int (fun _ _ => rfl)) da_nil))))
    (ds_cons (ds_for PassesOwn.never rfl (di_seq (d_ix x_ix (d_v 0) d_int (fun _ _ => rfl))) (dg_name (i := 2) sc.nd rfl (Or.inl rfl))
    (ds_one (ds_if (dt_cmp (o_eq (hu_eq hr)) (d_ix x_ix (d_v 2) d_int (fun _ _ => rfl)) d_str (nomark _))
    (ds_one (ds_set (i := 1) sc.nd rfl (Or.inl rfl) (d_catF (d_v 1) (d_fz (d_ct c_list rfl B.b_list boot_list (da_cons (d_ix x_ix (d_v 2) d_int (fun _ _ => rfl)) da_nil))))))
    (ds_one (ds_set (i := 1) sc.nd rfl (Or.inl rfl) (d_catF (d_v 1) (d_lstF (da_cons (d_ix x_ix (d_v 2) d_int (fun _ _ => rfl)) (da_cons (d_ix x_ix (d_v 2) d_int (fun _ _ => rfl)) da_nil)))))))))
    (ds_one (ds_ret (d_fz (d_sortSetT rfl (hu_eq hr) rfl B.b_sorted rfl B.b_set (d_lcF rfl sc.nd (own := [("term", 3)]) (di_seq (d_v 1)) (blkOk_by (N := N_l_words_of) (sc := defScope s_l_words_of) (by decide +kernel)) (by decide) (fun _ _ _ _ _ => (dg_name (i := 3) sc.nd rfl (Or.inl rfl))) (fun _ _ _ _ _ => (dts_one (dt_cmp (o_eq (hu_eq hr)) (d_ix x_ix (d_v 3) d_int (fun _ _ => rfl)) d_str (nomark _)))) (fun _ _ _ _ _ => (d_ix x_ix (d_v 3) d_int (fun _ _ => rfl))))))))))) (fun ds M Q h => ?_)
  obtain ⟨a, rfl, r, rfl, hr, h⟩ := h
  obtain ⟨name, hd, ls⟩ := r
  have hbl : ls.length ≤ 20 := hr.blen
  have hhl : hd.length ≤ 20 := hr.hlen
  walk_at "st"
  intro p hp
  refine ⟨_, rfl, ?_⟩
  rw [mdel_mput hp]
  obtain ⟨ruV, hruV⟩ : ∃ z, z = D.tup [.str name, .tup (hd.map tmD), .tup (ls.map liD)] := ⟨_, rfl⟩
  walk_at "st"
  intro _
  rw [← hruV]
  refine for_ind (fun items m1 M1 => ∃ (rest dn : List Lit) (ts : List Tm) (x2 : Option D), items = rest.map liD ∧ dn ++ rest = ls ∧ ts.length ≤ 20 + 8 * dn.length ∧ (∀ x, x ∈ vrs ts ↔ x ∈ vrs hd ∨ ∃ l ∈ dn, x ∈ vrs (liTs l)) ∧ M1 = M ∧ m1 = [some ruV, some (.lst (ts.map tmD)), x2, none]) ?_ ?_ _ _ _ ⟨ls, [], hd, _, rfl, rfl, by omega, by simp, rfl, rfl⟩
  · rintro m1 M1 ⟨rest, dn, ts, x2, hi, hd2, hl, hm, rfl, rfl⟩
    refine ⟨srcV_none, ?_⟩
    cases rest with
    | cons x r => cases hi
    | nil =>
      rw [List.append_nil] at hd2
      subst hd2
      walk_at "rd"
      intro _
      refine lc_pure ts tmD (fun t => (tmV t).isSome) (fun t => match t with | .var x => D.str x | .val d => d) rfl srcV_none (fun t ht M5 l5 C1 C2 h1 h2 => ?_) fun p5 hp5 => ?_
      · cases t with
        | var x =>
          walk_at "rd"
          exact h1 rfl
        | val d =>
          walk_at "rd"
          exact h2 rfl
      rw [vrs_filt]
      have hvl : (vrs ts).length ≤ ts.length := List.length_filterMap_le ..
      refine ⟨vrs ts, rfl, by omega, fun ws p6 hs hn hm2 _ hp6 => ⟨_, rfl, ?_⟩⟩
      rw [mdel_mput hp6, mdel_mput hp5]
      exact ret_of (h ws hs hn fun x => by rw [hm2, hm])
  · rintro z items m1 M1 Cn hC ⟨rest, dn, ts, x2, hi, hd2, hl, hm, rfl, rfl⟩
    refine ⟨srcV_none, ?_⟩
    cases rest with
    | nil => cases hi
    | cons l rest =>
      rw [List.map_cons] at hi
      injection hi with e1 e2
      subst e1
      subst e2
      have hdn : dn.length ≤ 20 := by
        have := congrArg List.length hd2
        rw [List.length_append] at this
        omega
      have hlo := hr.body l (by show l ∈ ls; rw [← hd2]; simp)
      have fin : ∀ (us : List Tm), us = liTs l → us.length ≤ 8 → fg Cn [some ruV, some (.lst ((ts ++ us).map tmD)), some (liD l), none] M1 := fun us hu hul => by
        subst hu
        refine fg_of (hC _ _ ⟨rest, dn ++ [l], ts ++ liTs l, _, rfl, by rw [← hd2]; simp, ?_, fun x => ?_, rfl, rfl⟩)
        · rw [List.length_append, List.length_append, List.length_singleton]
          omega
        · rw [mem_vrs_app, hm]
          constructor
          · rintro ((h | ⟨l2, hl2, h⟩) | h)
            · exact .inl h
            · exact .inr ⟨l2, by simp [hl2], h⟩
            · exact .inr ⟨l, by simp, h⟩
          · rintro (h | ⟨l2, hl2, h⟩)
            · exact .inl (.inl h)
            · rcases List.mem_append.mp hl2 with hl2 | hl2
              · exact .inl (.inr ⟨l2, hl2, h⟩)
              · rw [List.mem_singleton.mp hl2] at h
                exact .inr h
      cases l with
      | atom w n us =>
        have hul : us.length ≤ 8 := hlo.2.2.1
        walk_at "rd"
        intro p hp
        refine ⟨_, rfl, by simp; omega, ?_⟩
        rw [mdel_mput hp, ← List.map_append]
        exact fin us rfl hlo.2.2.1
      | test k a b =>
        have e : ts.map tmD ++ [tmD a, tmD b] = (ts ++ [a, b]).map tmD := by rw [List.map_append]; rfl
        rcases hlo.1 with rfl | rfl
        · walk_at "rd"
          rw [e]
          exact ⟨by simp; omega, fin [a, b] rfl (by simp)⟩
        · walk_at "rd"
          rw [e]
          exact ⟨by simp; omega, fin [a, b] rfl (by simp)⟩
abbrev sp_l_new_term : DSp := ar2 fun a b M Q => ∃ (t : Tm) (m : List (Str × Str)), a = tmD t ∧ b = .lst (m.map fun e => .tup [.str e.1, .str e.2]) ∧ (∀ x, tmV t = some x → x ∈ m.map (·.1)) ∧ (∀ e ∈ m, PyData.strOk e.1 = true) ∧ Q (tmD (tmR (lk m) t)) M
theorem ok_l_new_term (F : Def K mg "_law_new_term" s_l_new_term ["term", "pairs"]) (B : Bi K mg) (I : Im mg)  : Cal P w K mg base 1 "_law_new_term" ["term", "pairs"] sp_l_new_term := by
  have sc := sc_l_new_term
  refine F.cal sc (fun ds M Q h => len2 h) (fun f cdv A outer s H E hr => (ds_cons (ds_if (dt_cmp (o_eq (hu_eq hr)) (d_ix x_ix (d_v 0) d_int (fun _ _ => rfl)) d_str (nomark _))
    (ds_one (ds_ret (d_v 0)))
    ds_nil)
    (ds_one (ds_ret (d_tup (da_cons d_str (da_cons (d_ix x_ix (d_lcF rfl sc.nd (own := [("pair", 2)]) (di_seq (d_v 1)) (blkOk_by (N := N_l_new_term) (sc := defScope s_l_new_term) (by decide +kernel)) (by decide) (fun _ _ _ _ _ => (dg_name (i := 2) sc.nd rfl (Or.inl rfl))) (fun _ _ _ _ _ => (dts_one (dt_cmp (o_eq (hu_eq hr)) (d_ix x_ix (d_v 2) d_int (fun _ _ => rfl)) (d_ix x_ix (d_v 0) d_int (fun _ _ => rfl)) (nomark _)))) (fun _ _ _ _ _ => (d_ix x_ix (d_v 2) d_int (fun _ _ => rfl)))) d_int (fun _ _ => rfl)) da_nil))))))) (fun ds M Q h => ?_)
  obtain ⟨a, b, rfl, t, m, rfl, rfl, hx, hso, h⟩ := h
  cases t with
  | val d =>
    walk_at "rd"
    exact ret_of h
  | var x =>
    have hxm := hx x rfl
    walk_at "rd"
    intro _
    refine lc_pure m (fun e => D.tup [.str e.1, .str e.2]) (fun e => decide (e.1 = x)) (fun e => D.str e.2) rfl srcV_none (fun e he M5 l5 C1 C2 h1 h2 => ?_) fun p5 hp5 => ?_
    · have hxo : PyData.strOk x = true := by
        obtain ⟨e2, he2, rfl⟩ := List.mem_map.mp hxm
        exact hso e2 he2
      walk_at "rd"
      refine ⟨hso e he, hxo, ?_⟩
      split
      · next c => exact h1 (decide_eq_true c)
      · next c => exact h2 (decide_eq_false c)
    rw [mdel_mput hp5]
    refine ⟨.str (lk m x), ?_, ret_of h⟩
    have e1 : (m.filter fun e => decide (e.1 = x)).head? = m.find? fun e => decide (e.1 = x) := List.head?_filter ..
    have e2 : ∃ e, (m.find? fun e => decide (e.1 = x)) = some e := by
      obtain ⟨e, he, rfl⟩ := List.mem_map.mp hxm
      exact Option.isSome_iff_exists.mp (List.find?_isSome.mpr ⟨e, he, decide_eq_true rfl⟩)
    obtain ⟨e, he⟩ := e2
    unfold lk
    rw [he] at e1 ⊢
    cases q : m.filter fun e => decide (e.1 = x) with
    | nil => rw [q] at e1; cases e1
    | cons a r =>
      rw [q] at e1
      cases e1
      exact atI_0 _ _
theorem erase_perm {α : Type} : ∀ (l : List α) (i : Nat) (h : i < l.length), (l.eraseIdx i ++ [l[i]]).Perm l
  | x :: l, 0, _ => List.perm_append_comm
  | x :: l, i + 1, h => (erase_perm l i (by simpa using h)).cons x
abbrev sp_l_shuffled : DSp := ar2 fun a b M Q => ∃ (p : Addr) (xs : List D), a = .ref p ∧ b = .lst xs ∧ xs.length ≤ 1000 ∧ Dr M p ∧ ∀ (o : DO) (ys : List D), DrO o → ys.Perm xs → Q (.lst ys) (mput M p o)
theorem ok_l_shuffled (F : Def K mg "_law_shuffled" s_l_shuffled ["draws", "row"]) (B : Bi K mg) (I : Im mg) (c_l_take : Cal P w K mg base 1 "_law_take" ["draws", "many"] sp_l_take) : Cal P w K mg base 2 "_law_shuffled" ["draws", "row"] sp_l_shuffled := by
  have sc := sc_l_shuffled
  refine F.cal sc (fun ds M Q h => len2 h) (fun f cdv A outer s H E hr => (ds_cons (ds_set (i := 2) sc.nd rfl (Or.inl rfl) (d_fz (d_ct c_list rfl B.b_list boot_list (da_cons (d_v 1) da_nil))))
    (ds_cons (ds_set (i := 3) sc.nd rfl (Or.inl rfl) (d_lst da_nil))
    (ds_cons (ds_for PassesOwn.never rfl (di_range1 rfl B.b_range (da_cons (d_cb c_lenB rfl B.b_len boot_len (da_cons (d_v 1) da_nil)) da_nil)) (dg_name (i := 4) sc.nd rfl (Or.inl rfl))
    (ds_cons (ds_set (i := 5) sc.nd rfl (Or.inl rfl) (d_call c_l_take (hr.mono (by first | decide | omega)) rfl (da_cons (d_v 0) (da_cons (d_cb c_len rfl B.b_len boot_len (da_cons (d_v 2) da_nil)) da_nil))))
    (ds_cons (ds_expr (d_mt PySem.F.slot_list_append PySem.F.type_list_append m_append (d_v 3) (da_cons (d_ix x_ix (d_v 2) (d_v 5) (fun _ _ => rfl)) da_nil)))
    (ds_one (ds_set (i := 2) sc.nd rfl (Or.inl rfl) (d_catF (d_sl (d_v 2) dp_none (dp_some (d_v 5))) (d_sl (d_v 2) (dp_some (d_op o_add (d_v 5) d_int)) dp_none)))))))
    (ds_one (ds_ret (d_fz (d_v 3)))))))) (fun ds M Q h => ?_)
  obtain ⟨a, b, rfl, p, xs, rfl, rfl, hxl, ⟨o0, e0, ho0⟩, h⟩ := h
  walk_at "st"
  intro f hf
  refine ⟨_, rfl, ?_⟩
  rw [mdel_mput hf]
  walk_at "st"
  intro q hq
  have hpq : p ≠ q := ne_of_fresh e0 hq
  have hqM : ∀ o, mput M p o q = none := fun o => mput_fresh hpq hq
  walk_at "st"
  refine fun _ => ⟨by omega, by omega, fun _ => ?_⟩
  rw [Int.toNat_natCast]
  refine for_ind (fun items m1 M1 => ∃ (o : DO) (j : Nat) (left fd : List D) (x4 x5 : Option D), items = rangeD (j : Int) (xs.length - j) ∧ j + left.length = xs.length ∧ (fd ++ left).Perm xs ∧ DrO o ∧ MLe (mput M p o) M1 ∧ M1 q = some (.lst fd) ∧ m1 = [some (.ref p), some (.lst xs), some (.lst left), some (.ref q), x4, x5]) ?_ ?_ _ _ _ ⟨o0, 0, xs, [], _, _, rfl, by omega, .refl _, ho0, by rw [mput_self e0]; exact .put (.refl M) hq, mput_same, rfl⟩
  · rintro m1 M1 ⟨o, j, left, fd, x4, x5, hi, hj, hpm, ho, hle, hMq, rfl⟩
    refine ⟨srcV_none, ?_⟩
    have hl0 : left = [] := by
      cases left with
      | nil => rfl
      | cons x r =>
        rw [List.length_cons] at hj
        rw [show xs.length - j = (xs.length - (j + 1)) + 1 by omega, rangeD_cons] at hi
        cases hi
    subst hl0
    rw [List.append_nil] at hpm
    walk_at "rd"
    exact ⟨_, hMq, ret_le (hle.del (hqM o)) (h o fd ho hpm)⟩
  · rintro z items m1 M1 Cn hC ⟨o, j, left, fd, x4, x5, hi, hj, hpm, ho, hle, hMq, rfl⟩
    refine ⟨srcV_none, ?_⟩
    have hj2 : j < xs.length := by
      rcases Nat.lt_or_ge j xs.length with c | c
      · exact c
      · rw [show xs.length - j = 0 by omega] at hi
        simp [rangeD] at hi
    rw [show xs.length - j = (xs.length - (j + 1)) + 1 by omega, rangeD_cons] at hi
    injection hi with h1 h2
    subst h1
    subst h2
    have hfd : fd.length ≤ 1000 := by
      have := hpm.length_eq
      rw [List.length_append] at this
      omega
    walk_at "rd"
    refine ⟨⟨o, hle _ _ mput_same, ho⟩, by omega, fun o2 r ho2 r0 r1 => ?_⟩
    obtain ⟨i, rfl⟩ := Int.eq_ofNat_of_zero_le r0
    have hi : i < left.length := by omega
    have hMq2 : mput M1 p o2 q = some (.lst fd) := by rw [mput_ne hpq.symm]; exact hMq
    have e1 : DL.cutD left none (some (i : Int)) ++ DL.cutD left (some ((i : Int) + 1)) none = left.eraseIdx i := by
      rw [DL.cutD_to, show ((i : Int) + 1) = ((i + 1 : Nat) : Int) by omega, DL.cutD_from, List.eraseIdx_eq_take_drop_succ]
    have hcl : (DL.cutD left none (some (i : Int))).length + (DL.cutD left (some ((i : Int) + 1)) none).length ≤ 16777216 := by
      rw [← List.length_append, e1]
      have := List.length_eraseIdx_le left i
      omega
    rw [e1]
    refine ⟨⟨fd, by rw [hMq2]⟩, left[i], by rw [atI_n, List.getElem?_eq_getElem hi], fd, hMq2, by omega, hcl, fg_of (hC _ _ ⟨o2, j + 1, left.eraseIdx i, fd ++ [left[i]], _, _, rfl, ?_, ?_, ho2, (up_p o2 hle).put (hqM o2), mput_same, rfl⟩)⟩
    · rw [List.length_eraseIdx_of_lt hi]
      omega
    · refine List.Perm.trans ?_ hpm
      rw [List.append_assoc]
      exact List.Perm.append_left _ (List.perm_append_comm.trans (erase_perm left i hi))
def peD (e : Str × Str) : D := .tup [.str e.1, .str e.2]
abbrev sp_l_new_rule : DSp := ar2 fun a b M Q => ∃ (r : Ru) (m : List (Str × Str)), a = ruD r ∧ b = .lst (m.map peD) ∧ RuOk r ∧ (∀ l ∈ r.body, ∀ x ∈ vrs (liTs l), x ∈ m.map (·.1)) ∧ (∀ x ∈ vrs r.head, x ∈ m.map (·.1)) ∧ (∀ e ∈ m, PyData.strOk e.1 = true) ∧ Q (ruD (ruR (lk m) r)) M
theorem ok_l_new_rule (F : Def K mg "_law_new_rule" s_l_new_rule ["rule", "pairs"]) (B : Bi K mg) (I : Im mg) (c_l_new_term : Cal P w K mg base 1 "_law_new_term" ["term", "pairs"] sp_l_new_term) : Cal P w K mg base 2 "_law_new_rule" ["rule", "pairs"] sp_l_new_rule := by
  have sc := sc_l_new_rule
  refine F.cal sc (fun ds M Q h => len2 h) (fun f cdv A outer s H E hr => (ds_cons (ds_set (i := 2) sc.nd rfl (Or.inl rfl) (d_lst da_nil))
    (ds_cons (ds_for PassesOwn.never rfl (di_seq (d_ix x_ix (d_v 0) d_int (fun _ _ => rfl))) (dg_name (i := 3) sc.nd rfl (Or.inl rfl))
    (ds_one (ds_if (dt_cmp (o_eq (hu_eq hr)) (d_ix x_ix (d_v 3) d_int (fun _ _ => rfl)) d_str (nomark _))
    (ds_cons (ds_set (i := 4) sc.nd rfl (Or.inl rfl) (d_ct c_tuple rfl B.b_tuple boot_tuple (da_cons (d_lcF rfl sc.nd (own := [("term", 5)]) (di_seq (d_ix x_ix (d_v 3) d_int (fun _ _ => rfl))) (blkOk_by (N := N_l_new_rule) (sc := defScope s_l_new_rule) (by decide +kernel)) (by decide) (fun _ _ _ _ _ => (dg_name (i := 5) sc.nd rfl (Or.inl rfl))) (fun _ _ _ _ _ => dts_nil) (fun _ _ _ _ _ => (d_call c_l_new_term (hr.mono (by first | decide | omega)) rfl (da_cons (d_v 5) (da_cons (d_v 1) da_nil))))) da_nil)))
    (ds_one (ds_expr (d_mt PySem.F.slot_list_append PySem.F.type_list_append m_append (d_v 2) (da_cons (d_tup (da_cons (d_ix x_ix (d_v 3) d_int (fun _ _ => rfl)) (da_cons (d_ix x_ix (d_v 3) d_int (fun _ _ => rfl)) (da_cons (d_ix x_ix (d_v 3) d_int (fun _ _ => rfl)) (da_cons (d_v 4) da_nil))))) da_nil)))))
    (ds_one (ds_expr (d_mt PySem.F.slot_list_append PySem.F.type_list_append m_append (d_v 2) (da_cons (d_tup (da_cons (d_ix x_ix (d_v 3) d_int (fun _ _ => rfl)) (da_cons (d_call c_l_new_term (hr.mono (by first | decide | omega)) rfl (da_cons (d_ix x_ix (d_v 3) d_int (fun _ _ => rfl)) (da_cons (d_v 1) da_nil))) (da_cons (d_call c_l_new_term (hr.mono (by first | decide | omega)) rfl (da_cons (d_ix x_ix (d_v 3) d_int (fun _ _ => rfl)) (da_cons (d_v 1) da_nil))) da_nil)))) da_nil)))))))
    (ds_one (ds_ret (d_tup (da_cons (d_ix x_ix (d_v 0) d_int (fun _ _ => rfl)) (da_cons (d_ct c_tuple rfl B.b_tuple boot_tuple (da_cons (d_lcF rfl sc.nd (own := [("term", 5)]) (di_seq (d_ix x_ix (d_v 0) d_int (fun _ _ => rfl))) (blkOk_by (N := N_l_new_rule) (sc := defScope s_l_new_rule) (by decide +kernel)) (by decide) (fun _ _ _ _ _ => (dg_name (i := 5) sc.nd rfl (Or.inl rfl))) (fun _ _ _ _ _ => dts_nil) (fun _ _ _ _ _ => (d_call c_l_new_term (hr.mono (by first | decide | omega)) rfl (da_cons (d_v 5) (da_cons (d_v 1) da_nil))))) da_nil)) (da_cons (d_ct c_tuple rfl B.b_tuple boot_tuple (da_cons (d_v 2) da_nil)) da_nil))))))))) (fun ds M Q h => ?_)
  obtain ⟨a, b, rfl, r, m, rfl, rfl, hr, hx, hh, hso, h⟩ := h
  obtain ⟨name, hd, ls⟩ := r
  have hbl : ls.length ≤ 20 := hr.blen
  have hhl : hd.length ≤ 20 := hr.hlen
  have hx : ∀ l ∈ ls, ∀ x ∈ vrs (liTs l), x ∈ m.map (·.1) := hx
  have hh : ∀ x ∈ vrs hd, x ∈ m.map (·.1) := hh
  have mv : ∀ {ts : List Tm} {t : Tm} {x : Str}, t ∈ ts → tmV t = some x → x ∈ vrs ts := fun {ts t x} ht e => mem_vrs.mpr (by
    cases t with
    | var y =>
      cases e
      exact ht
    | val d => cases e)
  walk_at "st"
  intro q hq
  obtain ⟨ruV, hruV⟩ : ∃ z, z = D.tup [.str name, .tup (hd.map tmD), .tup (ls.map liD)] := ⟨_, rfl⟩
  obtain ⟨pV, hpV⟩ : ∃ z, z = D.lst (m.map peD) := ⟨_, rfl⟩
  walk_at "st"
  intro _
  rw [← hruV]
  try rw [← hpV]
  refine for_ind (fun items m1 M1 => ∃ (rest dn : List Lit) (x3 x4 : Option D), items = rest.map liD ∧ dn ++ rest = ls ∧ M1 = mput M q (.lst ((dn.map (liR (lk m))).map liD)) ∧ m1 = [some ruV, some pV, some (.ref q), x3, x4, none]) ?_ ?_ _ _ _ ⟨ls, [], _, _, rfl, rfl, rfl, rfl⟩
  · rintro m1 M1 ⟨rest, dn, x3, x4, hi, hd2, rfl, rfl⟩
    refine ⟨srcV_none, ?_⟩
    cases rest with
    | cons x r => cases hi
    | nil =>
      rw [List.append_nil] at hd2
      subst hd2
      rw [hruV, hpV]
      walk_at "rd"
      intro _
      refine lc_map hd tmD (fun t => tmD (tmR (lk m) t)) rfl srcV_none (fun t ht M5 l5 C1 h5 => ?_) fun p5 hp5 => ?_
      · walk_at "rd"
        exact ⟨t, rfl, m, rfl, fun x e => hh x (mv ht e), hso, h5⟩
      rw [mdel_mput hp5]
      refine ⟨_, by rw [mput_same], ?_⟩
      have e : hd.map (fun t => tmD (tmR (lk m) t)) = (hd.map (tmR (lk m))).map tmD := by rw [List.map_map]; rfl
      rw [e]
      exact ret_le (.put (.refl M) hq) h
  · rintro z items m1 M1 Cn hC ⟨rest, dn, x3, x4, hi, hd2, rfl, rfl⟩
    refine ⟨srcV_none, ?_⟩
    cases rest with
    | nil => cases hi
    | cons l rest =>
      rw [List.map_cons] at hi
      injection hi with e1 e2
      subst e1
      subst e2
      have hdn : dn.length ≤ 20 := by
        have := congrArg List.length hd2
        rw [List.length_append] at this
        omega
      have hlm : l ∈ ls := by rw [← hd2]; simp
      have hlo := hr.body l hlm
      have hlx := hx l hlm
      subst hpV
      cases l with
      | atom w n us =>
        have hul : us.length ≤ 8 := hlo.2.2.1
        walk_at "rd"
        intro _
        refine lc_map us tmD (fun t => tmD (tmR (lk m) t)) rfl srcV_none (fun t ht M5 l5 C1 h5 => ?_) fun p5 hp5 => ?_
        · walk_at "rd"
          exact ⟨t, rfl, m, rfl, fun x e => hlx x (mv ht e), hso, h5⟩
        rw [mdel_mput hp5]
        have e : us.map (fun t => tmD (tmR (lk m) t)) = (us.map (tmR (lk m))).map tmD := by rw [List.map_map]; rfl
        rw [e]
        refine ⟨⟨_, by rw [mput_same]⟩, _, mput_same, by rw [List.length_map, List.length_map]; omega, fg_of (hC _ _ ⟨rest, dn ++ [.atom w n us], _, _, rfl, by rw [← hd2]; simp, ?_, rfl⟩)⟩
        rw [mput_mput, List.map_append, List.map_append]
        rfl
      | test k a b =>
        rcases hlo.1 with rfl | rfl
        · walk_at "rd"
          refine ⟨⟨_, rfl⟩, a, rfl, m, rfl, fun x e => hlx x (mv (ts := [a, b]) (by simp) e), hso, b, rfl, m, rfl, fun x e => hlx x (mv (ts := [a, b]) (by simp) e), hso, _, rfl, by rw [List.length_map, List.length_map]; omega, fg_of (hC _ _ ⟨rest, dn ++ [.test (Str.ofString "less") a b], _, _, rfl, by rw [← hd2]; simp, ?_, rfl⟩)⟩
          rw [List.map_append, List.map_append]
          rfl
        · walk_at "rd"
          refine ⟨⟨_, rfl⟩, a, rfl, m, rfl, fun x e => hlx x (mv (ts := [a, b]) (by simp) e), hso, b, rfl, m, rfl, fun x e => hlx x (mv (ts := [a, b]) (by simp) e), hso, _, rfl, by rw [List.length_map, List.length_map]; omega, fg_of (hC _ _ ⟨rest, dn ++ [.test (Str.ofString "unlike") a b], _, _, rfl, by rw [← hd2]; simp, ?_, rfl⟩)⟩
          rw [List.map_append, List.map_append]
          rfl
theorem lk_of_mem : ∀ {m : List (Str × Str)} {e : Str × Str}, (m.map (·.1)).Nodup → e ∈ m → lk m e.1 = e.2
  | p :: m, e, h, he => by
    rw [List.map_cons, List.nodup_cons] at h
    unfold lk
    rw [List.find?_cons]
    rcases List.mem_cons.mp he with rfl | he
    · rw [decide_eq_true rfl]
      rfl
    · have hne : ¬ p.1 = e.1 := fun z => h.1 (List.mem_map.mpr ⟨e, he, z.symm⟩)
      rw [decide_eq_false hne]
      exact lk_of_mem h.2 he
theorem lk_perm {m m2 : List (Str × Str)} (hn : (m.map (·.1)).Nodup) (hp : m.Perm m2) {x : Str} (hx : x ∈ m.map (·.1)) : lk m x = lk m2 x := by
  have h1 : x ∈ m2.map (·.1) := (hp.map _).mem_iff.mp hx
  exact lk_of_mem hn (hp.mem_iff.mpr (lk_mem h1))
theorem tmR_congr {f g : Str → Str} {ts : List Tm} (h : ∀ x ∈ vrs ts, f x = g x) : ts.map (tmR f) = ts.map (tmR g) := by
  refine List.map_congr_left fun t ht => ?_
  cases t with
  | val d => rfl
  | var x =>
    show Tm.var (f x) = Tm.var (g x)
    rw [h x (mem_vrs.mpr ht)]
theorem ruR_congr {f g : Str → Str} {r : Ru} (hb : ∀ l ∈ r.body, ∀ x ∈ vrs (liTs l), f x = g x) (hh : ∀ x ∈ vrs r.head, f x = g x) : ruR f r = ruR g r := by
  have e2 : r.body.map (liR f) = r.body.map (liR g) := List.map_congr_left fun l hl => by
    have h := hb l hl
    cases l with
    | atom w n ts =>
      show Lit.atom w n (ts.map (tmR f)) = Lit.atom w n (ts.map (tmR g))
      rw [tmR_congr (ts := ts) h]
    | test k a b =>
      have e := tmR_congr (ts := [a, b]) h
      injection e with e1 e2
      injection e2 with e2 _
      show Lit.test k (tmR f a) (tmR f b) = Lit.test k (tmR g a) (tmR g b)
      rw [e1, e2]
  unfold ruR
  rw [tmR_congr hh, e2]
theorem tmR_comp (f g : Str → Str) (t : Tm) : tmR g (tmR f t) = tmR (fun x => g (f x)) t := by cases t <;> rfl
theorem tmR_id (t : Tm) : tmR (fun x => x) t = t := by cases t <;> rfl
theorem ruR_comp (f g : Str → Str) (r : Ru) : ruR g (ruR f r) = ruR (fun x => g (f x)) r := by
  unfold ruR
  congr 1
  · rw [List.map_map]
    exact List.map_congr_left fun t _ => tmR_comp f g t
  · rw [List.map_map]
    refine List.map_congr_left fun l _ => ?_
    cases l with
    | atom w n ts =>
      show Lit.atom w n ((ts.map (tmR f)).map (tmR g)) = Lit.atom w n (ts.map (tmR fun x => g (f x)))
      rw [List.map_map]
      congr 1
      exact List.map_congr_left fun t _ => tmR_comp f g t
    | test k a b =>
      show Lit.test k (tmR g (tmR f a)) (tmR g (tmR f b)) = _
      rw [tmR_comp, tmR_comp]
      rfl
theorem ruR_id (r : Ru) : ruR (fun x => x) r = r := by
  obtain ⟨n, hd, ls⟩ := r
  unfold ruR
  congr 1
  · exact (List.map_congr_left fun t _ => tmR_id t).trans (List.map_id hd)
  · refine (List.map_congr_left (g := id) fun l _ => ?_).trans (List.map_id ls)
    cases l with
    | atom w n ts =>
      show Lit.atom w n (ts.map (tmR fun x => x)) = Lit.atom w n ts
      congr 1
      exact (List.map_congr_left fun t _ => tmR_id t).trans (List.map_id ts)
    | test k a b =>
      show Lit.test k (tmR (fun x => x) a) (tmR (fun x => x) b) = Lit.test k a b
      rw [tmR_id, tmR_id]
def setM (m : List (Str × Str)) (x y : Str) : List (Str × Str) := m.map fun e => if e.1 = x then (x, y) else e
theorem setM_keys (m : List (Str × Str)) (x y : Str) : (setM m x y).map (·.1) = m.map (·.1) := by
  unfold setM
  rw [List.map_map]
  refine List.map_congr_left fun e _ => ?_
  show (if e.1 = x then (x, y) else e).1 = e.1
  split
  · next c => exact c.symm
  · rfl
theorem mem_setM {m : List (Str × Str)} {x y : Str} {e : Str × Str} (h : e ∈ m) (hn : e.1 ≠ x) : e ∈ setM m x y :=
  List.mem_map.mpr ⟨e, h, by rw [if_neg hn]⟩
theorem mem_setM_self {m : List (Str × Str)} {x y : Str} (h : x ∈ m.map (·.1)) : (x, y) ∈ setM m x y := by
  obtain ⟨e, he, rfl⟩ := List.mem_map.mp h
  exact List.mem_map.mpr ⟨e, he, by rw [if_pos rfl]⟩
theorem unPe_mk : ∃ u : D → Str × Str, ∀ e, u (peD e) = e := by
  refine ⟨fun d => match d with | .tup [.str a, .str b] => (a, b) | _ => (⟨#[]⟩, ⟨#[]⟩), fun e => rfl⟩
theorem shuf_pairs {ys : List D} {m : List (Str × Str)} (h : ys.Perm (m.map peD)) : ∃ m2 : List (Str × Str), ys = m2.map peD ∧ m2.Perm m := by
  obtain ⟨u, hu⟩ := unPe_mk
  refine ⟨ys.map u, ?_, ?_⟩
  · rw [List.map_map]
    refine ((List.map_congr_left (g := id) fun y hy => ?_).trans (List.map_id ys)).symm
    obtain ⟨e, _, rfl⟩ := List.mem_map.mp (h.mem_iff.mp hy)
    show peD (u (peD e)) = peD e
    rw [hu]
  · have z := h.map u
    rw [List.map_map] at z
    rw [show m.map (u ∘ peD) = m from (List.map_congr_left (g := id) fun e _ => hu e).trans (List.map_id m)] at z
    exact z
theorem mapD_set {x y : Str} {m : List (Str × Str)} (h : x ∈ m.map (·.1)) : dput (mapD m) (.str x) (.str y) = mapD (setM m x y) := by
  unfold dput
  rw [if_pos (by rw [mapD_has]; exact decide_eq_true h)]
  unfold mapD setM
  rw [List.map_map, List.map_map]
  refine List.map_congr_left fun e _ => ?_
  show (if nk (.str e.1) = nk (.str x) then (D.str e.1, D.str y) else (D.str e.1, D.str e.2)) = (D.str (if e.1 = x then (x, y) else e).1, D.str (if e.1 = x then (x, y) else e).2)
  by_cases c : e.1 = x
  · rw [if_pos (by rw [c]), if_pos c, c]
  · have : ¬ nk (.str e.1) = nk (.str x) := fun z => c (by simpa [nk] using z)
    rw [if_neg this, if_neg c]
/-! ### lists of texts: sorted -/
def unS : D → Str
  | .str n => n
  | _ => ""
theorem sort_strs (es : List Str) : ∃ fs : List Str, srtD (es.map D.str) = fs.map D.str ∧ fs.Perm es := by
  have hp := srtD_perm (es.map D.str)
  refine ⟨(srtD (es.map D.str)).map unS, ?_, ?_⟩
  · rw [List.map_map]
    conv => lhs; rw [← List.map_id (srtD (es.map D.str))]
    refine List.map_congr_left fun x hx => ?_
    obtain ⟨e, _, rfl⟩ := List.mem_map.mp (hp.mem_iff.mp hx)
    rfl
  · have := hp.map unS
    rw [List.map_map] at this
    have e : List.map (unS ∘ D.str) es = es := by
      conv => rhs; rw [← List.map_id es]
      exact List.map_congr_left fun x _ => rfl
    rw [e] at this
    exact this
open PySem.W (AllAlike Sortable alike alikeAll) in
theorem strs_alike (es : List Str) : AllAlike ((es.map D.str).map D.py) := by
  intro d hd d' hd'
  simp only [List.mem_map] at hd hd'
  obtain ⟨_, ⟨e, _, rfl⟩, rfl⟩ := hd
  obtain ⟨_, ⟨f, _, rfl⟩, rfl⟩ := hd'
  simp [D.py, alike]
open PySem.W (AllAlike Sortable alike alikeAll) in
theorem strs_sortable (es : List Str) : Sortable ((es.map D.str).map D.py) := by
  refine .inr fun d hd => ?_
  simp only [List.mem_map] at hd
  obtain ⟨_, ⟨e, _, rfl⟩, rfl⟩ := hd
  simp [D.py]
theorem strs_ok {es : List Str} {n : Nat} (h : ∀ e ∈ es, PyData.strOk e = true) : (es.map D.str).all (dOk n) = true := by
  rw [List.all_map]
  refine List.all_eq_true.mpr fun e he => ?_
  show dOk n (.str e) = true
  rw [dOk_str]
  exact h e he
theorem len_app (a b : Str) : (a ++ b).length = a.length + b.length := by
  rw [TL.len_tl, TL.tl_append, List.length_append, ← TL.len_tl, ← TL.len_tl]
theorem strOk_iff {s : Str} : PyData.strOk s = true ↔ ∀ c ∈ TL.tl s, PyData.strOk ⟨#[c]⟩ = true := by
  have e : ∀ s : Str, PyData.strOk s = (TL.tl s).all (fun c => PyData.strOk ⟨#[c]⟩) := by
    intro s
    unfold PyData.strOk
    rw [← Array.all_toList]
    show (s.cps.toList).all _ = (s.cps.toList).all _
    congr 1
    funext c
    simp
  rw [e, List.all_eq_true]
theorem strOk_app {a b : Str} (h : PyData.strOk a = true) (k : PyData.strOk b = true) : PyData.strOk (a ++ b) = true := by
  rw [strOk_iff] at h k ⊢
  rw [TL.tl_append]
  intro c hc
  rcases List.mem_append.mp hc with hc | hc
  · exact h c hc
  · exact k c hc
theorem strOk_cut {a : Str} {lo hi : Option Int} (h : PyData.strOk a = true) : PyData.strOk (cutS a lo hi) = true := by
  rw [strOk_iff] at h ⊢
  intro c hc
  have hc' : c ∈ (a.cps.toList.drop (HT.sIx a.length 0 lo)).take (HT.sIx a.length a.length hi - HT.sIx a.length 0 lo) := hc
  exact h c (List.mem_of_mem_drop (List.mem_of_mem_take hc'))
theorem cutS_le (a : Str) (lo hi : Option Int) : (cutS a lo hi).length ≤ a.length := by
  rw [TL.len_tl, TL.len_tl]
  show ((a.cps.toList.drop _).take _).length ≤ a.cps.toList.length
  rw [List.length_take, List.length_drop]
  omega
theorem ruD_ok {r : Ru} (hr : RuOk r) : dOk 12 (ruD r) = true := by
  have h1 := tms_ok hr.head 9
  have h2 : (r.body.map liD).all (dOk 10) = true := by
    rw [List.all_map]
    exact List.all_eq_true.mpr fun l hl => liD_ok (hr.body l hl) 7
  show (dOk 11 (.str r.name) && (dOk 11 (.tup (r.head.map tmD)) && (dOk 11 (.tup (r.body.map liD)) && true))) = true
  rw [dOk_str, hr.name]
  show (true && ((r.head.map tmD).all (dOk 10) && ((r.body.map liD).all (dOk 10) && true))) = true
  rw [h1, h2]
  rfl
abbrev sp_l_is_renamed : DSp := ar3 fun a b c M Q => ∃ (p : Addr) (r : Ru) (m : List (Str × Str)), a = .ref p ∧ b = ruD r ∧ c = .lst (m.map peD) ∧ RuOk r ∧ (∀ l ∈ r.body, ∀ x ∈ vrs (liTs l), x ∈ m.map (·.1)) ∧ (∀ x ∈ vrs r.head, x ∈ m.map (·.1)) ∧ (m.map (·.1)).Nodup ∧ (m.map (·.2)).Nodup ∧ m.length ≤ 1000 ∧ (∀ e ∈ m, PyData.strOk e.1 = true ∧ PyData.strOk e.2 = true) ∧ (∀ e ∈ m, e.2.length ≤ 1000) ∧ Dr M p ∧ ∀ (o : DO), DrO o → Q (.bl true) (mput M p o)
theorem ok_l_is_renamed (F : Def K mg "_law_is_renamed" s_l_is_renamed ["draws", "rule", "pairs"]) (B : Bi K mg) (I : Im mg) (c_renamed : Cal P w K mg base 2 "renamed" ["rule", "words"] sp_renamed) (c_l_same : Cal P w K mg base 13 "_law_same" ["actual", "due"] sp_l_same) (c_l_new_rule : Cal P w K mg base 2 "_law_new_rule" ["rule", "pairs"] sp_l_new_rule) (c_l_shuffled : Cal P w K mg base 2 "_law_shuffled" ["draws", "row"] sp_l_shuffled) : Cal P w K mg base 14 "_law_is_renamed" ["draws", "rule", "pairs"] sp_l_is_renamed := by
  have sc := sc_l_is_renamed
  refine F.cal sc (fun ds M Q h => len3 h) (fun f cdv A outer s H E hr => (ds_cons (ds_set (i := 3) sc.nd rfl (Or.inr rfl) d_knew)
    (ds_cons (ds_for PassesOwn.never rfl (di_seq (d_call c_l_shuffled (hr.mono (by first | decide | omega)) rfl (da_cons (d_v 0) (da_cons (d_v 2) da_nil)))) (dg_name (i := 4) sc.nd rfl (Or.inl rfl))
    (ds_one (ds_kput (hu_1 hr) (d_ix x_ix (d_v 4) d_int (fun _ _ => rfl)) (d_v 3) (d_ix x_ix (d_v 4) d_int (fun _ _ => rfl)))))
    (ds_cons (ds_set (i := 5) sc.nd rfl (Or.inl rfl) (d_call c_l_new_rule (hr.mono (by first | decide | omega)) rfl (da_cons (d_v 1) (da_cons (d_v 2) da_nil))))
    (ds_cons (ds_set (i := 6) sc.nd rfl (Or.inl rfl) (d_call c_renamed (hr.mono (by first | decide | omega)) rfl (da_cons (d_v 1) (da_cons (d_v 3) da_nil))))
    (ds_cons (ds_if (dt_w (dw_or (dt_not (dt_val (d_call c_l_same (hr.mono (by first | decide | omega)) rfl (da_cons (d_v 6) (da_cons (d_v 5) da_nil))))) (dw_or1 (dt_cmp (o_ne (hu_eq hr)) (d_cb c_lenK rfl B.b_len boot_len (da_cons (d_v 3) da_nil)) (d_cb c_len rfl B.b_len boot_len (da_cons (d_v 2) da_nil)) (nomark _)))))
    (ds_one (ds_ret d_bl))
    ds_nil)
    (ds_cons (ds_if (dt_cmp (o_ne (hu_eq hr)) (d_lcF rfl sc.nd (own := [("pair", 4)]) (di_seq (d_v 2)) (blkOk_by (N := N_l_is_renamed) (sc := defScope s_l_is_renamed) (by decide +kernel)) (by decide) (fun _ _ _ _ _ => (dg_name (i := 4) sc.nd rfl (Or.inl rfl))) (fun _ _ _ _ _ => dts_nil) (fun _ _ _ _ _ => (d_kix (hu_1 hr) (d_v 3) (d_ix x_ix (d_v 4) d_int (fun _ _ => rfl)) (fun _ _ => rfl)))) (d_lcF rfl sc.nd (own := [("pair", 4)]) (di_seq (d_v 2)) (blkOk_by (N := N_l_is_renamed) (sc := defScope s_l_is_renamed) (by decide +kernel)) (by decide) (fun _ _ _ _ _ => (dg_name (i := 4) sc.nd rfl (Or.inl rfl))) (fun _ _ _ _ _ => dts_nil) (fun _ _ _ _ _ => (d_ix x_ix (d_v 4) d_int (fun _ _ => rfl)))) (nomark _))
    (ds_one (ds_ret d_bl))
    ds_nil)
    (ds_cons (ds_for PassesOwn.never rfl (di_seq (d_v 2)) (dg_name (i := 4) sc.nd rfl (Or.inl rfl))
    (ds_one (ds_kput (hu_1 hr) (d_op o_addA (d_ix x_ix (d_v 4) d_int (fun _ _ => rfl)) d_str) (d_v 3) (d_ix x_ix (d_v 4) d_int (fun _ _ => rfl)))))
    (ds_cons (ds_if (dt_not (dt_val (d_call c_l_same (hr.mono (by first | decide | omega)) rfl (da_cons (d_call c_renamed (hr.mono (by first | decide | omega)) rfl (da_cons (d_v 1) (da_cons (d_v 3) da_nil))) (da_cons (d_call c_l_new_rule (hr.mono (by first | decide | omega)) rfl (da_cons (d_v 1) (da_cons (d_lcF rfl sc.nd (own := [("pair", 4)]) (di_seq (d_v 2)) (blkOk_by (N := N_l_is_renamed) (sc := defScope s_l_is_renamed) (by decide +kernel)) (by decide) (fun _ _ _ _ _ => (dg_name (i := 4) sc.nd rfl (Or.inl rfl))) (fun _ _ _ _ _ => dts_nil) (fun _ _ _ _ _ => (d_tup (da_cons (d_ix x_ix (d_v 4) d_int (fun _ _ => rfl)) (da_cons (d_op o_addA (d_ix x_ix (d_v 4) d_int (fun _ _ => rfl)) d_str) da_nil))))) da_nil))) da_nil)))))
    (ds_one (ds_ret d_bl))
    ds_nil)
    (ds_cons (ds_set (i := 7) sc.nd rfl (Or.inl rfl) d_knew)
    (ds_cons (ds_for PassesOwn.never rfl (di_seq (d_v 2)) (dg_name (i := 4) sc.nd rfl (Or.inl rfl))
    (ds_one (ds_kput (hu_1 hr) (d_ix x_ix (d_v 4) d_int (fun _ _ => rfl)) (d_v 7) (d_ix x_ix (d_v 4) d_int (fun _ _ => rfl)))))
    (ds_one (ds_ret (d_and (d_call c_l_same (hr.mono (by first | decide | omega)) rfl (da_cons (d_v 6) (da_cons (d_v 5) da_nil))) (d_one (d_call c_l_same (hr.mono (by first | decide | omega)) rfl (da_cons (d_call c_renamed (hr.mono (by first | decide | omega)) rfl (da_cons (d_v 6) (da_cons (d_v 7) da_nil))) (da_cons (d_v 1) da_nil)))))))))))))))))) (fun ds M Q h => ?_)
  obtain ⟨a, b, c, rfl, p, r, m, rfl, rfl, rfl, hr, hx, hh, hn1, hn2, hml, hso, hsl, ⟨o0, e0, ho0⟩, h⟩ := h
  have hwl : (Str.ofString "w").length = 1 := by decide +kernel
  have hw : PyData.strOk (Str.ofString "w") = true := by decide +kernel
  obtain ⟨ruV, hruV⟩ : ∃ z, z = ruD r := ⟨_, rfl⟩
  obtain ⟨pV, hpV⟩ : ∃ z, z = D.lst (m.map peD) := ⟨_, rfl⟩
  walk_at "st"
  intro d hd
  have hpd : p ≠ d := ne_of_fresh e0 hd
  have hdM : ∀ o, mput M p o d = none := fun o => mput_fresh hpd hd
  walk_at "st"
  refine ⟨by rw [List.length_map]; omega, ⟨o0, by rw [mput_ne hpd]; exact e0, ho0⟩, fun o1 ys ho1 hys _ => ?_⟩
  obtain ⟨m2, rfl, hm2⟩ := shuf_pairs hys
  have hn1' : (m2.map (·.1)).Nodup := ((hm2.map _).nodup_iff).mpr hn1
  have hl2 : m2.length = m.length := hm2.length_eq
  refine for_ind (fun items m1 M1 => ∃ (rest dn : List (Str × Str)) (x4 : Option D), items = rest.map peD ∧ dn ++ rest = m2 ∧ MLe (mput M p o1) M1 ∧ M1 d = some (.dk (mapD dn)) ∧ m1 = [some (.ref p), some (ruD r), some (.lst (m.map peD)), some (.ref d), x4, none, none, none]) ?_ ?_ _ _ _ ⟨m2, [], _, rfl, rfl, (MLe.put (.refl M) hd).both, by rw [mput_ne hpd.symm]; exact mput_same, rfl⟩
  · rintro m1 M1 ⟨rest, dn, x4, hi, hd2, hle, hMd, rfl⟩
    refine ⟨srcV_none, ?_⟩
    cases rest with
    | cons x r => cases hi
    | nil =>
      rw [List.append_nil] at hd2
      subst hd2
      have hkm : ∀ x, x ∈ dn.map (·.1) ↔ x ∈ m.map (·.1) := fun x => (hm2.map _).mem_iff
      have hlk : ∀ x ∈ m.map (·.1), lk dn x = lk m x := fun x h => lk_perm hn1' hm2 ((hkm x).mpr h)
      have eR : ruR (lk dn) r = ruR (lk m) r := ruR_congr (fun l hl x h => hlk x (hx l hl x h)) fun x h => hlk x (hh x h)
      have hso1 : ∀ e ∈ m, PyData.strOk e.1 = true := fun e he => (hso e he).1
      have lkS : ∀ x ∈ m.map (·.1), PyData.strOk (lk m x) = true := fun x h => (hso _ (lk_mem h)).2
      have hrf : RuOk (ruR (lk m) r) := ruOk_ren hr fun l hl x h => lkS x (hx l hl x h)
      walk_at "st"
      walk_at "st"
      refine ⟨r, rfl, m, rfl, hr, hx, hh, hso1, ?_⟩
      walk_at "st"
      refine ⟨r, rfl, dn, dDict_ref hMd, hr.body, fun l hl x h => (hkm x).mpr (hx l hl x h), fun x h => (hkm x).mpr (hh x h), ?_⟩
      rw [eR]
      obtain ⟨fV, hfV⟩ : ∃ z, z = ruD (ruR (lk m) r) := ⟨_, rfl⟩
      have hfok : dOk 12 fV = true := by rw [hfV]; exact ruD_ok hrf
      rw [← hfV]
      walk_at "st"
      refine ⟨hfok, _, dDict_ref hMd, ?_⟩
      rw [if_neg (by unfold mapD; rw [List.length_map, List.length_map, hl2]; simp)]
      walk_at "st"
      intro _
      refine lc_map m peD (fun e => D.str e.2) rfl srcV_none (fun e he M5 l5 C1 h5 => ?_) fun p5 hp5 => ?_
      · have hd5 : dDict (.ref d) M5 = some (mapD dn) := dDict_le (dDict_ref hMd) l5
        have hek : e.1 ∈ m.map (·.1) := List.mem_map.mpr ⟨e, he, rfl⟩
        have hge : dget (mapD dn) (.str e.1) = some (.str e.2) := by
          rw [mapD_get ((hkm _).mpr hek), hlk _ hek, lk_of_mem hn1 he]
        walk_at "rd"
        exact ⟨_, rfl, _, rfl, _, hd5, rfl, _, hge, h5⟩
      rw [mdel_mput hp5]
      intro _
      refine lc_map m peD (fun e => D.str e.2) rfl srcV_none (fun e he M5 l5 C1 h5 => ?_) fun p6 hp6 => ?_
      · walk_at "rd"
        exact ⟨_, rfl, _, rfl, h5⟩
      rw [mdel_mput hp6]
      have hok2 : (m.map fun e => D.str e.2).all (dOk 63) = true := by
        rw [List.all_map]
        refine List.all_eq_true.mpr fun e he => ?_
        show dOk 63 (.str e.2) = true
        rw [dOk_str]
        exact (hso e he).2
      have hself : (D.lst (m.map fun e => D.str e.2)).eqv (D.lst (m.map fun e => D.str e.2)) = true := eqv_refl (n := 64) hok2
      refine ⟨hok2, hok2, ?_⟩
      rw [if_neg (by rw [hself]; simp)]
      walk_at "st"
      intro _
      refine for_ind (fun items m1 M1 => ∃ (rest d2 m' : List (Str × Str)) (x4 : Option D), items = rest.map peD ∧ d2 ++ rest = m ∧ MLe (mput M p o1) M1 ∧ M1 d = some (.dk (mapD m')) ∧ m'.map (·.1) = dn.map (·.1) ∧ (∀ e ∈ d2, (e.1, e.2 ++ Str.ofString "w") ∈ m') ∧ m1 = [some (.ref p), some (ruD r), some (.lst (m.map peD)), some (.ref d), x4, some fV, some fV, none]) ?_ ?_ _ _ _ ⟨m, [], dn, _, rfl, rfl, hle, hMd, rfl, by simp, rfl⟩
      · rintro m1 M2 ⟨rest, d2, m', x4, hi, hd2, hle2, hMd2, hk2, hm', rfl⟩
        refine ⟨srcV_none, ?_⟩
        cases rest with
        | cons x r => cases hi
        | nil =>
          rw [List.append_nil] at hd2
          subst hd2
          have hn' : (m'.map (·.1)).Nodup := by rw [hk2]; exact hn1'
          have hkm' : ∀ x, x ∈ m'.map (·.1) ↔ x ∈ d2.map (·.1) := fun x => by rw [hk2]; exact hkm x
          obtain ⟨mw, hmw⟩ : ∃ mw, mw = d2.map fun e => (e.1, e.2 ++ Str.ofString "w") := ⟨_, rfl⟩
          have hmwk : mw.map (·.1) = d2.map (·.1) := by rw [hmw, List.map_map]; rfl
          have hlw : ∀ x ∈ d2.map (·.1), lk m' x = lk mw x := fun x h => by
            obtain ⟨e, he, rfl⟩ := List.mem_map.mp h
            have h1 := lk_of_mem hn' (hm' e he)
            have h2 := lk_of_mem (m := mw) (e := (e.1, e.2 ++ Str.ofString "w")) (by rw [hmwk]; exact hn1) (by rw [hmw]; exact List.mem_map.mpr ⟨e, he, rfl⟩)
            exact h1.trans h2.symm
          have eW : ruR (lk m') r = ruR (lk mw) r := ruR_congr (fun l hl x h => hlw x (hx l hl x h)) fun x h => hlw x (hh x h)
          have hwS : ∀ e ∈ mw, PyData.strOk e.1 = true ∧ PyData.strOk e.2 = true := fun e he => by
            rw [hmw] at he
            obtain ⟨f, hf, rfl⟩ := List.mem_map.mp he
            exact ⟨(hso f hf).1, strOk_app (hso f hf).2 hw⟩
          have hrw : RuOk (ruR (lk mw) r) := ruOk_ren hr fun l hl x h => (hwS _ (lk_mem (by rw [hmwk]; exact hx l hl x h))).2
          walk_at "st"
          walk_at "st"
          refine ⟨r, rfl, m', dDict_ref hMd2, hr.body, fun l hl x h => (hkm' x).mpr (hx l hl x h), fun x h => (hkm' x).mpr (hh x h), fun _ => ?_⟩
          refine lc_map d2 peD (fun e => peD (e.1, e.2 ++ Str.ofString "w")) rfl srcV_none (fun e he M5 l5 C1 h5 => ?_) fun p7 hp7 => ?_
          · have hel := hsl e he
            walk_at "rd"
            refine ⟨_, rfl, _, rfl, _, rfl, _, rfl, ?_⟩
            rw [dAdd_ss]
            exact ⟨by rw [hwl]; omega, h5⟩
          rw [mdel_mput hp7]
          refine ⟨r, rfl, mw, by rw [hmw, List.map_map]; rfl, hr, fun l hl x h => by rw [hmwk]; exact hx l hl x h, fun x h => by rw [hmwk]; exact hh x h, fun e he => (hwS e he).1, by rw [eW], ruD_ok hrw, ?_⟩
          walk_at "st"
          intro b hb
          have hbM : mput M p o1 b = none := MLe.none hle2 hb
          have hle3 := MLe.put (o := .dk []) hle2 hbM
          walk_at "st"
          intro _
          refine for_ind (fun items m1 M1 => ∃ (rest d3 : List (Str × Str)) (x4 : Option D), items = rest.map peD ∧ d3 ++ rest = d2 ∧ MLe (mput M p o1) M1 ∧ M1 b = some (.dk (mapD (d3.map fun e => (e.2, e.1)))) ∧ m1 = [some (.ref p), some (ruD r), some (.lst (d2.map peD)), some (.ref d), x4, some fV, some fV, some (.ref b)]) ?_ ?_ _ _ _ ⟨d2, [], _, rfl, rfl, hle3, mput_same, rfl⟩
          · rintro m1 M3 ⟨rest, d3, x4, hi, hd3, hle4, hMb, rfl⟩
            refine ⟨srcV_none, ?_⟩
            cases rest with
            | cons x r => cases hi
            | nil =>
              rw [List.append_nil] at hd3
              subst hd3
              walk_at "rd"
              have hbk : (d3.map fun e => (e.2, e.1)).map (·.1) = d3.map (·.2) := by rw [List.map_map]; rfl
              have hin : ∀ y ∈ d3.map (·.1), lk d3 y ∈ (d3.map fun e => (e.2, e.1)).map (·.1) := fun y hy => by
                rw [hbk]
                exact List.mem_map.mpr ⟨_, lk_mem hy, rfl⟩
              have hbb : ∀ y ∈ d3.map (·.1), lk (d3.map fun e => (e.2, e.1)) (lk d3 y) = y := fun y hy =>
                lk_of_mem (m := d3.map fun e => (e.2, e.1)) (e := (lk d3 y, y)) (by rw [hbk]; exact hn2) (List.mem_map.mpr ⟨_, lk_mem hy, rfl⟩)
              have hre : ruR (lk (d3.map fun e => (e.2, e.1))) (ruR (lk d3) r) = r := by
                rw [ruR_comp]
                exact (ruR_congr (fun l hl x h => hbb x (hx l hl x h)) fun x h => hbb x (hh x h)).trans (ruR_id r)
              refine ⟨hfok, ruR (lk d3) r, hfV, _, dDict_ref hMb, hrf.body, fun l hl x h => ?_, fun x h => ?_, by rw [hre], ruD_ok hr, ret_le hle4 (h o1 ho1)⟩
              · obtain ⟨l0, hl0, rfl⟩ := List.mem_map.mp hl
                rw [liTs_ren, vrs_ren] at h
                obtain ⟨y, hy, rfl⟩ := List.mem_map.mp h
                exact hin y (hx l0 hl0 y hy)
              · have h : x ∈ vrs (r.head.map (tmR (lk d3))) := h
                rw [vrs_ren] at h
                obtain ⟨y, hy, rfl⟩ := List.mem_map.mp h
                exact hin y (hh y hy)
          · rintro z items m1 M3 Cn hC ⟨rest, d3, x4, hi, hd3, hle4, hMb, rfl⟩
            refine ⟨srcV_none, ?_⟩
            cases rest with
            | nil => cases hi
            | cons e rest =>
              rw [List.map_cons] at hi
              injection hi with e1 e2
              subst e1
              subst e2
              have hd3l : d3.length ≤ 1000 := by
                have := congrArg List.length hd3
                rw [List.length_append] at this
                omega
              have hne : e.2 ∉ (d3.map fun e => (e.2, e.1)).map (·.1) := fun z => by
                rw [List.map_map] at z
                rw [← hd3, List.map_append] at hn2
                exact (List.nodup_append.mp hn2).2.2 e.2 z e.2 (by simp) rfl
              walk_at "rd"
              refine ⟨_, rfl, _, rfl, _, rfl, _, rfl, _, hMb, rfl, by unfold mapD; rw [List.length_map, List.length_map]; omega, ?_⟩
              rw [mapD_put hne]
              exact fg_of (hC _ _ ⟨rest, d3 ++ [e], _, rfl, by rw [← hd3]; simp, MLe.put hle4 hbM, by rw [mput_same, List.map_append]; rfl, rfl⟩)
      · rintro z items m1 M2 Cn hC ⟨rest, d2, m', x4, hi, hd2, hle2, hMd2, hk2, hm', rfl⟩
        refine ⟨srcV_none, ?_⟩
        cases rest with
        | nil => cases hi
        | cons e rest =>
          rw [List.map_cons] at hi
          injection hi with e1 e2
          subst e1
          subst e2
          have hml' : m'.length = dn.length := by
            have := congrArg List.length hk2
            rwa [List.length_map, List.length_map] at this
          have hem : e ∈ m := by rw [← hd2]; simp
          have hek : e.1 ∈ m'.map (·.1) := by rw [hk2]; exact (hkm _).mpr (List.mem_map.mpr ⟨e, hem, rfl⟩)
          have hne : ∀ f ∈ d2, f.1 ≠ e.1 := fun f hf z => by
            rw [← hd2, List.map_append] at hn1
            exact (List.nodup_append.mp hn1).2.2 f.1 (List.mem_map.mpr ⟨f, hf, rfl⟩) e.1 (by simp) z
          obtain ⟨k, v⟩ := e
          walk_at "rd"
          refine ⟨_, rfl, _, rfl, ?_⟩
          rw [dAdd_ss]
          refine ⟨by have := hsl _ hem; rw [hwl]; show v.length + 1 ≤ _; have : v.length ≤ 1000 := this; omega, _, rfl, _, rfl, _, hMd2, rfl, by unfold mapD; rw [List.length_map]; omega, ?_⟩
          rw [mapD_set hek]
          refine fg_of (hC _ _ ⟨rest, d2 ++ [(k, v)], setM m' k (v ++ Str.ofString "w"), _, rfl, by rw [← hd2]; simp, MLe.put hle2 (hdM o1), mput_same, by rw [setM_keys, hk2], fun f hf => ?_, rfl⟩)
          rcases List.mem_append.mp hf with hf | hf
          · exact mem_setM (hm' f hf) (hne f hf)
          · rw [List.mem_singleton.mp hf]
            exact mem_setM_self hek
  · rintro z items m1 M1 Cn hC ⟨rest, dn, x4, hi, hd2, hle, hMd, rfl⟩
    refine ⟨srcV_none, ?_⟩
    cases rest with
    | nil => cases hi
    | cons e rest =>
      rw [List.map_cons] at hi
      injection hi with e1 e2
      subst e1
      subst e2
      have hdn : dn.length ≤ 1000 := by
        have := congrArg List.length hd2
        rw [List.length_append] at this
        omega
      have hne : e.1 ∉ dn.map (·.1) := fun z => by
        rw [← hd2, List.map_append] at hn1'
        exact (List.nodup_append.mp hn1').2.2 e.1 z e.1 (by simp) rfl
      walk_at "rd"
      refine ⟨_, rfl, _, rfl, _, rfl, _, rfl, _, hMd, rfl, by unfold mapD; rw [List.length_map]; omega, ?_⟩
      rw [mapD_put hne]
      exact fg_of (hC _ _ ⟨rest, dn ++ [e], _, rfl, by rw [← hd2]; simp, MLe.put hle (hdM o1), mput_same, rfl⟩)
/-- a literal, its variables among these -/
def liIn (vs : List Str) (l : Lit) : Prop := liOk l ∧ ∀ x ∈ vrs (liTs l), x ∈ vs
abbrev sp_l_wide : DSp := ar3 fun a b c M Q => ∃ (p : Addr) (ws : List Str) (vals : List D), a = .ref p ∧ b = .lst (ws.map D.str) ∧ c = .lst vals ∧ ws.length = 12 ∧ (∀ x ∈ ws, PyData.strOk x = true) ∧ Dr M p ∧ vals ≠ [] ∧ (∀ v ∈ vals, isV v) ∧ ∀ (o : DO) (r : Ru), DrO o → RuOk r → VarIn ((ws.drop 4).take 5) r → Q (ruD r) (mput M p o)
theorem ok_l_wide (F : Def K mg "_law_wide" s_l_wide ["draws", "words", "values"]) (B : Bi K mg) (I : Im mg) (c_l_take : Cal P w K mg base 1 "_law_take" ["draws", "many"] sp_l_take) (c_l_how : Cal P w K mg base 2 "_law_how" ["draws"] sp_l_how) (c_l_term : Cal P w K mg base 3 "_law_term" ["draws", "variables", "values"] sp_l_term) (c_l_atom : Cal P w K mg base 4 "_law_atom" ["draws", "places", "variables", "values", "how"] sp_l_atom) (c_l_bound : Cal P w K mg base 1 "_law_bound" ["body"] sp_l_bound) (c_l_safe : Cal P w K mg base 3 "_law_safe" ["draws", "term", "bound", "values"] sp_l_safe) : Cal P w K mg base 5 "_law_wide" ["draws", "words", "values"] sp_l_wide := by
  have sc := sc_l_wide
  refine F.cal sc (fun ds M Q h => len3 h) (fun f cdv A outer s H E hr => (ds_cons (ds_set (i := 3) sc.nd rfl (Or.inl rfl) (d_lst da_nil))
    (ds_cons (ds_for PassesOwn.never rfl (di_range1 rfl B.b_range (da_cons d_int da_nil)) (dg_name (i := 4) sc.nd rfl (Or.inl rfl))
    (ds_one (ds_expr (d_mt PySem.F.slot_list_append PySem.F.type_list_append m_append (d_v 3) (da_cons (d_call c_l_atom (hr.mono (by first | decide | omega)) rfl (da_cons (d_v 0) (da_cons (d_lstF (da_cons (d_tup (da_cons (d_ix x_ix (d_v 1) d_int (fun _ _ => rfl)) (da_cons d_int da_nil))) (da_cons (d_tup (da_cons (d_ix x_ix (d_v 1) d_int (fun _ _ => rfl)) (da_cons d_int da_nil))) da_nil))) (da_cons (d_sl (d_v 1) (dp_some d_int) (dp_some d_int)) (da_cons (d_v 2) (da_cons (d_call c_l_how (hr.mono (by first | decide | omega)) rfl (da_cons (d_v 0) da_nil)) da_nil)))))) da_nil)))))
    (ds_cons (ds_set (i := 5) sc.nd rfl (Or.inr rfl) (d_call c_l_bound (hr.mono (by first | decide | omega)) rfl (da_cons (d_v 3) da_nil)))
    (ds_cons (ds_for PassesOwn.never rfl (di_seq (d_lstF (da_cons d_str (da_cons d_str da_nil)))) (dg_name (i := 6) sc.nd rfl (Or.inl rfl))
    (ds_cons (ds_setLcF (i := 7) rfl sc.nd rfl rfl (sw_true rfl rfl rfl (by decide +kernel)) (own := [("k", 4)]) (di_range1 rfl B.b_range (da_cons d_int da_nil)) (blkOk_by (N := N_l_wide) (sc := defScope s_l_wide) (by decide +kernel)) (by decide) (fun _ _ _ _ _ => (dg_name (i := 4) sc.nd rfl (Or.inl rfl))) (fun _ _ _ _ _ => dts_nil) (fun _ _ _ _ _ => (d_call c_l_safe (hr.mono (by first | decide | omega)) rfl (da_cons (d_v 0) (da_cons (d_call c_l_term (hr.mono (by first | decide | omega)) rfl (da_cons (d_v 0) (da_cons (d_sl (d_v 1) (dp_some d_int) (dp_some d_int)) (da_cons (d_v 2) da_nil)))) (da_cons (d_v 5) (da_cons (d_v 2) da_nil)))))))
    (ds_one (ds_expr (d_mt PySem.F.slot_list_insert PySem.F.type_list_insert m_insert (d_v 3) (da_cons (d_call c_l_take (hr.mono (by first | decide | omega)) rfl (da_cons (d_v 0) (da_cons (d_op o_add (d_cb c_len rfl B.b_len boot_len (da_cons (d_v 3) da_nil)) d_int) da_nil))) (da_cons (d_tup (da_cons (d_v 6) (da_cons (d_ix x_ix (d_v 7) d_int (fun _ _ => rfl)) (da_cons (d_ix x_ix (d_v 7) d_int (fun _ _ => rfl)) da_nil)))) da_nil)))))))
    (ds_cons (ds_setLcF (i := 8) rfl sc.nd rfl rfl (sw_true rfl rfl rfl (by decide +kernel)) (own := [("k", 4)]) (di_range1 rfl B.b_range (da_cons d_int da_nil)) (blkOk_by (N := N_l_wide) (sc := defScope s_l_wide) (by decide +kernel)) (by decide) (fun _ _ _ _ _ => (dg_name (i := 4) sc.nd rfl (Or.inl rfl))) (fun _ _ _ _ _ => dts_nil) (fun _ _ _ _ _ => (d_call c_l_safe (hr.mono (by first | decide | omega)) rfl (da_cons (d_v 0) (da_cons (d_call c_l_term (hr.mono (by first | decide | omega)) rfl (da_cons (d_v 0) (da_cons (d_sl (d_v 1) (dp_some d_int) (dp_some d_int)) (da_cons (d_v 2) da_nil)))) (da_cons (d_v 5) (da_cons (d_v 2) da_nil)))))))
    (ds_one (ds_ret (d_tup (da_cons (d_ix x_ix (d_v 1) d_int (fun _ _ => rfl)) (da_cons (d_ct c_tuple rfl B.b_tuple boot_tuple (da_cons (d_v 8) da_nil)) (da_cons (d_ct c_tuple rfl B.b_tuple boot_tuple (da_cons (d_v 3) da_nil)) da_nil)))))))))))) (fun ds M Q h => ?_)
  obtain ⟨a, b, c, rfl, p, ws, vals, rfl, rfl, rfl, hwl, hws, ⟨o0, e0, ho0⟩, hvals, hV, h⟩ := h
  match ws, hwl, hws with
  | [w0, w1, w2, w3, w4, w5, w6, w7, w8, w9, wa, wb], _, hws =>
    have ecut : DL.cutD [D.str w0, .str w1, .str w2, .str w3, .str w4, .str w5, .str w6, .str w7, .str w8, .str w9, .str wa, .str wb] (some 4) (some 9) = [w4, w5, w6, w7, w8].map D.str := rfl
    have hvo : ∀ x ∈ [w4, w5, w6, w7, w8], PyData.strOk x = true := fun x hx => hws x (by simp at hx ⊢; rcases hx with rfl | rfl | rfl | rfl | rfl <;> simp)
    obtain ⟨wV, hwV⟩ : ∃ z, z = D.lst [.str w0, .str w1, .str w2, .str w3, .str w4, .str w5, .str w6, .str w7, .str w8, .str w9, .str wa, .str wb] := ⟨_, rfl⟩
    walk_at "st"
    intro q hq
    have hpq : p ≠ q := ne_of_fresh e0 hq
    have hqM : ∀ o, mput M p o q = none := fun o => mput_fresh hpq hq
    refine seq_cut (fun m2 M2 => ∃ (o : DO) (bl : List Lit) (x4 : Option D), DrO o ∧ (∀ l ∈ bl, liIn [w4, w5, w6, w7, w8] l) ∧ bl.length ≤ 4 ∧ MLe (mput M p o) M2 ∧ M2 q = some (.lst (bl.map liD)) ∧ m2 = [some (.ref p), some wV, some (.lst vals), some (.ref q), x4, none, none, none, none]) (fun Cn hC => ?_) ?_
    · walk_at "s1"
      intro _
      rw [← hwV]
      refine for_ind (fun items m1 M1 => ∃ (o : DO) (j : Nat) (bl : List Lit) (x4 : Option D), items = rangeD (j : Int) (4 - j) ∧ j ≤ 4 ∧ DrO o ∧ (∀ l ∈ bl, liIn [w4, w5, w6, w7, w8] l) ∧ bl.length ≤ j ∧ MLe (mput M p o) M1 ∧ M1 q = some (.lst (bl.map liD)) ∧ m1 = [some (.ref p), some wV, some (.lst vals), some (.ref q), x4, none, none, none, none]) ?_ ?_ _ _ _ ⟨o0, 0, [], _, rfl, by omega, ho0, by simp, by simp, by rw [mput_self e0]; exact .put (.refl M) hq, mput_same, rfl⟩
      · rintro m1 M1 ⟨o, j, bl, x4, hi, hj, ho, hbo, hbl, hle, hMq, rfl⟩
        exact ⟨srcV_none, hC _ _ ⟨o, bl, _, ho, hbo, by omega, hle, hMq, rfl⟩⟩
      · rintro z items m1 M1 Cn2 hC2 ⟨o, j, bl, x4, hi, hj, ho, hbo, hbl, hle, hMq, rfl⟩
        refine ⟨srcV_none, ?_⟩
        have hj2 : j < 4 := by
          rcases Nat.lt_or_ge j 4 with c | c
          · exact c
          · rw [show 4 - j = 0 by omega] at hi
            simp [rangeD] at hi
        rw [show 4 - j = (4 - (j + 1)) + 1 by omega, rangeD_cons] at hi
        injection hi with h1 h2
        subst h1
        subst h2
        subst hwV
        walk_at "rd"
        refine ⟨⟨_, by rw [hMq]⟩, _, rfl, _, rfl, ⟨o, hle _ _ mput_same, ho⟩, fun o2 wv ho2 hw2 => ⟨[(w9, 3), (wa, 2)], rfl, [w4, w5, w6, w7, w8], rfl, hw2, dr_put ho2, by simp, fun e he => ?_, by simp, hvals, hV, hvo, fun o3 n ts ho3 hlo _ hlv => ?_⟩⟩
        · simp only [List.mem_cons, List.not_mem_nil, or_false] at he
          rcases he with rfl | rfl
          · exact ⟨hws w9 (by simp), by show 3 ≤ 8; omega⟩
          · exact ⟨hws wa (by simp), by show 2 ≤ 8; omega⟩
        · refine ⟨_, by rw [mput_ne hpq.symm]; exact hMq, by rw [List.length_map]; omega, fg_of (hC2 _ _ ⟨o3, j + 1, bl ++ [.atom wv n ts], _, rfl, by omega, ho3, fun l hl => ?_, by rw [List.length_append, List.length_singleton]; omega, MLe.put (up_p o3 hle) (hqM o3), by rw [mput_same, List.map_append]; rfl, rfl⟩)⟩
          rcases List.mem_append.mp hl with hl | hl
          · exact hbo l hl
          · rw [List.mem_singleton.mp hl]
            exact ⟨hlo, hlv⟩
    rintro _ M2 ⟨o, bl, x4, ho, hbo, hbl, hle, hMq, rfl⟩
    subst hwV
    walk_at "st"
    have hbo1 : ∀ l ∈ bl, liOk l := fun l hl => (hbo l hl).1
    have hbv : ∀ x ∈ bdW bl, x ∈ [w4, w5, w6, w7, w8] := fun x hx => by
      obtain ⟨w, n, ts, h1, h2⟩ := mem_bnd.mp (mem_bdW.mp hx)
      exact (hbo _ h1).2 x h2
    refine ⟨bl, by rw [hMq], hbo1, by omega, ?_⟩
    have hbdo : ∀ x ∈ bdW bl, PyData.strOk x = true := fun x hx => bnd_str hbo1 (mem_bdW.mp hx)
    obtain ⟨wV, hwV⟩ : ∃ z, z = D.lst [.str w0, .str w1, .str w2, .str w3, .str w4, .str w5, .str w6, .str w7, .str w8, .str w9, .str wa, .str wb] := ⟨_, rfl⟩
    refine seq_cut (fun m2 M3 => ∃ (o : DO) (cl : List Lit) (x4 x6 x7 : Option D), DrO o ∧ (∀ l ∈ cl, liIn [w4, w5, w6, w7, w8] l) ∧ (∀ x, x ∈ bnd cl ↔ x ∈ bdW bl) ∧ cl.length ≤ 6 ∧ MLe (mput M p o) M3 ∧ M3 q = some (.lst (cl.map liD)) ∧ m2 = [some (.ref p), some wV, some (.lst vals), some (.ref q), x4, some (.lst ((bdW bl).map D.str)), x6, x7, none]) (fun Cn hC => ?_) ?_
    · walk_at "s1"
      rw [← hwV]
      refine for_ind (fun items m1 M1 => ∃ (o : DO) (rest : List Str) (cl : List Lit) (x4 x6 x7 : Option D), items = rest.map D.str ∧ (∀ k ∈ rest, k = "less" ∨ k = "unlike") ∧ DrO o ∧ (∀ l ∈ cl, liIn [w4, w5, w6, w7, w8] l) ∧ (∀ x, x ∈ bnd cl ↔ x ∈ bdW bl) ∧ cl.length + rest.length ≤ 6 ∧ MLe (mput M p o) M1 ∧ M1 q = some (.lst (cl.map liD)) ∧ m1 = [some (.ref p), some wV, some (.lst vals), some (.ref q), x4, some (.lst ((bdW bl).map D.str)), x6, x7, none]) ?_ ?_ _ _ _ ⟨o, ["less", "unlike"], bl, _, _, _, rfl, by simp, ho, hbo, fun x => mem_bdW.symm, by simp; omega, hle, hMq, rfl⟩
      · rintro m1 M1 ⟨o, rest, cl, x4, x6, x7, hi, hk, ho, hco, hcb, hcl, hle, hMq, rfl⟩
        exact ⟨srcV_none, hC _ _ ⟨o, cl, _, _, _, ho, hco, hcb, by omega, hle, hMq, rfl⟩⟩
      · rintro z items m1 M1 Cn2 hC2 ⟨o, rest, cl, x4, x6, x7, hi, hk, ho, hco, hcb, hcl, hle, hMq, rfl⟩
        refine ⟨srcV_none, ?_⟩
        cases rest with
        | nil => cases hi
        | cons k rest =>
          rw [List.map_cons] at hi
          injection hi with e1 e2
          subst e1
          subst e2
          rw [List.length_cons] at hcl
          subst hwV
          rw [← mput_self (hle _ _ mput_same)]
          have hMq2 : ∀ o, mput M1 p o q = some (.lst (cl.map liD)) := fun o => by rw [mput_ne hpq.symm]; exact hMq
          walk_at "st"
          intro _
          refine lc_draw (fun y => ∃ t : Tm, y = tmD t ∧ tmOk t ∧ ∀ x, tmV t = some x → x ∈ bdW bl) rfl ho (fun d _ r l o hpr hr ho C1 h1 => ?_) fun r o acc hpr hr ho hl hacc => ?_
          · walk_at "rd"
            refine ⟨[w4, w5, w6, w7, w8], rfl, dr_ne (dr_put ho) hpr, by simp, hvals, hV, hvo, fun o3 t ho3 ht _ => ?_⟩
            rw [mput_swap hpr]
            refine ⟨t, rfl, bdW bl, rfl, dr_ne (dr_put ho3) hpr, ht, hvals, hV, hbdo, fun o4 t4 ho4 ht4 hv4 => ?_⟩
            rw [mput_swap hpr]
            exact h1 o4 _ ho4 ⟨t4, rfl, ht4, hv4⟩
          rw [mdel_mput hr]
          obtain ⟨ts, hts, hta2⟩ := map_of tmD hacc
          subst hts
          have hl2 : ts.length = 2 := by rw [List.length_map] at hl; exact hl
          match ts, hl2, hta2 with
          | [t1, t2], _, hta2 =>
            refine ⟨⟨_, by rw [hMq2]⟩, cl.length, by rw [hMq2]; simp, dr_put ho, by omega, fun o4 r4 ho4 r40 r41 => ?_⟩
            rw [mput_mput]
            refine ⟨_, rfl, _, rfl, _, hMq2 o4, by rw [List.length_map]; omega, r40, by omega, ?_⟩
            have e : List.take r4.toNat (cl.map liD) ++ [D.tup [.str k, tmD t1, tmD t2]] ++ List.drop r4.toNat (cl.map liD) = (cl.take r4.toNat ++ [Lit.test k t1 t2] ++ cl.drop r4.toNat).map liD := by
              rw [List.map_append, List.map_append, List.map_take, List.map_drop]
              rfl
            rw [e]
            have hsp : ∀ l, l ∈ cl ↔ l ∈ cl.take r4.toNat ∨ l ∈ cl.drop r4.toNat := fun l => by rw [← List.mem_append, List.take_append_drop]
            refine fg_of (hC2 _ _ ⟨o4, rest, cl.take r4.toNat ++ [Lit.test k t1 t2] ++ cl.drop r4.toNat, _, _, _, rfl, fun k2 hk2 => hk k2 (by simp [hk2]), ho4, fun l hl => ?_, fun x => ?_, ?_, MLe.put (up_p o4 hle) (hqM o4), mput_same, rfl⟩)
            · rcases List.mem_append.mp hl with hl | hl
              · rcases List.mem_append.mp hl with hl | hl
                · exact hco l ((hsp l).mpr (.inl hl))
                · rw [List.mem_singleton.mp hl]
                  refine ⟨⟨hk k (by simp), (hta2 t1 (by simp)).1, (hta2 t2 (by simp)).1⟩, fun x hx => hbv x ?_⟩
                  have hx2 := mem_vrs.mp hx
                  exact (hta2 _ hx2).2 x rfl
              · exact hco l ((hsp l).mpr (.inr hl))
            · rw [← hcb x, mem_bnd, mem_bnd]
              have hmm : ∀ w n us, Lit.atom w n us ∈ cl.take r4.toNat ++ [Lit.test k t1 t2] ++ cl.drop r4.toNat ↔ Lit.atom w n us ∈ cl := fun w n us => by
                rw [hsp, List.mem_append, List.mem_append, List.mem_singleton]
                constructor
                · rintro ((h | h) | h)
                  · exact .inl h
                  · cases h
                  · exact .inr h
                · rintro (h | h)
                  · exact .inl (.inl h)
                  · exact .inr h
              simp only [hmm]
            · rw [List.length_append, List.length_append, List.length_singleton, List.length_take, List.length_drop]
              omega
    rintro _ M3 ⟨o3, cl, x4b, x6, x7, ho3, hco, hcb, hcl, hle3, hMq3, rfl⟩
    subst hwV
    rw [← mput_self (hle3 _ _ mput_same)]
    walk_at "st"
    intro _
    refine lc_draw (fun y => ∃ t : Tm, y = tmD t ∧ tmOk t ∧ ∀ x, tmV t = some x → x ∈ bdW bl) rfl ho3 (fun d _ r l o hpr hr ho C1 h1 => ?_) fun r o acc hpr hr ho hl hacc => ?_
    · walk_at "rd"
      refine ⟨[w4, w5, w6, w7, w8], rfl, dr_ne (dr_put ho) hpr, by simp, hvals, hV, hvo, fun o3 t ho3 ht _ => ?_⟩
      rw [mput_swap hpr]
      refine ⟨t, rfl, bdW bl, rfl, dr_ne (dr_put ho3) hpr, ht, hvals, hV, hbdo, fun o4 t4 ho4 ht4 hv4 => ?_⟩
      rw [mput_swap hpr]
      exact h1 o4 _ ho4 ⟨t4, rfl, ht4, hv4⟩
    rw [mdel_mput hr]
    obtain ⟨hd, hhd, hta⟩ := map_of tmD hacc
    subst hhd
    have hdl : hd.length = 5 := by
      rw [List.length_map] at hl
      exact hl
    refine ⟨cl.map liD, by rw [mput_ne hpq.symm, hMq3], ret_le (up_p o hle3) (h o ⟨w3, hd, cl⟩ ho ⟨hws w3 (by simp), fun t ht => (hta t ht).1, fun l hl => (hco l hl).1, fun x hx => ?_, by show hd.length ≤ 20; omega, by show cl.length ≤ 20; omega⟩ ⟨fun x hx => hbv x ((hcb x).mp hx), fun l hl => (hco l hl).2⟩)⟩
    exact (hcb x).mpr ((hta _ (mem_vrs.mp hx)).2 x rfl)
/-! ### a permutation of a mapped list -/
theorem perm_map {α β : Type} (f : α → β) : ∀ {xs : List α} {l : List β}, l.Perm (xs.map f) → ∃ ys : List α, l = ys.map f ∧ ys.Perm xs
  | [], l, h => ⟨[], List.Perm.eq_nil h, .nil⟩
  | x :: xs, l, h => by
    have hm : f x ∈ l := h.mem_iff.mpr (by simp)
    obtain ⟨l1, l2, rfl⟩ := List.append_of_mem hm
    have h2 : (l1 ++ l2).Perm (xs.map f) := by
      have := (List.perm_middle (a := f x) (l₁ := l1) (l₂ := l2)).symm.trans h
      exact List.Perm.cons_inv this
    obtain ⟨ys, e, hp⟩ := perm_map f h2
    obtain ⟨y1, y2, rfl, rfl, rfl⟩ := List.map_eq_append_iff.mp e.symm
    exact ⟨y1 ++ x :: y2, by simp, List.perm_middle.trans (hp.cons x)⟩

theorem nodup_len : ∀ {xs ys : List Str}, xs.Nodup → (∀ x ∈ xs, x ∈ ys) → xs.length ≤ ys.length
  | [], _, _, _ => Nat.zero_le _
  | x :: xs, ys, hn, h => by
    rw [List.nodup_cons] at hn
    have hx := h x (by simp)
    have z := nodup_len (xs := xs) (ys := ys.erase x) hn.2 fun y hy => (List.mem_erase_of_ne (fun e : y = x => hn.1 (by rw [← e]; exact hy))).mpr (h y (by simp [hy]))
    rw [List.length_erase_of_mem hx] at z
    have := List.length_pos_of_mem hx
    rw [List.length_cons]
    omega
/-- the rule's variables are few and short -/
def RuV (r : Ru) : Prop := RuOk r ∧ ∃ vs : List Str, VarIn vs r ∧ vs.length ≤ 12 ∧ ∀ x ∈ vs, PyData.strOk x = true ∧ x.length ≤ 100
theorem old_in {r : Ru} {od : List Str} (hr : RuV r) (hn : od.Nodup) (hm : ∀ x, x ∈ od ↔ x ∈ vrs r.head ∨ ∃ l ∈ r.body, x ∈ vrs (liTs l)) : od.length ≤ 12 ∧ ∀ x ∈ od, PyData.strOk x = true ∧ x.length ≤ 100 := by
  obtain ⟨ho, vs, hv, hl, hs⟩ := hr
  have hi : ∀ x ∈ od, x ∈ vs := fun x hx => by
    rcases (hm x).mp hx with h | ⟨l, h1, h2⟩
    · exact hv.1 x (ho.safe x h)
    · exact hv.2 l h1 x h2
  exact ⟨Nat.le_trans (nodup_len hn hi) hl, fun x hx => hs x (hi x hx)⟩
theorem range_zip {od nw : List Str} (h : nw.length = od.length) : (List.range od.length).map (fun k => (od.getD k ⟨#[]⟩, nw.getD k ⟨#[]⟩)) = od.zip nw := by
  refine List.ext_getElem (by rw [List.length_map, List.length_range, List.length_zip]; omega) fun i h1 h2 => ?_
  rw [List.length_map, List.length_range] at h1
  have h3 : i < nw.length := by omega
  rw [List.getElem_map, List.getElem_range, List.getElem_zip]
  simp [List.getD_eq_getElem?_getD, List.getElem?_eq_getElem h1, List.getElem?_eq_getElem h3]
theorem atI_strs {xs : List Str} {k : Nat} (h : k < xs.length) : atI (xs.map D.str) (k : Int) = some (.str (xs.getD k ⟨#[]⟩)) := by
  rw [atI_n, List.getElem?_map, List.getElem?_eq_getElem h]
  simp [List.getD_eq_getElem?_getD, List.getElem?_eq_getElem h]
theorem app_inj {a b c : Str} (h : a ++ c = b ++ c) : a = b := by
  have e : (a ++ c).cps.toList = (b ++ c).cps.toList := by rw [h]
  have e2 : a.cps.toList = b.cps.toList := by
    have f : ∀ x y : Str, (x ++ y).cps.toList = x.cps.toList ++ y.cps.toList := fun x y => by
      show (x.cps ++ y.cps).toList = _
      simp
    rw [f, f] at e
    exact List.append_cancel_right e
  obtain ⟨⟨x⟩⟩ := a
  obtain ⟨⟨y⟩⟩ := b
  exact congrArg (fun l => (⟨⟨l⟩⟩ : Str)) e2
/-- the new words of a rule -/
structure NewW (od nw : List Str) : Prop where
  len : nw.length = od.length
  nd : nw.Nodup
  ok : ∀ x ∈ nw, PyData.strOk x = true ∧ x.length ≤ 1000
theorem ok_law {f0 : Addr} {fd0 : FuncData} (F : Fun K "law" "law" s_law f0 fd0) (B : Bi K mg) (I : Im mg) (c_l_draws : Cal P w K mg base 1 "_law_draws" ["script", "many"] sp_l_draws) (c_l_words : Cal P w K mg base 2 "_law_words" ["draws", "many"] sp_l_words) (c_l_values : Cal P w K mg base 3 "_law_values" ["draws", "words"] sp_l_values) (c_l_schema : Cal P w K mg base 3 "_law_schema" ["draws", "words"] sp_l_schema) (c_l_rules : Cal P w K mg base 7 "_law_rules" ["draws", "schema", "names", "variables", "values", "many"] sp_l_rules) (c_l_words_of : Cal P w K mg base 1 "_law_words_of" ["rule"] sp_l_words_of) (c_l_shuffled : Cal P w K mg base 2 "_law_shuffled" ["draws", "row"] sp_l_shuffled) (c_l_is_renamed : Cal P w K mg base 14 "_law_is_renamed" ["draws", "rule", "pairs"] sp_l_is_renamed) (c_l_wide : Cal P w K mg base 5 "_law_wide" ["draws", "words", "values"] sp_l_wide) : FnOk P w K mg base CX0 15 f0 fd0 ["script"] (upSp K sp_law) := by
  have sc := sc_law
  refine fn_ok F sc (fun ds M Q h => len1 h) (fun f cdv A outer s H E hr => (ds_cons (ds_set (i := 1) sc.nd rfl (Or.inl rfl) (d_call c_l_draws (hr.mono (by first | decide | omega)) rfl (da_cons (d_v 0) (da_cons d_int da_nil))))
    (ds_cons (ds_set (i := 2) sc.nd rfl (Or.inl rfl) (d_call c_l_words (hr.mono (by first | decide | omega)) rfl (da_cons (d_v 1) (da_cons d_int da_nil))))
    (ds_cons (ds_set (i := 3) sc.nd rfl (Or.inl rfl) (d_call c_l_schema (hr.mono (by first | decide | omega)) rfl (da_cons (d_v 1) (da_cons (d_v 2) da_nil))))
    (ds_cons (ds_set (i := 4) sc.nd rfl (Or.inl rfl) (d_call c_l_values (hr.mono (by first | decide | omega)) rfl (da_cons (d_v 1) (da_cons (d_v 2) da_nil))))
    (ds_cons (ds_set (i := 5) sc.nd rfl (Or.inl rfl) (d_call c_l_rules (hr.mono (by first | decide | omega)) rfl (da_cons (d_v 1) (da_cons (d_v 3) (da_cons (d_sl (d_v 2) (dp_some d_int) (dp_some d_int)) (da_cons (d_sl (d_v 2) (dp_some d_int) (dp_some d_int)) (da_cons (d_v 4) (da_cons d_int da_nil))))))))
    (ds_cons (ds_set (i := 6) sc.nd rfl (Or.inl rfl) (d_tup (da_cons (d_ix x_ix (d_v 2) d_int (fun _ _ => rfl)) (da_cons (d_tup (da_cons (d_tup (da_cons d_str (da_cons d_str da_nil))) (da_cons (d_tup (da_cons d_str (da_cons d_str da_nil))) da_nil))) (da_cons (d_tup (da_cons (d_tup (da_cons d_str (da_cons (d_tup (da_cons d_str da_nil)) (da_cons (d_ix x_ix (d_v 2) d_int (fun _ _ => rfl)) (da_cons (d_tup (da_cons (d_tup (da_cons d_str (da_cons d_str da_nil))) (da_cons (d_tup (da_cons d_str (da_cons d_str da_nil))) da_nil))) da_nil))))) da_nil)) da_nil)))))
    (ds_cons (ds_for PassesOwn.never rfl (di_seq (d_op o_addA (d_v 5) (d_tup (da_cons (d_v 6) (da_cons (d_call c_l_wide (hr.mono (by first | decide | omega)) rfl (da_cons (d_v 1) (da_cons (d_v 2) (da_cons (d_v 4) da_nil)))) da_nil))))) (dg_name (i := 7) sc.nd rfl (Or.inl rfl))
    (ds_cons (ds_set (i := 8) sc.nd rfl (Or.inr rfl) (d_call c_l_words_of (hr.mono (by first | decide | omega)) rfl (da_cons (d_v 7) da_nil)))
    (ds_cons (ds_set (i := 9) sc.nd rfl (Or.inl rfl) (d_lstF (da_cons (d_call c_l_shuffled (hr.mono (by first | decide | omega)) rfl (da_cons (d_v 1) (da_cons (d_v 8) da_nil))) (da_cons (d_sl (d_call c_l_shuffled (hr.mono (by first | decide | omega)) rfl (da_cons (d_v 1) (da_cons (d_v 2) da_nil))) dp_none (dp_some (d_cb c_len rfl B.b_len boot_len (da_cons (d_v 8) da_nil)))) (da_cons (d_lcF rfl sc.nd (own := [("word", 11)]) (di_seq (d_v 8)) (blkOk_by (N := N_law) (sc := defScope s_law) (by decide +kernel)) (by decide) (fun _ _ _ _ _ => (dg_name (i := 11) sc.nd rfl (Or.inl rfl))) (fun _ _ _ _ _ => dts_nil) (fun _ _ _ _ _ => (d_op o_addA (d_v 11) d_str))) da_nil)))))
    (ds_cons (ds_for PassesOwn.never rfl (di_seq (d_v 9)) (dg_name (i := 10) sc.nd rfl (Or.inr rfl))
    (ds_one (ds_if (dt_not (dt_val (d_call c_l_is_renamed (hr.mono (by first | decide | omega)) rfl (da_cons (d_v 1) (da_cons (d_v 7) (da_cons (d_lcF rfl sc.nd (own := [("k", 12)]) (di_range1 rfl B.b_range (da_cons (d_cb c_lenB rfl B.b_len boot_len (da_cons (d_v 8) da_nil)) da_nil)) (blkOk_by (N := N_law) (sc := defScope s_law) (by decide +kernel)) (by decide) (fun _ _ _ _ _ => (dg_name (i := 12) sc.nd rfl (Or.inl rfl))) (fun _ _ _ _ _ => dts_nil) (fun _ _ _ _ _ => (d_tup (da_cons (d_ix x_ix (d_v 8) (d_v 12) (fun _ _ => rfl)) (da_cons (d_ix x_ix (d_v 10) (d_v 12) (fun _ _ => rfl)) da_nil))))) da_nil))))))
    (ds_one (ds_ret d_bl))
    ds_nil)))
    (ds_one (ds_if (dt_w (dw_and (dt_cmp (o_eq (hu_eq hr)) (d_cb c_len rfl B.b_len boot_len (da_cons (d_v 8) da_nil)) d_int (nomark _)) (dw_and1 (dt_not (dt_val (d_call c_l_is_renamed (hr.mono (by first | decide | omega)) rfl (da_cons (d_v 1) (da_cons (d_v 7) (da_cons (d_lstF (da_cons (d_tup (da_cons (d_ix x_ix (d_v 8) d_int (fun _ _ => rfl)) (da_cons (d_ix x_ix (d_v 8) d_int (fun _ _ => rfl)) da_nil))) (da_cons (d_tup (da_cons (d_ix x_ix (d_v 8) d_int (fun _ _ => rfl)) (da_cons (d_ix x_ix (d_v 8) d_int (fun _ _ => rfl)) da_nil))) da_nil))) da_nil)))))))))
    (ds_one (ds_ret d_bl))
    ds_nil))))))
    (ds_one (ds_ret d_bl)))))))))) (fun ds M Q h => ?_)
  obtain ⟨a, rfl, ns, hns, rfl, h⟩ := h
  obtain ⟨d0, hd0⟩ : ∃ d0, d0 = D.lst (ns.map D.int) := ⟨_, rfl⟩
  walk_at "st"
  refine ⟨⟨ns, rfl⟩, fun p o hp ho => ?_⟩
  rw [← hd0]
  walk_at "st"
  refine ⟨12, rfl, by omega, dr_put ho, fun o1 ws ho1 hwl hwn hwo => ?_⟩
  have hws : ∀ x ∈ ws, PyData.strOk x = true := fun x hx => wok_str (hwo x hx)
  have hwl2 : ∀ x ∈ ws, PyData.strOk x = true ∧ x.length ≤ 100 := fun x hx => ⟨hws x hx, Nat.le_trans (hwo x hx).2.1 (by omega)⟩
  match ws, hwl, hwn, hws, hwl2 with
  | [w0, w1, w2, w3, w4, w5, w6, w7, w8, w9, wa, wb], _, hwn, hws, hwl2 =>
    walk_at "st"
    refine ⟨⟨_, rfl⟩, dr_put ho1, hws w0 (by simp), hws w1 (by simp), hws w2 (by simp), fun o2 sc ho2 hsc ⟨e0, he0, _⟩ hperm => ?_⟩
    have hscn : sc ≠ [] := fun z => by rw [z] at he0; cases he0
    have hscl : sc.length ≤ 20 := by
      rcases hperm with hp | hp
      · have := hp.length_eq
        simp at this
        omega
      · have := hp.length_eq
        simp at this
        omega
    walk_at "st"
    refine ⟨[w0, w1, w2, w3, w4, w5, w6, w7, w8, w9, wa, wb], rfl, dr_put ho2, by simp, hws, fun o3 vals ho3 hvl hV => ?_⟩
    have hvn : vals ≠ [] := fun z => by rw [z] at hvl; cases hvl
    walk_at "st"
    refine ⟨sc, rfl, [w3, w4, w5], rfl, [w6, w7, w8], rfl, by simp, dr_put ho3, hscn, hscl, hsc, fun x hx => hws x (by simp at hx ⊢; rcases hx with rfl | rfl | rfl <;> simp), by simp, hvn, hV, fun x hx => hws x (by simp at hx ⊢; rcases hx with rfl | rfl | rfl <;> simp), fun o4 rs ho4 hrs hrl => ?_⟩
    walk_at "st"
    refine ⟨_, rfl, ?_⟩
    walk_at "st"
    refine ⟨[w0, w1, w2, w3, w4, w5, w6, w7, w8, w9, wa, wb], rfl, rfl, hws, dr_put ho4, hvn, hV, fun o5 rw5 ho5 hrw hrwv => ⟨by rw [List.length_map]; omega, fun _ => ?_⟩⟩
    have hxo : PyData.strOk (Str.ofString "x") = true := by decide +kernel
    have hyo : PyData.strOk (Str.ofString "y") = true := by decide +kernel
    obtain ⟨ex, hex⟩ : ∃ ex : Ru, ex = ⟨w3, [.var "x", .var "y"], [.atom (.tup [.str "now"]) w9 [.var "y", .var "x"]]⟩ := ⟨_, rfl⟩
    have hexo : RuOk ex := by
      rw [hex]
      refine ⟨hws w3 (by simp), fun t ht => ?_, fun l hl => ?_, fun x hx => ?_, by show 2 ≤ 20; omega, by show 1 ≤ 20; omega⟩
      · rcases List.mem_cons.mp ht with rfl | ht
        · exact hxo
        · rw [List.mem_singleton.mp ht]
          exact hyo
      · rw [List.mem_singleton.mp hl]
        refine ⟨.inl rfl, hws w9 (by simp), by show 2 ≤ 8; omega, fun t ht => ?_⟩
        rcases List.mem_cons.mp ht with rfl | ht
        · exact hyo
        · rw [List.mem_singleton.mp ht]
          exact hxo
      · have hx : x ∈ [Str.ofString "x", Str.ofString "y"] := hx
        show x ∈ [Str.ofString "y", Str.ofString "x"]
        simp at hx ⊢
        exact hx.symm
    have exD : ruD ex = D.tup [.str w3, .tup [.tup [.str "var", .str "x"], .tup [.str "var", .str "y"]], .tup [.tup [.str "atom", .tup [.str "now"], .str w9, .tup [.tup [.str "var", .str "y"], .tup [.str "var", .str "x"]]]]] := by rw [hex]; rfl
    rw [← exD]
    obtain ⟨wV, hwV⟩ : ∃ z, z = D.lst [.str w0, .str w1, .str w2, .str w3, .str w4, .str w5, .str w6, .str w7, .str w8, .str w9, .str wa, .str wb] := ⟨_, rfl⟩
    rw [← hwV]
    refine for_ind (fun items m1 M1 => ∃ (o : DO) (rest : List Ru) (x7 x8 x9 x10 : Option D), items = rest.map ruD ∧ (∀ r ∈ rest, RuV r) ∧ DrO o ∧ MLe (mput M p o) M1 ∧ m1 = [some d0, some (.ref p), some wV, some (.tup (sc.map enE)), some (.lst vals), some (.tup (rs.map ruD)), some (ruD ex), x7, x8, x9, x10, none, none]) ?_ ?_ _ _ _ ⟨o5, rs ++ [ex, rw5], _, _, _, _, by rw [List.map_append]; rfl, fun r hr => ?_, ho5, .refl _, rfl⟩
    · rintro m1 M1 ⟨o, rest, x7, x8, x9, x10, hi, hro, ho, hle, rfl⟩
      refine ⟨srcV_none, ?_⟩
      walk_at "rd"
      exact ret_of (h M1)
    · rintro z items m1 M1 Cn hC ⟨o, rest, x7, x8, x9, x10, hi, hro, ho, hle, rfl⟩
      refine ⟨srcV_none, ?_⟩
      cases rest with
      | nil => cases hi
      | cons r rest =>
        rw [List.map_cons] at hi
        injection hi with e1 e2
        subst e1
        subst e2
        have hr := hro r (by simp)
        walk_at "st"
        refine ⟨r, rfl, hr.1, fun od hos hon hom => ?_⟩
        obtain ⟨hodl, hods⟩ := old_in hr hon hom
        subst hwV
        walk_at "st"
        refine ⟨by rw [List.length_map]; omega, ⟨o, hle _ _ mput_same, ho⟩, fun o6 ys6 ho6 hp6 => ⟨dr_put ho6, fun o7 ys7 ho7 hp7 _ => ?_⟩⟩
        obtain ⟨u6, rfl, hu6⟩ := perm_map D.str hp6
        obtain ⟨u7, rfl, hu7⟩ := perm_map D.str (xs := [w0, w1, w2, w3, w4, w5, w6, w7, w8, w9, wa, wb]) hp7
        have hnl : (Str.ofString "n").length = 1 := by decide +kernel
        have hno : PyData.strOk (Str.ofString "n") = true := by decide +kernel
        refine lc_map od D.str (fun x => D.str (x ++ Str.ofString "n")) rfl srcV_none (fun x hx M5 l5 C1 h5 => ?_) fun p9 hp9 => ?_
        · have := (hods x hx).2
          walk_at "rd"
          exact ⟨by rw [hnl]; omega, h5⟩
        rw [mdel_mput hp9]
        have hle7 : MLe (mput M p o7) (mput M1 p o7) := up_p o7 hle
        obtain ⟨M7, hM7⟩ : ∃ M7, M7 = mput M1 p o7 := ⟨_, rfl⟩
        rw [← hM7] at hle7 ⊢
        have e9 : od.map (fun x => D.str (x ++ Str.ofString "n")) = (od.map (· ++ Str.ofString "n")).map D.str := by rw [List.map_map]; rfl
        have ecut : DL.cutD (u7.map D.str) none (some (((od.map D.str).length : Nat) : Int)) = (u7.take od.length).map D.str := by rw [DL.cutD_to, List.length_map, List.map_take]
        rw [e9, ecut]
        have hl7 : u7.length = 12 := hu7.length_eq
        have hw6 : NewW od u6 := ⟨hu6.length_eq, hu6.nodup_iff.mpr hon, fun x hx => ⟨(hods x (hu6.mem_iff.mp hx)).1, by have := (hods x (hu6.mem_iff.mp hx)).2; omega⟩⟩
        have hw7 : NewW od (u7.take od.length) := ⟨by rw [List.length_take]; omega, (hu7.nodup_iff.mpr hwn).sublist (List.take_sublist _ _), fun x hx => by
          have := hwl2 x (hu7.mem_iff.mp (List.mem_of_mem_take hx))
          exact ⟨this.1, by omega⟩⟩
        have hw8 : NewW od (od.map (· ++ Str.ofString "n")) := by
          refine ⟨List.length_map .., ?_, fun x hx => ?_⟩
          · refine List.pairwise_map.mpr (hon.imp fun hne e => hne ?_)
            exact app_inj e
          · obtain ⟨y, hy, rfl⟩ := List.mem_map.mp hx
            have := (hods y hy).2
            exact ⟨strOk_app (hods y hy).1 hno, by rw [len_app, hnl]; omega⟩
        obtain ⟨lsV, hlsV⟩ : ∃ z, z = D.lst [D.lst (u6.map D.str), D.lst ((u7.take od.length).map D.str), D.lst ((od.map (· ++ Str.ofString "n")).map D.str)] := ⟨_, rfl⟩
        obtain ⟨wV, hwV⟩ : ∃ z, z = D.lst [.str w0, .str w1, .str w2, .str w3, .str w4, .str w5, .str w6, .str w7, .str w8, .str w9, .str wa, .str wb] := ⟨_, rfl⟩
        have hlv : dItems lsV M7 = some ([u6, u7.take od.length, od.map (· ++ Str.ofString "n")].map fun nw => D.lst (nw.map D.str)) := by rw [hlsV]; rfl
        rw [← hlsV, ← hwV]
        have hodo : (od.map D.str).length ≤ 12 := by rw [List.length_map]; exact hodl
        have call : ∀ (nw : List Str) (o : DO) (M2 : DM), NewW od nw → DrO o → MLe (mput M p o) M2 → True := fun _ _ _ _ _ _ => trivial
        walk_at "st"
        refine ⟨_, hlv, fun _ => ?_⟩
        refine for_ind (fun items m1 M2 => ∃ (o : DO) (rest : List (List Str)) (x10 : Option D), items = rest.map (fun nw => D.lst (nw.map D.str)) ∧ (∀ nw ∈ rest, NewW od nw) ∧ DrO o ∧ MLe (mput M p o) M2 ∧ m1 = [some d0, some (.ref p), some wV, some (.tup (sc.map enE)), some (.lst vals), some (.tup (rs.map ruD)), some (ruD ex), some (ruD r), some (.lst (od.map D.str)), some lsV, x10, none, none]) ?_ ?_ _ _ _ ⟨o7, [u6, u7.take od.length, od.map (· ++ Str.ofString "n")], _, rfl, fun nw hnw => ?_, ho7, hle7, rfl⟩
        · rintro m1 M2 ⟨o8, rest2, x10b, hi2, hnw, ho8, hle8, rfl⟩
          refine ⟨by rw [hlsV]; exact srcV_none, ?_⟩
          walk_at "rd"
          split
          · next c2 =>
            have hod2 : od.length = 2 := by rw [List.length_map] at c2; omega
            obtain ⟨x0, x1, rfl⟩ : ∃ x0 x1, od = [x0, x1] := by
              match od, hod2 with
              | [x0, x1], _ => exact ⟨_, _, rfl⟩
            have hk : ([(x0, x1), (x1, x0)].map fun e => e.1) = [x0, x1] := rfl
            have hk2 : ([(x0, x1), (x1, x0)].map fun e => e.2) = [x1, x0] := rfl
            refine ⟨_, atI_0 _ _, _, rfl, _, rfl, _, atI_0 _ _, r, rfl, [(x0, x1), (x1, x0)], rfl, hr.1, fun l hl x hx => ?_, fun x hx => ?_, ?_, ?_, by simp, fun e he => ?_, fun e he => ?_, ⟨o8, hle8 _ _ mput_same, ho8⟩, fun o9 ho9 => fg_of (hC _ _ ⟨o9, rest, _, _, _, _, rfl, fun r hr => hro r (by simp [hr]), ho9, up_p o9 hle8, by rw [hwV]⟩)⟩
            · rw [hk]
              exact (hom x).mpr (.inr ⟨l, hl, hx⟩)
            · rw [hk]
              exact (hom x).mpr (.inl hx)
            · rw [hk]
              exact hon
            · rw [hk2]
              exact ((List.Perm.swap x0 x1 []).nodup_iff).mpr hon
            · simp only [List.mem_cons, List.not_mem_nil, or_false] at he
              rcases he with rfl | rfl <;> exact ⟨(hods _ (by simp)).1, (hods _ (by simp)).1⟩
            · simp only [List.mem_cons, List.not_mem_nil, or_false] at he
              rcases he with rfl | rfl
              · have := (hods x1 (by simp)).2
                show x1.length ≤ 1000
                omega
              · have := (hods x0 (by simp)).2
                show x0.length ≤ 1000
                omega
          · exact fg_of (hC _ _ ⟨o8, rest, _, _, _, _, rfl, fun r hr => hro r (by simp [hr]), ho8, hle8, by rw [hwV]⟩)
        · rintro z2 items2 m1 M2 Cn2 hC2 ⟨o8, rest2, x10b, hi2, hnw, ho8, hle8, rfl⟩
          refine ⟨by rw [hlsV]; exact srcV_none, ?_⟩
          cases rest2 with
          | nil => cases hi2
          | cons nw rest2 =>
            rw [List.map_cons] at hi2
            injection hi2 with e1 e2
            subst e1
            subst e2
            have hn := hnw nw (by simp)
            walk_at "rd"
            refine fun _ => ⟨by omega, by omega, fun _ => ?_⟩
            have er : rangeD 0 (((od.map D.str).length : Nat) : Int).toNat = (List.range od.length).map fun k => D.int (0 + (k : Nat)) := by rw [List.length_map]; rfl
            rw [er]
            refine lc_map (List.range od.length) (fun k => D.int (0 + (k : Nat))) (fun k => peD (od.getD k ⟨#[]⟩, nw.getD k ⟨#[]⟩)) rfl srcV_none (fun k hk M5 l5 C1 h5 => ?_) fun p5 hp5 => ?_
            · rw [List.mem_range] at hk
              have a1 := atI_strs hk
              have a2 := atI_strs (xs := nw) (k := k) (by rw [hn.len]; exact hk)
              walk_at "rd"
              exact ⟨_, by rw [Int.zero_add]; exact a1, _, by rw [Int.zero_add]; exact a2, h5⟩
            rw [mdel_mput hp5]
            have hk1 : (od.zip nw).map (fun e => e.1) = od := List.map_fst_zip (by rw [hn.len]; exact Nat.le_refl _)
            have hk2 : (od.zip nw).map (fun e => e.2) = nw := List.map_snd_zip (by rw [hn.len]; exact Nat.le_refl _)
            refine ⟨r, rfl, od.zip nw, ?_, hr.1, fun l hl x hx => ?_, fun x hx => ?_, by rw [hk1]; exact hon, by rw [hk2]; exact hn.nd, by rw [List.length_zip]; omega, fun e he => ?_, fun e he => ?_, ⟨o8, hle8 _ _ mput_same, ho8⟩, fun o9 ho9 => fg_of (hC2 _ _ ⟨o9, rest2, _, rfl, fun w hw => hnw w (by simp [hw]), ho9, up_p o9 hle8, rfl⟩)⟩
            · rw [← range_zip hn.len, List.map_map]
              rfl
            · rw [hk1]
              exact (hom x).mpr (.inr ⟨l, hl, hx⟩)
            · rw [hk1]
              exact (hom x).mpr (.inl hx)
            · obtain ⟨h1, h2⟩ := List.of_mem_zip he
              exact ⟨(hods _ h1).1, (hn.ok _ h2).1⟩
            · exact (hn.ok _ (List.of_mem_zip he).2).2
        · simp only [List.mem_cons, List.not_mem_nil, or_false] at hnw
          rcases hnw with rfl | rfl | rfl
          · exact hw6
          · exact hw7
          · exact hw8
    · rcases List.mem_append.mp hr with hr | hr
      · exact ⟨(hrs r hr).1, [w6, w7, w8], (hrs r hr).2, by simp, fun x hx => hwl2 x (by simp at hx ⊢; rcases hx with rfl | rfl | rfl <;> simp)⟩
      · simp only [List.mem_cons, List.not_mem_nil, or_false] at hr
        rcases hr with rfl | rfl
        · refine ⟨hexo, ["x", "y"], ?_, by simp, fun x hx => ?_⟩
          · have hb : ∀ x ∈ [Str.ofString "y", Str.ofString "x"], x ∈ [Str.ofString "x", Str.ofString "y"] := fun x hx => by
              simp at hx ⊢
              exact hx.symm
            rw [hex]
            exact ⟨hb, fun l hl => by rw [List.mem_singleton.mp hl]; exact hb⟩
          · have hx : x ∈ [Str.ofString "x", Str.ofString "y"] := hx
            rcases List.mem_cons.mp hx with rfl | hx
            · exact ⟨hxo, by decide +kernel⟩
            · rw [List.mem_singleton.mp hx]
              exact ⟨hyo, by decide +kernel⟩
        · exact ⟨hrw, [w4, w5, w6, w7, w8], hrwv, by simp, fun x hx => hwl2 x (by simp at hx ⊢; rcases hx with rfl | rfl | rfl | rfl | rfl <;> simp)⟩
end
theorem dm_terms_of {K : PySem.W.Frag} {h : Heap} {mg : Str → Option Value} (X : K.In h) (G : h.Ns mainGlobals mg) {f : Addr} {oc : Value} {od an : Option Addr} {sl : Array (Option Value)} {kV dc pm cd ct : Value} (a : PySem.W.nsIn K mainGlobals "terms_of" = some (some (.ref f))) (l : K.lookup f = some ⟨oc, od, .func (PySem.W.fnOf "terms_of" "terms_of" (defArgs s_terms_of) (defBody s_terms_of) (defScope s_terms_of) .none kV dc pm an cd ct), sl⟩) (c : PySem.W.codeIn K cd "terms_of" = true) (k : PySem.W.keepIn K (.ref f) = true) : Def K mg "terms_of" s_terms_of ["literal"] := ⟨_, _, fun_mk (st := s_terms_of) l c k, PySem.W.mg_of X G a, (fun_mk (st := s_terms_of) l c k).binds (ps := ["literal"]) fun _ _ _ _ _ _ us hl => match us, hl with | [_], _ => rfl⟩
theorem dm_with_terms {K : PySem.W.Frag} {h : Heap} {mg : Str → Option Value} (X : K.In h) (G : h.Ns mainGlobals mg) {f : Addr} {oc : Value} {od an : Option Addr} {sl : Array (Option Value)} {kV dc pm cd ct : Value} (a : PySem.W.nsIn K mainGlobals "with_terms" = some (some (.ref f))) (l : K.lookup f = some ⟨oc, od, .func (PySem.W.fnOf "with_terms" "with_terms" (defArgs s_with_terms) (defBody s_with_terms) (defScope s_with_terms) .none kV dc pm an cd ct), sl⟩) (c : PySem.W.codeIn K cd "with_terms" = true) (k : PySem.W.keepIn K (.ref f) = true) : Def K mg "with_terms" s_with_terms ["literal", "terms"] := ⟨_, _, fun_mk (st := s_with_terms) l c k, PySem.W.mg_of X G a, (fun_mk (st := s_with_terms) l c k).binds (ps := ["literal", "terms"]) fun _ _ _ _ _ _ us hl => match us, hl with | [_, _], _ => rfl⟩
theorem dm_renamed_terms {K : PySem.W.Frag} {h : Heap} {mg : Str → Option Value} (X : K.In h) (G : h.Ns mainGlobals mg) {f : Addr} {oc : Value} {od an : Option Addr} {sl : Array (Option Value)} {kV dc pm cd ct : Value} (a : PySem.W.nsIn K mainGlobals "renamed_terms" = some (some (.ref f))) (l : K.lookup f = some ⟨oc, od, .func (PySem.W.fnOf "renamed_terms" "renamed_terms" (defArgs s_renamed_terms) (defBody s_renamed_terms) (defScope s_renamed_terms) .none kV dc pm an cd ct), sl⟩) (c : PySem.W.codeIn K cd "renamed_terms" = true) (k : PySem.W.keepIn K (.ref f) = true) : Def K mg "renamed_terms" s_renamed_terms ["terms", "words"] := ⟨_, _, fun_mk (st := s_renamed_terms) l c k, PySem.W.mg_of X G a, (fun_mk (st := s_renamed_terms) l c k).binds (ps := ["terms", "words"]) fun _ _ _ _ _ _ us hl => match us, hl with | [_, _], _ => rfl⟩
theorem dm_renamed {K : PySem.W.Frag} {h : Heap} {mg : Str → Option Value} (X : K.In h) (G : h.Ns mainGlobals mg) {f : Addr} {oc : Value} {od an : Option Addr} {sl : Array (Option Value)} {kV dc pm cd ct : Value} (a : PySem.W.nsIn K mainGlobals "renamed" = some (some (.ref f))) (l : K.lookup f = some ⟨oc, od, .func (PySem.W.fnOf "renamed" "renamed" (defArgs s_renamed) (defBody s_renamed) (defScope s_renamed) .none kV dc pm an cd ct), sl⟩) (c : PySem.W.codeIn K cd "renamed" = true) (k : PySem.W.keepIn K (.ref f) = true) : Def K mg "renamed" s_renamed ["rule", "words"] := ⟨_, _, fun_mk (st := s_renamed) l c k, PySem.W.mg_of X G a, (fun_mk (st := s_renamed) l c k).binds (ps := ["rule", "words"]) fun _ _ _ _ _ _ us hl => match us, hl with | [_, _], _ => rfl⟩
theorem dm_l_draws {K : PySem.W.Frag} {h : Heap} {mg : Str → Option Value} (X : K.In h) (G : h.Ns mainGlobals mg) {f : Addr} {oc : Value} {od an : Option Addr} {sl : Array (Option Value)} {kV dc pm cd ct : Value} (a : PySem.W.nsIn K mainGlobals "_law_draws" = some (some (.ref f))) (l : K.lookup f = some ⟨oc, od, .func (PySem.W.fnOf "_law_draws" "_law_draws" (defArgs s_l_draws) (defBody s_l_draws) (defScope s_l_draws) .none kV dc pm an cd ct), sl⟩) (c : PySem.W.codeIn K cd "_law_draws" = true) (k : PySem.W.keepIn K (.ref f) = true) : Def K mg "_law_draws" s_l_draws ["script", "many"] := ⟨_, _, fun_mk (st := s_l_draws) l c k, PySem.W.mg_of X G a, (fun_mk (st := s_l_draws) l c k).binds (ps := ["script", "many"]) fun _ _ _ _ _ _ us hl => match us, hl with | [_, _], _ => rfl⟩
theorem dm_l_take {K : PySem.W.Frag} {h : Heap} {mg : Str → Option Value} (X : K.In h) (G : h.Ns mainGlobals mg) {f : Addr} {oc : Value} {od an : Option Addr} {sl : Array (Option Value)} {kV dc pm cd ct : Value} (a : PySem.W.nsIn K mainGlobals "_law_take" = some (some (.ref f))) (l : K.lookup f = some ⟨oc, od, .func (PySem.W.fnOf "_law_take" "_law_take" (defArgs s_l_take) (defBody s_l_take) (defScope s_l_take) .none kV dc pm an cd ct), sl⟩) (c : PySem.W.codeIn K cd "_law_take" = true) (k : PySem.W.keepIn K (.ref f) = true) : Def K mg "_law_take" s_l_take ["draws", "many"] := ⟨_, _, fun_mk (st := s_l_take) l c k, PySem.W.mg_of X G a, (fun_mk (st := s_l_take) l c k).binds (ps := ["draws", "many"]) fun _ _ _ _ _ _ us hl => match us, hl with | [_, _], _ => rfl⟩
theorem dm_l_pick {K : PySem.W.Frag} {h : Heap} {mg : Str → Option Value} (X : K.In h) (G : h.Ns mainGlobals mg) {f : Addr} {oc : Value} {od an : Option Addr} {sl : Array (Option Value)} {kV dc pm cd ct : Value} (a : PySem.W.nsIn K mainGlobals "_law_pick" = some (some (.ref f))) (l : K.lookup f = some ⟨oc, od, .func (PySem.W.fnOf "_law_pick" "_law_pick" (defArgs s_l_pick) (defBody s_l_pick) (defScope s_l_pick) .none kV dc pm an cd ct), sl⟩) (c : PySem.W.codeIn K cd "_law_pick" = true) (k : PySem.W.keepIn K (.ref f) = true) : Def K mg "_law_pick" s_l_pick ["draws", "row"] := ⟨_, _, fun_mk (st := s_l_pick) l c k, PySem.W.mg_of X G a, (fun_mk (st := s_l_pick) l c k).binds (ps := ["draws", "row"]) fun _ _ _ _ _ _ us hl => match us, hl with | [_, _], _ => rfl⟩
theorem dm_l_same {K : PySem.W.Frag} {h : Heap} {mg : Str → Option Value} (X : K.In h) (G : h.Ns mainGlobals mg) {f : Addr} {oc : Value} {od an : Option Addr} {sl : Array (Option Value)} {kV dc pm cd ct : Value} (a : PySem.W.nsIn K mainGlobals "_law_same" = some (some (.ref f))) (l : K.lookup f = some ⟨oc, od, .func (PySem.W.fnOf "_law_same" "_law_same" (defArgs s_l_same) (defBody s_l_same) (defScope s_l_same) .none kV dc pm an cd ct), sl⟩) (c : PySem.W.codeIn K cd "_law_same" = true) (k : PySem.W.keepIn K (.ref f) = true) : Def K mg "_law_same" s_l_same ["actual", "due"] := ⟨_, _, fun_mk (st := s_l_same) l c k, PySem.W.mg_of X G a, (fun_mk (st := s_l_same) l c k).binds (ps := ["actual", "due"]) fun _ _ _ _ _ _ us hl => match us, hl with | [_, _], _ => rfl⟩
theorem dm_l_words {K : PySem.W.Frag} {h : Heap} {mg : Str → Option Value} (X : K.In h) (G : h.Ns mainGlobals mg) {f : Addr} {oc : Value} {od an : Option Addr} {sl : Array (Option Value)} {kV dc pm cd ct : Value} (a : PySem.W.nsIn K mainGlobals "_law_words" = some (some (.ref f))) (l : K.lookup f = some ⟨oc, od, .func (PySem.W.fnOf "_law_words" "_law_words" (defArgs s_l_words) (defBody s_l_words) (defScope s_l_words) .none kV dc pm an cd ct), sl⟩) (c : PySem.W.codeIn K cd "_law_words" = true) (k : PySem.W.keepIn K (.ref f) = true) : Def K mg "_law_words" s_l_words ["draws", "many"] := ⟨_, _, fun_mk (st := s_l_words) l c k, PySem.W.mg_of X G a, (fun_mk (st := s_l_words) l c k).binds (ps := ["draws", "many"]) fun _ _ _ _ _ _ us hl => match us, hl with | [_, _], _ => rfl⟩
theorem dm_l_values {K : PySem.W.Frag} {h : Heap} {mg : Str → Option Value} (X : K.In h) (G : h.Ns mainGlobals mg) {f : Addr} {oc : Value} {od an : Option Addr} {sl : Array (Option Value)} {kV dc pm cd ct : Value} (a : PySem.W.nsIn K mainGlobals "_law_values" = some (some (.ref f))) (l : K.lookup f = some ⟨oc, od, .func (PySem.W.fnOf "_law_values" "_law_values" (defArgs s_l_values) (defBody s_l_values) (defScope s_l_values) .none kV dc pm an cd ct), sl⟩) (c : PySem.W.codeIn K cd "_law_values" = true) (k : PySem.W.keepIn K (.ref f) = true) : Def K mg "_law_values" s_l_values ["draws", "words"] := ⟨_, _, fun_mk (st := s_l_values) l c k, PySem.W.mg_of X G a, (fun_mk (st := s_l_values) l c k).binds (ps := ["draws", "words"]) fun _ _ _ _ _ _ us hl => match us, hl with | [_, _], _ => rfl⟩
theorem dm_l_schema {K : PySem.W.Frag} {h : Heap} {mg : Str → Option Value} (X : K.In h) (G : h.Ns mainGlobals mg) {f : Addr} {oc : Value} {od an : Option Addr} {sl : Array (Option Value)} {kV dc pm cd ct : Value} (a : PySem.W.nsIn K mainGlobals "_law_schema" = some (some (.ref f))) (l : K.lookup f = some ⟨oc, od, .func (PySem.W.fnOf "_law_schema" "_law_schema" (defArgs s_l_schema) (defBody s_l_schema) (defScope s_l_schema) .none kV dc pm an cd ct), sl⟩) (c : PySem.W.codeIn K cd "_law_schema" = true) (k : PySem.W.keepIn K (.ref f) = true) : Def K mg "_law_schema" s_l_schema ["draws", "words"] := ⟨_, _, fun_mk (st := s_l_schema) l c k, PySem.W.mg_of X G a, (fun_mk (st := s_l_schema) l c k).binds (ps := ["draws", "words"]) fun _ _ _ _ _ _ us hl => match us, hl with | [_, _], _ => rfl⟩
theorem dm_l_how {K : PySem.W.Frag} {h : Heap} {mg : Str → Option Value} (X : K.In h) (G : h.Ns mainGlobals mg) {f : Addr} {oc : Value} {od an : Option Addr} {sl : Array (Option Value)} {kV dc pm cd ct : Value} (a : PySem.W.nsIn K mainGlobals "_law_how" = some (some (.ref f))) (l : K.lookup f = some ⟨oc, od, .func (PySem.W.fnOf "_law_how" "_law_how" (defArgs s_l_how) (defBody s_l_how) (defScope s_l_how) .none kV dc pm an cd ct), sl⟩) (c : PySem.W.codeIn K cd "_law_how" = true) (k : PySem.W.keepIn K (.ref f) = true) : Def K mg "_law_how" s_l_how ["draws"] := ⟨_, _, fun_mk (st := s_l_how) l c k, PySem.W.mg_of X G a, (fun_mk (st := s_l_how) l c k).binds (ps := ["draws"]) fun _ _ _ _ _ _ us hl => match us, hl with | [_], _ => rfl⟩
theorem dm_l_term {K : PySem.W.Frag} {h : Heap} {mg : Str → Option Value} (X : K.In h) (G : h.Ns mainGlobals mg) {f : Addr} {oc : Value} {od an : Option Addr} {sl : Array (Option Value)} {kV dc pm cd ct : Value} (a : PySem.W.nsIn K mainGlobals "_law_term" = some (some (.ref f))) (l : K.lookup f = some ⟨oc, od, .func (PySem.W.fnOf "_law_term" "_law_term" (defArgs s_l_term) (defBody s_l_term) (defScope s_l_term) .none kV dc pm an cd ct), sl⟩) (c : PySem.W.codeIn K cd "_law_term" = true) (k : PySem.W.keepIn K (.ref f) = true) : Def K mg "_law_term" s_l_term ["draws", "variables", "values"] := ⟨_, _, fun_mk (st := s_l_term) l c k, PySem.W.mg_of X G a, (fun_mk (st := s_l_term) l c k).binds (ps := ["draws", "variables", "values"]) fun _ _ _ _ _ _ us hl => match us, hl with | [_, _, _], _ => rfl⟩
theorem dm_l_atom {K : PySem.W.Frag} {h : Heap} {mg : Str → Option Value} (X : K.In h) (G : h.Ns mainGlobals mg) {f : Addr} {oc : Value} {od an : Option Addr} {sl : Array (Option Value)} {kV dc pm cd ct : Value} (a : PySem.W.nsIn K mainGlobals "_law_atom" = some (some (.ref f))) (l : K.lookup f = some ⟨oc, od, .func (PySem.W.fnOf "_law_atom" "_law_atom" (defArgs s_l_atom) (defBody s_l_atom) (defScope s_l_atom) .none kV dc pm an cd ct), sl⟩) (c : PySem.W.codeIn K cd "_law_atom" = true) (k : PySem.W.keepIn K (.ref f) = true) : Def K mg "_law_atom" s_l_atom ["draws", "places", "variables", "values", "how"] := ⟨_, _, fun_mk (st := s_l_atom) l c k, PySem.W.mg_of X G a, (fun_mk (st := s_l_atom) l c k).binds (ps := ["draws", "places", "variables", "values", "how"]) fun _ _ _ _ _ _ us hl => match us, hl with | [_, _, _, _, _], _ => rfl⟩
theorem dm_l_bound {K : PySem.W.Frag} {h : Heap} {mg : Str → Option Value} (X : K.In h) (G : h.Ns mainGlobals mg) {f : Addr} {oc : Value} {od an : Option Addr} {sl : Array (Option Value)} {kV dc pm cd ct : Value} (a : PySem.W.nsIn K mainGlobals "_law_bound" = some (some (.ref f))) (l : K.lookup f = some ⟨oc, od, .func (PySem.W.fnOf "_law_bound" "_law_bound" (defArgs s_l_bound) (defBody s_l_bound) (defScope s_l_bound) .none kV dc pm an cd ct), sl⟩) (c : PySem.W.codeIn K cd "_law_bound" = true) (k : PySem.W.keepIn K (.ref f) = true) : Def K mg "_law_bound" s_l_bound ["body"] := ⟨_, _, fun_mk (st := s_l_bound) l c k, PySem.W.mg_of X G a, (fun_mk (st := s_l_bound) l c k).binds (ps := ["body"]) fun _ _ _ _ _ _ us hl => match us, hl with | [_], _ => rfl⟩
theorem dm_l_safe {K : PySem.W.Frag} {h : Heap} {mg : Str → Option Value} (X : K.In h) (G : h.Ns mainGlobals mg) {f : Addr} {oc : Value} {od an : Option Addr} {sl : Array (Option Value)} {kV dc pm cd ct : Value} (a : PySem.W.nsIn K mainGlobals "_law_safe" = some (some (.ref f))) (l : K.lookup f = some ⟨oc, od, .func (PySem.W.fnOf "_law_safe" "_law_safe" (defArgs s_l_safe) (defBody s_l_safe) (defScope s_l_safe) .none kV dc pm an cd ct), sl⟩) (c : PySem.W.codeIn K cd "_law_safe" = true) (k : PySem.W.keepIn K (.ref f) = true) : Def K mg "_law_safe" s_l_safe ["draws", "term", "bound", "values"] := ⟨_, _, fun_mk (st := s_l_safe) l c k, PySem.W.mg_of X G a, (fun_mk (st := s_l_safe) l c k).binds (ps := ["draws", "term", "bound", "values"]) fun _ _ _ _ _ _ us hl => match us, hl with | [_, _, _, _], _ => rfl⟩
theorem dm_l_rule {K : PySem.W.Frag} {h : Heap} {mg : Str → Option Value} (X : K.In h) (G : h.Ns mainGlobals mg) {f : Addr} {oc : Value} {od an : Option Addr} {sl : Array (Option Value)} {kV dc pm cd ct : Value} (a : PySem.W.nsIn K mainGlobals "_law_rule" = some (some (.ref f))) (l : K.lookup f = some ⟨oc, od, .func (PySem.W.fnOf "_law_rule" "_law_rule" (defArgs s_l_rule) (defBody s_l_rule) (defScope s_l_rule) .none kV dc pm an cd ct), sl⟩) (c : PySem.W.codeIn K cd "_law_rule" = true) (k : PySem.W.keepIn K (.ref f) = true) : Def K mg "_law_rule" s_l_rule ["draws", "name", "width", "places", "ring", "variables", "values", "many"] := ⟨_, _, fun_mk (st := s_l_rule) l c k, PySem.W.mg_of X G a, (fun_mk (st := s_l_rule) l c k).binds (ps := ["draws", "name", "width", "places", "ring", "variables", "values", "many"]) fun _ _ _ _ _ _ us hl => match us, hl with | [_, _, _, _, _, _, _, _], _ => rfl⟩
theorem dm_l_two_ring {K : PySem.W.Frag} {h : Heap} {mg : Str → Option Value} (X : K.In h) (G : h.Ns mainGlobals mg) {f : Addr} {oc : Value} {od an : Option Addr} {sl : Array (Option Value)} {kV dc pm cd ct : Value} (a : PySem.W.nsIn K mainGlobals "_law_two_ring" = some (some (.ref f))) (l : K.lookup f = some ⟨oc, od, .func (PySem.W.fnOf "_law_two_ring" "_law_two_ring" (defArgs s_l_two_ring) (defBody s_l_two_ring) (defScope s_l_two_ring) .none kV dc pm an cd ct), sl⟩) (c : PySem.W.codeIn K cd "_law_two_ring" = true) (k : PySem.W.keepIn K (.ref f) = true) : Def K mg "_law_two_ring" s_l_two_ring ["draws", "rules", "places", "variables", "values"] := ⟨_, _, fun_mk (st := s_l_two_ring) l c k, PySem.W.mg_of X G a, (fun_mk (st := s_l_two_ring) l c k).binds (ps := ["draws", "rules", "places", "variables", "values"]) fun _ _ _ _ _ _ us hl => match us, hl with | [_, _, _, _, _], _ => rfl⟩
theorem dm_l_rules {K : PySem.W.Frag} {h : Heap} {mg : Str → Option Value} (X : K.In h) (G : h.Ns mainGlobals mg) {f : Addr} {oc : Value} {od an : Option Addr} {sl : Array (Option Value)} {kV dc pm cd ct : Value} (a : PySem.W.nsIn K mainGlobals "_law_rules" = some (some (.ref f))) (l : K.lookup f = some ⟨oc, od, .func (PySem.W.fnOf "_law_rules" "_law_rules" (defArgs s_l_rules) (defBody s_l_rules) (defScope s_l_rules) .none kV dc pm an cd ct), sl⟩) (c : PySem.W.codeIn K cd "_law_rules" = true) (k : PySem.W.keepIn K (.ref f) = true) : Def K mg "_law_rules" s_l_rules ["draws", "schema", "names", "variables", "values", "many"] := ⟨_, _, fun_mk (st := s_l_rules) l c k, PySem.W.mg_of X G a, (fun_mk (st := s_l_rules) l c k).binds (ps := ["draws", "schema", "names", "variables", "values", "many"]) fun _ _ _ _ _ _ us hl => match us, hl with | [_, _, _, _, _, _], _ => rfl⟩
theorem dm_l_words_of {K : PySem.W.Frag} {h : Heap} {mg : Str → Option Value} (X : K.In h) (G : h.Ns mainGlobals mg) {f : Addr} {oc : Value} {od an : Option Addr} {sl : Array (Option Value)} {kV dc pm cd ct : Value} (a : PySem.W.nsIn K mainGlobals "_law_words_of" = some (some (.ref f))) (l : K.lookup f = some ⟨oc, od, .func (PySem.W.fnOf "_law_words_of" "_law_words_of" (defArgs s_l_words_of) (defBody s_l_words_of) (defScope s_l_words_of) .none kV dc pm an cd ct), sl⟩) (c : PySem.W.codeIn K cd "_law_words_of" = true) (k : PySem.W.keepIn K (.ref f) = true) : Def K mg "_law_words_of" s_l_words_of ["rule"] := ⟨_, _, fun_mk (st := s_l_words_of) l c k, PySem.W.mg_of X G a, (fun_mk (st := s_l_words_of) l c k).binds (ps := ["rule"]) fun _ _ _ _ _ _ us hl => match us, hl with | [_], _ => rfl⟩
theorem dm_l_new_term {K : PySem.W.Frag} {h : Heap} {mg : Str → Option Value} (X : K.In h) (G : h.Ns mainGlobals mg) {f : Addr} {oc : Value} {od an : Option Addr} {sl : Array (Option Value)} {kV dc pm cd ct : Value} (a : PySem.W.nsIn K mainGlobals "_law_new_term" = some (some (.ref f))) (l : K.lookup f = some ⟨oc, od, .func (PySem.W.fnOf "_law_new_term" "_law_new_term" (defArgs s_l_new_term) (defBody s_l_new_term) (defScope s_l_new_term) .none kV dc pm an cd ct), sl⟩) (c : PySem.W.codeIn K cd "_law_new_term" = true) (k : PySem.W.keepIn K (.ref f) = true) : Def K mg "_law_new_term" s_l_new_term ["term", "pairs"] := ⟨_, _, fun_mk (st := s_l_new_term) l c k, PySem.W.mg_of X G a, (fun_mk (st := s_l_new_term) l c k).binds (ps := ["term", "pairs"]) fun _ _ _ _ _ _ us hl => match us, hl with | [_, _], _ => rfl⟩
theorem dm_l_new_rule {K : PySem.W.Frag} {h : Heap} {mg : Str → Option Value} (X : K.In h) (G : h.Ns mainGlobals mg) {f : Addr} {oc : Value} {od an : Option Addr} {sl : Array (Option Value)} {kV dc pm cd ct : Value} (a : PySem.W.nsIn K mainGlobals "_law_new_rule" = some (some (.ref f))) (l : K.lookup f = some ⟨oc, od, .func (PySem.W.fnOf "_law_new_rule" "_law_new_rule" (defArgs s_l_new_rule) (defBody s_l_new_rule) (defScope s_l_new_rule) .none kV dc pm an cd ct), sl⟩) (c : PySem.W.codeIn K cd "_law_new_rule" = true) (k : PySem.W.keepIn K (.ref f) = true) : Def K mg "_law_new_rule" s_l_new_rule ["rule", "pairs"] := ⟨_, _, fun_mk (st := s_l_new_rule) l c k, PySem.W.mg_of X G a, (fun_mk (st := s_l_new_rule) l c k).binds (ps := ["rule", "pairs"]) fun _ _ _ _ _ _ us hl => match us, hl with | [_, _], _ => rfl⟩
theorem dm_l_shuffled {K : PySem.W.Frag} {h : Heap} {mg : Str → Option Value} (X : K.In h) (G : h.Ns mainGlobals mg) {f : Addr} {oc : Value} {od an : Option Addr} {sl : Array (Option Value)} {kV dc pm cd ct : Value} (a : PySem.W.nsIn K mainGlobals "_law_shuffled" = some (some (.ref f))) (l : K.lookup f = some ⟨oc, od, .func (PySem.W.fnOf "_law_shuffled" "_law_shuffled" (defArgs s_l_shuffled) (defBody s_l_shuffled) (defScope s_l_shuffled) .none kV dc pm an cd ct), sl⟩) (c : PySem.W.codeIn K cd "_law_shuffled" = true) (k : PySem.W.keepIn K (.ref f) = true) : Def K mg "_law_shuffled" s_l_shuffled ["draws", "row"] := ⟨_, _, fun_mk (st := s_l_shuffled) l c k, PySem.W.mg_of X G a, (fun_mk (st := s_l_shuffled) l c k).binds (ps := ["draws", "row"]) fun _ _ _ _ _ _ us hl => match us, hl with | [_, _], _ => rfl⟩
theorem dm_l_is_renamed {K : PySem.W.Frag} {h : Heap} {mg : Str → Option Value} (X : K.In h) (G : h.Ns mainGlobals mg) {f : Addr} {oc : Value} {od an : Option Addr} {sl : Array (Option Value)} {kV dc pm cd ct : Value} (a : PySem.W.nsIn K mainGlobals "_law_is_renamed" = some (some (.ref f))) (l : K.lookup f = some ⟨oc, od, .func (PySem.W.fnOf "_law_is_renamed" "_law_is_renamed" (defArgs s_l_is_renamed) (defBody s_l_is_renamed) (defScope s_l_is_renamed) .none kV dc pm an cd ct), sl⟩) (c : PySem.W.codeIn K cd "_law_is_renamed" = true) (k : PySem.W.keepIn K (.ref f) = true) : Def K mg "_law_is_renamed" s_l_is_renamed ["draws", "rule", "pairs"] := ⟨_, _, fun_mk (st := s_l_is_renamed) l c k, PySem.W.mg_of X G a, (fun_mk (st := s_l_is_renamed) l c k).binds (ps := ["draws", "rule", "pairs"]) fun _ _ _ _ _ _ us hl => match us, hl with | [_, _, _], _ => rfl⟩
theorem dm_l_wide {K : PySem.W.Frag} {h : Heap} {mg : Str → Option Value} (X : K.In h) (G : h.Ns mainGlobals mg) {f : Addr} {oc : Value} {od an : Option Addr} {sl : Array (Option Value)} {kV dc pm cd ct : Value} (a : PySem.W.nsIn K mainGlobals "_law_wide" = some (some (.ref f))) (l : K.lookup f = some ⟨oc, od, .func (PySem.W.fnOf "_law_wide" "_law_wide" (defArgs s_l_wide) (defBody s_l_wide) (defScope s_l_wide) .none kV dc pm an cd ct), sl⟩) (c : PySem.W.codeIn K cd "_law_wide" = true) (k : PySem.W.keepIn K (.ref f) = true) : Def K mg "_law_wide" s_l_wide ["draws", "words", "values"] := ⟨_, _, fun_mk (st := s_l_wide) l c k, PySem.W.mg_of X G a, (fun_mk (st := s_l_wide) l c k).binds (ps := ["draws", "words", "values"]) fun _ _ _ _ _ _ us hl => match us, hl with | [_, _, _], _ => rfl⟩
theorem dm_law {K : PySem.W.Frag} {h : Heap} {mg : Str → Option Value} (X : K.In h) (G : h.Ns mainGlobals mg) {f : Addr} {oc : Value} {od an : Option Addr} {sl : Array (Option Value)} {kV dc pm cd ct : Value} (a : PySem.W.nsIn K mainGlobals "law" = some (some (.ref f))) (l : K.lookup f = some ⟨oc, od, .func (PySem.W.fnOf "law" "law" (defArgs s_law) (defBody s_law) (defScope s_law) .none kV dc pm an cd ct), sl⟩) (c : PySem.W.codeIn K cd "law" = true) (k : PySem.W.keepIn K (.ref f) = true) : Def K mg "law" s_law ["script"] := ⟨_, _, fun_mk (st := s_law) l c k, PySem.W.mg_of X G a, (fun_mk (st := s_law) l c k).binds (ps := ["script"]) fun _ _ _ _ _ _ us hl => match us, hl with | [_], _ => rfl⟩
set_option maxHeartbeats 0 in
theorem all_mk {P : Program} {w : World} {K : PySem.W.Frag} {h : Heap} {mg : Str → Option Value} {fa : Addr} (X : K.In h) (G : h.Ns mainGlobals mg) (hfa : mg "law" = some (.ref fa))
    {f0 : Addr} {oc0 : Value} {od0 an0 : Option Addr} {sl0 : Array (Option Value)} {kV0 dc0 pm0 cd0 ct0 : Value}
    (a0 : PySem.W.nsIn K mainGlobals "terms_of" = some (some (.ref f0))) (l0 : K.lookup f0 = some ⟨oc0, od0, .func (PySem.W.fnOf "terms_of" "terms_of" (defArgs s_terms_of) (defBody s_terms_of) (defScope s_terms_of) .none kV0 dc0 pm0 an0 cd0 ct0), sl0⟩) (c0 : PySem.W.codeIn K cd0 "terms_of" = true) (k0 : PySem.W.keepIn K (.ref f0) = true)
    {f1 : Addr} {oc1 : Value} {od1 an1 : Option Addr} {sl1 : Array (Option Value)} {kV1 dc1 pm1 cd1 ct1 : Value}
    (a1 : PySem.W.nsIn K mainGlobals "with_terms" = some (some (.ref f1))) (l1 : K.lookup f1 = some ⟨oc1, od1, .func (PySem.W.fnOf "with_terms" "with_terms" (defArgs s_with_terms) (defBody s_with_terms) (defScope s_with_terms) .none kV1 dc1 pm1 an1 cd1 ct1), sl1⟩) (c1 : PySem.W.codeIn K cd1 "with_terms" = true) (k1 : PySem.W.keepIn K (.ref f1) = true)
    {f2 : Addr} {oc2 : Value} {od2 an2 : Option Addr} {sl2 : Array (Option Value)} {kV2 dc2 pm2 cd2 ct2 : Value}
    (a2 : PySem.W.nsIn K mainGlobals "renamed_terms" = some (some (.ref f2))) (l2 : K.lookup f2 = some ⟨oc2, od2, .func (PySem.W.fnOf "renamed_terms" "renamed_terms" (defArgs s_renamed_terms) (defBody s_renamed_terms) (defScope s_renamed_terms) .none kV2 dc2 pm2 an2 cd2 ct2), sl2⟩) (c2 : PySem.W.codeIn K cd2 "renamed_terms" = true) (k2 : PySem.W.keepIn K (.ref f2) = true)
    {f3 : Addr} {oc3 : Value} {od3 an3 : Option Addr} {sl3 : Array (Option Value)} {kV3 dc3 pm3 cd3 ct3 : Value}
    (a3 : PySem.W.nsIn K mainGlobals "renamed" = some (some (.ref f3))) (l3 : K.lookup f3 = some ⟨oc3, od3, .func (PySem.W.fnOf "renamed" "renamed" (defArgs s_renamed) (defBody s_renamed) (defScope s_renamed) .none kV3 dc3 pm3 an3 cd3 ct3), sl3⟩) (c3 : PySem.W.codeIn K cd3 "renamed" = true) (k3 : PySem.W.keepIn K (.ref f3) = true)
    {f4 : Addr} {oc4 : Value} {od4 an4 : Option Addr} {sl4 : Array (Option Value)} {kV4 dc4 pm4 cd4 ct4 : Value}
    (a4 : PySem.W.nsIn K mainGlobals "_law_draws" = some (some (.ref f4))) (l4 : K.lookup f4 = some ⟨oc4, od4, .func (PySem.W.fnOf "_law_draws" "_law_draws" (defArgs s_l_draws) (defBody s_l_draws) (defScope s_l_draws) .none kV4 dc4 pm4 an4 cd4 ct4), sl4⟩) (c4 : PySem.W.codeIn K cd4 "_law_draws" = true) (k4 : PySem.W.keepIn K (.ref f4) = true)
    {f5 : Addr} {oc5 : Value} {od5 an5 : Option Addr} {sl5 : Array (Option Value)} {kV5 dc5 pm5 cd5 ct5 : Value}
    (a5 : PySem.W.nsIn K mainGlobals "_law_take" = some (some (.ref f5))) (l5 : K.lookup f5 = some ⟨oc5, od5, .func (PySem.W.fnOf "_law_take" "_law_take" (defArgs s_l_take) (defBody s_l_take) (defScope s_l_take) .none kV5 dc5 pm5 an5 cd5 ct5), sl5⟩) (c5 : PySem.W.codeIn K cd5 "_law_take" = true) (k5 : PySem.W.keepIn K (.ref f5) = true)
    {f6 : Addr} {oc6 : Value} {od6 an6 : Option Addr} {sl6 : Array (Option Value)} {kV6 dc6 pm6 cd6 ct6 : Value}
    (a6 : PySem.W.nsIn K mainGlobals "_law_pick" = some (some (.ref f6))) (l6 : K.lookup f6 = some ⟨oc6, od6, .func (PySem.W.fnOf "_law_pick" "_law_pick" (defArgs s_l_pick) (defBody s_l_pick) (defScope s_l_pick) .none kV6 dc6 pm6 an6 cd6 ct6), sl6⟩) (c6 : PySem.W.codeIn K cd6 "_law_pick" = true) (k6 : PySem.W.keepIn K (.ref f6) = true)
    {f7 : Addr} {oc7 : Value} {od7 an7 : Option Addr} {sl7 : Array (Option Value)} {kV7 dc7 pm7 cd7 ct7 : Value}
    (a7 : PySem.W.nsIn K mainGlobals "_law_same" = some (some (.ref f7))) (l7 : K.lookup f7 = some ⟨oc7, od7, .func (PySem.W.fnOf "_law_same" "_law_same" (defArgs s_l_same) (defBody s_l_same) (defScope s_l_same) .none kV7 dc7 pm7 an7 cd7 ct7), sl7⟩) (c7 : PySem.W.codeIn K cd7 "_law_same" = true) (k7 : PySem.W.keepIn K (.ref f7) = true)
    {f8 : Addr} {oc8 : Value} {od8 an8 : Option Addr} {sl8 : Array (Option Value)} {kV8 dc8 pm8 cd8 ct8 : Value}
    (a8 : PySem.W.nsIn K mainGlobals "_law_words" = some (some (.ref f8))) (l8 : K.lookup f8 = some ⟨oc8, od8, .func (PySem.W.fnOf "_law_words" "_law_words" (defArgs s_l_words) (defBody s_l_words) (defScope s_l_words) .none kV8 dc8 pm8 an8 cd8 ct8), sl8⟩) (c8 : PySem.W.codeIn K cd8 "_law_words" = true) (k8 : PySem.W.keepIn K (.ref f8) = true)
    {f9 : Addr} {oc9 : Value} {od9 an9 : Option Addr} {sl9 : Array (Option Value)} {kV9 dc9 pm9 cd9 ct9 : Value}
    (a9 : PySem.W.nsIn K mainGlobals "_law_values" = some (some (.ref f9))) (l9 : K.lookup f9 = some ⟨oc9, od9, .func (PySem.W.fnOf "_law_values" "_law_values" (defArgs s_l_values) (defBody s_l_values) (defScope s_l_values) .none kV9 dc9 pm9 an9 cd9 ct9), sl9⟩) (c9 : PySem.W.codeIn K cd9 "_law_values" = true) (k9 : PySem.W.keepIn K (.ref f9) = true)
    {f10 : Addr} {oc10 : Value} {od10 an10 : Option Addr} {sl10 : Array (Option Value)} {kV10 dc10 pm10 cd10 ct10 : Value}
    (a10 : PySem.W.nsIn K mainGlobals "_law_schema" = some (some (.ref f10))) (l10 : K.lookup f10 = some ⟨oc10, od10, .func (PySem.W.fnOf "_law_schema" "_law_schema" (defArgs s_l_schema) (defBody s_l_schema) (defScope s_l_schema) .none kV10 dc10 pm10 an10 cd10 ct10), sl10⟩) (c10 : PySem.W.codeIn K cd10 "_law_schema" = true) (k10 : PySem.W.keepIn K (.ref f10) = true)
    {f11 : Addr} {oc11 : Value} {od11 an11 : Option Addr} {sl11 : Array (Option Value)} {kV11 dc11 pm11 cd11 ct11 : Value}
    (a11 : PySem.W.nsIn K mainGlobals "_law_how" = some (some (.ref f11))) (l11 : K.lookup f11 = some ⟨oc11, od11, .func (PySem.W.fnOf "_law_how" "_law_how" (defArgs s_l_how) (defBody s_l_how) (defScope s_l_how) .none kV11 dc11 pm11 an11 cd11 ct11), sl11⟩) (c11 : PySem.W.codeIn K cd11 "_law_how" = true) (k11 : PySem.W.keepIn K (.ref f11) = true)
    {f12 : Addr} {oc12 : Value} {od12 an12 : Option Addr} {sl12 : Array (Option Value)} {kV12 dc12 pm12 cd12 ct12 : Value}
    (a12 : PySem.W.nsIn K mainGlobals "_law_term" = some (some (.ref f12))) (l12 : K.lookup f12 = some ⟨oc12, od12, .func (PySem.W.fnOf "_law_term" "_law_term" (defArgs s_l_term) (defBody s_l_term) (defScope s_l_term) .none kV12 dc12 pm12 an12 cd12 ct12), sl12⟩) (c12 : PySem.W.codeIn K cd12 "_law_term" = true) (k12 : PySem.W.keepIn K (.ref f12) = true)
    {f13 : Addr} {oc13 : Value} {od13 an13 : Option Addr} {sl13 : Array (Option Value)} {kV13 dc13 pm13 cd13 ct13 : Value}
    (a13 : PySem.W.nsIn K mainGlobals "_law_atom" = some (some (.ref f13))) (l13 : K.lookup f13 = some ⟨oc13, od13, .func (PySem.W.fnOf "_law_atom" "_law_atom" (defArgs s_l_atom) (defBody s_l_atom) (defScope s_l_atom) .none kV13 dc13 pm13 an13 cd13 ct13), sl13⟩) (c13 : PySem.W.codeIn K cd13 "_law_atom" = true) (k13 : PySem.W.keepIn K (.ref f13) = true)
    {f14 : Addr} {oc14 : Value} {od14 an14 : Option Addr} {sl14 : Array (Option Value)} {kV14 dc14 pm14 cd14 ct14 : Value}
    (a14 : PySem.W.nsIn K mainGlobals "_law_bound" = some (some (.ref f14))) (l14 : K.lookup f14 = some ⟨oc14, od14, .func (PySem.W.fnOf "_law_bound" "_law_bound" (defArgs s_l_bound) (defBody s_l_bound) (defScope s_l_bound) .none kV14 dc14 pm14 an14 cd14 ct14), sl14⟩) (c14 : PySem.W.codeIn K cd14 "_law_bound" = true) (k14 : PySem.W.keepIn K (.ref f14) = true)
    {f15 : Addr} {oc15 : Value} {od15 an15 : Option Addr} {sl15 : Array (Option Value)} {kV15 dc15 pm15 cd15 ct15 : Value}
    (a15 : PySem.W.nsIn K mainGlobals "_law_safe" = some (some (.ref f15))) (l15 : K.lookup f15 = some ⟨oc15, od15, .func (PySem.W.fnOf "_law_safe" "_law_safe" (defArgs s_l_safe) (defBody s_l_safe) (defScope s_l_safe) .none kV15 dc15 pm15 an15 cd15 ct15), sl15⟩) (c15 : PySem.W.codeIn K cd15 "_law_safe" = true) (k15 : PySem.W.keepIn K (.ref f15) = true)
    {f16 : Addr} {oc16 : Value} {od16 an16 : Option Addr} {sl16 : Array (Option Value)} {kV16 dc16 pm16 cd16 ct16 : Value}
    (a16 : PySem.W.nsIn K mainGlobals "_law_rule" = some (some (.ref f16))) (l16 : K.lookup f16 = some ⟨oc16, od16, .func (PySem.W.fnOf "_law_rule" "_law_rule" (defArgs s_l_rule) (defBody s_l_rule) (defScope s_l_rule) .none kV16 dc16 pm16 an16 cd16 ct16), sl16⟩) (c16 : PySem.W.codeIn K cd16 "_law_rule" = true) (k16 : PySem.W.keepIn K (.ref f16) = true)
    {f17 : Addr} {oc17 : Value} {od17 an17 : Option Addr} {sl17 : Array (Option Value)} {kV17 dc17 pm17 cd17 ct17 : Value}
    (a17 : PySem.W.nsIn K mainGlobals "_law_two_ring" = some (some (.ref f17))) (l17 : K.lookup f17 = some ⟨oc17, od17, .func (PySem.W.fnOf "_law_two_ring" "_law_two_ring" (defArgs s_l_two_ring) (defBody s_l_two_ring) (defScope s_l_two_ring) .none kV17 dc17 pm17 an17 cd17 ct17), sl17⟩) (c17 : PySem.W.codeIn K cd17 "_law_two_ring" = true) (k17 : PySem.W.keepIn K (.ref f17) = true)
    {f18 : Addr} {oc18 : Value} {od18 an18 : Option Addr} {sl18 : Array (Option Value)} {kV18 dc18 pm18 cd18 ct18 : Value}
    (a18 : PySem.W.nsIn K mainGlobals "_law_rules" = some (some (.ref f18))) (l18 : K.lookup f18 = some ⟨oc18, od18, .func (PySem.W.fnOf "_law_rules" "_law_rules" (defArgs s_l_rules) (defBody s_l_rules) (defScope s_l_rules) .none kV18 dc18 pm18 an18 cd18 ct18), sl18⟩) (c18 : PySem.W.codeIn K cd18 "_law_rules" = true) (k18 : PySem.W.keepIn K (.ref f18) = true)
    {f19 : Addr} {oc19 : Value} {od19 an19 : Option Addr} {sl19 : Array (Option Value)} {kV19 dc19 pm19 cd19 ct19 : Value}
    (a19 : PySem.W.nsIn K mainGlobals "_law_words_of" = some (some (.ref f19))) (l19 : K.lookup f19 = some ⟨oc19, od19, .func (PySem.W.fnOf "_law_words_of" "_law_words_of" (defArgs s_l_words_of) (defBody s_l_words_of) (defScope s_l_words_of) .none kV19 dc19 pm19 an19 cd19 ct19), sl19⟩) (c19 : PySem.W.codeIn K cd19 "_law_words_of" = true) (k19 : PySem.W.keepIn K (.ref f19) = true)
    {f20 : Addr} {oc20 : Value} {od20 an20 : Option Addr} {sl20 : Array (Option Value)} {kV20 dc20 pm20 cd20 ct20 : Value}
    (a20 : PySem.W.nsIn K mainGlobals "_law_new_term" = some (some (.ref f20))) (l20 : K.lookup f20 = some ⟨oc20, od20, .func (PySem.W.fnOf "_law_new_term" "_law_new_term" (defArgs s_l_new_term) (defBody s_l_new_term) (defScope s_l_new_term) .none kV20 dc20 pm20 an20 cd20 ct20), sl20⟩) (c20 : PySem.W.codeIn K cd20 "_law_new_term" = true) (k20 : PySem.W.keepIn K (.ref f20) = true)
    {f21 : Addr} {oc21 : Value} {od21 an21 : Option Addr} {sl21 : Array (Option Value)} {kV21 dc21 pm21 cd21 ct21 : Value}
    (a21 : PySem.W.nsIn K mainGlobals "_law_new_rule" = some (some (.ref f21))) (l21 : K.lookup f21 = some ⟨oc21, od21, .func (PySem.W.fnOf "_law_new_rule" "_law_new_rule" (defArgs s_l_new_rule) (defBody s_l_new_rule) (defScope s_l_new_rule) .none kV21 dc21 pm21 an21 cd21 ct21), sl21⟩) (c21 : PySem.W.codeIn K cd21 "_law_new_rule" = true) (k21 : PySem.W.keepIn K (.ref f21) = true)
    {f22 : Addr} {oc22 : Value} {od22 an22 : Option Addr} {sl22 : Array (Option Value)} {kV22 dc22 pm22 cd22 ct22 : Value}
    (a22 : PySem.W.nsIn K mainGlobals "_law_shuffled" = some (some (.ref f22))) (l22 : K.lookup f22 = some ⟨oc22, od22, .func (PySem.W.fnOf "_law_shuffled" "_law_shuffled" (defArgs s_l_shuffled) (defBody s_l_shuffled) (defScope s_l_shuffled) .none kV22 dc22 pm22 an22 cd22 ct22), sl22⟩) (c22 : PySem.W.codeIn K cd22 "_law_shuffled" = true) (k22 : PySem.W.keepIn K (.ref f22) = true)
    {f23 : Addr} {oc23 : Value} {od23 an23 : Option Addr} {sl23 : Array (Option Value)} {kV23 dc23 pm23 cd23 ct23 : Value}
    (a23 : PySem.W.nsIn K mainGlobals "_law_is_renamed" = some (some (.ref f23))) (l23 : K.lookup f23 = some ⟨oc23, od23, .func (PySem.W.fnOf "_law_is_renamed" "_law_is_renamed" (defArgs s_l_is_renamed) (defBody s_l_is_renamed) (defScope s_l_is_renamed) .none kV23 dc23 pm23 an23 cd23 ct23), sl23⟩) (c23 : PySem.W.codeIn K cd23 "_law_is_renamed" = true) (k23 : PySem.W.keepIn K (.ref f23) = true)
    {f24 : Addr} {oc24 : Value} {od24 an24 : Option Addr} {sl24 : Array (Option Value)} {kV24 dc24 pm24 cd24 ct24 : Value}
    (a24 : PySem.W.nsIn K mainGlobals "_law_wide" = some (some (.ref f24))) (l24 : K.lookup f24 = some ⟨oc24, od24, .func (PySem.W.fnOf "_law_wide" "_law_wide" (defArgs s_l_wide) (defBody s_l_wide) (defScope s_l_wide) .none kV24 dc24 pm24 an24 cd24 ct24), sl24⟩) (c24 : PySem.W.codeIn K cd24 "_law_wide" = true) (k24 : PySem.W.keepIn K (.ref f24) = true)
    {f25 : Addr} {oc25 : Value} {od25 an25 : Option Addr} {sl25 : Array (Option Value)} {kV25 dc25 pm25 cd25 ct25 : Value}
    (a25 : PySem.W.nsIn K mainGlobals "law" = some (some (.ref f25))) (l25 : K.lookup f25 = some ⟨oc25, od25, .func (PySem.W.fnOf "law" "law" (defArgs s_law) (defBody s_law) (defScope s_law) .none kV25 dc25 pm25 an25 cd25 ct25), sl25⟩) (c25 : PySem.W.codeIn K cd25 "law" = true) (k25 : PySem.W.keepIn K (.ref f25) = true)
    (z_bool : PySem.W.nsIn K mainGlobals "bool" = some none)    (z_int : PySem.W.nsIn K mainGlobals "int" = some none)    (z_isinstance : PySem.W.nsIn K mainGlobals "isinstance" = some none)    (z_len : PySem.W.nsIn K mainGlobals "len" = some none)    (z_list : PySem.W.nsIn K mainGlobals "list" = some none)    (z_max : PySem.W.nsIn K mainGlobals "max" = some none)    (z_range : PySem.W.nsIn K mainGlobals "range" = some none)    (z_set : PySem.W.nsIn K mainGlobals "set" = some none)    (z_sorted : PySem.W.nsIn K mainGlobals "sorted" = some none)    (z_str : PySem.W.nsIn K mainGlobals "str" = some none)    (z_tuple : PySem.W.nsIn K mainGlobals "tuple" = some none) :
    ∃ fd : FuncData, (∀ (s : Shared) (v : Value), BindsTo s fd ⟨[v], []⟩ [("script", v)]) ∧ ∀ base : Heap, K.In base → base.Ns mainGlobals mg → FnOk P w K mg base CX0 15 fa fd ["script"] (upSp K sp_law) := by
  have e := hfa.symm.trans (PySem.W.mg_of X G a25)
  cases e
  have D_terms_of : Def K mg "terms_of" s_terms_of ["literal"] := dm_terms_of X G a0 l0 c0 k0
  have D_with_terms : Def K mg "with_terms" s_with_terms ["literal", "terms"] := dm_with_terms X G a1 l1 c1 k1
  have D_renamed_terms : Def K mg "renamed_terms" s_renamed_terms ["terms", "words"] := dm_renamed_terms X G a2 l2 c2 k2
  have D_renamed : Def K mg "renamed" s_renamed ["rule", "words"] := dm_renamed X G a3 l3 c3 k3
  have D_l_draws : Def K mg "_law_draws" s_l_draws ["script", "many"] := dm_l_draws X G a4 l4 c4 k4
  have D_l_take : Def K mg "_law_take" s_l_take ["draws", "many"] := dm_l_take X G a5 l5 c5 k5
  have D_l_pick : Def K mg "_law_pick" s_l_pick ["draws", "row"] := dm_l_pick X G a6 l6 c6 k6
  have D_l_same : Def K mg "_law_same" s_l_same ["actual", "due"] := dm_l_same X G a7 l7 c7 k7
  have D_l_words : Def K mg "_law_words" s_l_words ["draws", "many"] := dm_l_words X G a8 l8 c8 k8
  have D_l_values : Def K mg "_law_values" s_l_values ["draws", "words"] := dm_l_values X G a9 l9 c9 k9
  have D_l_schema : Def K mg "_law_schema" s_l_schema ["draws", "words"] := dm_l_schema X G a10 l10 c10 k10
  have D_l_how : Def K mg "_law_how" s_l_how ["draws"] := dm_l_how X G a11 l11 c11 k11
  have D_l_term : Def K mg "_law_term" s_l_term ["draws", "variables", "values"] := dm_l_term X G a12 l12 c12 k12
  have D_l_atom : Def K mg "_law_atom" s_l_atom ["draws", "places", "variables", "values", "how"] := dm_l_atom X G a13 l13 c13 k13
  have D_l_bound : Def K mg "_law_bound" s_l_bound ["body"] := dm_l_bound X G a14 l14 c14 k14
  have D_l_safe : Def K mg "_law_safe" s_l_safe ["draws", "term", "bound", "values"] := dm_l_safe X G a15 l15 c15 k15
  have D_l_rule : Def K mg "_law_rule" s_l_rule ["draws", "name", "width", "places", "ring", "variables", "values", "many"] := dm_l_rule X G a16 l16 c16 k16
  have D_l_two_ring : Def K mg "_law_two_ring" s_l_two_ring ["draws", "rules", "places", "variables", "values"] := dm_l_two_ring X G a17 l17 c17 k17
  have D_l_rules : Def K mg "_law_rules" s_l_rules ["draws", "schema", "names", "variables", "values", "many"] := dm_l_rules X G a18 l18 c18 k18
  have D_l_words_of : Def K mg "_law_words_of" s_l_words_of ["rule"] := dm_l_words_of X G a19 l19 c19 k19
  have D_l_new_term : Def K mg "_law_new_term" s_l_new_term ["term", "pairs"] := dm_l_new_term X G a20 l20 c20 k20
  have D_l_new_rule : Def K mg "_law_new_rule" s_l_new_rule ["rule", "pairs"] := dm_l_new_rule X G a21 l21 c21 k21
  have D_l_shuffled : Def K mg "_law_shuffled" s_l_shuffled ["draws", "row"] := dm_l_shuffled X G a22 l22 c22 k22
  have D_l_is_renamed : Def K mg "_law_is_renamed" s_l_is_renamed ["draws", "rule", "pairs"] := dm_l_is_renamed X G a23 l23 c23 k23
  have D_l_wide : Def K mg "_law_wide" s_l_wide ["draws", "words", "values"] := dm_l_wide X G a24 l24 c24 k24
  have D_law : Def K mg "law" s_law ["script"] := dm_law X G a25 l25 c25 k25
  have B : Bi K mg := ⟨PySem.W.mg_none_of X G z_bool, PySem.W.mg_none_of X G z_int, PySem.W.mg_none_of X G z_isinstance, PySem.W.mg_none_of X G z_len, PySem.W.mg_none_of X G z_list, PySem.W.mg_none_of X G z_max, PySem.W.mg_none_of X G z_range, PySem.W.mg_none_of X G z_set, PySem.W.mg_none_of X G z_sorted, PySem.W.mg_none_of X G z_str, PySem.W.mg_none_of X G z_tuple⟩
  have I : Im mg := ⟨True.intro⟩
  refine ⟨PySem.W.fnOf "law" "law" (defArgs s_law) (defBody s_law) (defScope s_law) .none kV25 dc25 pm25 an25 cd25 ct25, fun s v => .of_eq rfl, fun base _ _ => ?_⟩
  have C_terms_of := ok_terms_of (P := P) (w := w) (base := base) D_terms_of B I 
  have C_with_terms := ok_with_terms (P := P) (w := w) (base := base) D_with_terms B I 
  have C_renamed_terms := ok_renamed_terms (P := P) (w := w) (base := base) D_renamed_terms B I 
  have C_renamed := ok_renamed (P := P) (w := w) (base := base) D_renamed B I C_terms_of C_with_terms C_renamed_terms
  have C_l_draws := ok_l_draws (P := P) (w := w) (base := base) D_l_draws B I 
  have C_l_take := ok_l_take (P := P) (w := w) (base := base) D_l_take B I 
  have C_l_pick := ok_l_pick (P := P) (w := w) (base := base) D_l_pick B I C_l_take
  have C_l_same := ok_l_same (P := P) (w := w) (base := base) D_l_same B I 
  have C_l_words := ok_l_words (P := P) (w := w) (base := base) D_l_words B I C_l_take
  have C_l_values := ok_l_values (P := P) (w := w) (base := base) D_l_values B I C_l_take C_l_pick
  have C_l_schema := ok_l_schema (P := P) (w := w) (base := base) D_l_schema B I C_l_take C_l_pick
  have C_l_how := ok_l_how (P := P) (w := w) (base := base) D_l_how B I C_l_take
  have C_l_term := ok_l_term (P := P) (w := w) (base := base) D_l_term B I C_l_take C_l_pick
  have C_l_atom := ok_l_atom (P := P) (w := w) (base := base) D_l_atom B I C_l_pick C_l_term
  have C_l_bound := ok_l_bound (P := P) (w := w) (base := base) D_l_bound B I 
  have C_l_safe := ok_l_safe (P := P) (w := w) (base := base) D_l_safe B I C_l_pick
  have C_l_rule := ok_l_rule (P := P) (w := w) (base := base) D_l_rule B I C_l_take C_l_pick C_l_how C_l_term C_l_atom C_l_bound C_l_safe
  have C_l_two_ring := ok_l_two_ring (P := P) (w := w) (base := base) D_l_two_ring B I C_l_rule
  have C_l_rules := ok_l_rules (P := P) (w := w) (base := base) D_l_rules B I C_l_take C_l_rule C_l_two_ring
  have C_l_words_of := ok_l_words_of (P := P) (w := w) (base := base) D_l_words_of B I 
  have C_l_new_term := ok_l_new_term (P := P) (w := w) (base := base) D_l_new_term B I 
  have C_l_new_rule := ok_l_new_rule (P := P) (w := w) (base := base) D_l_new_rule B I C_l_new_term
  have C_l_shuffled := ok_l_shuffled (P := P) (w := w) (base := base) D_l_shuffled B I C_l_take
  have C_l_is_renamed := ok_l_is_renamed (P := P) (w := w) (base := base) D_l_is_renamed B I C_renamed C_l_same C_l_new_rule C_l_shuffled
  have C_l_wide := ok_l_wide (P := P) (w := w) (base := base) D_l_wide B I C_l_take C_l_how C_l_term C_l_atom C_l_bound C_l_safe
  exact ok_law (fun_mk (st := s_law) l25 c25 k25) B I C_l_draws C_l_words C_l_values C_l_schema C_l_rules C_l_words_of C_l_shuffled C_l_is_renamed C_l_wide
end Law
open PySem PySem.W PyProof.Rows
set_option maxHeartbeats 0 in
theorem PySem.Challenge.cw_doubtbook_k18_renamed_rules_holds : PySem.Challenge.rw_doubtbook_k18_renamed_rules.Holds := by
  w_on; o_law; k_head; (case hw => w_witness2)
  k_fill
  refine L2.walk_of (l := PySem.Challenge.rw_doubtbook_k18_renamed_rules) (n := 63) (k := 15) (x := "script") (CX := fun _ => L2.CX0) (sp := fun w => DL.upSp _ DL.sp_law) rfl (by decide) rfl ⟨rfl, by decide, by decide⟩ (fun w h Y => PySem.W.kIn_of Y) ?F (fun w H a ns hl hO hS => DL.law_start hl hO hS) (fun _ _ _ _ _ h => h)
  case F =>
    intro w mg fa h KX G hmg
    refine' Law.all_mk KX G hmg ?a0 ?l0 ?c0 ?k0 ?a1 ?l1 ?c1 ?k1 ?a2 ?l2 ?c2 ?k2 ?a3 ?l3 ?c3 ?k3 ?a4 ?l4 ?c4 ?k4 ?a5 ?l5 ?c5 ?k5 ?a6 ?l6 ?c6 ?k6 ?a7 ?l7 ?c7 ?k7 ?a8 ?l8 ?c8 ?k8 ?a9 ?l9 ?c9 ?k9 ?a10 ?l10 ?c10 ?k10 ?a11 ?l11 ?c11 ?k11 ?a12 ?l12 ?c12 ?k12 ?a13 ?l13 ?c13 ?k13 ?a14 ?l14 ?c14 ?k14 ?a15 ?l15 ?c15 ?k15 ?a16 ?l16 ?c16 ?k16 ?a17 ?l17 ?c17 ?k17 ?a18 ?l18 ?c18 ?k18 ?a19 ?l19 ?c19 ?k19 ?a20 ?l20 ?c20 ?k20 ?a21 ?l21 ?c21 ?k21 ?a22 ?l22 ?c22 ?k22 ?a23 ?l23 ?c23 ?k23 ?a24 ?l24 ?c24 ?k24 ?a25 ?l25 ?c25 ?k25 ?z_bool ?z_int ?z_isinstance ?z_len ?z_list ?z_max ?z_range ?z_set ?z_sorted ?z_str ?z_tuple
    (case a0 => k_is); (case l0 => k_is); (case c0 => k_is); (case k0 => k_is); (case a1 => k_is); (case l1 => k_is); (case c1 => k_is); (case k1 => k_is); (case a2 => k_is); (case l2 => k_is); (case c2 => k_is); (case k2 => k_is); (case a3 => k_is); (case l3 => k_is); (case c3 => k_is); (case k3 => k_is); (case a4 => k_is); (case l4 => k_is); (case c4 => k_is); (case k4 => k_is); (case a5 => k_is); (case l5 => k_is); (case c5 => k_is); (case k5 => k_is); (case a6 => k_is); (case l6 => k_is); (case c6 => k_is); (case k6 => k_is); (case a7 => k_is); (case l7 => k_is); (case c7 => k_is); (case k7 => k_is); (case a8 => k_is); (case l8 => k_is); (case c8 => k_is); (case k8 => k_is); (case a9 => k_is); (case l9 => k_is); (case c9 => k_is); (case k9 => k_is); (case a10 => k_is); (case l10 => k_is); (case c10 => k_is); (case k10 => k_is); (case a11 => k_is); (case l11 => k_is); (case c11 => k_is); (case k11 => k_is); (case a12 => k_is); (case l12 => k_is); (case c12 => k_is); (case k12 => k_is); (case a13 => k_is); (case l13 => k_is); (case c13 => k_is); (case k13 => k_is); (case a14 => k_is); (case l14 => k_is); (case c14 => k_is); (case k14 => k_is); (case a15 => k_is); (case l15 => k_is); (case c15 => k_is); (case k15 => k_is); (case a16 => k_is); (case l16 => k_is); (case c16 => k_is); (case k16 => k_is); (case a17 => k_is); (case l17 => k_is); (case c17 => k_is); (case k17 => k_is); (case a18 => k_is); (case l18 => k_is); (case c18 => k_is); (case k18 => k_is); (case a19 => k_is); (case l19 => k_is); (case c19 => k_is); (case k19 => k_is); (case a20 => k_is); (case l20 => k_is); (case c20 => k_is); (case k20 => k_is); (case a21 => k_is); (case l21 => k_is); (case c21 => k_is); (case k21 => k_is); (case a22 => k_is); (case l22 => k_is); (case c22 => k_is); (case k22 => k_is); (case a23 => k_is); (case l23 => k_is); (case c23 => k_is); (case k23 => k_is); (case a24 => k_is); (case l24 => k_is); (case c24 => k_is); (case k24 => k_is); (case a25 => k_is); (case l25 => k_is); (case c25 => k_is); (case k25 => k_is); (case z_bool => k_is); (case z_int => k_is); (case z_isinstance => k_is); (case z_len => k_is); (case z_list => k_is); (case z_max => k_is); (case z_range => k_is); (case z_set => k_is); (case z_sorted => k_is); (case z_str => k_is); (case z_tuple => k_is)
