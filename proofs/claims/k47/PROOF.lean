import PyProof.Rows.All
import Wide.All
import OpenK.AllK
import Wide.FinOn
import HandS.ForMost
import HandS.Wide
import HandS.WideBits
import HandS.Gcd
import HandS.Deep
import HandS.IsInst
import KE.KeyNested
import HandS.Lambda
import HandS.TupAny
import HandS.Zip
import HandS.Rev
import HandS.Comp
import HandS.Conv
import HandS.Iter
import HandS.Text
import KE.SortData
import PyProof.StrOps2
import PyProof.Draws
import PyProof.EnumMake
import KE.SortKeyHeap
import HandS.SortKw
import KE.KSortTup
import HandS.Exc
import HandS.TupMul
import HandS.DictComp
import HandS.Dict
import KE.DatumOrd
import PyProof.Rows.Tup
import PyProof.FString3
import PyProof.Rows.StrIntSpec
import PyProof.Rows.RegReprOcc
import PySem.Challenge.RW_doubtbook_k47_cuts
set_option Elab.async false
set_option linter.all false
set_option maxRecDepth 100000
/-! DL: readings over deep values (D): tuples and frozen lists are plain data, the heap holds only what is still being changed. -/
namespace DL
open PySem PySem.Spec PyProof.Rows L2

inductive D where
  | non
  | bl (b : Bool)
  | int (i : Int)
  | str (x : Str)
  | tup (xs : List D)
  | lst (xs : List D)
  | dct (kvs : List (D × D))
  | ref (a : Addr)
  | ty (n : String)
instance : Inhabited D := ⟨.non⟩
/-- what a mutable address holds -/
inductive DO where
  | lst (xs : List D)
  | dct (w : World) (kvs : List (D × D))
  /-- a table of code objects, all of the name q -/
  | tab (q : Str)
  /-- a dict whose keys are ints and texts -/
  | dk (kvs : List (D × D))
abbrev SL := L2.St
abbrev DSt := List (Option D)
abbrev DM := Addr → Option DO
def mput (M : DM) (a : Addr) (o : DO) : DM := fun b => if b = a then some o else M b
def mdel (M : DM) (a : Addr) : DM := fun b => if b = a then none else M b
theorem mput_same {M : DM} {a : Addr} {o : DO} : mput M a o a = some o := by
  unfold mput
  simp
theorem mput_ne {M : DM} {a b : Addr} {o : DO} (h : b ≠ a) : mput M a o b = M b := by
  unfold mput
  simp [h]
theorem mput_mput {M : DM} {a : Addr} {o o' : DO} : mput (mput M a o) a o' = mput M a o' := by
  funext b
  unfold mput
  split <;> rfl
theorem mdel_mput {M : DM} {a : Addr} {o : DO} (h : M a = none) : mdel (mput M a o) a = M := by
  funext b
  unfold mdel mput
  split
  · next e => rw [e, h]
  · rfl
theorem mput_comm {M : DM} {a b : Addr} {o o' : DO} (h : a ≠ b) : mput (mput M a o) b o' = mput (mput M b o') a o := by
  funext c
  unfold mput
  by_cases h1 : c = a
  · have h2 : ¬ c = b := fun z => h (h1.symm.trans z)
    simp only [if_pos h1, if_neg h2]
  · simp only [if_neg h1]
/-- M is part of N -/
def MLe (M N : DM) : Prop := ∀ a o, M a = some o → N a = some o
theorem MLe.refl (M : DM) : MLe M M := fun _ _ h => h
theorem MLe.put {M N : DM} {a : Addr} {o : DO} (l : MLe M N) (h : M a = none) : MLe M (mput N a o) := fun b p e => by
  have : b ≠ a := fun z => by
    rw [z, h] at e
    cases e
  rw [mput_ne this]
  exact l b p e
theorem MLe.both {M N : DM} {a : Addr} {o : DO} (l : MLe M N) : MLe (mput M a o) (mput N a o) := fun b p e => by
  by_cases h : b = a
  · subst h
    rw [mput_same] at e ⊢
    exact e
  · rw [mput_ne h] at e ⊢
    exact l b p e

/-- a list that nobody will change -/
def FrzL (K : PySem.W.Frag) (H : Hp) (a : Addr) (vs : List V) : Prop :=
  (∃ o, H a = some (.frz o (.lst vs))) ∨
  ∃ (o : Obj) (its : Array Value) (n : Nat), K.lookup a = some o ∧ o.cls = .type "list" ∧ o.dict = none ∧
    o.data = .seq its n ∧ its.size ≤ sizeLine ∧ Vals vs its.toList
theorem FrzL.seq {K : PySem.W.Frag} {H : Hp} {a : Addr} {vs : List V} (h : FrzL K H a vs) : SqL K H a vs := by
  rcases h with ⟨o, h⟩ | h
  · exact .inl (.inr ⟨o, h⟩)
  · exact .inr h

/-- tuples and frozen things stay -/
structure Grow (H H' : Hp) : Prop where
  tups : ∀ b xs, H b = some (.tup xs) → H' b = some (.tup xs)
  frzs : ∀ b o u, H b = some (.frz o u) → H' b = some (.frz o u)
  cods : ∀ b q, H b = some (LamX.CodeO b q) → H' b = some (LamX.CodeO b q)
theorem Grow.refl (H : Hp) : Grow H H := ⟨fun _ _ h => h, fun _ _ _ h => h, fun _ _ h => h⟩
theorem Grow.trans {H H1 H2 : Hp} (a : Grow H H1) (b : Grow H1 H2) : Grow H H2 :=
  ⟨fun c xs h => b.tups c xs (a.tups c xs h), fun c o u h => b.frzs c o u (a.frzs c o u h), fun c q h => b.cods c q (a.cods c q h)⟩
theorem Grow.new {H : Hp} {p : Addr} {o : HO} (h : H p = none) : Grow H (upd H p o) :=
  ⟨fun b xs e => by rw [upd_ne (ne_of_none e h)]; exact e, fun b q u e => by rw [upd_ne (ne_of_none e h)]; exact e, fun b q e => by rw [upd_ne (ne_of_none e h)]; exact e⟩
theorem Grow.put {H : Hp} {p : Addr} {vs : List V} {o : HO} (h : H p = some (.lst vs)) : Grow H (upd H p o) :=
  ⟨fun b xs e => by rw [upd_ne (ne_of e h (by intro z; cases z))]; exact e,
   fun b q u e => by rw [upd_ne (ne_of e h (by intro z; cases z))]; exact e, fun b q e => by rw [upd_ne (ne_of e h (by intro z; cases z))]; exact e⟩
theorem FrzL.grow {K : PySem.W.Frag} {H H' : Hp} {a : Addr} {vs : List V} (h : FrzL K H a vs) (g : Grow H H') : FrzL K H' a vs := by
  rcases h with ⟨o, h⟩ | h
  · exact .inl ⟨o, g.frzs _ _ _ h⟩
  · exact .inr h
theorem sqT_grow {K : PySem.W.Frag} {H H' : Hp} {a : Addr} {vs : List V} (h : SqT K H a vs) (g : Grow H H') : SqT K H' a vs := by
  rcases h with (h | ⟨o, h⟩) | h
  · exact .inl (.inl (g.tups _ _ h))
  · exact .inl (.inr ⟨o, g.frzs _ _ _ h⟩)
  · exact .inr h

def kD : Key → D
  | .inl i => .int i
  | .inr x => .str x
mutual
inductive Rep (K : PySem.W.Frag) (H : Hp) : D → V → Prop
  | non : Rep K H .non .non
  | bl (b : Bool) : Rep K H (.bl b) (.bl b)
  | int (i : Int) : Rep K H (.int i) (.int i)
  | str (x : Str) : Rep K H (.str x) (.str x)
  | tup {xs : List D} {a : Addr} {vs : List V} : SqT K H a vs → vs.length ≤ sizeLine → RepL K H xs vs → Rep K H (.tup xs) (.ref a)
  | lst {xs : List D} {a : Addr} {vs : List V} : FrzL K H a vs → vs.length ≤ sizeLine → RepL K H xs vs → Rep K H (.lst xs) (.ref a)
  | ref (a : Addr) : Rep K H (.ref a) (.ref a)
  | ty (n : String) : Rep K H (.ty n) (.ty n)
  | dct {kvs : List (D × D)} {a : Addr} {o : Obj} {es : List (Key × V)} : H a = some (.frz o (.dK es)) → es.length ≤ sizeLine → RepK K H kvs es → Rep K H (.dct kvs) (.ref a)
inductive RepL (K : PySem.W.Frag) (H : Hp) : List D → List V → Prop
  | nil : RepL K H [] []
  | cons {d : D} {v : V} {ds : List D} {vs : List V} : Rep K H d v → RepL K H ds vs → RepL K H (d :: ds) (v :: vs)
/-- the pairs of a dict whose keys are ints and texts -/
inductive RepK (K : PySem.W.Frag) (H : Hp) : List (D × D) → List (Key × V) → Prop
  | nil : RepK K H [] []
  | cons {k : Key} {d : D} {v : V} {kvs : List (D × D)} {es : List (Key × V)} : Rep K H d v → RepK K H kvs es → RepK K H ((kD k, d) :: kvs) ((k, v) :: es)
end
section
variable {K : PySem.W.Frag} {H H' : Hp}
mutual
theorem Rep.grow {d : D} {v : V} (r : Rep K H d v) (g : Grow H H') : Rep K H' d v := match r with
  | .non => .non
  | .bl b => .bl b
  | .int i => .int i
  | .str x => .str x
  | .tup h z l => .tup (sqT_grow h g) z (l.grow g)
  | .lst h z l => .lst (h.grow g) z (l.grow g)
  | .ref a => .ref a
  | .ty n => .ty n
  | .dct h z l => .dct (g.frzs _ _ _ h) z (l.grow g)
theorem RepL.grow {ds : List D} {vs : List V} (r : RepL K H ds vs) (g : Grow H H') : RepL K H' ds vs := match r with
  | .nil => .nil
  | .cons h l => .cons (h.grow g) (l.grow g)
theorem RepK.grow {kvs : List (D × D)} {es : List (Key × V)} (r : RepK K H kvs es) (g : Grow H H') : RepK K H' kvs es := match r with
  | .nil => .nil
  | .cons h l => .cons (h.grow g) (l.grow g)
end
theorem RepL.length : ∀ {ds : List D} {vs : List V}, RepL K H ds vs → ds.length = vs.length
  | _, _, .nil => rfl
  | _, _, .cons _ l => congrArg (· + 1) l.length
theorem RepL.get : ∀ {ds : List D} {vs : List V} {i : Nat} {d : D}, RepL K H ds vs → ds[i]? = some d → ∃ v, vs[i]? = some v ∧ Rep K H d v
  | _, _, _, _, .nil, e => by simp at e
  | _, _, 0, _, .cons h _, e => by
    simp at e
    subst e
    exact ⟨_, rfl, h⟩
  | _, _, i + 1, d, .cons _ l, e => by
    obtain ⟨v, h1, h2⟩ := RepL.get (i := i) (d := d) l (by simpa using e)
    exact ⟨v, by simpa using h1, h2⟩
theorem RepL.get' : ∀ {ds : List D} {vs : List V} {i : Nat} {v : V}, RepL K H ds vs → vs[i]? = some v → ∃ d, ds[i]? = some d ∧ Rep K H d v
  | _, _, _, _, .nil, e => by simp at e
  | _, _, 0, _, .cons h _, e => by
    simp at e
    subst e
    exact ⟨_, rfl, h⟩
  | _, _, i + 1, d, .cons _ l, e => by
    obtain ⟨v, h1, h2⟩ := RepL.get' (i := i) (v := d) l (by simpa using e)
    exact ⟨v, by simpa using h1, h2⟩
theorem RepL.append : ∀ {ds es : List D} {vs ws : List V}, RepL K H ds vs → RepL K H es ws → RepL K H (ds ++ es) (vs ++ ws)
  | _, _, _, _, .nil, m => m
  | _, _, _, _, .cons h l, m => .cons h (l.append m)
theorem RepL.one {d : D} {v : V} (h : Rep K H d v) : RepL K H [d] [v] := .cons h .nil
theorem RepL.take : ∀ (n : Nat) {ds : List D} {vs : List V}, RepL K H ds vs → RepL K H (ds.take n) (vs.take n)
  | 0, _, _, _ => .nil
  | _ + 1, _, _, .nil => .nil
  | n + 1, _, _, .cons h l => .cons h (RepL.take n l)
theorem RepL.drop : ∀ (n : Nat) {ds : List D} {vs : List V}, RepL K H ds vs → RepL K H (ds.drop n) (vs.drop n)
  | 0, _, _, r => r
  | _ + 1, _, _, .nil => .nil
  | n + 1, _, _, .cons _ l => RepL.drop n l
theorem RepL.reverse : ∀ {ds : List D} {vs : List V}, RepL K H ds vs → RepL K H ds.reverse vs.reverse
  | _, _, .nil => .nil
  | _, _, .cons h l => by
    rw [List.reverse_cons, List.reverse_cons]
    exact l.reverse.append (.one h)
theorem RepL.dropLast {ds : List D} {vs : List V} (r : RepL K H ds vs) : RepL K H ds.dropLast vs.dropLast := by
  rw [List.dropLast_eq_take, List.dropLast_eq_take, r.length]
  exact r.take _
theorem RepL.set : ∀ {ds : List D} {vs : List V} (i : Nat) {d : D} {v : V}, RepL K H ds vs → Rep K H d v → RepL K H (ds.set i d) (vs.set i v)
  | _, _, _, _, _, .nil, _ => .nil
  | _, _, 0, _, _, .cons _ l, r => .cons r l
  | _, _, i + 1, _, _, .cons h l, r => .cons h (RepL.set i l r)
theorem RepL.eraseIdx : ∀ {ds : List D} {vs : List V} (i : Nat), RepL K H ds vs → RepL K H (ds.eraseIdx i) (vs.eraseIdx i)
  | _, _, _, .nil => .nil
  | _, _, 0, .cons _ l => l
  | _, _, i + 1, .cons h l => .cons h (RepL.eraseIdx i l)
theorem repL_ints : ∀ ns : List Int, RepL K H (ns.map D.int) (ns.map V.int)
  | [] => .nil
  | n :: ns => .cons (.int n) (repL_ints ns)
end

/-! ### dicts: the keys are tuples of whole numbers, texts, None and such tuples -/
mutual
def nk : D → NestedKey
  | .int i => .num i
  | .str x => .text x
  | .tup xs => .tup (nks xs)
  | .non => .none
  | .bl _ => .none
  | .lst _ => .none
  | .dct _ => .none
  | .ref _ => .none
  | .ty _ => .none
def nks : List D → List NestedKey
  | [] => []
  | x :: xs => nk x :: nks xs
end
mutual
/-- a key, or a part of one -/
def kOk : D → Bool
  | .int _ => true
  | .str _ => true
  | .tup xs => kOks xs
  | .non => true
  | .bl _ => false
  | .lst _ => false
  | .dct _ => false
  | .ref _ => false
  | .ty _ => false
def kOks : List D → Bool
  | [] => true
  | x :: xs => kOk x && kOks xs
end
/-- the dict at a -/
def DictO (w : World) (a : Addr) (es : List (NestedKey × Addr × V)) : HO := .ext fun h => ∃ xs : List (NestedKey × Addr × Value), Paired (fun p q => p.1 = q.1 ∧ p.2.1 = q.2.1 ∧ RelV p.2.2 q.2.2) es xs ∧
  (∃ o ents ep, h.get? a = some o ∧ o.ExactDict ∧ o.data = .dict ents ep ∧ ents.toList = xs.map fun x => ⟨x.1.hash w, .ref x.2.1, x.2.2⟩) ∧ (xs.map (·.1)).Nodup ∧ (a == sysModules) = false
inductive RepKV (K : PySem.W.Frag) (H : Hp) : List (D × D) → List (NestedKey × Addr × V) → Prop
  | nil : RepKV K H [] []
  | cons {k v : D} {b : Addr} {y : V} {kvs : List (D × D)} {es : List (NestedKey × Addr × V)} : Rep K H k (.ref b) → kOk k = true → (nk k).depth ≤ 8 → Rep K H v y → RepKV K H kvs es → RepKV K H ((k, v) :: kvs) ((nk k, b, y) :: es)
theorem RepKV.grow {K : PySem.W.Frag} {H H' : Hp} (g : Grow H H') : ∀ {kvs : List (D × D)} {es : List (NestedKey × Addr × V)}, RepKV K H kvs es → RepKV K H' kvs es
  | _, _, .nil => .nil
  | _, _, .cons a b c d e => .cons (a.grow g) b c (d.grow g) (RepKV.grow g e)
def RepO (K : PySem.W.Frag) (H : Hp) (a : Addr) : DO → Prop
  | .lst ds => ∃ vs, H a = some (.lst vs) ∧ vs.length ≤ sizeLine ∧ RepL K H ds vs
  | .dct w kvs => ∃ es, H a = some (DictO w a es) ∧ es.length ≤ sizeLine ∧ RepKV K H kvs es
  | .tab q => LamX.TabS H a q
  | .dk kvs => ∃ es, H a = some (.dK es) ∧ es.length ≤ sizeLine ∧ RepK K H kvs es
theorem tab_stay {H H' : Hp} {a : Addr} {q : Str} (h : LamX.TabS H a q) (e : H' a = H a) (g : Grow H H') : LamX.TabS H' a q := by
  obtain ⟨ps, h1, h2, h3⟩ := h
  refine ⟨ps, e.trans h1, h2, fun pos cv hc => ?_⟩
  obtain ⟨c, e1, e2⟩ := h3 pos cv hc
  exact ⟨c, e1, g.cods _ _ e2⟩
theorem RepO.stay {K : PySem.W.Frag} {H H' : Hp} {a : Addr} {o : DO} (h : RepO K H a o) (e : H' a = H a) (g : Grow H H') : RepO K H' a o := by
  cases o with
  | lst ds =>
    obtain ⟨vs, h1, z, l⟩ := h
    exact ⟨vs, e.trans h1, z, l.grow g⟩
  | dct w kvs =>
    obtain ⟨es, h1, z, l⟩ := h
    exact ⟨es, e.trans h1, z, l.grow g⟩
  | tab q => exact tab_stay h e g
  | dk kvs =>
    obtain ⟨es, h1, z, l⟩ := h
    exact ⟨es, e.trans h1, z, l.grow g⟩
/-- the mutable part is borne -/
def RM (K : PySem.W.Frag) (H : Hp) (M : DM) : Prop := ∀ a o, M a = some o → RepO K H a o
structure R (K : PySem.W.Frag) (m : DSt) (M : DM) (σ : SL) (H : Hp) : Prop where
  len : m.length = σ.length
  slot : ∀ (i : Nat) (d : D), m[i]? = some (some d) → ∃ v, σ[i]? = some (some v) ∧ Rep K H d v
  mem : RM K H M
section
variable {K : PySem.W.Frag} {H H' : Hp} {M N : DM} {m : DSt} {σ : SL} {a : Addr}
theorem RM.le (h : RM K H N) (l : MLe M N) : RM K H M := fun a o e => h a o (l a o e)
theorem RepO.some {o : DO} (h : RepO K H a o) : H a ≠ none := by
  cases o with
  | lst ds =>
    obtain ⟨vs, e, _, _⟩ := h
    rw [e]
    intro z
    cases z
  | dct w kvs =>
    obtain ⟨es, e, _⟩ := h
    rw [e]
    intro z
    cases z
  | tab q =>
    obtain ⟨ps, e, _⟩ := h
    rw [e]
    intro z
    cases z
  | dk kvs =>
    obtain ⟨es, e, _⟩ := h
    rw [e]
    intro z
    cases z
theorem RM.free (h : RM K H M) (e : H a = none) : M a = none := by
  cases q : M a with
  | none => rfl
  | some o => exact absurd e (h a o q).some
theorem RM.lst (h : RM K H M) {ds : List D} (e : M a = some (.lst ds)) : ∃ vs, H a = some (.lst vs) ∧ vs.length ≤ sizeLine ∧ RepL K H ds vs := h a _ e
theorem R.grow (r : R K m M σ H) (g : Grow H H') (h : RM K H' N) : R K m N σ H' :=
  ⟨r.len, fun i d e => let ⟨v, h1, h2⟩ := r.slot i d e; ⟨v, h1, h2.grow g⟩, h⟩
/-- an untracked thing has come -/
theorem RM.new {p : Addr} {o : HO} (h : RM K H M) (hp : H p = none) : RM K (upd H p o) M := fun a q e => by
  have ha := h a q e
  have ne : a ≠ p := fun z => ha.some (z ▸ hp)
  cases q with
  | lst ds =>
    exact ha.stay (upd_ne ne) (.new hp)
  | dct w kvs => exact ha.stay (upd_ne ne) (.new hp)
  | tab q => exact ha.stay (upd_ne ne) (.new hp)
  | dk kvs => exact ha.stay (upd_ne ne) (.new hp)
theorem RM.newLst {p : Addr} {ds : List D} {vs : List V} (h : RM K H M) (hp : H p = none) (hz : vs.length ≤ sizeLine) (l : RepL K H ds vs) : RM K (upd H p (.lst vs)) (mput M p (.lst ds)) := fun a q e => by
  by_cases ha : a = p
  · subst ha
    rw [mput_same] at e
    cases e
    exact ⟨vs, upd_same, hz, l.grow (.new hp)⟩
  · rw [mput_ne ha] at e
    exact h.new hp a q e
theorem RM.putLst {p : Addr} {ds : List D} {vs vs0 : List V} (h : RM K H M) (hp : H p = some (.lst vs0)) (hz : vs.length ≤ sizeLine) (l : RepL K H ds vs) : RM K (upd H p (.lst vs)) (mput M p (.lst ds)) := fun a q e => by
  by_cases ha : a = p
  · subst ha
    rw [mput_same] at e
    cases e
    exact ⟨vs, upd_same, hz, l.grow (.put hp)⟩
  · rw [mput_ne ha] at e
    have z := h a q e
    cases q with
    | lst es => exact z.stay (upd_ne ha) (.put hp)
    | dct w kvs => exact z.stay (upd_ne ha) (.put hp)
    | tab q => exact z.stay (upd_ne ha) (.put hp)
    | dk kvs => exact z.stay (upd_ne ha) (.put hp)
/-- a list is frozen: it leaves the mutable part -/
theorem RM.frz {p : Addr} {vs : List V} {o : Obj} (h : RM K H M) (hp : H p = some (.lst vs)) : RM K (upd H p (.frz o (.lst vs))) (mdel M p) := fun a q e => by
  have ha : a ≠ p := fun z => by
    subst z
    unfold mdel at e
    simp at e
  have e' : M a = some q := by
    unfold mdel at e
    rw [if_neg ha] at e
    exact e
  have z := h a q e'
  cases q with
  | lst es => exact z.stay (upd_ne ha) (.put hp)
  | dct w kvs => exact z.stay (upd_ne ha) (.put hp)
  | tab q => exact z.stay (upd_ne ha) (.put hp)
  | dk kvs => exact z.stay (upd_ne ha) (.put hp)
theorem R.set {i : Nat} {d : D} {v : V} (r : R K m M σ H) (h : Rep K H d v) : R K (m.set i (some d)) M (σ.set i (some v)) H := by
  refine ⟨by rw [List.length_set, List.length_set]; exact r.len, fun j e q => ?_, r.mem⟩
  by_cases hj : i = j
  · subst hj
    by_cases hi : i < m.length
    · rw [List.getElem?_set_self hi] at q
      cases q
      exact ⟨v, List.getElem?_set_self (by rw [← r.len]; exact hi), h⟩
    · rw [List.getElem?_eq_none (by rw [List.length_set]; omega)] at q
      cases q
  · rw [List.getElem?_set_ne hj] at q ⊢
    exact r.slot j e q
end

/-! ### the judgements -/
abbrev DVK := D → DM → Prop
abbrev DTE := DSt → DM → DVK → Prop
abbrev DTT := DSt → DM → (Bool → DM → Prop) → Prop
abbrev DTA := DSt → DM → (List D → DM → Prop) → Prop
structure DEnds where
  nx : DSt → DM → Prop
  rt : DVK
  bk : DSt → DM → Prop := fun _ _ => False
  ct : DSt → DM → Prop := fun _ _ => False
abbrev DTS := DEnds → DSt → DM → Prop
abbrev DR2 := D → D → DM → DVK → Prop
def upE (K : PySem.W.Frag) (t : DTE) : TE := fun σ H Q => ∃ m M Q', R K m M σ H ∧ t m M Q' ∧
  ∀ d v M' H', Grow H H' → Rep K H' d v → RM K H' M' → Q' d M' → Q v H'
def upT (K : PySem.W.Frag) (t : DTT) : TT := fun σ H Q => ∃ m M Q', R K m M σ H ∧ t m M Q' ∧
  ∀ b M' H', Grow H H' → RM K H' M' → Q' b M' → Q b H'
def upA (K : PySem.W.Frag) (t : DTA) : TA := fun σ H Q => ∃ m M Q', R K m M σ H ∧ t m M Q' ∧
  ∀ ds vs M' H', Grow H H' → RepL K H' ds vs → RM K H' M' → Q' ds M' → Q vs H'
structure EndsOk (K : PySem.W.Frag) (H : Hp) (D' : DEnds) (D : Ends) : Prop where
  nx : ∀ m M σ H', Grow H H' → R K m M σ H' → D'.nx m M → D.nx σ H'
  bk : ∀ m M σ H', Grow H H' → R K m M σ H' → D'.bk m M → D.bk σ H'
  ct : ∀ m M σ H', Grow H H' → R K m M σ H' → D'.ct m M → D.ct σ H'
  rt : ∀ d v M H', Grow H H' → Rep K H' d v → RM K H' M → D'.rt d M → D.rt v H'
def upS (K : PySem.W.Frag) (t : DTS) : TS := fun D σ H => ∃ m M D', R K m M σ H ∧ t D' m M ∧ EndsOk K H D' D
def upR2 (K : PySem.W.Frag) (r : DR2) : R2 := fun x y H Q => ∃ d e M Q', Rep K H d x ∧ Rep K H e y ∧ RM K H M ∧ r d e M Q' ∧
  ∀ z v M' H', Grow H H' → Rep K H' z v → RM K H' M' → Q' z M' → Q v H'
theorem EndsOk.grow {K : PySem.W.Frag} {H H' : Hp} {D' : DEnds} {D : Ends} (h : EndsOk K H D' D) (g : Grow H H') : EndsOk K H' D' D :=
  ⟨fun m M σ H2 g2 => h.nx m M σ H2 (g.trans g2), fun m M σ H2 g2 => h.bk m M σ H2 (g.trans g2),
   fun m M σ H2 g2 => h.ct m M σ H2 (g.trans g2), fun d v M H2 g2 => h.rt d v M H2 (g.trans g2)⟩
section
variable {X : Cx} {e a b c : Expr} {es : List Expr} {pos : Pos}
abbrev DE (X : Cx) (e : Expr) (t : DTE) : Prop := PE X e (upE X.K t)
abbrev DT (X : Cx) (e : Expr) (t : DTT) : Prop := PT X e (upT X.K t)
abbrev DA (X : Cx) (es : List Expr) (t : DTA) : Prop := PA X es (upA X.K t)
abbrev DS (X : Cx) (s : Stmt) (t : DTS) : Prop := PS X s (upS X.K t)
abbrev DSs (X : Cx) (s : List Stmt) (t : DTS) : Prop := PSs X s (upS X.K t)
abbrev DOp (X : Cx) (f : Value → Value → Sem Value) (r : DR2) : Prop := OpR X f (upR2 X.K r)
theorem imE {t t' : TE} (h : PE X e t) (i : ∀ σ H Q, t' σ H Q → t σ H Q) : PE X e t' := ⟨fun pins s σ H Q I q => h.run pins s σ H Q I (i σ H Q q)⟩
theorem imT {t t' : TT} (h : PT X e t) (i : ∀ σ H Q, t' σ H Q → t σ H Q) : PT X e t' := ⟨fun pins s σ H Q I q => h.run pins s σ H Q I (i σ H Q q)⟩
theorem imW {t t' : TT} (h : PW X e t) (i : ∀ σ H Q, t' σ H Q → t σ H Q) : PW X e t' := ⟨fun wh pins s σ H Q I q => h.run wh pins s σ H Q I (i σ H Q q)⟩
theorem imA {t t' : TA} (h : PA X es t) (i : ∀ σ H Q, t' σ H Q → t σ H Q) : PA X es t' := ⟨fun p pins s σ H Q I q => h.run p pins s σ H Q I (i σ H Q q)⟩
theorem imS {s : Stmt} {t t' : TS} (h : PS X s t) (i : ∀ D σ H, t' D σ H → t D σ H) : PS X s t' := ⟨fun pins s σ H D I q => h.run pins s σ H D I (i D σ H q)⟩
theorem imSs {s : List Stmt} {t t' : TS} (h : PSs X s t) (i : ∀ D σ H, t' D σ H → t D σ H) : PSs X s t' := ⟨fun pins s σ H D I q => h.run pins s σ H D I (i D σ H q)⟩

/-! ### names, constants -/
def dVar (i : Nat) : DTE := fun m M Q => ∃ d, m[i]? = some (some d) ∧ Q d M
def dC (d : D) : DTE := fun _ M Q => Q d M
theorem d_v (i : Nat) {x : Str} (hN : X.N[i]? = some x := by rfl)
    (hv : Vis X.env.scope x := by first | exact Or.inl rfl | exact Or.inr (Or.inl rfl) | exact Or.inr (Or.inr rfl))
    (hd : (x == ("__debug__" : Str)) = false := by decide) (hc : (x == ("__classdict__" : Str)) = false := by decide) : DE X (.Name x pos) (dVar i) :=
  imE (pe_var hN hv hd hc) fun σ H Q ⟨m, M, Q', r, ⟨d, hd, q⟩, k⟩ => by
    obtain ⟨v, hv, rp⟩ := r.slot i d hd
    exact ⟨v, hv, k d v M H (.refl H) rp r.mem q⟩
theorem d_c {v : V} {d : D} (h : PE X e (tC v)) (hr : ∀ K H, Rep K H d v) : DE X e (dC d) :=
  imE h fun σ H Q ⟨m, M, Q', r, q, k⟩ => k d v M H (.refl H) (hr _ _) r.mem q
theorem d_int {i : Int} {j : Nat} : DE X (.Constant (.int i) j pos) (dC (.int i)) := d_c pe_int fun _ _ => .int i
theorem d_bl {i : Bool} {j : Nat} : DE X (.Constant (.bool i) j pos) (dC (.bl i)) := d_c pe_bl fun _ _ => .bl i
theorem d_non {j : Nat} : DE X (.Constant .none j pos) (dC .non) := d_c pe_non fun _ _ => .non
theorem d_str {x : Str} {j : Nat} : DE X (.Constant (.str x) j pos) (dC (.str x)) := d_c pe_str fun _ _ => .str x

/-! ### operators -/
def dOp (r : DR2) (ta tb : DTE) : DTE := fun m M Q => ta m M fun x M1 => tb m M1 fun y M2 => r x y M2 Q
variable {ta tb tc : DTE} {r : DR2}
theorem up_op {σ : SL} {H : Hp} {Q : VK} (h : upE X.K (dOp r ta tb) σ H Q) : tOp (upR2 X.K r) (upE X.K ta) (upE X.K tb) σ H Q := by
  obtain ⟨m, M, Q', rr, q, k⟩ := h
  refine ⟨m, M, _, rr, q, fun d v M1 H1 g1 r1 m1 q1 => ?_⟩
  refine ⟨m, M1, _, rr.grow g1 m1, q1, fun d2 v2 M2 H2 g2 r2 m2 q2 => ?_⟩
  exact ⟨d, d2, M2, Q', r1.grow g2, r2, m2, q2, fun z v3 M3 H3 g3 => k z v3 M3 H3 ((g1.trans g2).trans g3)⟩
theorem d_op {op : Operator} (ho : DOp X (binaryOp op) r) (ha : DE X a ta) (hb : DE X b tb) : DE X (.BinOp a op b pos) (dOp r ta tb) :=
  imE (pe_op ho ha hb) fun σ H Q h => up_op (σ := σ) (H := H) (Q := Q) h
theorem d_cmp {op : CmpOp} (ho : DOp X (compareOp op) r) (ha : DE X a ta) (hb : DE X b tb) (hm : behindInMarks op b = false) : DE X (.Compare a [op] [b] pos) (dOp r ta tb) :=
  imE (pe_cmpR ho ha hb hm) fun σ H Q h => up_op (σ := σ) (H := H) (Q := Q) h
/-- two ints -/
def dI (C : Int → Int → Prop) (g : Int → Int → D) : DR2 := fun x y M Q => ∃ i j, x = .int i ∧ y = .int j ∧ C i j ∧ Q (g i j) M
theorem dop_I {f : Value → Value → Sem Value} {C : Int → Int → Prop} {g : Int → Int → V} {g' : Int → Int → D} (h : OpR X f (rI C g)) (hg : ∀ i j K H, Rep K H (g' i j) (g i j)) : DOp X f (dI C g') := by
  intro pins s σ H x y v u Q I rx ry q
  obtain ⟨d, e, M, Q', r1, r2, m, ⟨i, j, e1, e2, hc, q⟩, k⟩ := q
  subst e1
  subst e2
  cases r1
  cases r2
  exact h pins s σ H _ _ v u Q I rx ry ⟨i, j, rfl, rfl, hc, k _ _ M H (.refl H) (hg i j _ _) m q⟩
def dI0 (g : Int → Int → D) : DR2 := fun x y M Q => ∃ i j, x = .int i ∧ y = .int j ∧ Q (g i j) M
theorem dop_I0 {f : Value → Value → Sem Value} {g : Int → Int → V} {g' : Int → Int → D} (h : OpR X f (rI0 g)) (hg : ∀ i j K H, Rep K H (g' i j) (g i j)) : DOp X f (dI0 g') := by
  intro pins s σ H x y v u Q I rx ry q
  obtain ⟨d, e, M, Q', r1, r2, m, ⟨i, j, e1, e2, q⟩, k⟩ := q
  subst e1
  subst e2
  cases r1
  cases r2
  exact h pins s σ H _ _ v u Q I rx ry ⟨i, j, rfl, rfl, k _ _ M H (.refl H) (hg i j _ _) m q⟩
theorem DOp.or {f : Value → Value → Sem Value} {r r' : DR2} (h : DOp X f r) (h' : DOp X f r') : DOp X f (fun x y M Q => r x y M Q ∨ r' x y M Q) := by
  intro pins s σ H x y v u Q I rx ry q
  obtain ⟨d, e, M, Q', r1, r2, m, q | q, k⟩ := q
  · exact h pins s σ H _ _ v u Q I rx ry ⟨d, e, M, Q', r1, r2, m, q, k⟩
  · exact h' pins s σ H _ _ v u Q I rx ry ⟨d, e, M, Q', r1, r2, m, q, k⟩
abbrev dAddI : DR2 := dI0 fun i j => .int (i + j)
abbrev dSubI : DR2 := dI0 fun i j => .int (i - j)
/-- one side below 2^64, or both of known sizes -/
def CMulA (i j : Int) : Prop := (-18446744073709551616 < i ∧ i < 18446744073709551616) ∨ (-18446744073709551616 < j ∧ j < 18446744073709551616) ∨ CMulW i j
def CDivA (i j : Int) : Prop := (0 < j ∧ j < 1073741824) ∨ CDivW i j
def CPowA (i j : Int) : Prop := (0 ≤ j ∧ j ≤ 1000000) ∧ -9223372036854775808 < i ∧ i < 9223372036854775808
abbrev dMulI : DR2 := dI CMulA fun i j => .int (i * j)
abbrev dDivI : DR2 := dI CDivA fun i j => .int (i / j)
abbrev dModI : DR2 := dI (fun _ j => 0 < j) fun i j => .int (i % j)
abbrev dPowI : DR2 := dI CPowA fun i j => .int (i ^ j.toNat)
abbrev dLtI : DR2 := dI0 fun i j => .bl (decide (i < j))
abbrev dLeI : DR2 := dI0 fun i j => .bl (decide (i ≤ j))
abbrev dGtI : DR2 := dI0 fun i j => .bl (decide (j < i))
abbrev dGeI : DR2 := dI0 fun i j => .bl (decide (j ≤ i))
theorem o_add : DOp X (binaryOp .Add) dAddI := dop_I0 op_add fun _ _ _ _ => .int _
theorem o_sub : DOp X (binaryOp .Sub) dSubI := dop_I0 op_sub fun _ _ _ _ => .int _
theorem opr_or {f : Value → Value → Sem Value} {C C' C2 : Int → Int → Prop} {g : Int → Int → V} (h : OpR X f (rI C g)) (h' : OpR X f (rI C' g)) (hc : ∀ i j, C2 i j → C i j ∨ C' i j) : OpR X f (rI C2 g) := by
  intro pins s σ H x y v u Q I rx ry ⟨i, j, e1, e2, c, q⟩
  rcases hc i j c with c | c
  · exact h pins s σ H x y v u Q I rx ry ⟨i, j, e1, e2, c, q⟩
  · exact h' pins s σ H x y v u Q I rx ry ⟨i, j, e1, e2, c, q⟩
theorem o_mul : DOp X (binaryOp .Mult) dMulI := dop_I (opr_or op_mul op_mulW fun i j c => by
  rcases c with c | c | c
  · exact .inl (.inl ⟨by omega, by omega⟩)
  · exact .inl (.inr ⟨by omega, by omega⟩)
  · exact .inr c) fun _ _ _ _ => .int _
theorem o_div : DOp X (binaryOp .FloorDiv) dDivI := dop_I (opr_or op_fdiv op_fdivW fun _ _ c => c) fun _ _ _ _ => .int _
theorem o_mod : DOp X (binaryOp .Mod) dModI := dop_I op_mod fun _ _ _ _ => .int _
theorem o_pow : DOp X (binaryOp .Pow) dPowI := dop_I (opr_or op_pow op_pow fun i j c => .inl ⟨c.1.1, c.1.2, by have := c.2; omega⟩) fun _ _ _ _ => .int _
theorem o_lt : DOp X (compareOp .Lt) dLtI := dop_I0 op_lt fun _ _ _ _ => .bl _
theorem o_le : DOp X (compareOp .LtE) dLeI := dop_I0 op_le fun _ _ _ _ => .bl _
theorem o_gt : DOp X (compareOp .Gt) dGtI := dop_I0 op_gt fun _ _ _ _ => .bl _
theorem o_ge : DOp X (compareOp .GtE) dGeI := dop_I0 op_ge fun _ _ _ _ => .bl _
end
end DL
namespace DL
open PySem PySem.Spec PyProof.Rows L2
section
variable {X : Cx} {e a b c : Expr} {es : List Expr} {pos : Pos} {te ta tb tc : DTE} {t : DTA}

/-! ### argument lists, displays -/
def dNil : DTA := fun _ M Q => Q [] M
def dCons (te : DTE) (tr : DTA) : DTA := fun m M Q => te m M fun d M1 => tr m M1 fun ds M2 => Q (d :: ds) M2
theorem da_nil : DA X [] dNil := imA pa_nil fun σ H Q ⟨m, M, Q', r, q, k⟩ => k [] [] M H (.refl H) .nil r.mem q
theorem da_cons (ha : DE X e te) (hr : DA X es t) (hs : starEach (e :: es) X.env = (false, eval e X.env) :: starEach es X.env := by rfl) : DA X (e :: es) (dCons te t) :=
  imA (pa_cons ha hr hs) fun σ H Q ⟨m, M, Q', r, q, k⟩ => by
    refine ⟨m, M, _, r, q, fun d v M1 H1 g1 r1 m1 q1 => ?_⟩
    refine ⟨m, M1, _, r.grow g1 m1, q1, fun ds vs M2 H2 g2 r2 m2 q2 => ?_⟩
    exact k _ _ M2 H2 (g1.trans g2) (.cons (r1.grow g2) r2) m2 q2
def dTup (t : DTA) : DTE := fun m M Q => t m M fun ds M1 => ds.length ≤ sizeLine ∧ Q (.tup ds) M1
/-- a list that will be changed -/
def dLst (t : DTA) : DTE := fun m M Q => t m M fun ds M1 => ds.length ≤ sizeLine ∧ ∀ p, M1 p = none → Q (.ref p) (mput M1 p (.lst ds))
/-- a list that stays as it is -/
def dLstF (t : DTA) : DTE := fun m M Q => t m M fun ds M1 => ds.length ≤ sizeLine ∧ Q (.lst ds) M1
theorem d_tup {x1} (h : DA X es t) : DE X (.Tuple es x1 pos) (dTup t) :=
  imE (pe_tup h) fun σ H Q ⟨m, M, Q', r, q, k⟩ => by
    refine ⟨m, M, _, r, q, fun ds vs M1 H1 g1 r1 m1 ⟨z, q1⟩ => ⟨by rw [← r1.length]; exact z, fun p np => ?_⟩⟩
    exact k _ _ M1 _ (g1.trans (.new np)) (.tup (.of upd_same) (by rw [← r1.length]; exact z) (r1.grow (.new np))) (m1.new np) q1
theorem d_lst (h : DA X es t) : DE X (.List es pos) (dLst t) :=
  imE (pe_lst h) fun σ H Q ⟨m, M, Q', r, q, k⟩ => by
    refine ⟨m, M, _, r, q, fun ds vs M1 H1 g1 r1 m1 ⟨z, q1⟩ => ⟨by rw [← r1.length]; exact z, fun p np => ?_⟩⟩
    exact k _ _ _ _ (g1.trans (.new np)) (.ref p) (m1.newLst np (by rw [← r1.length]; exact z) r1) (q1 p (m1.free np))

/-! ### a list is frozen -/
theorem inv_frz {pins : List (Addr × Obj)} {σ : SL} {H : Hp} {s : Shared} {p : Addr} {vs : List V} (I : Inv X pins σ H s) (h : H p = some (.lst vs)) : ∃ o, Inv X pins σ (upd H p (.frz o (.lst vs))) s := by
  obtain ⟨z, its, n, rv, ho⟩ := I.hok p _ h
  have nt : ∀ b o, H b = some o → (∀ ws, o ≠ .lst ws) → b ≠ p := fun b o e d => ne_of e h (d vs)
  refine ⟨{ cls := Value.type "list", data := Data.seq its.toArray n }, I.step (H' := upd H p (.frz { cls := Value.type "list", data := Data.seq its.toArray n } (.lst vs))) (g' := s.gens) (t' := s.toks) (d' := s.drawn) (h' := s.heap) (ch := []) (fun _ y => nomatch y) (fun _ _ _ _ _ q _ => q) (fun _ q _ _ _ y _ => ⟨q.slots, y⟩) (fun b _ _ _ n => ?_)
    (fun _ q _ y => ⟨q, y⟩) (fun b ws y => ?_) (fun b q u y => ?_) (fun b q y => ⟨#[], ?_⟩) (fun _ y => y) (fun b q y => ?_) I.bare⟩
  · rw [upd_ne (fun w => by rw [w, h] at n; cases n)]
    exact n
  · rw [upd_ne (nt b _ y fun _ w => nomatch w)]
    exact y
  · rw [upd_ne (nt b _ y fun _ w => nomatch w)]
    exact y
  · rw [upd_ne (nt b _ y fun _ w => nomatch w), y]
    simp
  · by_cases e : b = p
    · subst e
      rw [upd_same] at y
      cases y
      exact ⟨ho, z, its, n, rv, ho⟩
    · rw [upd_ne e] at y
      refine (I.hok b q y).stay (fun _ _ _ w => w) (fun c w => ?_) fun c ws w => ?_
      · rw [upd_ne (nt c _ w fun _ w => nomatch w)]
        exact w
      · rw [upd_ne (nt c _ w fun _ w => nomatch w)]
        exact w
def tFz (t : TE) : TE := fun σ H Q => t σ H fun v H1 => ∃ p vs, v = .ref p ∧ H1 p = some (.lst vs) ∧ ∀ o, Q v (upd H1 p (.frz o (.lst vs)))
theorem pe_fz {t : TE} (h : PE X e t) : PE X e (tFz t) := by
  refine ⟨fun pins s σ H Q I q => thn (h.run pins s σ H _ I q) fun u s1 ⟨v, H1, I1, r1, p, vs, e1, e2, q1⟩ => ?_⟩
  obtain ⟨o, I2⟩ := inv_frz I1 e2
  exact ⟨v, _, I2, r1, q1 o⟩
/-- the list that comes is frozen: it leaves the mutable part -/
def dFz (t : DTE) : DTE := fun m M Q => t m M fun d M1 => ∃ p ds, d = .ref p ∧ M1 p = some (.lst ds) ∧ Q (.lst ds) (mdel M1 p)
theorem d_fz (h : DE X e te) : DE X e (dFz te) :=
  imE (pe_fz h) fun σ H Q ⟨m, M, Q', r, q, k⟩ => by
    refine ⟨m, M, _, r, q, fun d v M1 H1 g1 r1 m1 ⟨p, ds, e1, e2, q1⟩ => ?_⟩
    subst e1
    cases r1
    obtain ⟨vs, h1, z, l⟩ := m1.lst e2
    refine ⟨p, vs, rfl, h1, fun o => k _ _ _ _ (g1.trans (.put h1)) (.lst (.inl ⟨o, upd_same⟩) z (l.grow (.put h1))) (m1.frz h1) q1⟩
theorem d_lstF (h : DA X es t) : DE X (.List es pos) (dLstF t) :=
  imE (pe_fz (pe_lst h)) fun σ H Q ⟨m, M, Q', r, q, k⟩ => by
    refine ⟨m, M, _, r, q, fun ds vs M1 H1 g1 r1 m1 ⟨z, q1⟩ => ⟨by rw [← r1.length]; exact z, fun p np => ⟨p, vs, rfl, upd_same, fun o => ?_⟩⟩⟩
    rw [upd_upd]
    exact k _ _ _ _ (g1.trans (.new np)) (.lst (.inl ⟨o, upd_same⟩) (by rw [← r1.length]; exact z) (r1.grow (.new np))) (m1.new np) q1

/-! ### tests -/
def dTst (t : DTE) : DTT := fun m M Q => t m M fun d M1 => ∃ k, d = .bl k ∧ Q k M1
theorem up_tst {σ : SL} {H : Hp} {Q : Bool → Hp → Prop} (h : upT X.K (dTst te) σ H Q) : tTest (upE X.K te) σ H Q := by
  obtain ⟨m, M, Q', r, q, k⟩ := h
  refine ⟨m, M, _, r, q, fun d v M1 H1 g1 r1 m1 ⟨y, e1, q1⟩ => ?_⟩
  subst e1
  cases r1
  exact ⟨y, rfl, k y M1 H1 g1 m1 q1⟩
theorem dt_cmp {op : CmpOp} {r : DR2} (ho : DOp X (compareOp op) r) (ha : DE X a ta) (hb : DE X b tb) (hm : behindInMarks op b = false) : DT X (.Compare a [op] [b] pos) (dTst (dOp r ta tb)) :=
  imT (pt_cmpR ho ha hb hm) fun σ H Q h => by
    obtain ⟨m, M, Q', r, q, k⟩ := h
    refine up_op (σ := σ) (H := H) ⟨m, M, _, r, q, fun d v M1 H1 g1 r1 m1 ⟨y, e1, q1⟩ => ?_⟩
    subst e1
    cases r1
    exact ⟨y, rfl, k y M1 H1 g1 m1 q1⟩
theorem dt_val (h : DE X e te) (he : ∀ whole, isTrue e X.env whole = (do let v ← whole; standAt e.pos; holding [v] (truthy v)) := by intro _; rfl) : DT X e (dTst te) :=
  imT (pt_val h he) fun σ H Q h => up_tst (σ := σ) (H := H) (Q := Q) h
variable {pa pb : DTT} {rest : List Expr}
abbrev DW (X : Cx) (e : Expr) (t : DTT) : Prop := PW X e (upT X.K t)
def dAnd (t u : DTT) : DTT := fun m M Q => t m M fun k M1 => if k = true then u m M1 Q else Q false M1
def dOr (t u : DTT) : DTT := fun m M Q => t m M fun k M1 => if k = true then Q true M1 else u m M1 Q
def dNot (t : DTT) : DTT := fun m M Q => t m M fun k M1 => Q (!k) M1
theorem dw_and1 (ha : DT X a pa) : DW X (.BoolOp .And [a] pos) pa := pw_and1 ha
theorem dw_or1 (ha : DT X a pa) : DW X (.BoolOp .Or [a] pos) pa := pw_or1 ha
theorem dw_and (ha : DT X a pa) (hb : DW X (.BoolOp .And (b :: rest) pos) pb) : DW X (.BoolOp .And (a :: b :: rest) pos) (dAnd pa pb) :=
  imW (pw_and ha hb) fun σ H Q ⟨m, M, Q', r, q, k⟩ => by
    refine ⟨m, M, _, r, q, fun y M1 H1 g1 m1 q1 => ?_⟩
    cases y with
    | true => exact ⟨m, M1, Q', r.grow g1 m1, q1, fun z M2 H2 g2 => k z M2 H2 (g1.trans g2)⟩
    | false => exact k _ M1 H1 g1 m1 q1
theorem dw_or (ha : DT X a pa) (hb : DW X (.BoolOp .Or (b :: rest) pos) pb) : DW X (.BoolOp .Or (a :: b :: rest) pos) (dOr pa pb) :=
  imW (pw_or ha hb) fun σ H Q ⟨m, M, Q', r, q, k⟩ => by
    refine ⟨m, M, _, r, q, fun y M1 H1 g1 m1 q1 => ?_⟩
    cases y with
    | false => exact ⟨m, M1, Q', r.grow g1 m1, q1, fun z M2 H2 g2 => k z M2 H2 (g1.trans g2)⟩
    | true => exact k _ M1 H1 g1 m1 q1
theorem dt_w (h : DW X e pa) : DT X e pa := PW.pt h
theorem dt_not (ha : DT X a pa) : DT X (.UnaryOp .Not a pos) (dNot pa) :=
  imT (pt_not ha) fun σ H Q ⟨m, M, Q', r, q, k⟩ => ⟨m, M, _, r, q, fun y M1 H1 g1 m1 q1 => k _ M1 H1 g1 m1 q1⟩
/-- .. as values -/
def dAndV (t u : DTE) : DTE := fun m M Q => t m M fun d M1 => ∃ k, d = .bl k ∧ if k = true then u m M1 Q else Q (.bl false) M1
def dOrV (t u : DTE) : DTE := fun m M Q => t m M fun d M1 => ∃ k, d = .bl k ∧ if k = true then Q (.bl true) M1 else u m M1 Q
def dNotV (t : DTE) : DTE := fun m M Q => t m M fun d M1 => ∃ k, d = .bl k ∧ Q (.bl (!k)) M1
theorem d_one {op : BoolOp} (h : DE X a ta) : DE X (.BoolOp op [a] pos) ta := pe_one h
theorem d_and (ha : DE X a ta) (hb : DE X (.BoolOp .And (b :: rest) pos) tb) : DE X (.BoolOp .And (a :: b :: rest) pos) (dAndV ta tb) :=
  imE (pe_and ha hb) fun σ H Q ⟨m, M, Q', r, q, k⟩ => by
    refine ⟨m, M, _, r, q, fun d v M1 H1 g1 r1 m1 ⟨y, e1, q1⟩ => ?_⟩
    subst e1
    cases r1
    refine ⟨y, rfl, ?_⟩
    cases y with
    | true => exact ⟨m, M1, Q', r.grow g1 m1, q1, fun z w M2 H2 g2 => k z w M2 H2 (g1.trans g2)⟩
    | false => exact k _ _ M1 H1 g1 (.bl _) m1 q1
theorem d_or (ha : DE X a ta) (hb : DE X (.BoolOp .Or (b :: rest) pos) tb) : DE X (.BoolOp .Or (a :: b :: rest) pos) (dOrV ta tb) :=
  imE (pe_or ha hb) fun σ H Q ⟨m, M, Q', r, q, k⟩ => by
    refine ⟨m, M, _, r, q, fun d v M1 H1 g1 r1 m1 ⟨y, e1, q1⟩ => ?_⟩
    subst e1
    cases r1
    refine ⟨y, rfl, ?_⟩
    cases y with
    | false => exact ⟨m, M1, Q', r.grow g1 m1, q1, fun z w M2 H2 g2 => k z w M2 H2 (g1.trans g2)⟩
    | true => exact k _ _ M1 H1 g1 (.bl _) m1 q1
theorem d_not (ha : DE X a ta) : DE X (.UnaryOp .Not a pos) (dNotV ta) :=
  imE (pe_not ha) fun σ H Q ⟨m, M, Q', r, q, k⟩ => by
    refine ⟨m, M, _, r, q, fun d v M1 H1 g1 r1 m1 ⟨y, e1, q1⟩ => ?_⟩
    subst e1
    cases r1
    exact ⟨y, rfl, k _ _ M1 H1 g1 (.bl _) m1 q1⟩
def dIfE (t : DTT) (u v : DTE) : DTE := fun m M Q => t m M fun k M1 => if k = true then u m M1 Q else v m M1 Q
theorem d_ifE (hc : DT X c pa) (ha : DE X a ta) (hb : DE X b tb) : DE X (.IfExp c a b pos) (dIfE pa ta tb) :=
  imE (pe_ifExp hc ha hb) fun σ H Q ⟨m, M, Q', r, q, k⟩ => by
    refine ⟨m, M, _, r, q, fun y M1 H1 g1 m1 q1 => ?_⟩
    cases y with
    | true => exact ⟨m, M1, Q', r.grow g1 m1, q1, fun z w M2 H2 g2 => k z w M2 H2 (g1.trans g2)⟩
    | false => exact ⟨m, M1, Q', r.grow g1 m1, q1, fun z w M2 H2 g2 => k z w M2 H2 (g1.trans g2)⟩
end

/-! ### statements -/
section
variable {X : Cx} {e : Expr} {pos : Pos} {st : Stmt} {rest : List Stmt} {t u : DTS} {te : DTE}
def dNext : DTS := fun D m M => D.nx m M
def dSeq (t u : DTS) : DTS := fun D m M => t { D with nx := u D } m M
theorem ds_nil : DSs X [] dNext := imSs pss_nil fun D σ H ⟨m, M, D', r, q, k⟩ => k.nx m M σ H (.refl H) r q
theorem ds_cons (h1 : DS X st t) (h2 : DSs X rest u) : DSs X (st :: rest) (dSeq t u) :=
  imSs (pss_cons h1 h2) fun D σ H ⟨m, M, D', r, q, k⟩ => by
    refine ⟨m, M, { D' with nx := u D' }, r, q, ⟨fun m1 M1 σ1 H1 g1 r1 q1 => ?_, k.bk, k.ct, k.rt⟩⟩
    exact ⟨m1, M1, D', r1, q1, k.grow g1⟩
theorem ds_one (h1 : DS X st t) : DSs X [st] t := pss_one h1
def dBreak : DTS := fun D m M => D.bk m M
def dCont : DTS := fun D m M => D.ct m M
theorem ds_pass : DS X (.Pass pos) dNext := imS ps_pass fun D σ H ⟨m, M, D', r, q, k⟩ => k.nx m M σ H (.refl H) r q
theorem ds_break : DS X (.Break pos) dBreak := imS ps_break fun D σ H ⟨m, M, D', r, q, k⟩ => k.bk m M σ H (.refl H) r q
theorem ds_cont : DS X (.Continue pos) dCont := imS ps_continue fun D σ H ⟨m, M, D', r, q, k⟩ => k.ct m M σ H (.refl H) r q
def dDrop (te : DTE) : DTS := fun D m M => te m M fun _ M1 => D.nx m M1
theorem ds_expr (he : DE X e te) (hs : swapsWith e none pos.line X.env = pure false := by rfl) : DS X (.Expr e pos) (dDrop te) :=
  imS (ps_expr he hs) fun D σ H ⟨m, M, D', r, q, k⟩ => ⟨m, M, _, r, q, fun d v M1 H1 g1 r1 m1 q1 => k.nx m M1 σ H1 g1 (r.grow g1 m1) q1⟩
def dRet (te : DTE) : DTS := fun D m M => te m M D.rt
theorem ds_ret (he : DE X e te) : DS X (.Return (some e) pos) (dRet te) :=
  imS (ps_ret he) fun D σ H ⟨m, M, D', r, q, k⟩ => ⟨m, M, _, r, q, fun d v M1 H1 g1 r1 m1 q1 => k.rt d v M1 H1 g1 r1 m1 q1⟩
def dRetN : DTS := fun D _ M => D.rt .non M
theorem ds_retN : DS X (.Return none pos) dRetN :=
  imS ps_retN fun D σ H ⟨m, M, D', r, q, k⟩ => k.rt _ _ M H (.refl H) .non r.mem q
def dIf (p : DTT) (t u : DTS) : DTS := fun D m M => p m M fun k M1 => if k = true then t D m M1 else u D m M1
theorem ds_if {c : Expr} {x y : List Stmt} {p : DTT} (hc : DT X c p) (ha : DSs X x t) (hb : DSs X y u) : DS X (.If c x y pos) (dIf p t u) :=
  imS (ps_if hc ha hb) fun D σ H ⟨m, M, D', r, q, k⟩ => by
    refine ⟨m, M, _, r, q, fun z M1 H1 g1 m1 q1 => ?_⟩
    cases z with
    | true => exact ⟨m, M1, D', r.grow g1 m1, q1, k.grow g1⟩
    | false => exact ⟨m, M1, D', r.grow g1 m1, q1, k.grow g1⟩
def dNever : DTS := fun _ _ _ => False
theorem ds_never : DS X st dNever := ⟨fun _ _ _ _ _ _ ⟨_, _, _, _, q, _⟩ => q.elim⟩
theorem dss_never {sts : List Stmt} : DSs X sts dNever := ⟨fun _ _ _ _ _ _ ⟨_, _, _, _, q, _⟩ => q.elim⟩
/-- slot i's list is frozen ahead of a statement -/
def dFzS (i : Nat) (t : DTS) : DTS := fun D m M => ∃ p ds, m[i]? = some (some (.ref p)) ∧ M p = some (.lst ds) ∧ t D (m.set i (some (.lst ds))) (mdel M p)
theorem ds_fz (i : Nat) (h : DS X st t) : DS X st (dFzS i t) := by
  refine ⟨fun pins s σ H D I ⟨m, M, D', r, ⟨p, ds, e1, e2, q⟩, k⟩ => ?_⟩
  obtain ⟨v, h1, h2⟩ := r.slot i _ e1
  cases h2
  obtain ⟨vs, h3, z, l⟩ := r.mem.lst e2
  obtain ⟨o, I2⟩ := inv_frz I h3
  refine h.run pins s σ _ D I2 ⟨_, _, D', ?_, q, k.grow (.put h3)⟩
  have hi : i < m.length := (List.getElem?_eq_some_iff.mp e1).1
  refine ⟨by rw [List.length_set]; exact r.len, fun j d q1 => ?_, r.mem.frz h3⟩
  by_cases hj : i = j
  · subst hj
    rw [List.getElem?_set_self hi] at q1
    cases q1
    exact ⟨_, h1, .lst (.inl ⟨o, upd_same⟩) z (l.grow (.put h3))⟩
  · rw [List.getElem?_set_ne hj] at q1
    obtain ⟨w, h5, h6⟩ := r.slot j d q1
    exact ⟨w, h5, h6.grow (.put h3)⟩

/-! ### targets: ws are the slots that are written -/
abbrev DTG := D → DSt → DM → (DSt → DM → Prop) → Prop
abbrev DTGs := List D → DSt → DM → (DSt → DM → Prop) → Prop
def Off (ws : List Nat) (σ σ' : SL) : Prop := σ'.length = σ.length ∧ ∀ i, i ∉ ws → σ'[i]? = σ[i]?
def upG (K : PySem.W.Frag) (ws : List Nat) (t : DTG) : TG := fun v σ H Q => ∃ d m M Q', Rep K H d v ∧ R K m M σ H ∧ t d m M Q' ∧
  ∀ m' M' σ' H', Grow H H' → R K m' M' σ' H' → Off ws σ σ' → Q' m' M' → Q σ' H'
def upGs (K : PySem.W.Frag) (ws : List Nat) (t : DTGs) : TGs := fun vs σ H Q => ∃ ds m M Q', RepL K H ds vs ∧ R K m M σ H ∧ t ds m M Q' ∧
  ∀ m' M' σ' H', Grow H H' → R K m' M' σ' H' → Off ws σ σ' → Q' m' M' → Q σ' H'
abbrev DG (X : Cx) (ws : List Nat) (tg : Expr) (t : DTG) : Prop := PG X tg (upG X.K ws t)
abbrev DGs (X : Cx) (ws : List Nat) (tgs : List Expr) (t : DTGs) : Prop := PGs X tgs (upGs X.K ws t)
theorem imG {tg : Expr} {t t' : TG} (h : PG X tg t) (i : ∀ v σ H Q, t' v σ H Q → t v σ H Q) : PG X tg t' := ⟨fun pins s σ H v u Q I r q => h.run pins s σ H v u Q I r (i v σ H Q q)⟩
theorem imGs {tg : List Expr} {t t' : TGs} (h : PGs X tg t) (i : ∀ v σ H Q, t' v σ H Q → t v σ H Q) : PGs X tg t' := ⟨fun pins s σ H v u Q I r q => h.run pins s σ H v u Q I r (i v σ H Q q)⟩
def dgName (i : Nat) : DTG := fun d m M Q => Q (m.set i (some d)) M
theorem Off.refl (ws : List Nat) (σ : SL) : Off ws σ σ := ⟨rfl, fun _ _ => rfl⟩
theorem Off.set {i : Nat} {σ : SL} {v : V} : Off [i] σ (σ.set i (some v)) := ⟨List.length_set, fun j h => by
  have : i ≠ j := fun z => h (by simp [z])
  exact List.getElem?_set_ne this⟩
theorem Off.trans {ws us : List Nat} {σ σ1 σ2 : SL} (h : Off ws σ σ1) (k : Off us σ1 σ2) : Off (ws ++ us) σ σ2 :=
  ⟨k.1.trans h.1, fun i hi => (k.2 i fun z => hi (List.mem_append_right _ z)).trans (h.2 i fun z => hi (List.mem_append_left _ z))⟩
theorem dg_name {i : Nat} {x : Str} (hN : X.N.Nodup) (hi : X.N[i]? = some x) (hx : Loc X.env.scope x) (hf : X.fn x = true ∨ X.env.scope.names.lookup x = some .local := by first | exact .inl rfl | exact .inr rfl | assumption) :
    DG X [i] (.Name x pos) (dgName i) :=
  imG (pg_name hN hi hx hf) fun v σ H Q ⟨d, m, M, Q', rd, r, q, k⟩ => k _ _ _ H (.refl H) (r.set rd) .set q
def dgNil : DTGs := fun ds m M Q => ds = [] ∧ Q m M
def dgCons (t : DTG) (u : DTGs) : DTGs := fun ds m M Q => ∃ d r, ds = d :: r ∧ t d m M fun m1 M1 => u r m1 M1 Q
theorem dgs_nil : DGs X [] [] dgNil := imGs pgs_nil fun v σ H Q ⟨ds, m, M, Q', rd, r, ⟨e, q⟩, k⟩ => by
  subst e
  cases rd
  exact ⟨rfl, k _ _ _ H (.refl H) r (.refl _ _) q⟩
theorem dgs_cons {es : List Expr} {ws us : List Nat} {t : DTG} {u : DTGs} (h1 : DG X ws e t) (h2 : DGs X us es u)
    (hs : (assignEach (e :: es) X.env).map (·.2) = assign e X.env :: (assignEach es X.env).map (·.2) := by rfl) : DGs X (ws ++ us) (e :: es) (dgCons t u) :=
  imGs (pgs_cons h1 h2 hs) fun v σ H Q ⟨ds, m, M, Q', rd, r, ⟨d, dr, e, q⟩, k⟩ => by
    subst e
    cases rd with
    | cons r1 rl =>
      refine ⟨_, _, rfl, _, m, M, _, r1, r, q, fun m1 M1 σ1 H1 g1 rr o1 q1 => ?_⟩
      exact ⟨_, m1, M1, _, rl.grow g1, rr, q1, fun m2 M2 σ2 H2 g2 r2 o2 q2 => k m2 M2 σ2 H2 (g1.trans g2) r2 (o1.trans o2) q2⟩
def dgTup (n : Nat) (t : DTGs) : DTG := fun d m M Q => ∃ ds, d = .tup ds ∧ ds.length = n ∧ t ds m M Q
theorem dg_tup {es : List Expr} {k n : Nat} {ws : List Nat} {t : DTGs} (hc : X.calm = true) (h : DGs X ws es t)
    (hn : (assignEach es X.env).length = n := by rfl) (hst : (assignEach es X.env).findIdx? (·.1) = none := by rfl) : DG X ws (.Tuple es k pos) (dgTup n t) :=
  imG (pg_tup hc h hn hst) fun v σ H Q ⟨d, m, M, Q', rd, r, ⟨ds, e, hl, q⟩, k⟩ => by
    subst e
    cases rd with
    | tup hs _ hl2 => exact ⟨_, _, rfl, hs, by rw [← hl2.length]; exact hl, ds, m, M, Q', hl2, r, q, k⟩
def dAsg (te : DTE) (g : DTG) : DTS := fun D m M => te m M fun d M1 => g d m M1 D.nx
theorem ds_asg {tg : Expr} {ws : List Nat} {g : DTG} (he : DE X e te) (hg : DG X ws tg g) (hs : swapsWithSole [tg] e pos.line X.env = pure false := by rfl) (hw : swappedStores [tg] e X.env = pure none := by rfl)
    (h1 : (assignEach [tg] X.env).map (·.2) = [assign tg X.env] := by rfl) : DS X (.Assign [tg] e pos) (dAsg te g) :=
  imS (ps_asg he hg hs hw h1) fun D σ H ⟨m, M, D', r, q, k⟩ => by
    refine ⟨m, M, _, r, q, fun d v M1 H1 g1 r1 m1 q1 => ?_⟩
    exact ⟨d, m, M1, _, r1, r.grow g1 m1, q1, fun m2 M2 σ2 H2 g2 r2 _ q2 => k.nx m2 M2 σ2 H2 (g1.trans g2) r2 q2⟩
def dSet (i : Nat) (te : DTE) : DTS := fun D m M => te m M fun d M1 => D.nx (m.set i (some d)) M1
theorem ds_set {i : Nat} {x : Str} {pos' : Pos} (hN : X.N.Nodup) (hi : X.N[i]? = some x) (hx : Loc X.env.scope x) (he : DE X e te) (hs : swapsWith e (some (.Name x pos')) pos.line X.env = pure false := by rfl)
    (hf : X.fn x = true ∨ X.env.scope.names.lookup x = some .local := by first | exact .inl rfl | exact .inr rfl | assumption) : DS X (.Assign [.Name x pos'] e pos) (dSet i te) :=
  imS (ps_set hN hi hx he hs hf) fun D σ H ⟨m, M, D', r, q, k⟩ =>
    ⟨m, M, _, r, q, fun d v M1 H1 g1 r1 m1 q1 => k.nx _ M1 _ H1 g1 ((r.grow g1 m1).set r1) q1⟩
end

/-! ### what is walked -/
abbrev Src := List D × Option Addr
abbrev DTI := DSt → DM → (Src → DM → Prop) → Prop
def SrcOk (K : PySem.W.Frag) (src : Src) (H0 H : Hp) : Prop := Grow H0 H ∧ ∀ a, src.2 = some a → ∃ vs, H a = some (.lst vs) ∧ RepL K H src.1 vs
structure Stream (K : PySem.W.Frag) (J : It) (src : Src) (H0 : Hp) : Prop where
  small : src.1.length ≤ sizeLine
  go : ∀ i H, SrcOk K src H0 H → i < src.1.length → J.go i H
  yld : ∀ i H x H', SrcOk K src H0 H → i < src.1.length → J.yld i H x H' → Grow H H' ∧ (∀ M, RM K H M → RM K H' M) ∧ ∃ d, src.1[i]? = some d ∧ Rep K H' d x
  stop : ∀ H, SrcOk K src H0 H → J.stop src.1.length H
def upI (K : PySem.W.Frag) (t : DTI) : TI := fun σ H Rr => ∃ m M Q', R K m M σ H ∧ t m M Q' ∧
  ∀ src M' H' J, Grow H H' → RM K H' M' → Q' src M' → Stream K J src H' → Rr J H'
abbrev DI (X : Cx) (tg iter : Expr) (t : DTI) : Prop := PI X tg iter (upI X.K t)
theorem imI {X : Cx} {tg iter : Expr} {t t' : TI} (h : PI X tg iter t) (i : ∀ σ H Q, t' σ H Q → t σ H Q) : PI X tg iter t' := ⟨fun pins s σ H Q I q => h.run pins s σ H Q I (i σ H Q q)⟩
/-- the walked list is as it was -/
def SrcV (src : Src) (M : DM) : Prop := ∀ a, src.2 = some a → M a = some (.lst src.1)
theorem SrcV.ok {K : PySem.W.Frag} {src : Src} {H0 H : Hp} {M : DM} (h : SrcV src M) (g : Grow H0 H) (r : RM K H M) : SrcOk K src H0 H :=
  ⟨g, fun a e => let ⟨vs, h1, _, h2⟩ := r.lst (h a e); ⟨vs, h1, h2⟩⟩
/-- something is forgotten of the mutable part -/
def fg (P : DSt → DM → Prop) : DSt → DM → Prop := fun m M => ∃ M0, MLe M0 M ∧ P m M0
theorem fg_of {P : DSt → DM → Prop} {m : DSt} {M : DM} (h : P m M) : fg P m M := ⟨M, .refl M, h⟩
def dForGo (src : Src) (g : DTG) (tb : DTS) (Z : DEnds) : List D → DSt → DM → Prop
  | [], m, M => SrcV src M ∧ Z.nx m M
  | d :: ds, m, M => SrcV src M ∧ g d m M fun m1 M1 => tb { Z with nx := fg (dForGo src g tb Z ds), ct := fg (dForGo src g tb Z ds), bk := Z.nx } m1 M1
def dFor (t : DTI) (g : DTG) (tb : DTS) : DTS := fun D m M => t m M fun src M1 => src.1.length ≤ sizeLine → dForGo src g tb D src.1 m M1
section
variable {X : Cx} {tg iter : Expr} {pos : Pos} {t : DTI} {g : DTG} {tb : DTS} {ws : List Nat}
theorem R.le {K : PySem.W.Frag} {m : DSt} {M M0 : DM} {σ : SL} {H : Hp} (r : R K m M σ H) (l : MLe M0 M) : R K m M0 σ H := ⟨r.len, r.slot, r.mem.le l⟩
theorem ds_for {body : List Stmt} (hp : PassesOwn (model X.prog X.w) X.A X.env X.xe) (hc : X.calm = true) (hi : DI X tg iter t) (hg : DG X ws tg g) (hb : DSs X body tb)
    (hs : ∀ x, foldedSetIterable iter X.env x = pure x := by intro _; rfl) : DS X (.For tg iter body [] pos) (dFor t g tb) :=
  imS (ps_for hp hc hi hg hb hs) fun D σ H ⟨m, M, D', r, q, k⟩ => by
    refine ⟨m, M, _, r, q, fun src M1 H1 J g1 m1 q1 st => ?_⟩
    refine ⟨fun i n σ H2 => i + n = src.1.length ∧ Grow H1 H2 ∧ ∃ m M, R X.K m M σ H2 ∧ dForGo src g tb D' (src.1.drop i) m M, ⟨src.1.length, by omega, .refl _, m, M1, r.grow g1 m1, q1 st.small⟩, ?_⟩
    rintro i n σ2 H2 ⟨hl, g2, m2, M2, r2, q2⟩
    by_cases hlt : i < src.1.length
    · have hd : src.1.drop i = src.1[i] :: src.1.drop (i + 1) := List.drop_eq_getElem_cons hlt
      rw [hd] at q2
      obtain ⟨sv, q2⟩ := q2
      have so := sv.ok g2 r2.mem
      refine .inr ⟨st.go i H2 so hlt, fun σ' H' => Grow H1 H' ∧ ∃ m M, R X.K m M σ' H' ∧ dForGo src g tb D' (src.1.drop (i + 1)) m M, fun σ' H' ⟨g3, m3, M3, r3, q3⟩ => ⟨n - 1, by omega, by omega, g3, m3, M3, r3, q3⟩, fun x H' y => ?_⟩
      obtain ⟨g3, k3, d, e3, rd⟩ := st.yld i H2 x H' so hlt y
      have ed : d = src.1[i] := by
        rw [List.getElem?_eq_getElem hlt] at e3
        exact (Option.some.inj e3).symm
      subst ed
      refine ⟨_, m2, M2, _, rd, r2.grow g3 (k3 _ r2.mem), q2, fun m4 M4 σ4 H4 g4 r4 _ q4 => ?_⟩
      have g04 : Grow H1 H4 := (g2.trans g3).trans g4
      refine ⟨m4, M4, _, r4, q4, ⟨fun m5 M5 σ5 H5 g5 r5 ⟨M6, l6, q6⟩ => ⟨g04.trans g5, m5, M6, r5.le l6, q6⟩, fun m5 M5 σ5 H5 g5 r5 q5 => k.nx m5 M5 σ5 H5 ((g1.trans g04).trans g5) r5 q5,
        fun m5 M5 σ5 H5 g5 r5 ⟨M6, l6, q6⟩ => ⟨g04.trans g5, m5, M6, r5.le l6, q6⟩, fun d v M5 H5 g5 => k.rt d v M5 H5 ((g1.trans g04).trans g5)⟩⟩
    · have e : i = src.1.length := by omega
      subst e
      rw [List.drop_length] at q2
      obtain ⟨sv, q2⟩ := q2
      exact .inl ⟨st.stop H2 (sv.ok g2 r2.mem), k.nx m2 M2 σ2 H2 (g1.trans g2) r2 q2⟩
def dWhile (c : DTT) (tb : DTS) : DTS := fun D m M => ∃ W : Nat → DSt → DM → Prop, (∃ n, W n m M) ∧ ∀ n m M, W n m M → c m M fun k M1 =>
  if k = true then tb { D with nx := fg fun m' M' => ∃ n', n' < n ∧ W n' m' M', ct := fg fun m' M' => ∃ n', n' < n ∧ W n' m' M', bk := D.nx } m M1 else D.nx m M1
theorem ds_while {c : Expr} {body : List Stmt} {tc : DTT} (hp : PassesOwn (model X.prog X.w) X.A X.env X.xe) (hc : DT X c tc) (hb : DSs X body tb) : DS X (.While c body [] pos) (dWhile tc tb) :=
  imS (ps_while hp hc hb) fun D σ H ⟨m, M, D', r, ⟨W, ⟨n0, w0⟩, turn⟩, k⟩ => by
    refine ⟨fun n σ H1 => Grow H H1 ∧ ∃ m M, R X.K m M σ H1 ∧ W n m M, ⟨n0, .refl _, m, M, r, w0⟩, ?_⟩
    rintro n σ1 H1 ⟨g1, m1, M1, r1, w1⟩
    refine ⟨m1, M1, _, r1, turn n m1 M1 w1, fun y M2 H2 g2 m2 q2 => ?_⟩
    have r2 := r1.grow g2 m2
    cases y with
    | true =>
      refine ⟨fun σ' H' => ∃ n', n' < n ∧ Grow H H' ∧ ∃ m M, R X.K m M σ' H' ∧ W n' m M, fun σ' H' ⟨n', hn, y⟩ => ⟨n', hn, y⟩, ?_⟩
      refine ⟨m1, M2, _, r2, q2, ⟨fun m5 M5 σ5 H5 g5 r5 ⟨M6, l6, n', hn, q6⟩ => ⟨n', hn, (g1.trans g2).trans g5, m5, M6, r5.le l6, q6⟩, fun m5 M5 σ5 H5 g5 r5 q5 => k.nx m5 M5 σ5 H5 ((g1.trans g2).trans g5) r5 q5,
        fun m5 M5 σ5 H5 g5 r5 ⟨M6, l6, n', hn, q6⟩ => ⟨n', hn, (g1.trans g2).trans g5, m5, M6, r5.le l6, q6⟩, fun d v M5 H5 g5 => k.rt d v M5 H5 ((g1.trans g2).trans g5)⟩⟩
    | false => exact k.nx m1 M2 σ1 H2 (g1.trans g2) r2 q2
end
end DL
namespace DL
open PySem PySem.Spec PyProof.Rows L2

/-! ### items of a value -/
def dItems : D → DM → Option (List D)
  | .tup xs, _ => some xs
  | .lst xs, _ => some xs
  | .ref a, M => match M a with
    | some (.lst xs) => some xs
    | _ => none
  | _, _ => none
def dAt : D → Option Addr
  | .ref a => some a
  | _ => none
@[simp] theorem dItems_tup {xs : List D} {M : DM} : dItems (.tup xs) M = some xs := rfl
@[simp] theorem dItems_lst {xs : List D} {M : DM} : dItems (.lst xs) M = some xs := rfl
theorem dItems_ref {xs : List D} {M : DM} {a : Addr} (h : M a = some (.lst xs)) : dItems (.ref a) M = some xs := by
  simp [dItems, h]
theorem items_of {K : PySem.W.Frag} {H : Hp} {M : DM} {d : D} {v : V} {xs : List D} (r : Rep K H d v) (m : RM K H M) (e : dItems d M = some xs) :
    ∃ a vs, v = .ref a ∧ vs.length ≤ sizeLine ∧ RepL K H xs vs ∧ ((SqL K H a vs ∧ (∀ p, d = .ref p → p = a ∧ H a = some (.lst vs)) ∧ ((∃ p, d = .ref p) ∨ FrzL K H a vs)) ∨ (SqT K H a vs ∧ d = .tup xs)) := by
  cases r with
  | tup h z l =>
    cases e
    exact ⟨_, _, rfl, z, l, .inr ⟨h, rfl⟩⟩
  | lst h z l =>
    cases e
    exact ⟨_, _, rfl, z, l, .inl ⟨h.seq, (fun p q => nomatch q), .inr h⟩⟩
  | ref a =>
    have e' : (match M a with | some (.lst xs) => some xs | _ => none) = some xs := e
    cases q : M a with
    | none => rw [q] at e'; cases e'
    | some o =>
      rw [q] at e'
      cases o with
      | lst ys =>
        cases e'
        obtain ⟨vs, h1, z, l⟩ := m.lst q
        exact ⟨a, vs, rfl, z, l, .inl ⟨.of h1, fun p q => by cases q; exact ⟨rfl, h1⟩, .inl ⟨a, rfl⟩⟩⟩
      | dct _ _ => cases e'
      | tab _ => cases e'
      | dk _ => cases e'
  | _ => cases e

/-! ### what a list or tuple gives to a loop -/
section
variable {X : Cx} {tg l : Expr} {te : DTE} {pos p : Pos}
def iSeq (K : PySem.W.Frag) (tl : TE) : TI := fun σ H Rr => tl σ H fun x H1 => ∃ a, x = .ref a ∧ (((∃ xs, SqL K H1 a xs) ∧ Rr (Itl K a) H1) ∨ ((∃ xs, SqT K H1 a xs) ∧ Rr (Itt K a) H1))
theorem pi_seq {tl : TE} (hl : PE X l tl) : PI X tg l (iSeq X.K tl) := by
  refine ⟨fun pins s σ H Rr I h => thn (hl.run pins s σ H _ I h) fun v s1 ⟨x, H1, I1, r1, a, e, q⟩ => ?_⟩
  subst e
  cases r1
  have fp : ∀ b ∈ [s1.heap.objs.size], FpOk X pins H1 b := fun b hb => by
    have e : b = s1.heap.objs.size := by simpa using hb
    subst e
    exact I1.fpOk (Nat.le_refl _) (I1.hok.fresh (Nat.le_refl _))
  rcases q with ⟨⟨xs, hq⟩, q⟩ | ⟨⟨xs, hq⟩, q⟩
  · obtain ⟨its, _, pl, _⟩ := I1.list hq
    exact wpAny_pyIter_list pl.isList ⟨_, [s1.heap.objs.size], _, _, H1, rfl, I1.kept (t' := s1.toks) fun b o e => Heap.get?_push_of_some _ e,
      turn_list a _, ⟨_, Heap.get?_push_size _ rfl, rfl, rfl⟩, fp, q⟩
  · obtain ⟨its, _, pt, _⟩ := I1.tuple hq
    exact wpAny_pyIter_tuple (show s1.heap.IsTuple a its.toArray from pt) ⟨_, [s1.heap.objs.size], _, _, H1, rfl, I1.kept (t' := s1.toks) fun b o e => Heap.get?_push_of_some _ e,
      turn_tuple a _, ⟨_, Heap.get?_push_size _ rfl, rfl, rfl⟩, fp, q⟩
theorem sqL_inj {K : PySem.W.Frag} {H : Hp} {a : Addr} {vs : List V} (h : H a = some (.lst vs)) : SqL K H a vs := .of h
def diSeq (te : DTE) : DTI := fun m M Q => te m M fun d M1 => ∃ xs, dItems d M1 = some xs ∧ Q (xs, dAt d) M1
theorem stream_list {K : PySem.W.Frag} {H0 : Hp} {xs : List D} {at' : Option Addr} {a : Addr} {vs : List V} (z : vs.length ≤ sizeLine) (l : RepL K H0 xs vs)
    (hs : ∀ H, SrcOk K (xs, at') H0 H → ∃ ws, SqL K H a ws ∧ RepL K H xs ws) : Stream K (Itl K a) (xs, at') H0 := by
  refine ⟨by rw [show (xs, at').1 = xs from rfl, l.length]; exact z, fun i H ok hi => ?_, fun i H x H' ok hi y => ?_, fun H ok => ?_⟩
  · obtain ⟨ws, h1, h2⟩ := hs H ok
    obtain ⟨w, e, _⟩ := h2.get (List.getElem?_eq_getElem hi)
    exact ⟨ws, w, h1, e⟩
  · obtain ⟨ws, h1, h2⟩ := hs H ok
    obtain ⟨e1, e2⟩ := y
    subst e1
    obtain ⟨d, e3, rd⟩ := h2.get' (e2 ws h1)
    exact ⟨.refl _, fun _ q => q, d, e3, rd⟩
  · obtain ⟨ws, h1, h2⟩ := hs H ok
    exact ⟨ws, h1, by rw [← h2.length]; exact Nat.le_refl _⟩
theorem stream_tup {K : PySem.W.Frag} {H0 : Hp} {xs : List D} {at' : Option Addr} {a : Addr} {vs : List V} (z : vs.length ≤ sizeLine) (l : RepL K H0 xs vs) (h : SqT K H0 a vs) : Stream K (Itt K a) (xs, at') H0 := by
  refine ⟨by rw [show (xs, at').1 = xs from rfl, l.length]; exact z, fun i H ok hi => ?_, fun i H x H' ok hi y => ?_, fun H ok => ?_⟩
  · obtain ⟨w, e, _⟩ := l.get (List.getElem?_eq_getElem hi)
    exact ⟨vs, w, sqT_grow h ok.1, e⟩
  · obtain ⟨e1, e2⟩ := y
    subst e1
    obtain ⟨d, e3, rd⟩ := l.get' (e2 vs (sqT_grow h ok.1))
    exact ⟨.refl _, fun _ q => q, d, e3, rd.grow ok.1⟩
  · exact ⟨vs, sqT_grow h ok.1, by rw [← l.length]; exact Nat.le_refl _⟩
theorem di_seq (h : DE X l te) : DI X tg l (diSeq te) :=
  imI (pi_seq h) fun σ H Q ⟨m, M, Q', r, q, k⟩ => by
    refine ⟨m, M, _, r, q, fun d v M1 H1 g1 r1 m1 ⟨xs, e, q1⟩ => ?_⟩
    obtain ⟨a, vs, rfl, z, l, ⟨h1, h2, h3⟩ | ⟨h1, h2⟩⟩ := items_of r1 m1 e
    · refine ⟨a, rfl, .inl ⟨⟨vs, h1⟩, k _ M1 H1 _ g1 m1 q1 (stream_list z l fun H2 ok => ?_)⟩⟩
      rcases h3 with ⟨p, hp⟩ | h3
      · subst hp
        obtain ⟨e1, _⟩ := h2 p rfl
        subst e1
        obtain ⟨ws, h5, h6⟩ := ok.2 p rfl
        exact ⟨ws, .of h5, h6⟩
      · exact ⟨vs, (h3.grow ok.1).seq, l.grow ok.1⟩
    · exact ⟨a, rfl, .inr ⟨⟨vs, h1⟩, k _ M1 H1 _ g1 m1 q1 (stream_tup z l h1)⟩⟩
def rangeD (lo : Int) (n : Nat) : List D := (List.range n).map fun i => D.int (lo + (i : Nat))
theorem stream_range {K : PySem.W.Frag} {H0 : Hp} {lo : Int} {n : Nat} (hz : n ≤ sizeLine) : Stream K (Itr lo n) (rangeD lo n, none) H0 := by
  have hl : (rangeD lo n).length = n := by simp [rangeD]
  refine ⟨by rw [show (rangeD lo n, (none : Option Addr)).1 = rangeD lo n from rfl, hl]; exact hz, fun i H ok hi => ?_, fun i H x H' ok hi y => ?_, fun H ok => ?_⟩
  · exact (by rw [← hl]; exact hi : i < n)
  · obtain ⟨e1, e2⟩ := y
    subst e1
    subst e2
    have hi' : i < n := by rw [← hl]; exact hi
    exact ⟨.refl _, fun _ q => q, .int (lo + (i : Nat)), by simp [rangeD, hi'], .int _⟩
  · show n ≤ (rangeD lo n).length
    omega
def diRng1 (t : DTA) : DTI := fun m M Q => t m M fun ds M1 => ∃ j : Int, ds = [.int j] ∧ j ≤ 16777216 ∧ -1000000000 ≤ j ∧ Q (rangeD 0 j.toNat, none) M1
def diRng2 (t : DTA) : DTI := fun m M Q => t m M fun ds M1 => ∃ i j : Int, ds = [.int i, .int j] ∧ (-1000000000 ≤ i ∧ i ≤ 1000000000 ∧ -1000000000 ≤ j ∧ j ≤ 1000000000) ∧ j - i ≤ 16777216 ∧ Q (rangeD i (j - i).toNat, none) M1
theorem repL_one {K : PySem.W.Frag} {H : Hp} {d : D} {vs : List V} (h : RepL K H [d] vs) : ∃ v, vs = [v] ∧ Rep K H d v := by
  cases h with
  | cons a b =>
    cases b
    exact ⟨_, rfl, a⟩
theorem repL_two {K : PySem.W.Frag} {H : Hp} {d e : D} {vs : List V} (h : RepL K H [d, e] vs) : ∃ v w, vs = [v, w] ∧ Rep K H d v ∧ Rep K H e w := by
  cases h with
  | cons a b =>
    obtain ⟨w, e, r⟩ := repL_one b
    subst e
    exact ⟨_, w, rfl, a, r⟩
theorem di_range1 {a : Expr} {t : DTA} (hg : Gl X "range") (hm : X.mg "range" = none) (ha : DA X [a] t) (hs : starEach [a] X.env = [(false, eval a X.env)] := by rfl) : DI X tg (.Call (.Name "range" p) [a] [] pos) (diRng1 t) :=
  imI (pi_range1 hg hm ha hs) fun σ H Q ⟨m, M, Q', r, q, k⟩ => by
    refine ⟨m, M, _, r, q, fun ds vs M1 H1 g1 r1 m1 ⟨j, e, h1, h2, q1⟩ => ?_⟩
    subst e
    obtain ⟨v, e, rv⟩ := repL_one r1
    subst e
    cases rv
    have hsl := sizeLine_eq
    exact ⟨j, rfl, by omega, by omega, k _ M1 H1 _ g1 m1 q1 (stream_range (by omega))⟩
theorem di_range2 {a b : Expr} {t : DTA} (hg : Gl X "range") (hm : X.mg "range" = none) (ha : DA X [a, b] t) (hs : starEach [a, b] X.env = [(false, eval a X.env), (false, eval b X.env)] := by rfl) (hs2 : starEach [b] X.env = [(false, eval b X.env)] := by rfl) :
    DI X tg (.Call (.Name "range" p) [a, b] [] pos) (diRng2 t) :=
  imI (pi_range2 hg hm ha hs hs2) fun σ H Q ⟨m, M, Q', r, q, k⟩ => by
    refine ⟨m, M, _, r, q, fun ds vs M1 H1 g1 r1 m1 ⟨i, j, e, ⟨h1, h2, h3, h4⟩, h5, q1⟩ => ?_⟩
    subst e
    obtain ⟨v, w, e, rv, rw'⟩ := repL_two r1
    subst e
    cases rv
    cases rw'
    have hsl := sizeLine_eq
    exact ⟨i, j, rfl, ⟨by omega, by omega, by omega, by omega⟩, k _ M1 H1 _ g1 m1 q1 (stream_range (by omega))⟩
end

/-! ### comprehensions -/
def dwipe (m : DSt) : List Nat → DSt
  | [] => m
  | v :: vs => (dwipe m vs).set v none
theorem wipe_get (σ : SL) : ∀ (vs : List Nat) (i : Nat), (wipe σ vs)[i]? = if i ∈ vs then (if i < σ.length then some none else none) else σ[i]?
  | [], i => by simp [wipe]
  | v :: vs, i => by
    unfold wipe
    by_cases h : v = i
    · subst h
      by_cases hl : v < σ.length
      · rw [List.getElem?_set_self (by rw [wipe_length]; exact hl)]
        simp [hl]
      · rw [List.getElem?_eq_none (by rw [List.length_set, wipe_length]; omega)]
        simp [hl]
    · rw [List.getElem?_set_ne h, wipe_get σ vs i]
      have : ¬ i = v := fun z => h z.symm
      simp [this]
theorem dwipe_len (m : DSt) : ∀ vs : List Nat, (dwipe m vs).length = m.length
  | [] => rfl
  | v :: vs => by
    unfold dwipe
    rw [List.length_set, dwipe_len m vs]
theorem dwipe_some {m : DSt} {i : Nat} {d : D} : ∀ {vs : List Nat}, (dwipe m vs)[i]? = some (some d) → m[i]? = some (some d) ∧ i ∉ vs
  | [], h => ⟨h, by simp⟩
  | v :: vs, h => by
    unfold dwipe at h
    by_cases hv : v = i
    · subst hv
      by_cases hl : v < (dwipe m vs).length
      · rw [List.getElem?_set_self hl] at h
        cases h
      · rw [List.getElem?_eq_none (by rw [List.length_set]; omega)] at h
        cases h
    · rw [List.getElem?_set_ne hv] at h
      obtain ⟨h1, h2⟩ := dwipe_some h
      have : ¬ i = v := fun z => hv z.symm
      exact ⟨h1, by simp [this, h2]⟩
theorem R.wipe {K : PySem.W.Frag} {m : DSt} {M : DM} {σ : SL} {H : Hp} (r : R K m M σ H) (vs : List Nat) : R K (dwipe m vs) M (wipe σ vs) H := by
  refine ⟨by rw [dwipe_len, wipe_length]; exact r.len, fun i d e => ?_, r.mem⟩
  obtain ⟨h1, h2⟩ := dwipe_some e
  obtain ⟨v, h3, h4⟩ := r.slot i d h1
  exact ⟨v, by rw [wipe_get, if_neg h2]; exact h3, h4⟩
theorem wipe_off {ws vs : List Nat} {σ σ' : SL} (o : Off ws (wipe σ vs) σ') (hs : ∀ i ∈ ws, i ∈ vs) : wipe σ' vs = wipe σ vs := by
  apply List.ext_getElem?
  intro i
  have hl : σ'.length = σ.length := by rw [o.1, wipe_length]
  rw [wipe_get, wipe_get, hl]
  by_cases h : i ∈ vs
  · rw [if_pos h, if_pos h]
  · rw [if_neg h, if_neg h, o.2 i fun z => h (hs i z), wipe_get, if_neg h]
def dLcGo (src : Src) (g : DTG) (tt : DTT) (te : DTE) (m0 : DSt) (p : Addr) (Qd : List D → DM → Prop) : List D → List D → DM → Prop
  | [], acc, M => SrcV src M ∧ Qd acc M
  | d :: ds, acc, M => SrcV src M ∧ g d m0 M fun m1 M1 => tt m1 M1 fun b M2 =>
      if b = true then te m1 M2 fun y M3 => M3 p = some (.lst acc) ∧ dLcGo src g tt te m0 p Qd ds (acc ++ [y]) (mput M3 p (.lst (acc ++ [y])))
      else M2 p = some (.lst acc) ∧ dLcGo src g tt te m0 p Qd ds acc M2
/-- [e for ..]: a list that will be changed, one that stays -/
def dLc (t : DTI) (g : DTG) (tt : DTT) (te : DTE) (vs : List Nat) : DTE := fun m M Q => t m M fun src M1 => src.1.length ≤ sizeLine → ∀ p, M1 p = none → dLcGo src g tt te (dwipe m vs) p (fun _ M2 => Q (.ref p) M2) src.1 [] (mput M1 p (.lst []))
def dLcF (t : DTI) (g : DTG) (tt : DTT) (te : DTE) (vs : List Nat) : DTE := fun m M Q => t m M fun src M1 => src.1.length ≤ sizeLine → ∀ p, M1 p = none → dLcGo src g tt te (dwipe m vs) p (fun acc M2 => Q (.lst acc) (mdel M2 p)) src.1 [] (mput M1 p (.lst []))
abbrev dYes : DTT := fun _ M Q => Q true M
section
variable {X : Cx} {elt tg iter : Expr} {ifs : List Expr} {scope : Scope} {own : List (Str × Nat)} {pos : Pos} {t : DTI} {g : DTG} {tt : DTT} {te : DTE} {ws : List Nat}
abbrev DPTs (X : Cx) (ifs : List Expr) (t : DTT) : Prop := PTs X ifs (upT X.K t)
theorem dts_nil : DPTs X [] dYes := ⟨fun pins s σ H Q I h => pts_nil.run pins s σ H Q I (by
  obtain ⟨m, M, Q', r, q, k⟩ := h
  exact k true M H (.refl H) r.mem q)⟩
theorem dts_one {c : Expr} {t : DTT} (h : DT X c t) : DPTs X [c] t := pts_one h
theorem lc_up {K : PySem.W.Frag} {vs : List Nat} (hsub : ∀ i ∈ ws, i ∈ vs) {σ : SL} {H : Hp} {Q : VK} {Qf : Addr → List D → DM → Prop}
    (fin : ∀ p acc ws M2 H2, Grow H H2 → RM K H2 M2 → H2 p = some (.lst ws) → ws.length ≤ sizeLine → RepL K H2 acc ws → M2 p = some (.lst acc) → Qf p acc M2 → Q (.ref p) H2)
    (m : DSt) (M : DM) (r : R K m M σ H) (q : t m M fun src M1 => src.1.length ≤ sizeLine → ∀ p, M1 p = none → dLcGo src g tt te (dwipe m vs) p (Qf p) src.1 [] (mput M1 p (.lst []))) :
    tLc (upI K t) (upG K ws g) (upT K tt) (upE K te) vs σ H Q := by
  refine ⟨m, M, _, r, q, fun src M1 H1 J g1 m1 q1 st p np => ?_⟩
  have q2 := q1 st.small p (m1.free np)
  have g2 : Grow H1 (upd H1 p (.lst [])) := .new np
  refine ⟨fun i n H2 => i + n = src.1.length ∧ Grow H1 H2 ∧ ∃ acc M2, acc.length ≤ i ∧ M2 p = some (.lst acc) ∧ RM K H2 M2 ∧ dLcGo src g tt te (dwipe m vs) p (Qf p) (src.1.drop i) acc M2,
    ⟨src.1.length, by omega, g2, [], _, Nat.le_refl _, mput_same, m1.newLst np (Nat.zero_le _) .nil, q2⟩, ?_⟩
  rintro i n H2 ⟨hl, g3, acc, M2, ha, hp, m2, q3⟩
  have r2 : R K (dwipe m vs) M2 (wipe σ vs) H2 := (r.wipe vs).grow (g1.trans g3) m2
  by_cases hlt : i < src.1.length
  · rw [List.drop_eq_getElem_cons hlt] at q3
    obtain ⟨sv, q3⟩ := q3
    have so := sv.ok g3 m2
    refine .inr ⟨st.go i H2 so hlt, fun H3 => Grow H1 H3 ∧ ∃ acc M2, acc.length ≤ i + 1 ∧ M2 p = some (.lst acc) ∧ RM K H3 M2 ∧ dLcGo src g tt te (dwipe m vs) p (Qf p) (src.1.drop (i + 1)) acc M2,
      fun H3 ⟨g4, z⟩ => ⟨n - 1, by omega, by omega, g4, z⟩, fun x H3 y => ?_⟩
    obtain ⟨g4, k4, d, e4, rd⟩ := st.yld i H2 x H3 so hlt y
    have ed : d = src.1[i] := by
      rw [List.getElem?_eq_getElem hlt] at e4
      exact (Option.some.inj e4).symm
    subst ed
    refine ⟨_, _, M2, _, rd, r2.grow g4 (k4 _ m2), q3, fun m5 M5 σ5 H5 g5 r5 o5 q5 => ⟨wipe_off o5 hsub, ?_⟩⟩
    refine ⟨m5, M5, _, r5, q5, fun b M6 H6 g6 m6 q6 => ?_⟩
    have g06 : Grow H1 H6 := ((g3.trans g4).trans g5).trans g6
    cases b with
    | true =>
      refine ⟨m5, M6, _, r5.grow g6 m6, q6, fun y v M7 H7 g7 rv m7 ⟨e7, q7⟩ => ?_⟩
      obtain ⟨us, h8, z8, l8⟩ := m7.lst e7
      have hsz : us.length < sizeLine := by
        rw [← l8.length]
        exact Nat.lt_of_le_of_lt ha (Nat.lt_of_lt_of_le hlt st.small)
      refine ⟨us, h8, hsz, (g06.trans g7).trans (.put h8), acc ++ [y], _, by rw [List.length_append]; simp; omega, mput_same, m7.putLst h8 (by rw [List.length_append]; exact hsz) (l8.append (.one rv)), q7⟩
    | false =>
      have q6' : M6 p = some (.lst acc) ∧ dLcGo src g tt te (dwipe m vs) p (Qf p) (src.1.drop (i + 1)) acc M6 := q6
      exact ⟨g06, acc, M6, by omega, q6'.1, m6, q6'.2⟩
  · have e : i = src.1.length := by omega
    subst e
    rw [List.drop_length] at q3
    obtain ⟨us, h8, z8, l8⟩ := m2.lst hp
    exact .inl ⟨st.stop H2 (q3.1.ok g3 m2), fin p acc us M2 H2 (g1.trans g3) m2 h8 z8 l8 hp q3.2⟩
theorem d_lc (hc : X.calm = true) (hN : X.N.Nodup) (hi : DI X tg iter t) (ok : BlkOk X.N X.env.scope scope own) (hsub : ∀ i ∈ ws, i ∈ own.map (·.2))
    (hg : ∀ (s : Shared) (H : Hp) (C : Addr) (cl : List (Str × Addr)) (fp : List Addr), DG (X.blk s H scope (compEnvC scope cl C X.env) fp) ws tg g)
    (ht : ∀ (s : Shared) (H : Hp) (C : Addr) (cl : List (Str × Addr)) (fp : List Addr), DPTs (X.blk s H scope (compEnvC scope cl C X.env) fp) ifs tt)
    (he : ∀ (s : Shared) (H : Hp) (C : Addr) (cl : List (Str × Addr)) (fp : List Addr), DE (X.blk s H scope (compEnvC scope cl C X.env) fp) elt te)
    (hs : ∀ x, foldedSetIterable iter X.env x = pure x := by intro _; rfl) : DE X (.ListComp elt [⟨tg, iter, ifs, 0⟩] scope pos) (dLc t g tt te (own.map (·.2))) :=
  imE (pe_lc hc hN hi ok hg ht he hs) fun σ H Q ⟨m, M, Q', r, q, k⟩ =>
    lc_up (Qf := fun p _ M2 => Q' (.ref p) M2) hsub (fun p acc ws M2 H2 g2 m2 _ _ _ _ q2 => k _ _ M2 H2 g2 (.ref p) m2 q2) m M r q
theorem d_lcF (hc : X.calm = true) (hN : X.N.Nodup) (hi : DI X tg iter t) (ok : BlkOk X.N X.env.scope scope own) (hsub : ∀ i ∈ ws, i ∈ own.map (·.2))
    (hg : ∀ (s : Shared) (H : Hp) (C : Addr) (cl : List (Str × Addr)) (fp : List Addr), DG (X.blk s H scope (compEnvC scope cl C X.env) fp) ws tg g)
    (ht : ∀ (s : Shared) (H : Hp) (C : Addr) (cl : List (Str × Addr)) (fp : List Addr), DPTs (X.blk s H scope (compEnvC scope cl C X.env) fp) ifs tt)
    (he : ∀ (s : Shared) (H : Hp) (C : Addr) (cl : List (Str × Addr)) (fp : List Addr), DE (X.blk s H scope (compEnvC scope cl C X.env) fp) elt te)
    (hs : ∀ x, foldedSetIterable iter X.env x = pure x := by intro _; rfl) : DE X (.ListComp elt [⟨tg, iter, ifs, 0⟩] scope pos) (dLcF t g tt te (own.map (·.2))) :=
  imE (pe_fz (pe_lc hc hN hi ok hg ht he hs)) fun σ H Q ⟨m, M, Q', r, q, k⟩ =>
    lc_up (Qf := fun p acc M2 => Q' (.lst acc) (mdel M2 p)) hsub (fun p acc ws M2 H2 g2 m2 h8 z8 l8 _ q2 =>
      ⟨p, ws, rfl, h8, fun o => k _ _ _ _ (g2.trans (.put h8)) (.lst (.inl ⟨o, upd_same⟩) z8 (l8.grow (.put h8))) (m2.frz h8) q2⟩) m M r q
end

/-! ### defs -/
abbrev DSp := List D → DM → DVK → Prop
def upSp (K : PySem.W.Frag) (dsp : DSp) : Sp := fun vs H Q _ => ∃ ds M Q', RepL K H ds vs ∧ RM K H M ∧ dsp ds M Q' ∧
  ∀ d v M' H', Grow H H' → Rep K H' d v → RM K H' M' → Q' d M' → Q v H'
/-- the def x keeps the promise dsp -/
structure Cal (P : Program) (w : World) (K : PySem.W.Frag) (mg : Str → Option Value) (base : Heap) (k : Nat) (x : Str) (ps : List Str) (dsp : DSp) : Prop where
  ex : ∃ f fd, FnOk P w K mg base CX0 k f fd ps (upSp K dsp) ∧ mg x = some (.ref f) ∧ PySem.W.keepIn K (.ref f) = true ∧ Binds K fd ps []
/-- the def x as the top has left it -/
structure Def (K : PySem.W.Frag) (mg : Str → Option Value) (x : Str) (st : Stmt) (ps : List Str) : Prop where
  ex : ∃ f fd, Fun K x x st f fd ∧ mg x = some (.ref f) ∧ Binds K fd ps []
def dCall (dsp : DSp) (t : DTA) : DTE := fun m M Q => t m M fun ds M1 => dsp ds M1 Q
def ret (Q : DVK) : DVK := fun d M => ∃ M0, MLe M0 M ∧ Q d M0
theorem ret_of {Q : DVK} {d : D} {M : DM} (h : Q d M) : ret Q d M := ⟨M, .refl M, h⟩
theorem ret_le {Q : DVK} {d : D} {M M0 : DM} (l : MLe M0 M) (h : Q d M0) : ret Q d M := ⟨M0, l, h⟩
def dstart (N : List Str) (ds : List D) : DSt := ds.map some ++ List.replicate (N.length - ds.length) none
def dEnds (Q : DVK) : DEnds := { nx := fun _ M => ret Q .non M, rt := ret Q }
section
variable {P : Program} {w : World} {K : PySem.W.Frag} {mg : Str → Option Value} {base : Heap} {k j : Nat} {x : Str} {ps N : List Str} {dsp : DSp} {st : Stmt}
abbrev Ctx (P : Program) (w : World) (K : PySem.W.Frag) (mg : Str → Option Value) (base : Heap) (N : List Str) (x : Str) (st : Stmt) (f : Addr) (cdv : Value) (A : Around) (outer : List Env) (s : Shared) (H : Hp) (E : XK) : Cx :=
  (cxOf CX0 P w K mg base N x (defScope st) f cdv A outer s H E).nox
theorem start_slot {H : Hp} {ds : List D} {vs : List V} {n i : Nat} {d : D} (l : RepL K H ds vs) (e : (ds.map some ++ List.replicate (n - ds.length) none)[i]? = some (some d)) :
    ∃ v, (vs.map some ++ List.replicate (n - vs.length) none)[i]? = some (some v) ∧ Rep K H d v := by
  have hl := l.length
  by_cases hi : i < ds.length
  · rw [List.getElem?_append_left (by simpa using hi)] at e
    rw [List.getElem?_append_left (by simpa [← hl] using hi)]
    rw [List.getElem?_map] at e ⊢
    cases q : ds[i]? with
    | none => rw [q] at e; cases e
    | some d' =>
      rw [q] at e
      cases e
      obtain ⟨v, h1, h2⟩ := l.get q
      exact ⟨v, by rw [h1]; rfl, h2⟩
  · rw [List.getElem?_append_right (by simpa using hi), List.getElem?_replicate] at e
    split at e <;> cases e
/-- THE RULE for a def -/
theorem Def.cal (F : Def K mg x st ps) (S : FnScope N ps (defScope st)) (len : ∀ ds M Q, dsp ds M Q → ds.length = ps.length) {t : DTS}
    (body : ∀ (f : Addr) (cdv : Value) (A : Around) (outer : List Env) (s : Shared) (H : Hp) (E : XK), Room k (A.deeper (envOfC x (defScope st) s.heap.objs.size f cdv)) → DSs (Ctx P w K mg base N x st f cdv A outer s H E) (defBody st) t)
    (rd : ∀ ds M Q, dsp ds M Q → t (dEnds Q) (dstart N ds) M) : Cal P w K mg base (k + 1) x ps dsp := by
  obtain ⟨f, fd, F, hm, hb⟩ := F.ex
  refine ⟨f, fd, F.ok S (fun vs H Q E ⟨ds, M, Q', l, _, q, _⟩ => by rw [← l.length]; exact len ds M Q' q) (fun cdv A outer s H vs Q E hr ⟨ds, M, Q', l, m, q, kk⟩ => ?_), hm, F.kp, hb⟩
  refine ⟨_, body f cdv A outer s H E hr, dstart N ds, M, dEnds Q', ⟨?_, fun i d e => start_slot l e, m⟩, rd ds M Q' q,
    ⟨fun m1 M1 σ1 H1 g1 r1 ⟨M0, le, q1⟩ => kk _ _ M0 H1 g1 .non (r1.mem.le le) q1, fun _ _ _ _ _ _ z => z.elim, fun _ _ _ _ _ _ z => z.elim, fun d v M1 H1 g1 r1 m1 ⟨M0, le, q1⟩ => kk d v M0 H1 g1 r1 (m1.le le) q1⟩⟩
  simp [dstart, L2.start, l.length]
theorem Cal.mono (C : Cal P w K mg base j x ps dsp) (h : j ≤ k) : Cal P w K mg base k x ps dsp :=
  let ⟨f, fd, F, a, b, c⟩ := C.ex; ⟨f, fd, F.mono h, a, b, c⟩
/-- a weaker promise -/
theorem Cal.imp {dsp' : DSp} (C : Cal P w K mg base k x ps dsp) (h : ∀ ds M Q, dsp' ds M Q → dsp ds M Q) : Cal P w K mg base k x ps dsp' :=
  let ⟨f, fd, F, a, b, c⟩ := C.ex; ⟨f, fd, F.imp fun vs H Q E ⟨ds, M, Q', l, m, q, kk⟩ => ⟨ds, M, Q', l, m, h ds M Q' q, kk⟩, a, b, c⟩
end
section
variable {X : Cx} {k : Nat} {x : Str} {ps : List Str} {dsp : DSp} {e : Expr} {es : List Expr} {p pos : Pos} {t : DTA}
theorem call_up {σ : SL} {H : Hp} {Q : VK} (h : upE X.K (dCall dsp t) σ H Q) : tCall (upSp X.K dsp) [] E0 (upA X.K t) σ H Q := by
  obtain ⟨m, M, Q', r, q, kk⟩ := h
  refine ⟨m, M, _, r, q, fun ds vs M1 H1 g1 l1 m1 q1 => ?_⟩
  exact ⟨ds, M1, Q', by rw [List.append_nil]; exact l1, m1, q1, fun d v M2 H2 g2 => kk d v M2 H2 (g1.trans g2)⟩
theorem d_call (C : Cal X.prog X.w X.K X.mg X.base k x ps dsp) (hr : Room k X.A) (hg : Gl X x) (ha : DA X (e :: es) t) (hdb : (x == ("__debug__" : Str)) = false := by decide)
    (he : starEach (e :: es) X.env = (false, eval e X.env) :: starEach es X.env := by rfl) (hpl : (backTo pos (starEach es X.env)).any (·.1) = false := by rfl) : DE X (.Call (.Name x p) (e :: es) [] pos) (dCall dsp t) := by
  obtain ⟨f, fd, F, hm, hk, hb⟩ := C.ex
  exact imE (pe_call F hr hg hm hk hb .nil pass0 ha hdb he hpl) fun σ H Q h => call_up (σ := σ) (H := H) (Q := Q) h
theorem d_call0 (C : Cal X.prog X.w X.K X.mg X.base k x ps dsp) (hr : Room k X.A) (hg : Gl X x) (hdb : (x == ("__debug__" : Str)) = false := by decide) : DE X (.Call (.Name x p) [] [] pos) (dCall dsp dNil) := by
  obtain ⟨f, fd, F, hm, hk, hb⟩ := C.ex
  refine imE (pe_call0 F hr hg hm hk hb .nil pass0 hdb) fun σ H Q ⟨m, M, Q', r, q, kk⟩ => ?_
  exact ⟨[], M, Q', .nil, r.mem, q, kk⟩

/-! ### built-ins -/
abbrev DCR := List D → DM → DVK → Prop
def upC (K : PySem.W.Frag) (dr : DCR) : List V → Hp → VK → Prop := fun vs H Q => ∃ ds M Q', RepL K H ds vs ∧ RM K H M ∧ dr ds M Q' ∧
  ∀ d v M' H', Grow H H' → Rep K H' d v → RM K H' M' → Q' d M' → Q v H'
abbrev DCall (X : Cx) (f : Value) (dr : DCR) : Prop := CallR X f (upC X.K dr)
def dCB (dr : DCR) (t : DTA) : DTE := fun m M Q => t m M fun ds M1 => dr ds M1 Q
theorem cb_up {dr : DCR} {σ : SL} {H : Hp} {Q : VK} (h : upE X.K (dCB dr t) σ H Q) : tCB (upC X.K dr) (upA X.K t) σ H Q := by
  obtain ⟨m, M, Q', r, q, kk⟩ := h
  exact ⟨m, M, _, r, q, fun ds vs M1 H1 g1 l1 m1 q1 => ⟨ds, M1, Q', l1, m1, q1, fun d v M2 H2 g2 => kk d v M2 H2 (g1.trans g2)⟩⟩
theorem d_cb {id : String} {dr : DCR} (hc : DCall X (.builtin id) dr) (hg : Gl X x) (hm : X.mg x = none) (hv : bootBuiltins x = some (.builtin id)) (ha : DA X (e :: es) t) (hn : x ≠ "__name__" := by decide) (hdb : (x == ("__debug__" : Str)) = false := by decide)
    (he : starEach (e :: es) X.env = (false, eval e X.env) :: starEach es X.env := by rfl) (hpl : (backTo pos (starEach es X.env)).any (·.1) = false := by rfl) : DE X (.Call (.Name x p) (e :: es) [] pos) (dCB dr t) :=
  imE (pe_callB hc hg hm hv ha hn hdb he hpl) fun σ H Q h => cb_up (σ := σ) (H := H) (Q := Q) h
theorem d_ct {T : String} {dr : DCR} (hc : DCall X (.type T) dr) (hg : Gl X x) (hm : X.mg x = none) (hv : bootBuiltins x = some (.type T)) (ha : DA X (e :: es) t) (hn : x ≠ "__name__" := by decide) (hdb : (x == ("__debug__" : Str)) = false := by decide)
    (he : starEach (e :: es) X.env = (false, eval e X.env) :: starEach es X.env := by rfl) (hpl : (backTo pos (starEach es X.env)).any (·.1) = false := by rfl) : DE X (.Call (.Name x p) (e :: es) [] pos) (dCB dr t) :=
  imE (pe_callTy hc hg hm hv ha hn hdb he hpl) fun σ H Q h => cb_up (σ := σ) (H := H) (Q := Q) h
/-- a built-in function that a name of the module holds -/
theorem d_cm {id : String} {dr : DCR} (hc : DCall X (.builtin id) dr) (hg : Gl X x) (hm : X.mg x = some (.builtin id)) (ha : DA X (e :: es) t) (hdb : (x == ("__debug__" : Str)) = false := by decide)
    (he : starEach (e :: es) X.env = (false, eval e X.env) :: starEach es X.env := by rfl) (hpl : (backTo pos (starEach es X.env)).any (·.1) = false := by rfl) : DE X (.Call (.Name x p) (e :: es) [] pos) (dCB dr t) :=
  imE (pe_callBfun hc hg hm ha hdb he hpl) fun σ H Q h => cb_up (σ := σ) (H := H) (Q := Q) h
end
end DL
namespace DL
open PySem PySem.Spec PyProof.Rows L2

/-! ### data: what == reads -/
mutual
def D.py : D → PyData
  | .non => .none
  | .bl b => .bool b
  | .int i => .int i
  | .str x => .str x
  | .tup xs => .tuple (D.pys xs)
  | .lst xs => .list (D.pys xs)
  | .dct _ => .none
  | .ref _ => .none
  | .ty _ => .none
def D.pys : List D → List PyData
  | [] => []
  | x :: xs => D.py x :: D.pys xs
end
/-- plain data, at most n deep -/
def dOk : Nat → D → Bool
  | _, .non => true
  | _, .bl _ => true
  | _, .int _ => true
  | _, .str x => PyData.strOk x
  | n + 1, .tup xs => xs.all (dOk n)
  | n + 1, .lst xs => xs.all (dOk n)
  | _, _ => false
def D.eqv (x y : D) : Bool := PyData.eqv x.py y.py
theorem pys_len : ∀ xs : List D, (D.pys xs).length = xs.length
  | [] => rfl
  | _ :: xs => congrArg (· + 1) (pys_len xs)
theorem pys_map : ∀ xs : List D, D.pys xs = xs.map D.py
  | [] => by simp [D.pys]
  | x :: xs => by simp [D.pys, pys_map xs]
theorem lay_all : ∀ {n : Nat} {xs : List D}, (∀ x ∈ xs, x.py.canLay0 = true ∧ x.py.depth ≤ n) → PyData.canLayAll0 (D.pys xs) = true ∧ PyData.depthAll (D.pys xs) ≤ n
  | n, [], _ => by simp [D.pys, PyData.canLayAll0, PyData.depthAll]
  | n, x :: xs, h => by
    obtain ⟨h1, h2⟩ := h x (by simp)
    obtain ⟨h3, h4⟩ := lay_all (n := n) (xs := xs) fun y hy => h y (by simp [hy])
    simp only [D.pys, PyData.canLayAll0, PyData.depthAll, h1, h3, Bool.and_self, true_and]
    omega
theorem dOk_lay : ∀ (n : Nat) (d : D), dOk n d = true → d.py.canLay0 = true ∧ d.py.depth ≤ n
  | n, .non, _ => by simp [D.py, PyData.canLay0, PyData.depth]
  | n, .bl _, _ => by simp [D.py, PyData.canLay0, PyData.depth]
  | n, .int _, _ => by simp [D.py, PyData.canLay0, PyData.depth]
  | n, .str x, h => by
    have h' : PyData.strOk x = true := by
      cases n <;> exact h
    simp [D.py, PyData.canLay0, PyData.depth, h']
  | 0, .tup xs, h => by cases h
  | 0, .lst xs, h => by cases h
  | n + 1, .tup xs, h => by
    have h' : xs.all (dOk n) = true := h
    have z := lay_all (n := n) (xs := xs) fun x hx => dOk_lay n x (List.all_eq_true.mp h' x hx)
    simp only [D.py, PyData.canLay0, PyData.depth]
    exact ⟨z.1, Nat.succ_le_succ z.2⟩
  | n + 1, .lst xs, h => by
    have h' : xs.all (dOk n) = true := h
    have z := lay_all (n := n) (xs := xs) fun x hx => dOk_lay n x (List.all_eq_true.mp h' x hx)
    simp only [D.py, PyData.canLay0, PyData.depth]
    exact ⟨z.1, Nat.succ_le_succ z.2⟩
  | n, .dct _, h => by cases n <;> cases h
  | n, .ref _, h => by cases n <;> cases h
  | n, .ty _, h => by cases n <;> cases h
theorem dOk_shaped {n : Nat} {d : D} (h : dOk n d = true) (hn : n ≤ 64) : SeqAt.shaped d.py = true := by
  obtain ⟨h1, h2⟩ := dOk_lay n d h
  unfold SeqAt.shaped
  rw [h1, Bool.true_and]
  exact decide_eq_true (Nat.le_trans h2 hn)
theorem dOk_mono : ∀ {n m : Nat} {d : D}, dOk n d = true → n ≤ m → dOk m d = true
  | _, m, .non, _, _ => by cases m <;> rfl
  | _, m, .bl _, _, _ => by cases m <;> rfl
  | _, m, .int _, _, _ => by cases m <;> rfl
  | n, m, .str x, h, _ => by
    have h' : PyData.strOk x = true := by cases n <;> exact h
    cases m <;> exact h'
  | 0, _, .tup _, h, _ => by cases h
  | 0, _, .lst _, h, _ => by cases h
  | n + 1, 0, .tup xs, h, l => by omega
  | n + 1, 0, .lst xs, h, l => by omega
  | n + 1, m + 1, .tup xs, h, l => by
    have h' : xs.all (dOk n) = true := h
    show xs.all (dOk m) = true
    exact List.all_eq_true.mpr fun x hx => dOk_mono (List.all_eq_true.mp h' x hx) (Nat.le_of_succ_le_succ l)
  | n + 1, m + 1, .lst xs, h, l => by
    have h' : xs.all (dOk n) = true := h
    show xs.all (dOk m) = true
    exact List.all_eq_true.mpr fun x hx => dOk_mono (List.all_eq_true.mp h' x hx) (Nat.le_of_succ_le_succ l)
  | n, _, .dct _, h, _ => by cases n <;> cases h
  | n, _, .ref _, h, _ => by cases n <;> cases h
  | n, _, .ty _, h, _ => by cases n <;> cases h
section
variable {K : PySem.W.Frag} {H : Hp}
mutual
theorem Rep.dp : ∀ {n : Nat} {d : D} {v : V}, Rep K H d v → dOk n d = true → Dp K H v d.py
  | _, _, _, .non, _ => .non
  | _, _, _, .bl b, _ => .bl b
  | _, _, _, .int i, _ => .int i
  | _, _, _, .str x, _ => .str x
  | 0, _, _, .tup _ _ _, h => by cases h
  | 0, _, _, .lst _ _ _, h => by cases h
  | n + 1, _, _, .tup hs _ l, h => .tup hs (RepL.dp (n := n) l h)
  | n + 1, _, _, .lst hs _ l, h => .lst hs.seq (RepL.dp (n := n) l h)
  | n, _, _, .ref _, h => by cases n <;> cases h
  | n, _, _, .ty _, h => by cases n <;> cases h
  | n, _, _, .dct _ _ _, h => by cases n <;> cases h
theorem RepL.dp : ∀ {n : Nat} {ds : List D} {vs : List V}, RepL K H ds vs → ds.all (dOk n) = true → DpAll K H vs (D.pys ds)
  | _, _, _, .nil, _ => .nil
  | n, _, _, .cons r l, h => by
    rw [List.all_cons, Bool.and_eq_true] at h
    exact .cons (Rep.dp (n := n) r h.1) (RepL.dp (n := n) l h.2)
end
end
/-- == is identity where no truth value stands -/
def nobl : D → Bool
  | .bl _ => false
  | .tup xs => nobls xs
  | .lst xs => nobls xs
  | _ => true
where nobls : List D → Bool
  | [] => true
  | x :: xs => nobl x && nobls xs

/-! ### operators on data -/
section
variable {X : Cx}
def dEq : DR2 := fun x y M Q => (dOk 64 x = true ∧ dOk 64 y = true) ∧ Q (.bl (D.eqv x y)) M
def dNe : DR2 := fun x y M Q => (dOk 64 x = true ∧ dOk 64 y = true) ∧ Q (.bl (!D.eqv x y)) M
theorem o_eq (hu : X.A.units + 64 < cLine) : DOp X (compareOp .Eq) dEq := by
  intro pins s σ H x y v u Q I rx ry ⟨d, e, M, Q', r1, r2, m, ⟨⟨h1, h2⟩, q⟩, k⟩
  exact op_eqD hu pins s σ H x y v u Q I rx ry ⟨_, _, r1.dp h1, r2.dp h2, dOk_shaped h1 (Nat.le_refl _), dOk_shaped h2 (Nat.le_refl _), k _ _ M H (.refl H) (.bl _) m q⟩
theorem o_ne (hu : X.A.units + 64 < cLine) : DOp X (compareOp .NotEq) dNe := by
  intro pins s σ H x y v u Q I rx ry ⟨d, e, M, Q', r1, r2, m, ⟨⟨h1, h2⟩, q⟩, k⟩
  exact op_neD hu pins s σ H x y v u Q I rx ry ⟨_, _, r1.dp h1, r2.dp h2, dOk_shaped h1 (Nat.le_refl _), dOk_shaped h2 (Nat.le_refl _), k _ _ M H (.refl H) (.bl _) m q⟩
def D.isN : D → Bool
  | .non => true
  | _ => false
theorem Rep.isN {K : PySem.W.Frag} {H : Hp} {d : D} {v : V} (r : Rep K H d v) : decide (v = .non) = d.isN := by
  cases r <;> simp [D.isN]
def dIs : DR2 := fun x y M Q => y = .non ∧ Q (.bl x.isN) M
def dIsNot : DR2 := fun x y M Q => y = .non ∧ Q (.bl (!x.isN)) M
theorem o_is : DOp X (compareOp .Is) dIs := by
  intro pins s σ H x y v u Q I rx ry ⟨d, e, M, Q', r1, r2, m, ⟨h1, q⟩, k⟩
  subst h1
  cases r2
  exact op_isN pins s σ H x _ v u Q I rx ry ⟨rfl, by rw [r1.isN]; exact k _ _ M H (.refl H) (.bl _) m q⟩
theorem o_isnot : DOp X (compareOp .IsNot) dIsNot := by
  intro pins s σ H x y v u Q I rx ry ⟨d, e, M, Q', r1, r2, m, ⟨h1, q⟩, k⟩
  subst h1
  cases r2
  exact op_notN pins s σ H x _ v u Q I rx ry ⟨rfl, by rw [r1.isN]; exact k _ _ M H (.refl H) (.bl _) m q⟩
/-- x in a list or tuple of data -/
def dIn : DR2 := fun x y M Q => ∃ ys, dItems y M = some ys ∧ (dOk 63 x = true ∧ ys.all (dOk 63) = true) ∧ Q (.bl (ys.any fun z => D.eqv z x)) M
def dNotIn : DR2 := fun x y M Q => ∃ ys, dItems y M = some ys ∧ (dOk 63 x = true ∧ ys.all (dOk 63) = true) ∧ Q (.bl (!ys.any fun z => D.eqv z x)) M
theorem any_pys (x : D) : ∀ ys : List D, (D.pys ys).any (fun z => PyData.eqv z x.py) = ys.any fun z => D.eqv z x
  | [] => rfl
  | y :: ys => by
    rw [D.pys, List.any_cons, List.any_cons, any_pys x ys]
    rfl
theorem o_in (hu : X.A.units + 65 < cLine) : DOp X (compareOp .In) dIn := by
  intro pins s σ H x y v u Q I rx ry ⟨d, e, M, Q', r1, r2, m, ⟨ys, h1, ⟨h2, h3⟩, q⟩, k⟩
  have hs : SeqAt.shaped (PyData.list (D.pys ys)) = true := dOk_shaped (n := 64) (d := .lst ys) h3 (Nat.le_refl _)
  have hst : SeqAt.shaped (PyData.tuple (D.pys ys)) = true := dOk_shaped (n := 64) (d := .tup ys) h3 (Nat.le_refl _)
  have hx := dOk_shaped h2 (by decide)
  have fin := k _ _ M H (.refl H) (.bl _) m q
  rw [← any_pys] at fin
  obtain ⟨a, vs, rfl, z, l, ⟨h4, _⟩ | ⟨h4, _⟩⟩ := items_of r2 m h1
  · exact op_inD hu pins s σ H x _ v u Q I rx ry ⟨_, _, r1.dp h2, .lst h4 (l.dp h3), hx, hs, fin⟩
  · obtain ⟨as, q1⟩ := Dp.reads I _ x v (r1.dp h2) rx
    obtain ⟨bs, q2⟩ := Dp.reads I (.tuple (D.pys ys)) _ u (.tup h4 (l.dp h3)) ry
    exact SeqAt.in_tuple_reads q2 q1 (SeqAt.canLay_of_shaped hst) (SeqAt.canLay_of_shaped hx) (room_in_shaped hx hu) ⟨.bl _, H, I, rfl, fin⟩
theorem o_notin (hu : X.A.units + 65 < cLine) : DOp X (compareOp .NotIn) dNotIn := by
  intro pins s σ H x y v u Q I rx ry ⟨d, e, M, Q', r1, r2, m, ⟨ys, h1, ⟨h2, h3⟩, q⟩, k⟩
  have hs : SeqAt.shaped (PyData.list (D.pys ys)) = true := dOk_shaped (n := 64) (d := .lst ys) h3 (Nat.le_refl _)
  have hst : SeqAt.shaped (PyData.tuple (D.pys ys)) = true := dOk_shaped (n := 64) (d := .tup ys) h3 (Nat.le_refl _)
  have hx := dOk_shaped h2 (by decide)
  have fin := k _ _ M H (.refl H) (.bl _) m q
  rw [← any_pys] at fin
  obtain ⟨a, vs, rfl, z, l, ⟨h4, _⟩ | ⟨h4, _⟩⟩ := items_of r2 m h1
  · exact op_notInD hu pins s σ H x _ v u Q I rx ry ⟨_, _, r1.dp h2, .lst h4 (l.dp h3), hx, hs, fin⟩
  · obtain ⟨as, q1⟩ := Dp.reads I _ x v (r1.dp h2) rx
    obtain ⟨bs, q2⟩ := Dp.reads I (.tuple (D.pys ys)) _ u (.tup h4 (l.dp h3)) ry
    exact SeqAt.notIn_tuple_reads q2 q1 (SeqAt.canLay_of_shaped hst) (SeqAt.canLay_of_shaped hx) (room_in_shaped hx hu) ⟨.bl _, H, I, rfl, fin⟩
/-- xs[i] -/
def dIx : DR2 := fun x y M Q => ∃ xs i d, dItems x M = some xs ∧ y = .int i ∧ atI xs i = some d ∧ Q d M
theorem atI_rep {K : PySem.W.Frag} {H : Hp} {ds : List D} {vs : List V} {i : Int} {d : D} (l : RepL K H ds vs) (h : atI ds i = some d) : ∃ v, atI vs i = some v ∧ Rep K H d v := by
  unfold atI at h ⊢
  rw [← l.length]
  cases q : ixN ds.length i with
  | none => rw [q] at h; cases h
  | some j =>
    rw [q] at h
    exact l.get h
theorem x_ix : IxR X (upR2 X.K dIx) := by
  intro value slice pins s σ H x y v u Q I rx ry ⟨d, e, M, Q', r1, r2, m, ⟨xs, i, z, h1, h2, h3, q⟩, k⟩ hop
  subst h2
  cases r2
  obtain ⟨a, vs, rfl, zz, l, h⟩ := items_of r1 m h1
  obtain ⟨w, h4, h5⟩ := atI_rep l h3
  have fin := k _ _ M H (.refl H) h5 m q
  rcases h with ⟨h6, _⟩ | ⟨h6, _⟩
  · exact ix_list value slice pins s σ H _ _ v u Q I rx ry ⟨a, vs, i, w, rfl, rfl, h6, h4, fin⟩ hop
  · exact ix_tup value slice pins s σ H _ _ v u Q I rx ry ⟨a, vs, i, w, rfl, rfl, h6, h4, fin⟩ hop
theorem d_ix {r : DR2} {a b : Expr} {ta tb : DTE} {pos : Pos} (hr : IxR X (upR2 X.K r)) (ha : DE X a ta) (hb : DE X b tb) (hs : PlainIx b) : DE X (.Subscript a b pos) (dOp r ta tb) :=
  imE (pe_ix hr ha hb hs) fun σ H Q h => up_op (σ := σ) (H := H) (Q := Q) h
/-- -x -/
def dUn (r : D → DM → DVK → Prop) (ta : DTE) : DTE := fun m M Q => ta m M fun x M1 => r x M1 Q
def dNegI : D → DM → DVK → Prop := fun x M Q => ∃ i, x = .int i ∧ Q (.int (-i)) M
theorem d_neg {a : Expr} {ta : DTE} {pos : Pos} (ha : DE X a ta) : DE X (.UnaryOp .USub a pos) (dUn dNegI ta) :=
  imE (pe_un un_neg ha) fun σ H Q ⟨m, M, Q', r, q, k⟩ => by
    refine ⟨m, M, _, r, q, fun d v M1 H1 g1 r1 m1 ⟨i, e, q1⟩ => ?_⟩
    subst e
    cases r1
    exact ⟨i, rfl, k _ _ M1 H1 g1 (.int _) m1 q1⟩

/-! ### built-ins -/
def dLenOf : D → DM → Option Nat
  | .tup xs, _ => some xs.length
  | .lst xs, _ => some xs.length
  | .ref a, M => match M a with
    | some (.lst xs) => some xs.length
    | _ => none
  | .str z, _ => if z.length ≤ sizeLine then some z.length else none
  | _, _ => none
theorem dLenOf_ref {xs : List D} {M : DM} {a : Addr} (h : M a = some (.lst xs)) : dLenOf (.ref a) M = some xs.length := by
  simp [dLenOf, h]
def rLen : DCR := fun ds M Q => ∃ d n, ds = [d] ∧ dLenOf d M = some n ∧ Q (.int n) M
theorem len_items {d : D} {M : DM} {xs : List D} (h : dItems d M = some xs) : dLenOf d M = some xs.length := by
  cases d with
  | tup ys => cases h; rfl
  | lst ys => cases h; rfl
  | ref a =>
    have h' : (match M a with | some (.lst xs) => some xs | _ => none) = some xs := h
    show (match M a with | some (.lst xs) => some xs.length | _ => none) = some xs.length
    cases q : M a with
    | none => rw [q] at h'; cases h'
    | some o =>
      rw [q] at h'
      cases o with
      | lst ys => cases h'; rfl
      | dct _ _ => cases h'
      | tab _ => cases h'
      | dk _ => cases h'
  | _ => cases h
theorem c_len : DCall X (.builtin "len") rLen := by
  intro pins s σ H vs us Q I r ⟨ds, M, Q', l, m, ⟨d, n, e, h, q⟩, k⟩
  subst e
  obtain ⟨v, e, rv⟩ := repL_one l
  subst e
  have fin := k _ _ M H (.refl H) (.int _) m q
  cases hs : dItems d M with
  | some xs =>
    have e := len_items hs
    rw [h] at e
    cases e
    obtain ⟨a, ws, rfl, z, l, ⟨h4, _⟩ | ⟨h4, _⟩⟩ := items_of rv m hs
    · exact call_len_seq pins s σ H _ us Q I r ⟨a, ws, rfl, .inl h4, by rw [← l.length]; exact fin⟩
    · exact call_len_seq pins s σ H _ us Q I r ⟨a, ws, rfl, .inr h4, by rw [← l.length]; exact fin⟩
  | none =>
    cases rv with
    | str z =>
      by_cases hz : z.length ≤ sizeLine
      · have e : some z.length = some n := by
          rw [← h]
          simp [dLenOf, hz]
        cases e
        exact call_len_str pins s σ H _ us Q I r ⟨z, rfl, hz, fin⟩
      · simp [dLenOf, hz] at h
    | tup => cases hs
    | lst => cases hs
    | ref a =>
      have hs' : (match M a with | some (.lst xs) => some xs | _ => none) = none := hs
      have h' : (match M a with | some (.lst xs) => some xs.length | _ => none) = some n := h
      cases q : M a with
      | none => rw [q] at h'; cases h'
      | some o =>
        rw [q] at h' hs'
        cases o with
        | lst ys => cases hs'
        | dct _ _ => cases h'
        | tab _ => cases h'
        | dk _ => cases h'
    | _ => cases h
/-- .. with what is known of a list's length -/
def rLenB : DCR := fun ds M Q => ∃ d xs, ds = [d] ∧ dItems d M = some xs ∧ (xs.length ≤ 16777216 → Q (.int xs.length) M)
theorem c_lenB : DCall X (.builtin "len") rLenB := by
  intro pins s σ H vs us Q I r ⟨ds, M, Q', l, m, ⟨d, xs, e, h, q⟩, k⟩
  subst e
  obtain ⟨v, e, rv⟩ := repL_one l
  subst e
  obtain ⟨a, ws, _, z, l2, _⟩ := items_of rv m h
  have hz : xs.length ≤ 16777216 := by
    rw [l2.length]
    rw [sizeLine_eq] at z
    exact z
  exact c_len pins s σ H _ us Q I r ⟨[d], M, Q', l, m, ⟨d, _, rfl, len_items h, q hz⟩, k⟩
def rAbs : DCR := fun ds M Q => ∃ i : Int, ds = [.int i] ∧ Q (.int (if i < 0 then -i else i)) M
theorem c_abs : DCall X (.builtin "abs") rAbs := by
  intro pins s σ H vs us Q I r ⟨ds, M, Q', l, m, ⟨i, e, q⟩, k⟩
  subst e
  obtain ⟨v, e, rv⟩ := repL_one l
  subst e
  cases rv
  exact call_abs pins s σ H _ us Q I r ⟨i, rfl, k _ _ M H (.refl H) (.int _) m q⟩
def rMax2 : DCR := fun ds M Q => ∃ i j : Int, ds = [.int i, .int j] ∧ Q (.int (if j > i then j else i)) M
def rMin2 : DCR := fun ds M Q => ∃ i j : Int, ds = [.int i, .int j] ∧ Q (.int (if j < i then j else i)) M
theorem c_max2 (hc : X.calm = true) : DCall X (.builtin "max") rMax2 := by
  intro pins s σ H vs us Q I r ⟨ds, M, Q', l, m, ⟨i, j, e, q⟩, k⟩
  subst e
  obtain ⟨v, w, e, rv, rw'⟩ := repL_two l
  subst e
  cases rv
  cases rw'
  exact call_max2 hc pins s σ H _ us Q I r ⟨i, j, rfl, k _ _ M H (.refl H) (.int _) m q⟩
theorem c_min2 (hc : X.calm = true) : DCall X (.builtin "min") rMin2 := by
  intro pins s σ H vs us Q I r ⟨ds, M, Q', l, m, ⟨i, j, e, q⟩, k⟩
  subst e
  obtain ⟨v, w, e, rv, rw'⟩ := repL_two l
  subst e
  cases rv
  cases rw'
  exact call_min2 hc pins s σ H _ us Q I r ⟨i, j, rfl, k _ _ M H (.refl H) (.int _) m q⟩
def dIntOf : D → Option Int
  | .int i => some i
  | .bl b => some (if b then 1 else 0)
  | _ => none
def rInt : DCR := fun ds M Q => ∃ d i, ds = [d] ∧ dIntOf d = some i ∧ Q (.int i) M
theorem c_int : DCall X (.type "int") rInt := by
  intro pins s σ H vs us Q I r ⟨ds, M, Q', l, m, ⟨d, i, e, h, q⟩, k⟩
  subst e
  obtain ⟨v, e, rv⟩ := repL_one l
  subst e
  have fin := k _ _ M H (.refl H) (.int _) m q
  cases rv with
  | int j =>
    cases h
    exact call_int1 pins s σ H _ us Q I r (.inl ⟨_, rfl, fin⟩)
  | bl b =>
    cases h
    exact call_int1 pins s σ H _ us Q I r (.inr ⟨b, rfl, fin⟩)
  | _ => cases h
def rGcd : DCR := fun ds M Q => ∃ i j : Int, ds = [.int i, .int j] ∧ Q (.int ((Nat.gcd i.natAbs j.natAbs : Nat) : Int)) M
theorem c_gcd : DCall X (.builtin "math.gcd") rGcd := by
  intro pins s σ H vs us Q I r ⟨ds, M, Q', l, m, ⟨i, j, e, q⟩, k⟩
  subst e
  obtain ⟨v, w, e, rv, rw'⟩ := repL_two l
  subst e
  cases rv
  cases rw'
  exact cr_gcd pins s σ H _ us Q I r ⟨i, j, rfl, k _ _ M H (.refl H) (.int _) m q⟩
/-- tuple(x), list(x) -/
def rTuple : DCR := fun ds M Q => ∃ d xs, ds = [d] ∧ dItems d M = some xs ∧ Q (.tup xs) M
theorem c_tuple : DCall X (.type "tuple") rTuple := by
  intro pins s σ H vs us Q I r ⟨ds, M, Q', l, m, ⟨d, xs, e, h, q⟩, k⟩
  subst e
  obtain ⟨v, e, rv⟩ := repL_one l
  subst e
  obtain ⟨a, ws, rfl, z, l, ⟨h4, _⟩ | ⟨h4, h5⟩⟩ := items_of rv m h
  · exact call_tuple_of pins s σ H _ us Q I r ⟨a, ws, rfl, .inl ⟨h4, fun p hp => k _ _ M _ (.new hp) (.tup (.of upd_same) z (l.grow (.new hp))) (m.new hp) q⟩⟩
  · subst h5
    exact call_tuple_of pins s σ H _ us Q I r ⟨a, ws, rfl, .inr ⟨h4, k _ _ M H (.refl H) rv m q⟩⟩
def rList : DCR := fun ds M Q => ∃ d xs, ds = [d] ∧ dItems d M = some xs ∧ ∀ p, M p = none → Q (.ref p) (mput M p (.lst xs))
theorem c_list : DCall X (.type "list") rList := by
  intro pins s σ H vs us Q I r ⟨ds, M, Q', l, m, ⟨d, xs, e, h, q⟩, k⟩
  subst e
  obtain ⟨v, e, rv⟩ := repL_one l
  subst e
  obtain ⟨a, ws, rfl, z, l, h4⟩ := items_of rv m h
  refine call_list_of pins s σ H _ us Q I r ⟨a, ws, rfl, h4.elim (fun y => .inl y.1) fun y => .inr y.1, fun p hp => ?_⟩
  exact k _ _ _ _ (.new hp) (.ref p) (m.newLst hp z l) (q p (m.free hp))
/-- isinstance -/
def dTyN : D → DM → Option String
  | .non, _ => some "NoneType"
  | .bl _, _ => some "bool"
  | .int _, _ => some "int"
  | .str _, _ => some "str"
  | .tup _, _ => some "tuple"
  | .lst _, _ => some "list"
  | .dct _, _ => some "dict"
  | .ref a, M => match M a with
    | some (.lst _) => some "list"
    | some (.dk _) => some "dict"
    | _ => none
  | _, _ => none
theorem ty_of {K : PySem.W.Frag} {H : Hp} {M : DM} {d : D} {v : V} {n : String} (r : Rep K H d v) (m : RM K H M) (h : dTyN d M = some n) : TyX K H v (.type n) := by
  cases r with
  | non => cases h; exact .base .non
  | bl b => cases h; exact .base (.bl b)
  | int i => cases h; exact .base (.int i)
  | str x => cases h; exact .base (.str x)
  | tup hs _ _ =>
    cases h
    rcases hs with (h | ⟨o, h⟩) | ⟨o, _, _, h1, h2, _⟩
    · exact .base (.tup h)
    · exact .fTuple h
    · exact .kTuple h1 h2
  | lst hs _ _ =>
    cases h
    rcases hs with ⟨o, h⟩ | ⟨o, _, _, h1, h2, _⟩
    · exact .base (.frz h)
    · exact .kList h1 h2
  | ref a =>
    have h' : (match M a with | some (.lst _) => some "list" | some (.dk _) => some "dict" | _ => none) = some n := h
    cases q : M a with
    | none => rw [q] at h'; cases h'
    | some o =>
      rw [q] at h'
      cases o with
      | lst ys =>
        cases h'
        obtain ⟨vs, h1, _⟩ := m.lst q
        exact .base (.lst h1)
      | dct _ _ => cases h'
      | tab _ => cases h'
      | dk kvs =>
        cases h'
        obtain ⟨es, h1, _⟩ := m a _ q
        exact .base (.dK h1)
  | ty _ => cases h
  | dct hd _ _ =>
    cases h
    exact .fDict hd
/-- the types that stand here -/
def subT (a b : String) : Bool := a == b || (a == "bool" && b == "int")
def knownT (a : String) : Bool := a == "NoneType" || a == "bool" || a == "int" || a == "str" || a == "tuple" || a == "list" || a == "dict"
theorem kit_sub {a b : String} (ha : knownT a = true) (hb : knownT b = true) : kitB a b = some (subT a b) := by
  simp only [knownT, Bool.or_eq_true, beq_iff_eq] at ha hb
  rcases ha with (((((h | h) | h) | h) | h) | h) | h <;> subst h <;> rcases hb with (((((h | h) | h) | h) | h) | h) | h <;> subst h <;> decide +kernel
theorem tyN_known {d : D} {M : DM} {n : String} (h : dTyN d M = some n) : knownT n = true := by
  cases d with
  | ref a =>
    have h' : (match M a with | some (.lst _) => some "list" | some (.dk _) => some "dict" | _ => none) = some n := h
    cases q : M a with
    | none => rw [q] at h'; cases h'
    | some o =>
      rw [q] at h'
      cases o with
      | lst ys => cases h'; decide
      | dct _ _ => cases h'
      | tab _ => cases h'
      | dk _ => cases h'; decide
  | dct _ => cases h; decide
  | ty _ => cases h
  | _ => cases h; decide
def rIs : DCR := fun ds M Q => ∃ d T n, ds = [d, .ty T] ∧ knownT T = true ∧ dTyN d M = some n ∧ Q (.bl (subT n T)) M
theorem c_is : DCall X (.builtin "isinstance") rIs := by
  intro pins s σ H vs us Q I r ⟨ds, M, Q', l, m, ⟨d, T, n, e, hT, h, q⟩, k⟩
  subst e
  obtain ⟨v, w, e, rv, rw'⟩ := repL_two l
  subst e
  cases rw'
  exact call_isi pins s σ H _ us Q I r ⟨v, _, _, _, subT n T, rfl, .ty T, ty_of rv m h, kit_ty (kit_sub (tyN_known h) hT), k _ _ M H (.refl H) (.bl _) m q⟩
def tyNames : List D → Option (List String)
  | [] => some []
  | .ty T :: r => (tyNames r).map (T :: ·)
  | _ => none
theorem tyNames_map : ∀ {cs : List D} {Ts : List String}, tyNames cs = some Ts → cs = Ts.map D.ty
  | [], Ts, h => by
    cases h
    rfl
  | .ty T :: r, Ts, h => by
    have h' : (tyNames r).map (T :: ·) = some Ts := h
    cases q : tyNames r with
    | none => rw [q] at h'; cases h'
    | some Us =>
      rw [q] at h'
      cases h'
      rw [tyNames_map q]
      rfl
  | .non :: _, _, h => by cases h
  | .bl _ :: _, _, h => by cases h
  | .int _ :: _, _, h => by cases h
  | .str _ :: _, _, h => by cases h
  | .tup _ :: _, _, h => by cases h
  | .lst _ :: _, _, h => by cases h
  | .dct _ :: _, _, h => by cases h
  | .ref _ :: _, _, h => by cases h
def rIsT : DCR := fun ds M Q => ∃ (d : D) (cs : List D) (Ts : List String) (n : String), ds = [d, .tup cs] ∧ tyNames cs = some Ts ∧ Ts.all knownT = true ∧ dTyN d M = some n ∧ Q (.bl (Ts.any (subT n))) M
theorem kit_any {K : PySem.W.Frag} {n : String} (hn : knownT n = true) : ∀ {Ts : List String}, Ts.all knownT = true → PySem.W.kitAny K (.type n) (Ts.map Value.type) = some (Ts.any (subT n))
  | [], _ => kitAny_nil
  | T :: Ts, h => by
    rw [List.all_cons, Bool.and_eq_true] at h
    refine kitAny_cons (kit_ty (kit_sub hn h.1)) (fun e => ?_) fun e => ?_
    · rw [List.any_cons, e, Bool.false_or]
      exact kit_any hn h.2
    · rw [List.any_cons, e, Bool.true_or]
theorem ty_vals {K : PySem.W.Frag} {H : Hp} : ∀ {Ts : List String} {vs : List V} {its : List Value}, RepL K H (Ts.map D.ty) vs → Vals vs its → its = Ts.map Value.type
  | [], _, _, l, r => by
    cases l
    cases r
    rfl
  | T :: Ts, _, _, l, r => by
    cases l with
    | cons h t =>
      cases h
      cases r with
      | cons h2 t2 =>
        rw [ty_vals t t2, show _ = Value.type T from h2]
        rfl
theorem c_isT : DCall X (.builtin "isinstance") rIsT := by
  intro pins s σ H vs us Q I r ⟨ds, M, Q', l, m, ⟨d, cs, Ts, n, e, e0, hT, h, q⟩, k⟩
  subst e
  obtain ⟨v, w, e, rv, rw'⟩ := repL_two l
  subst e
  rw [tyNames_map e0] at rw'
  cases rw' with
  | tup hs _ l2 =>
    obtain ⟨u1, u2, rfl, r1, r2⟩ := vals2 r
    cases r2
    obtain ⟨P, Z, p, hx⟩ := kit_of I r1 (ty_of rv m h)
    obtain ⟨its, rr, ⟨⟨oc, od, dt, sl⟩, h1, h2, n', h3⟩, _⟩ := I.tuple hs
    simp only at h2 h3
    subst h2 h3
    have e3 := ty_vals l2 rr
    exact PySem.W.kia_tup Z I.kIn p h1 (by
      simp only [e3]
      exact kit_any (tyN_known h) hT) hx fun tk => ⟨.bl _, H, I.tok tk, rfl, k _ _ M H (.refl H) (.bl _) m q⟩
/-- both forms of isinstance -/
theorem DCall.or {f : Value} {r r' : DCR} (h : DCall X f r) (h' : DCall X f r') : DCall X f (fun ds M Q => r ds M Q ∨ r' ds M Q) := by
  intro pins s σ H vs us Q I rv z
  obtain ⟨ds, M, Q', l, m, q | q, k⟩ := z
  · exact h pins s σ H vs us Q I rv ⟨ds, M, Q', l, m, q, k⟩
  · exact h' pins s σ H vs us Q I rv ⟨ds, M, Q', l, m, q, k⟩
/-- a built-in type as a value -/
theorem d_ty {x : Str} {T : String} {pos : Pos} (hg : Gl X x) (hm : X.mg x = none) (hv : bootBuiltins x = some (.type T)) (hn : x ≠ "__name__" := by decide) (hd : (x == ("__debug__" : Str)) = false := by decide) : DE X (.Name x pos) (dC (.ty T)) :=
  d_c (v := .ty T) (pe_bltn hg hm hv rfl hn hd) fun _ _ => .ty T
/-- a module's constant -/
theorem d_gl {x : Str} {u : Value} {v : V} {d : D} {pos : Pos} (hg : Gl X x) (hm : X.mg x = some u) (rv : RelV v u) (hr : ∀ K H, Rep K H d v) (hd : (x == ("__debug__" : Str)) = false := by decide) : DE X (.Name x pos) (dC d) :=
  d_c (pe_glob hg hm rv hd) hr

/-! ### methods of lists -/
variable {o e : Expr} {es : List Expr} {to : DTE} {t : DTA} {name : Str} {apos cpos : Pos} {id : String}
abbrev DMR := D → List D → DM → DVK → Prop
def upM (K : PySem.W.Frag) (dr : DMR) : V → List V → Hp → VK → Prop := fun x vs H Q => ∃ d ds M Q', Rep K H d x ∧ RepL K H ds vs ∧ RM K H M ∧ dr d ds M Q' ∧
  ∀ d v M' H', Grow H H' → Rep K H' d v → RM K H' M' → Q' d M' → Q v H'
def dMt0 (dr : DMR) (to : DTE) : DTE := fun m M Q => to m M fun d M1 => (∃ xs, dItems d M1 = some xs ∧ d ≠ .tup xs) ∧ dr d [] M1 Q
def dMt (dr : DMR) (to : DTE) (t : DTA) : DTE := fun m M Q => to m M fun d M1 => (∃ xs, dItems d M1 = some xs ∧ d ≠ .tup xs) ∧ t m M1 fun ds M2 => dr d ds M2 Q
theorem tyV_lst {K : PySem.W.Frag} {H : Hp} {M : DM} {d : D} {v : V} (r : Rep K H d v) (m : RM K H M) (h : ∃ xs, dItems d M = some xs ∧ d ≠ .tup xs) : tyV K "list" v H := by
  obtain ⟨xs, h1, h2⟩ := h
  obtain ⟨a, vs, rfl, z, l, ⟨h4, _⟩ | ⟨_, h5⟩⟩ := items_of r m h1
  · exact .inl ⟨rfl, vs, h4⟩
  · exact absurd h5 h2
theorem d_mt0 {dr : DMR} (slot : Slot "list" name id) (hty : typeOf (.builtin id) = pure (.type "method_descriptor")) (hm : MtR X id (upM X.K dr)) (ho : DE X o to)
    (hbase : attributeBase o name X.env (eval o X.env) = eval o X.env := by rfl) (hline : (apos.endLine == cpos.line) = true := by rfl) : DE X (.Call (.Attribute o name apos) [] [] cpos) (dMt0 dr to) :=
  imE (pe_bm0 PySem.F.plainAttrs_list slot hty hm ho hbase hline) fun σ H Q ⟨m, M, Q', r, q, k⟩ => by
    refine ⟨m, M, _, r, q, fun d v M1 H1 g1 r1 m1 ⟨ty, q1⟩ => ⟨tyV_lst r1 m1 ty, d, [], M1, Q', r1, .nil, m1, q1, fun d v M2 H2 g2 => k d v M2 H2 (g1.trans g2)⟩⟩
theorem d_mt {dr : DMR} (slot : Slot "list" name id) (hty : typeOf (.builtin id) = pure (.type "method_descriptor")) (hm : MtR X id (upM X.K dr)) (ho : DE X o to) (ha : DA X (e :: es) t)
    (hbase : attributeBase o name X.env (eval o X.env) = eval o X.env := by rfl)
    (hfew : ((backTo cpos (starEach (e :: es) X.env)).all (fun x => !x.1) && (backToKw cpos (keywordEach [] X.env)).all (fun x => x.1.isSome)
      && decide ((e :: es).length + ([] : List Keyword).length + (if ([] : List Keyword).isEmpty then 0 else 1) < 30)) = true := by rfl)
    (hline : (apos.endLine == cpos.line) = true := by rfl) (hs : starEach (e :: es) X.env = (false, eval e X.env) :: starEach es X.env := by rfl) (hplain : (backTo cpos (starEach es X.env)).any (·.1) = false := by rfl) :
    DE X (.Call (.Attribute o name apos) (e :: es) [] cpos) (dMt dr to t) :=
  imE (pe_bm PySem.F.plainAttrs_list slot hty hm ho ha hbase hfew hline hs hplain) fun σ H Q ⟨m, M, Q', r, q, k⟩ => by
    refine ⟨m, M, _, r, q, fun d v M1 H1 g1 r1 m1 ⟨ty, q1⟩ => ⟨tyV_lst r1 m1 ty, m, M1, _, r.grow g1 m1, q1, fun ds vs M2 H2 g2 l2 m2 q2 => ?_⟩⟩
    exact ⟨d, ds, M2, Q', r1.grow g2, l2, m2, q2, fun d v M3 H3 g3 => k d v M3 H3 ((g1.trans g2).trans g3)⟩
def mAppend : DMR := fun d ds M Q => ∃ a xs y, d = .ref a ∧ ds = [y] ∧ M a = some (.lst xs) ∧ xs.length < sizeLine ∧ Q .non (mput M a (.lst (xs ++ [y])))
theorem m_append : MtR X "list.append" (upM X.K mAppend) := by
  intro pins s σ H x vs v us Q I rx rv ⟨d, ds, M, Q', r1, l, m, ⟨a, xs, y, e1, e2, h, hz, q⟩, k⟩
  subst e1
  subst e2
  cases r1
  obtain ⟨w, e, rw'⟩ := repL_one l
  subst e
  obtain ⟨ws, h1, z, l1⟩ := m.lst h
  refine mt_append pins s σ H _ _ v us Q I rx rv ⟨a, ws, w, rfl, rfl, h1, by rw [← l1.length]; exact hz, ?_⟩
  exact k _ _ _ _ (.put h1) .non (m.putLst h1 (by rw [List.length_append, ← l1.length]; exact hz) (l1.append (.one rw'))) q
def mPop : DMR := fun d ds M Q => ∃ a xs y, d = .ref a ∧ ds = [] ∧ M a = some (.lst xs) ∧ xs.getLast? = some y ∧ Q y (mput M a (.lst xs.dropLast))
theorem m_pop : MtR X "list.pop" (upM X.K mPop) := by
  intro pins s σ H x vs v us Q I rx rv ⟨d, ds, M, Q', r1, l, m, ⟨a, xs, y, e1, e2, h, hy, q⟩, k⟩
  subst e1
  subst e2
  cases r1
  cases l
  obtain ⟨ws, h1, z, l1⟩ := m.lst h
  rw [List.getLast?_eq_getElem?] at hy
  obtain ⟨w, h2, h3⟩ := l1.get hy
  rw [l1.length] at h2
  refine mt_pop pins s σ H _ _ v us Q I rx rv ⟨a, ws, w, rfl, rfl, h1, h2, ?_⟩
  exact k _ _ _ _ (.put h1) (h3.grow (.put h1)) (m.putLst h1 (by rw [List.length_dropLast]; omega) l1.dropLast) q
def mReverse : DMR := fun d ds M Q => ∃ a xs, d = .ref a ∧ ds = [] ∧ M a = some (.lst xs) ∧ Q .non (mput M a (.lst xs.reverse))
theorem m_reverse : MtR X "list.reverse" (upM X.K mReverse) := by
  intro pins s σ H x vs v us Q I rx rv ⟨d, ds, M, Q', r1, l, m, ⟨a, xs, e1, e2, h, q⟩, k⟩
  subst e1
  subst e2
  cases r1
  cases l
  obtain ⟨ws, h1, z, l1⟩ := m.lst h
  refine mt_reverse pins s σ H _ _ v us Q I rx rv ⟨a, ws, rfl, rfl, h1, ?_⟩
  exact k _ _ _ _ (.put h1) .non (m.putLst h1 (by rw [List.length_reverse]; exact z) l1.reverse) q
/-- xs[i] = v -/
def upSt (K : PySem.W.Frag) (t : D → D → D → DM → (DM → Prop) → Prop) : TSet := fun o i v H Q => ∃ d e y M Q', Rep K H d o ∧ Rep K H e i ∧ Rep K H y v ∧ RM K H M ∧ t d e y M Q' ∧
  ∀ M' H', Grow H H' → RM K H' M' → Q' M' → Q H'
abbrev DSet (X : Cx) (t : D → D → D → DM → (DM → Prop) → Prop) : Prop := PSet X (upSt X.K t)
def dSetL : D → D → D → DM → (DM → Prop) → Prop := fun o i v M Q => ∃ a xs k j, o = .ref a ∧ i = .int k ∧ M a = some (.lst xs) ∧ ixN xs.length k = some j ∧ Q (mput M a (.lst (xs.set j v)))
theorem s_lst : DSet X dSetL := by
  intro pins s σ H o i v ov iv u Q I ro ri rv ⟨d, e, y, M, Q', r1, r2, r3, m, ⟨a, xs, kk, j, e1, e2, h, hj, q⟩, k⟩
  subst e1
  subst e2
  cases r1
  cases r2
  obtain ⟨ws, h1, z, l1⟩ := m.lst h
  refine set_list pins s σ H _ _ v ov iv u Q I ro ri rv ⟨a, ws, kk, j, rfl, rfl, h1, by rw [← l1.length]; exact hj, ?_⟩
  exact k _ _ (.put h1) (m.putLst h1 (by rw [List.length_set]; exact z) (l1.set j r3)) q
/-- o[i] = e -/
def dPut (te to ti : DTE) (t : D → D → D → DM → (DM → Prop) → Prop) : DTS := fun Z m M => te m M fun v M1 => to m M1 fun d M2 => ti m M2 fun i M3 => t d i v M3 fun M4 => Z.nx m M4
theorem ds_put {i e : Expr} {te ti : DTE} {pos pos' : Pos} {tt : D → D → D → DM → (DM → Prop) → Prop} (he : DE X e te) (ho : DE X o to) (hi : DE X i ti) (hs : DSet X tt)
    (ha : ∀ v, assign (.Subscript o i pos) X.env v = (do
      let ov ← holding [v] (eval o X.env)
      let iv ← holding [v, ov] (eval i X.env)
      standAt pos
      holding [v, ov, iv] (setItem ov iv v)
      release [v, ov, iv] []) := by intro _; rfl)
    (hsw : swapsWithSole [.Subscript o i pos] e pos'.line X.env = pure false := by rfl) (hw : swappedStores [.Subscript o i pos] e X.env = pure none := by rfl)
    (h1 : (assignEach [.Subscript o i pos] X.env).map (·.2) = [assign (.Subscript o i pos) X.env] := by rfl) : DS X (.Assign [.Subscript o i pos] e pos') (dPut te to ti tt) :=
  imS (ps_asg he (pg_sub ho hi hs ha) hsw hw h1) fun Z σ H ⟨m, M, Z', r, q, k⟩ => by
    refine ⟨m, M, _, r, q, fun v x M1 H1 g1 r1 m1 q1 => ?_⟩
    refine ⟨m, M1, _, r.grow g1 m1, q1, fun d y M2 H2 g2 r2 m2 q2 => ?_⟩
    refine ⟨m, M2, _, r.grow (g1.trans g2) m2, q2, fun i z M3 H3 g3 r3 m3 q3 => ?_⟩
    refine ⟨d, i, v, M3, _, r2.grow g3, r3, r1.grow (g2.trans g3), m3, q3, fun M4 H4 g4 m4 q4 => ?_⟩
    have g := (g1.trans g2).trans (g3.trans g4)
    exact k.nx m M4 σ H4 g (r.grow g m4) q4
end
end DL
namespace DL
open PySem PySem.Spec PyProof.Rows L2
section
variable {X : Cx} {elt tg iter : Expr} {ifs : List Expr} {scope : Scope} {own : List (Str × Nat)} {pos spos py : Pos} {t : DTI} {g : DTG} {tt : DTT} {te : DTE} {ws : List Nat} {y : Str} {i : Nat}
/-- name = [..] on one line -/
theorem ds_setLc (hc : X.calm = true) (hN : X.N.Nodup) (hy : X.N[i]? = some y) (hyl : X.env.scope.names.lookup y = some .local)
    (hsw : swapsWith (.ListComp elt [⟨tg, iter, ifs, 0⟩] scope pos) (some (.Name y py)) spos.line X.env = pure true) (hi : DI X tg iter t) (ok : BlkOk X.N X.env.scope scope own) (hsub : ∀ i ∈ ws, i ∈ own.map (·.2))
    (hg : ∀ (s : Shared) (H : Hp) (C : Addr) (cl : List (Str × Addr)) (fp : List Addr), DG (X.blk s H scope (compEnvC scope cl C X.env) fp) ws tg g)
    (ht : ∀ (s : Shared) (H : Hp) (C : Addr) (cl : List (Str × Addr)) (fp : List Addr), DPTs (X.blk s H scope (compEnvC scope cl C X.env) fp) ifs tt)
    (he : ∀ (s : Shared) (H : Hp) (C : Addr) (cl : List (Str × Addr)) (fp : List Addr), DE (X.blk s H scope (compEnvC scope cl C X.env) fp) elt te)
    (hs : ∀ x, foldedSetIterable iter X.env x = pure x := by intro _; rfl) : DS X (.Assign [.Name y py] (.ListComp elt [⟨tg, iter, ifs, 0⟩] scope pos) spos) (dSet i (dLc t g tt te (own.map (·.2)))) :=
  imS (ps_setLc hc hN hy hyl hsw hi ok hg ht he hs) fun Z σ H ⟨m, M, Z', r, q, k⟩ =>
    lc_up (Qf := fun p _ M2 => Z'.nx (m.set i (some (.ref p))) M2) hsub (fun p acc ws M2 H2 g2 m2 _ _ _ _ q2 => k.nx _ M2 _ H2 g2 ((r.grow g2 m2).set (.ref p)) q2) m M r q
/-- behind a statement slot i's list is frozen -/
theorem ps_after {st : Stmt} {t : TS} (i : Nat) (h : PS X st t) : PS X st (fun Z σ H => t { Z with nx := fun σ' H' => ∃ p vs, σ'[i]? = some (some (.ref p)) ∧ H' p = some (.lst vs) ∧ ∀ o, Z.nx σ' (upd H' p (.frz o (.lst vs))) } σ H) := by
  refine ⟨fun pins s σ H Z I q => thn (h.run pins s σ H _ I q) fun f s1 q1 => ?_⟩
  cases f with
  | next =>
    obtain ⟨σ', H', I', p, vs, _, e2, q2⟩ := q1
    obtain ⟨o, I2⟩ := inv_frz I' e2
    exact ⟨σ', _, I2, q2 o⟩
  | ret v => exact q1
  | brk => exact q1
  | cont => exact q1
theorem ds_setLcF (hc : X.calm = true) (hN : X.N.Nodup) (hy : X.N[i]? = some y) (hyl : X.env.scope.names.lookup y = some .local)
    (hsw : swapsWith (.ListComp elt [⟨tg, iter, ifs, 0⟩] scope pos) (some (.Name y py)) spos.line X.env = pure true) (hi : DI X tg iter t) (ok : BlkOk X.N X.env.scope scope own) (hsub : ∀ i ∈ ws, i ∈ own.map (·.2))
    (hg : ∀ (s : Shared) (H : Hp) (C : Addr) (cl : List (Str × Addr)) (fp : List Addr), DG (X.blk s H scope (compEnvC scope cl C X.env) fp) ws tg g)
    (ht : ∀ (s : Shared) (H : Hp) (C : Addr) (cl : List (Str × Addr)) (fp : List Addr), DPTs (X.blk s H scope (compEnvC scope cl C X.env) fp) ifs tt)
    (he : ∀ (s : Shared) (H : Hp) (C : Addr) (cl : List (Str × Addr)) (fp : List Addr), DE (X.blk s H scope (compEnvC scope cl C X.env) fp) elt te)
    (hs : ∀ x, foldedSetIterable iter X.env x = pure x := by intro _; rfl) (hil : i < X.N.length := by exact Nat.le_of_ble_eq_true rfl) : DS X (.Assign [.Name y py] (.ListComp elt [⟨tg, iter, ifs, 0⟩] scope pos) spos) (dSet i (dLcF t g tt te (own.map (·.2)))) := by
  refine ⟨fun pins s σ H Z I h => (ps_after i (ps_setLc (wi := upI X.K t) (g := upG X.K ws g) (tt := upT X.K tt) (te := upE X.K te) hc hN hy hyl hsw hi ok hg ht he hs)).run pins s σ H Z I ?_⟩
  obtain ⟨m, M, Z', r, q, k⟩ := h
  have hσ : i < σ.length := by rw [I.len]; exact hil
  refine lc_up (Qf := fun p acc M2 => Z'.nx (m.set i (some (.lst acc))) (mdel M2 p)) hsub (fun p acc ws M2 H2 g2 m2 h8 z8 l8 _ q2 => ?_) m M r q
  refine ⟨p, ws, List.getElem?_set_self hσ, h8, fun o => k.nx _ _ _ _ (g2.trans (.put h8)) ?_ q2⟩
  exact (r.grow (g2.trans (.put h8)) (m2.frz h8)).set (.lst (.inl ⟨o, upd_same⟩) z8 (l8.grow (.put h8)))
theorem mput_self {M : DM} {a : Addr} {o : DO} (h : M a = some o) : mput M a o = M := by
  funext b
  unfold mput
  split
  · next e => rw [e, h]
  · rfl
end
end DL
namespace DL
open PySem PySem.Spec PyProof.Rows L2
/-! ### promises by the number of arguments -/
def ar0 (p : DM → DVK → Prop) : DSp := fun ds M Q => ds = [] ∧ p M Q
def ar1 (p : D → DM → DVK → Prop) : DSp := fun ds M Q => ∃ a, ds = [a] ∧ p a M Q
def ar2 (p : D → D → DM → DVK → Prop) : DSp := fun ds M Q => ∃ a b, ds = [a, b] ∧ p a b M Q
def ar3 (p : D → D → D → DM → DVK → Prop) : DSp := fun ds M Q => ∃ a b c, ds = [a, b, c] ∧ p a b c M Q
def ar4 (p : D → D → D → D → DM → DVK → Prop) : DSp := fun ds M Q => ∃ a b c d, ds = [a, b, c, d] ∧ p a b c d M Q
def ar5 (p : D → D → D → D → D → DM → DVK → Prop) : DSp := fun ds M Q => ∃ a b c d e, ds = [a, b, c, d, e] ∧ p a b c d e M Q
def ar6 (p : D → D → D → D → D → D → DM → DVK → Prop) : DSp := fun ds M Q => ∃ a b c d e f, ds = [a, b, c, d, e, f] ∧ p a b c d e f M Q
theorem len0 {p} {ds : List D} {M : DM} {Q : DVK} (h : ar0 p ds M Q) : ds.length = 0 := by obtain ⟨rfl, _⟩ := h; rfl
theorem len1 {p} {ds : List D} {M : DM} {Q : DVK} (h : ar1 p ds M Q) : ds.length = 1 := by obtain ⟨_, rfl, _⟩ := h; rfl
theorem len2 {p} {ds : List D} {M : DM} {Q : DVK} (h : ar2 p ds M Q) : ds.length = 2 := by obtain ⟨_, _, rfl, _⟩ := h; rfl
theorem len3 {p} {ds : List D} {M : DM} {Q : DVK} (h : ar3 p ds M Q) : ds.length = 3 := by obtain ⟨_, _, _, rfl, _⟩ := h; rfl
theorem len4 {p} {ds : List D} {M : DM} {Q : DVK} (h : ar4 p ds M Q) : ds.length = 4 := by obtain ⟨_, _, _, _, rfl, _⟩ := h; rfl
theorem len5 {p} {ds : List D} {M : DM} {Q : DVK} (h : ar5 p ds M Q) : ds.length = 5 := by obtain ⟨_, _, _, _, _, rfl, _⟩ := h; rfl
theorem len6 {p} {ds : List D} {M : DM} {Q : DVK} (h : ar6 p ds M Q) : ds.length = 6 := by obtain ⟨_, _, _, _, _, _, rfl, _⟩ := h; rfl
theorem hu_eq {k : Nat} {A : Around} (hr : Room k A) : A.units + 64 < cLine := hr.units
theorem hu_in {k : Nat} {A : Around} (hr : Room k A) : A.units + 65 < cLine := by
  have := hr.un
  omega
section
variable {P : Program} {w : World} {K : PySem.W.Frag} {mg : Str → Option Value} {base : Heap} {k : Nat} {x : Str} {ps N : List Str} {dsp : DSp} {st : Stmt}
/-- THE RULE for a def, its function object at hand -/
theorem fn_ok {f : Addr} {fd : FuncData} (F : Fun K x x st f fd) (S : FnScope N ps (defScope st)) (len : ∀ ds M Q, dsp ds M Q → ds.length = ps.length) {t : DTS}
    (body : ∀ (f : Addr) (cdv : Value) (A : Around) (outer : List Env) (s : Shared) (H : Hp) (E : XK), Room k (A.deeper (envOfC x (defScope st) s.heap.objs.size f cdv)) → DSs (Ctx P w K mg base N x st f cdv A outer s H E) (defBody st) t)
    (rd : ∀ ds M Q, dsp ds M Q → t (dEnds Q) (dstart N ds) M) : FnOk P w K mg base CX0 (k + 1) f fd ps (upSp K dsp) := by
  refine F.ok S (fun vs H Q E ⟨ds, M, Q', l, _, q, _⟩ => by rw [← l.length]; exact len ds M Q' q) (fun cdv A outer s H vs Q E hr ⟨ds, M, Q', l, m, q, kk⟩ => ?_)
  refine ⟨_, body f cdv A outer s H E hr, dstart N ds, M, dEnds Q', ⟨?_, fun i d e => start_slot l e, m⟩, rd ds M Q' q,
    ⟨fun m1 M1 σ1 H1 g1 r1 ⟨M0, le, q1⟩ => kk _ _ M0 H1 g1 .non (r1.mem.le le) q1, fun _ _ _ _ _ _ z => z.elim, fun _ _ _ _ _ _ z => z.elim, fun d v M1 H1 g1 r1 m1 ⟨M0, le, q1⟩ => kk d v M0 H1 g1 r1 (m1.le le) q1⟩⟩
  simp [dstart, L2.start, l.length]
end
/-- the law's own promise: for every list of at most 63 ints it gives True -/
def sp_law : DSp := ar1 fun a _ Q => ∃ ns : List Int, ns.length ≤ 63 ∧ a = .lst (ns.map D.int) ∧ ∀ M', Q (.bl true) M'
theorem law_start {K : PySem.W.Frag} {H : Hp} {a : Addr} {ns : List Int} {E : XK} (hl : ns.length ≤ 63) (hO : Only H) (hS : SqL K H a (ns.map V.int)) : upSp K sp_law [.ref a] H (fun v _ => v = .bl true) E := by
  have hz : (ns.map V.int).length ≤ sizeLine := by
    rw [List.length_map]
    have := sizeLine_eq
    omega
  have hf : FrzL K H a (ns.map V.int) := by
    rcases hS with (h | ⟨o, h⟩) | h
    · rcases hO a with z | ⟨o, xs, z⟩ <;> (rw [z] at h; cases h)
    · exact .inl ⟨o, h⟩
    · exact .inr h
  refine ⟨[.lst (ns.map D.int)], fun _ => none, fun d _ => d = .bl true, .one (.lst hf hz (repL_ints ns)), (fun b o e => nomatch e), ⟨_, rfl, ns, hl, rfl, fun _ => rfl⟩, fun d v M' H' _ r _ q => ?_⟩
  subst q
  cases r
  rfl
end DL
namespace DL
open PySem PySem.Spec PyProof.Rows L2
/-! ### what the readings' steps need, as rewriting -/
theorem eqv_int (i j : Int) : D.eqv (.int i) (.int j) = decide (i = j) := by
  simp [D.eqv, D.py, PyData.eqv, Bool.beq_eq_decide_eq]
theorem eqv_str (i j : Str) : D.eqv (.str i) (.str j) = decide (i = j) := by
  simp [D.eqv, D.py, PyData.eqv, Bool.beq_eq_decide_eq]
theorem eqv_bl (i j : Bool) : D.eqv (.bl i) (.bl j) = (i == j) := by
  simp [D.eqv, D.py, PyData.eqv]
theorem dItems_rf (a : Addr) (M : DM) : dItems (.ref a) M = match M a with
  | some (.lst xs) => some xs
  | _ => none := rfl
theorem dLenOf_tup (xs : List D) (M : DM) : dLenOf (.tup xs) M = some xs.length := rfl
theorem dLenOf_lst (xs : List D) (M : DM) : dLenOf (.lst xs) M = some xs.length := rfl
theorem dLenOf_rf (a : Addr) (M : DM) : dLenOf (.ref a) M = match M a with
  | some (.lst xs) => some xs.length
  | _ => none := rfl
theorem dLenOf_str (z : Str) (M : DM) : dLenOf (.str z) M = if z.length ≤ sizeLine then some z.length else none := rfl
theorem dTyN_non (M : DM) : dTyN .non M = some "NoneType" := rfl
theorem dTyN_bl (b : Bool) (M : DM) : dTyN (.bl b) M = some "bool" := rfl
theorem dTyN_int (b : Int) (M : DM) : dTyN (.int b) M = some "int" := rfl
theorem dTyN_str (b : Str) (M : DM) : dTyN (.str b) M = some "str" := rfl
theorem dTyN_tup (b : List D) (M : DM) : dTyN (.tup b) M = some "tuple" := rfl
theorem dTyN_lst (b : List D) (M : DM) : dTyN (.lst b) M = some "list" := rfl
theorem dTyN_dct (b : List (D × D)) (M : DM) : dTyN (.dct b) M = some "dict" := rfl
theorem dTyN_rf (a : Addr) (M : DM) : dTyN (.ref a) M = match M a with
  | some (.lst _) => some "list"
  | some (.dk _) => some "dict"
  | _ => none := rfl
theorem dIntOf_int (i : Int) : dIntOf (.int i) = some i := rfl
theorem dIntOf_bl (b : Bool) : dIntOf (.bl b) = some (if b then 1 else 0) := rfl
theorem dAt_tup (xs : List D) : dAt (.tup xs) = none := rfl
theorem dAt_lst (xs : List D) : dAt (.lst xs) = none := rfl
theorem dAt_rf (a : Addr) : dAt (.ref a) = some a := rfl
theorem isN_non : D.isN .non = true := rfl
theorem isN_bl (b : Bool) : D.isN (.bl b) = false := rfl
theorem isN_int (b : Int) : D.isN (.int b) = false := rfl
theorem isN_str (b : Str) : D.isN (.str b) = false := rfl
theorem isN_tup (b : List D) : D.isN (.tup b) = false := rfl
theorem isN_lst (b : List D) : D.isN (.lst b) = false := rfl
theorem isN_rf (b : Addr) : D.isN (.ref b) = false := rfl
theorem eqv_non : D.eqv .non .non = true := by
  simp [D.eqv, D.py, PyData.eqv]
theorem eqv_refl {n : Nat} {d : D} (h : dOk n d = true) : D.eqv d d = true := PySem.SeqAt.eqv_refl _ (dOk_lay n d h).1
@[simp] theorem dOk_int (n : Nat) (i : Int) : dOk n (.int i) = true := by cases n <;> rfl
@[simp] theorem dOk_bl (n : Nat) (i : Bool) : dOk n (.bl i) = true := by cases n <;> rfl
@[simp] theorem dOk_non (n : Nat) : dOk n .non = true := by cases n <;> rfl
theorem dOk_str (n : Nat) (x : Str) : dOk n (.str x) = PyData.strOk x := by cases n <;> rfl
@[simp] theorem dOk_tup (n : Nat) (xs : List D) : dOk (n + 1) (.tup xs) = xs.all (dOk n) := rfl
@[simp] theorem dOk_lst (n : Nat) (xs : List D) : dOk (n + 1) (.lst xs) = xs.all (dOk n) := rfl
theorem atI_0 {α : Type} (x : α) (xs : List α) : atI (x :: xs) 0 = some x := atI_nat (j := 0) rfl
theorem atI_1 {α : Type} (x y : α) (xs : List α) : atI (x :: y :: xs) 1 = some y := atI_nat (j := 1) rfl
theorem atI_2 {α : Type} (x y z : α) (xs : List α) : atI (x :: y :: z :: xs) 2 = some z := atI_nat (j := 2) rfl
theorem atI_3 {α : Type} (x y z u : α) (xs : List α) : atI (x :: y :: z :: u :: xs) 3 = some u := atI_nat (j := 3) rfl
theorem atI_4 {α : Type} (x y z u v : α) (xs : List α) : atI (x :: y :: z :: u :: v :: xs) 4 = some v := atI_nat (j := 4) rfl
theorem atI_5 {α : Type} (x y z u v w : α) (xs : List α) : atI (x :: y :: z :: u :: v :: w :: xs) 5 = some w := atI_nat (j := 5) rfl
theorem atI_n {α : Type} (xs : List α) (n : Nat) : atI xs (n : Int) = xs[n]? := by
  unfold atI ixN
  rw [if_pos (by omega)]
  by_cases h : n < xs.length
  · rw [if_pos (by omega)]
    simp
  · rw [if_neg (by omega), List.getElem?_eq_none (by omega)]
    rfl
theorem atI_neg1 {α : Type} (xs : List α) : atI xs (-1) = xs.getLast? := by
  cases xs with
  | nil => rfl
  | cons x r =>
    rw [List.getLast?_eq_getElem?]
    unfold atI ixN
    rw [if_neg (by omega), if_pos (by rw [List.length_cons]; omega)]
    show (x :: r)[(-1 + ((x :: r).length : Int)).toNat]? = _
    congr 1
    rw [List.length_cons]
    omega
/-! ### sizes -/
/-- x has at most B bits -/
def Ab (B : Nat) (x : Int) : Prop := x.natAbs < 2 ^ B
theorem Ab.mono {a b : Nat} {x : Int} (h : Ab a x) (l : a ≤ b) : Ab b x := Nat.lt_of_lt_of_le h (Nat.pow_le_pow_right (by decide) l)
theorem Ab.mul {a b : Nat} {x y : Int} (h : Ab a x) (k : Ab b y) : Ab (a + b) (x * y) := wide_lt h k
theorem Ab.add {a : Nat} {x y : Int} (h : Ab a x) (k : Ab a y) : Ab (a + 1) (x + y) := by
  unfold Ab at h k ⊢
  have := Int.natAbs_add_le x y
  rw [Nat.pow_succ]
  omega
theorem Ab.sub {a : Nat} {x y : Int} (h : Ab a x) (k : Ab a y) : Ab (a + 1) (x - y) := by
  unfold Ab at h k ⊢
  have : (x - y).natAbs ≤ x.natAbs + y.natAbs := by omega
  rw [Nat.pow_succ]
  omega
theorem Ab.neg {a : Nat} {x : Int} (h : Ab a x) : Ab a (-x) := by
  unfold Ab at h ⊢
  rw [Int.natAbs_neg]
  exact h
theorem Ab.cmul {a b : Nat} {x y : Int} (h : Ab a x) (k : Ab b y) (l : a + b ≤ 999998) : CMulA x y :=
  .inr <| .inr <| wide_mul (h.mono (Nat.le_succ a)) (k.mono (Nat.le_succ b)) (by omega) (by omega) (by omega)
theorem Ab.cdiv {a : Nat} {x y : Int} (h : Ab a y) (p : 0 < y) (l : a ≤ 8999) : CDivA x y := .inr <| wide_div p (h.mono (Nat.le_succ a)) (by omega) (by omega)
theorem Ab.le {a : Nat} {x y : Int} (h : Ab a y) (h0 : 0 ≤ x) (l : x ≤ y) : Ab a x := wide_le h0 l h
theorem Ab.small {x : Int} (h : -1024 < x) (k : x < 1024) : Ab 10 x := by
  unfold Ab
  omega
theorem Ab.of {a : Nat} {x : Int} (h : x.natAbs < 2 ^ a) : Ab a x := h

/-! ### loops, by what holds of the items that are left -/
theorem for_ind {src : Src} {g : DTG} {tb : DTS} {Z : DEnds} (V : List D → DSt → DM → Prop) (fin : ∀ m M, V [] m M → SrcV src M ∧ Z.nx m M)
    (step : ∀ d ds m M (Cn : DSt → DM → Prop), (∀ m' M', V ds m' M' → Cn m' M') → V (d :: ds) m M → SrcV src M ∧ g d m M fun m1 M1 => tb { Z with nx := fg Cn, ct := fg Cn, bk := Z.nx } m1 M1) :
    ∀ ds m M, V ds m M → dForGo src g tb Z ds m M
  | [], m, M, h => fin m M h
  | d :: ds, m, M, h => step d ds m M (dForGo src g tb Z ds) (for_ind V fin step ds) h
theorem lc_ind {src : Src} {g : DTG} {tt : DTT} {te : DTE} {m0 : DSt} {p : Addr} {Qd : List D → DM → Prop} (V : List D → List D → DM → Prop) (fin : ∀ acc M, V [] acc M → SrcV src M ∧ Qd acc M)
    (step : ∀ d ds acc M (Cn : List D → DM → Prop), (∀ acc' M', V ds acc' M' → Cn acc' M') → V (d :: ds) acc M → SrcV src M ∧ g d m0 M fun m1 M1 => tt m1 M1 fun b M2 =>
      if b = true then te m1 M2 fun y M3 => M3 p = some (.lst acc) ∧ Cn (acc ++ [y]) (mput M3 p (.lst (acc ++ [y]))) else M2 p = some (.lst acc) ∧ Cn acc M2) :
    ∀ ds acc M, V ds acc M → dLcGo src g tt te m0 p Qd ds acc M
  | [], acc, M, h => fin acc M h
  | d :: ds, acc, M, h => step d ds acc M (dLcGo src g tt te m0 p Qd ds) (lc_ind V fin step ds) h
theorem mput_le {M N : DM} {p : Addr} {o : DO} (l : MLe M N) (h : M p = none) : MLe M (mput N p o) := l.put h
/-- a comprehension whose tests and elements change nothing: over e x for the x of xs -/
theorem lcGo_pure {α : Type} {src : Src} {g : DTG} {tt : DTT} {te : DTE} {m0 : DSt} {p : Addr} {Qd : List D → DM → Prop} {M1 : DM} (e : α → D) (pr : α → Bool) (f : α → D) (hp : M1 p = none) (sv : SrcV src M1) :
    ∀ (xs : List α) (step : ∀ x ∈ xs, ∀ M, MLe M1 M → ∀ (C1 : D → DM → Prop) (C2 : DM → Prop), (pr x = true → C1 (f x) M) → (pr x = false → C2 M) → g (e x) m0 M fun m1 M1 => tt m1 M1 fun b M2 => if b = true then te m1 M2 C1 else C2 M2)
      (acc : List D), Qd (acc ++ (xs.filter pr).map f) (mput M1 p (.lst (acc ++ (xs.filter pr).map f))) → dLcGo src g tt te m0 p Qd (xs.map e) acc (mput M1 p (.lst acc))
  | [], _, acc, h => ⟨fun a e => MLe.put (.refl M1) hp a _ (sv a e), by simpa using h⟩
  | x :: xs, step, acc, h => by
    refine ⟨fun a e => MLe.put (.refl M1) hp a _ (sv a e), step x (by simp) _ (MLe.put (.refl M1) hp) _ _ (fun e => ⟨mput_same, ?_⟩) fun e => ⟨mput_same, ?_⟩⟩
    · rw [mput_mput]
      refine lcGo_pure _ pr f hp sv xs (fun d' h' => step d' (by simp [h'])) _ ?_
      rw [List.filter_cons_of_pos e, List.map_cons] at h
      simpa using h
    · refine lcGo_pure _ pr f hp sv xs (fun d' h' => step d' (by simp [h'])) _ ?_
      rw [List.filter_cons_of_neg (by simp [e])] at h
      exact h
theorem filter_all {α : Type} : ∀ l : List α, l.filter (fun _ => true) = l
  | [] => rfl
  | x :: l => by rw [List.filter_cons_of_pos rfl, filter_all l]
theorem lc_pure {α : Type} {src : Src} {g : DTG} {tt : DTT} {te : DTE} {m0 : DSt} {Qd : Addr → List D → DM → Prop} {M1 : DM} (xs : List α) (e : α → D) (pr : α → Bool) (f : α → D) (hx : src.1 = xs.map e) (sv : SrcV src M1)
    (step : ∀ x ∈ xs, ∀ M, MLe M1 M → ∀ (C1 : D → DM → Prop) (C2 : DM → Prop), (pr x = true → C1 (f x) M) → (pr x = false → C2 M) → g (e x) m0 M fun m1 M1 => tt m1 M1 fun b M2 => if b = true then te m1 M2 C1 else C2 M2)
    (h : ∀ p, M1 p = none → Qd p ((xs.filter pr).map f) (mput M1 p (.lst ((xs.filter pr).map f)))) : ∀ p, M1 p = none → dLcGo src g tt te m0 p (Qd p) src.1 [] (mput M1 p (.lst [])) := fun p hp => by
  have z := lcGo_pure (Qd := Qd p) e pr f hp sv xs step [] (by rw [List.nil_append]; exact h p hp)
  rw [← hx] at z
  exact z
/-- .. without a test -/
theorem lc_map {α : Type} {src : Src} {g : DTG} {te : DTE} {m0 : DSt} {Qd : Addr → List D → DM → Prop} {M1 : DM} (xs : List α) (e : α → D) (f : α → D) (hx : src.1 = xs.map e) (sv : SrcV src M1)
    (step : ∀ x ∈ xs, ∀ M, MLe M1 M → ∀ (C1 : D → DM → Prop), C1 (f x) M → g (e x) m0 M fun m1 M1 => te m1 M1 C1)
    (h : ∀ p, M1 p = none → Qd p (xs.map f) (mput M1 p (.lst (xs.map f)))) : ∀ p, M1 p = none → dLcGo src g dYes te m0 p (Qd p) src.1 [] (mput M1 p (.lst [])) :=
  lc_pure xs e (fun _ => true) f hx sv (fun x hd M l C1 C2 h1 _ => step x hd M l C1 (h1 rfl)) (by rw [filter_all]; exact h)
theorem seq_i {t u : DTS} {Z : DEnds} {m : DSt} {M : DM} (h : t { Z with nx := u Z } m M) : dSeq t u Z m M := h
/-- behind a statement with several ends: what holds at each of them -/
theorem seq_cut {t u : DTS} {Z : DEnds} {m : DSt} {M : DM} (P : DSt → DM → Prop) (h1 : ∀ Cn : DSt → DM → Prop, (∀ m' M', P m' M' → Cn m' M') → t { Z with nx := Cn } m M) (h2 : ∀ m' M', P m' M' → u Z m' M') : dSeq t u Z m M := h1 (u Z) h2
theorem MLe.trans {M N O : DM} (h : MLe M N) (k : MLe N O) : MLe M O := fun a o e => k a o (h a o e)
/-- what is new, and what stood -/
theorem MLe.with {M N : DM} {a : Addr} {o : DO} (l : MLe M N) (h : N a = some o) : MLe (mput M a o) N := fun b p e => by
  by_cases hb : b = a
  · subst hb
    rw [mput_same] at e
    cases e
    exact h
  · rw [mput_ne hb] at e
    exact l b p e
/-- a store to what is new -/
theorem MLe.store {M N : DM} {a : Addr} {o : DO} (l : MLe M N) (h : M a = none) : MLe M (mput N a o) := l.put h
theorem ne_of_fresh {M : DM} {a b : Addr} {o : DO} (h : M a = some o) (k : M b = none) : a ≠ b := fun e => by
  rw [e, k] at h
  cases h
theorem atI_lt {α : Type} {xs : List α} {i : Int} (h0 : 0 ≤ i) (h1 : i < xs.length) : ∃ x, x ∈ xs ∧ atI xs i = some x := by
  obtain ⟨n, rfl⟩ : ∃ n : Nat, i = n := ⟨i.toNat, by omega⟩
  have hn : n < xs.length := by omega
  exact ⟨xs[n], List.getElem_mem hn, by rw [atI_n, List.getElem?_eq_getElem hn]⟩
theorem atI_map {α β : Type} (f : α → β) (xs : List α) (i : Int) : atI (xs.map f) i = (atI xs i).map f := by
  unfold atI
  rw [List.length_map]
  cases ixN xs.length i with
  | none => rfl
  | some j => simp
theorem ixN_lt {n : Nat} {i : Int} (h0 : 0 ≤ i) (h1 : i < n) : ixN n i = some i.toNat := by
  unfold ixN
  rw [if_pos h0, if_pos h1]
theorem items_put {M : DM} {p : Addr} {o : DO} {d : D} (h : d ≠ .ref p) : dItems d (mput M p o) = dItems d M := by
  cases d with
  | ref a =>
    have : a ≠ p := fun e => h (e ▸ rfl)
    simp only [dItems, mput_ne this]
  | _ => rfl
/-- the empty promise -/
theorem Def.nil {P : Program} {w : World} {K : PySem.W.Frag} {mg : Str → Option Value} {base : Heap} {k : Nat} {x : Str} {ps : List Str} {st : Stmt} (F : Def K mg x st ps) : Cal P w K mg base k x ps (fun _ _ _ => False) := by
  obtain ⟨f, fd, F, hm, hb⟩ := F.ex
  exact ⟨f, fd, ⟨fun _ _ _ _ ⟨_, _, _, _, _, z, _⟩ => z.elim, fun _ _ _ _ _ _ _ _ _ _ _ _ _ ⟨_, _, _, _, _, z, _⟩ => z.elim⟩, hm, F.kp, hb⟩
/-- a list of draws: ints, whichever -/
def DrO (o : DO) : Prop := ∃ ks : List Int, o = .lst (ks.map D.int)
def Dr (M : DM) (p : Addr) : Prop := ∃ o, M p = some o ∧ DrO o
theorem dr_put {M : DM} {p : Addr} {o : DO} (h : DrO o) : Dr (mput M p o) p := ⟨o, mput_same, h⟩
theorem dr_at {M : DM} {p : Addr} {o : DO} (h : DrO o) (e : M p = some o) : Dr M p := ⟨o, e, h⟩
theorem dr_ne {M : DM} {p q : Addr} {o : DO} (h : Dr M p) (e : p ≠ q) : Dr (mput M q o) p := let ⟨o', h1, h2⟩ := h; ⟨o', by rw [mput_ne e]; exact h1, h2⟩
theorem Dr.le {M N : DM} {p : Addr} (h : Dr M p) (l : MLe M N) : Dr N p := let ⟨o, h1, h2⟩ := h; ⟨o, l _ _ h1, h2⟩
theorem Dr.some {M : DM} {p q : Addr} (h : Dr M p) (k : M q = none) : p ≠ q := let ⟨_, h1, _⟩ := h; ne_of_fresh h1 k
theorem srcV_none {xs : List D} {M : DM} : SrcV (xs, none) M := fun _ e => nomatch e
theorem fz_new {xs : List D} {M : DM} {Q : DVK} (h : Q (.lst xs) M) : ∀ p, M p = none → ∃ p' ds, D.ref p = .ref p' ∧ mput M p (.lst xs) p' = some (.lst ds) ∧ Q (.lst ds) (mdel (mput M p (.lst xs)) p') := fun p hp =>
  ⟨p, xs, rfl, mput_same, by rw [mdel_mput hp]; exact h⟩
end DL
namespace DL
open PySem PySem.Spec PyProof.Rows L2
section
variable {X : Cx} {e a b : Expr} {es : List Expr} {pos p apos cpos : Pos} {te ta tb : DTE} {t : DTA} {x : Str}

theorem items_kind {K : PySem.W.Frag} {H : Hp} {M : DM} {d : D} {v : V} {xs : List D} (r : Rep K H d v) (m : RM K H M) (e : dItems d M = some xs) :
    ∃ a vs, v = .ref a ∧ vs.length ≤ sizeLine ∧ RepL K H xs vs ∧ ((SqL K H a vs ∧ d ≠ .tup xs) ∨ (SqT K H a vs ∧ d = .tup xs)) := by
  cases r with
  | tup hT z l =>
    cases e
    exact ⟨_, _, rfl, z, l, .inr ⟨hT, rfl⟩⟩
  | lst hL z l =>
    cases e
    exact ⟨_, _, rfl, z, l, .inl ⟨hL.seq, fun q => nomatch q⟩⟩
  | ref a =>
    obtain ⟨a', vs, e1, z, l, ⟨h1, _⟩ | ⟨_, h2⟩⟩ := items_of (Rep.ref a) m e
    · exact ⟨a', vs, e1, z, l, .inl ⟨h1, fun q => nomatch q⟩⟩
    · cases h2
  | _ => cases e

/-! ### + of ints, texts, tuples -/
def dAdd : DR2 := fun x y M Q => match x, y with
  | .int i, .int j => Q (.int (i + j)) M
  | .str i, .str j => i.length + j.length ≤ 16777216 ∧ Q (.str (i ++ j)) M
  | .tup xs, .tup ys => xs.length + ys.length ≤ 16777216 ∧ Q (.tup (xs ++ ys)) M
  | _, _ => False
theorem o_addA : DOp X (binaryOp .Add) dAdd := by
  intro pins s σ H x y v u Q I rx ry ⟨d, e, M, Q', r1, r2, m, q, k⟩
  cases d with
  | int i =>
    cases e with
    | int j =>
      cases r1
      cases r2
      exact op_add pins s σ H _ _ v u Q I rx ry ⟨i, j, rfl, rfl, k _ _ M H (.refl H) (.int _) m q⟩
    | _ => exact q.elim
  | str i =>
    cases e with
    | str j =>
      cases r1
      cases r2
      obtain ⟨z, q⟩ := q
      exact op_add_str pins s σ H _ _ v u Q I rx ry ⟨i, j, rfl, rfl, by rw [sizeLine_eq]; exact z, k _ _ M H (.refl H) (.str _) m q⟩
    | _ => exact q.elim
  | tup xs =>
    cases e with
    | tup ys =>
      obtain ⟨z, q⟩ := q
      cases id r1 with
      | tup h1 z1 l1 =>
        cases id r2 with
        | tup h2 z2 l2 =>
          have hz : xs.length + ys.length ≤ sizeLine := by rw [sizeLine_eq]; exact z
          rw [l1.length, l2.length] at hz
          refine op_catA pins s σ H _ _ v u Q I rx ry ⟨_, _, _, _, rfl, rfl, h1, h2, hz, fun e1 => ?_, fun e1 e2 => ?_, fun e1 e2 p hp => ?_⟩
          · subst e1
            cases l1
            exact k _ _ M H (.refl H) r2 m q
          · subst e2
            cases l2
            rw [List.append_nil] at q
            exact k _ _ M H (.refl H) r1 m q
          · exact k _ _ M _ (.new hp) (.tup (.of upd_same) (by rw [List.length_append]; exact hz) ((l1.append l2).grow (.new hp))) (m.new hp) q
    | _ => exact q.elim
  | _ => exact q.elim

/-! ### + of lists -/
def rCatS (K : PySem.W.Frag) : R2 := fun x y H Q => ∃ a b xs ys, x = .ref a ∧ y = .ref b ∧ SqL K H a xs ∧ SqL K H b ys ∧ xs.length + ys.length ≤ sizeLine ∧
  ∀ p, H p = none → Q (.ref p) (upd H p (.lst (xs ++ ys)))
theorem op_catS : OpR X (binaryOp .Add) (rCatS X.K) := by
  intro pins s σ H x y v u Q I rx ry ⟨a, b, xs, ys, e1, e2, h1, h2, hz, q⟩
  subst e1
  subst e2
  cases rx
  cases ry
  obtain ⟨us, r1, pl1, _⟩ := I.list h1
  obtain ⟨ws, r2, pl2, _⟩ := I.list h2
  obtain ⟨⟨c1, dd1, dt1, sl1⟩, ho1, hc1, n1, hd1⟩ := pl1.isList
  obtain ⟨⟨c2, dd2, dt2, sl2⟩, ho2, hc2, n2, hd2⟩ := pl2.isList
  simp only at hc1 hd1 hc2 hd2
  subst hc1 hd1 hc2 hd2
  have hz' : us.toArray.size + ws.toArray.size ≤ sizeLine := by
    have y1 := r1.length
    have y2 := r2.length
    simp only [List.size_toArray]
    omega
  have ee : us.toArray ++ ws.toArray = (us ++ ws).toArray := by simp
  refine concat_meets ⟨_, ho1, rfl⟩ ⟨_, ho2, rfl⟩ noFill_list_add seq_list_add PySem.F.slot_list_add PySem.F.entry_list_add (PySem.F.args_list_add_2 _ _)
    (PyProof.Rows.list_addW a b us.toArray ws.toArray n1 n2 dd1 dd2 sl1 sl2 hz') ⟨ho1, ho2, ?_⟩
  rw [ee]
  exact ⟨.ref _, _, I.lnew (t' := s.toks) (r1.append r2) (by rw [List.length_append]; exact hz), rfl, q _ I.fresh⟩
/-- the items of two lists in a row -/
def dCat (ta tb : DTE) : DTE := fun m M Q => ta m M fun d M1 => tb m M1 fun e M2 => ∃ xs ys, dItems d M2 = some xs ∧ d ≠ .tup xs ∧ dItems e M2 = some ys ∧ e ≠ .tup ys ∧ xs.length + ys.length ≤ 16777216 ∧ ∀ p, M2 p = none → Q (.ref p) (mput M2 p (.lst (xs ++ ys)))
def dCatF (ta tb : DTE) : DTE := fun m M Q => ta m M fun d M1 => tb m M1 fun e M2 => ∃ xs ys, dItems d M2 = some xs ∧ d ≠ .tup xs ∧ dItems e M2 = some ys ∧ e ≠ .tup ys ∧ xs.length + ys.length ≤ 16777216 ∧ Q (.lst (xs ++ ys)) M2
theorem lst_of {K : PySem.W.Frag} {H : Hp} {M : DM} {d : D} {v : V} {xs : List D} (r : Rep K H d v) (m : RM K H M) (h : dItems d M = some xs) (h2 : d ≠ .tup xs) : ∃ a vs, v = .ref a ∧ vs.length ≤ sizeLine ∧ RepL K H xs vs ∧ SqL K H a vs := by
  obtain ⟨a, vs, e, z, l, ⟨h4, _⟩ | ⟨_, h5⟩⟩ := items_of r m h
  · exact ⟨a, vs, e, z, l, h4⟩
  · exact absurd h5 h2
theorem d_cat (ha : DE X a ta) (hb : DE X b tb) : DE X (.BinOp a .Add b pos) (dCat ta tb) :=
  imE (pe_op op_catS ha hb) fun σ H Q ⟨m, M, Q', r, q, k⟩ => by
    refine ⟨m, M, _, r, q, fun d v M1 H1 g1 r1 m1 q1 => ?_⟩
    refine ⟨m, M1, _, r.grow g1 m1, q1, fun e w M2 H2 g2 r2 m2 ⟨xs, ys, h1, h2, h3, h4, hz, q2⟩ => ?_⟩
    obtain ⟨a1, vs, rfl, z1, l1, s1⟩ := lst_of (r1.grow g2) m2 h1 h2
    obtain ⟨a2, ws, rfl, z2, l2, s2⟩ := lst_of r2 m2 h3 h4
    have hz' : vs.length + ws.length ≤ sizeLine := by rw [← l1.length, ← l2.length, sizeLine_eq]; exact hz
    refine ⟨a1, a2, vs, ws, rfl, rfl, s1, s2, hz', fun p hp => k _ _ _ _ ((g1.trans g2).trans (.new hp)) (.ref p) (m2.newLst hp (by rw [List.length_append]; exact hz') (l1.append l2)) (q2 p (m2.free hp))⟩
theorem d_catF (ha : DE X a ta) (hb : DE X b tb) : DE X (.BinOp a .Add b pos) (dCatF ta tb) :=
  imE (pe_fz (pe_op op_catS ha hb)) fun σ H Q ⟨m, M, Q', r, q, k⟩ => by
    refine ⟨m, M, _, r, q, fun d v M1 H1 g1 r1 m1 q1 => ?_⟩
    refine ⟨m, M1, _, r.grow g1 m1, q1, fun e w M2 H2 g2 r2 m2 ⟨xs, ys, h1, h2, h3, h4, hz, q2⟩ => ?_⟩
    obtain ⟨a1, vs, rfl, z1, l1, s1⟩ := lst_of (r1.grow g2) m2 h1 h2
    obtain ⟨a2, ws, rfl, z2, l2, s2⟩ := lst_of r2 m2 h3 h4
    have hz' : vs.length + ws.length ≤ sizeLine := by rw [← l1.length, ← l2.length, sizeLine_eq]; exact hz
    refine ⟨a1, a2, vs, ws, rfl, rfl, s1, s2, hz', fun p hp => ⟨p, _, rfl, upd_same, fun o => ?_⟩⟩
    rw [upd_upd]
    exact k _ _ _ _ ((g1.trans g2).trans (.new hp)) (.lst (.inl ⟨o, upd_same⟩) (by rw [List.length_append]; exact hz') ((l1.append l2).grow (.new hp))) (m2.new hp) q2

/-! ### slices -/
def cutD (xs : List D) (lo hi : Option Int) : List D := (xs.drop (HT.sIx xs.length 0 lo)).take (HT.sIx xs.length xs.length hi - HT.sIx xs.length 0 lo)
theorem RepL.cut {K : PySem.W.Frag} {H : Hp} {xs : List D} {vs : List V} (l : RepL K H xs vs) (lo hi : Option Int) : RepL K H (cutD xs lo hi) (cutV vs lo hi) := by
  unfold cutD cutV
  rw [l.length]
  exact (l.drop _).take _
theorem cutD_len (xs : List D) (lo hi : Option Int) : (cutD xs lo hi).length ≤ xs.length := by
  unfold cutD
  rw [List.length_take, List.length_drop]
  omega
theorem cutD_from (xs : List D) (k : Nat) : cutD xs (some (k : Int)) none = xs.drop k := by
  unfold cutD
  rw [HT.sIx_nat, HT.sIx_none, List.take_of_length_le (by rw [List.length_drop]; exact Nat.le_refl _)]
  by_cases h : k ≤ xs.length
  · rw [Nat.min_eq_left h]
  · rw [Nat.min_eq_right (by omega), List.drop_length, List.drop_eq_nil_of_le (by omega)]
theorem cutD_to (xs : List D) (k : Nat) : cutD xs none (some (k : Int)) = xs.take k := by
  unfold cutD
  rw [HT.sIx_nat, HT.sIx_none, List.drop_zero, Nat.sub_zero]
  by_cases h : k ≤ xs.length
  · rw [Nat.min_eq_left h]
  · rw [Nat.min_eq_right (by omega), List.take_length, List.take_of_length_le (by omega)]
theorem cutD_all (xs : List D) : cutD xs none none = xs := by
  unfold cutD
  rw [HT.sIx_none, HT.sIx_none, List.drop_zero, Nat.sub_zero, List.take_length]
abbrev DTO := DSt → DM → (Option Int → DM → Prop) → Prop
def upO (K : PySem.W.Frag) (t : DTO) : TO := fun σ H Q => ∃ m M Q', R K m M σ H ∧ t m M Q' ∧ ∀ o M' H', Grow H H' → RM K H' M' → Q' o M' → Q o H'
abbrev DPO (X : Cx) (e : Option Expr) (t : DTO) : Prop := PO X e (upO X.K t)
theorem imO {e : Option Expr} {t t' : TO} (h : PO X e t) (i : ∀ σ H Q, t' σ H Q → t σ H Q) : PO X e t' := ⟨fun pins s σ H Q I q => h.run pins s σ H Q I (i σ H Q q)⟩
def dNoP : DTO := fun _ M Q => Q none M
def dPart (te : DTE) : DTO := fun m M Q => te m M fun d M1 => ∃ i, d = .int i ∧ Q (some i) M1
theorem dp_none : DPO X none dNoP := imO po_none fun σ H Q ⟨m, M, Q', r, q, k⟩ => k _ M H (.refl H) r.mem q
theorem dp_some (h : DE X e te) : DPO X (some e) (dPart te) := imO (po_some h) fun σ H Q ⟨m, M, Q', r, q, k⟩ => by
  refine ⟨m, M, _, r, q, fun d v M1 H1 g1 r1 m1 ⟨i, e1, q1⟩ => ?_⟩
  subst e1
  cases r1
  exact ⟨i, rfl, k _ M1 H1 g1 m1 q1⟩
/-- of a tuple a tuple, of a list a list that stays -/
def dSl (te : DTE) (tl th : DTO) : DTE := fun m M Q => te m M fun d M1 => tl m M1 fun lo M2 => th m M2 fun hi M3 => ∃ xs, dItems d M3 = some xs ∧ (d = .tup xs → Q (.tup (cutD xs lo hi)) M3) ∧ (d ≠ .tup xs → Q (.lst (cutD xs lo hi)) M3)
def tFzO (t : TE) : TE := fun σ H Q => t σ H fun v H1 => Q v H1 ∨ ∃ p vs, v = .ref p ∧ H1 p = some (.lst vs) ∧ ∀ o, Q v (upd H1 p (.frz o (.lst vs)))
theorem pe_fzO {t : TE} (h : PE X e t) : PE X e (tFzO t) := by
  refine ⟨fun pins s σ H Q I q => thn (h.run pins s σ H _ I q) fun u s1 ⟨v, H1, I1, r1, q1⟩ => ?_⟩
  rcases q1 with q1 | ⟨p, vs, e1, e2, q1⟩
  · exact ⟨v, H1, I1, r1, q1⟩
  · obtain ⟨o, I2⟩ := inv_frz I1 e2
    exact ⟨v, _, I2, r1, q1 o⟩
variable {lo hi : Option Expr} {tl th : DTO} {p2 : Pos}
theorem d_sl (he : DE X e te) (hl : DPO X lo tl) (hh : DPO X hi th) : DE X (.Subscript e (.Slice lo hi none p2) pos) (dSl te tl th) :=
  imE (pe_fzO (pe_slice (sl_tupA.or sl_list) he hl hh)) fun σ H Q ⟨m, M, Q', r, q, k⟩ => by
    refine ⟨m, M, _, r, q, fun d v M1 H1 g1 r1 m1 q1 => ?_⟩
    refine ⟨m, M1, _, r.grow g1 m1, q1, fun o1 M2 H2 g2 m2 q2 => ?_⟩
    refine ⟨m, M2, _, r.grow (g1.trans g2) m2, q2, fun o2 M3 H3 g3 m3 ⟨xs, h1, q3, q4⟩ => ?_⟩
    have g := (g1.trans g2).trans g3
    have r3 := r1.grow (g2.trans g3)
    obtain ⟨a1, vs, rfl, z, l, ⟨h4, hnt⟩ | ⟨h4, h5⟩⟩ := items_kind r3 m3 h1
    · have nt : d ≠ .tup xs := hnt
      refine .inr ⟨a1, vs, rfl, h4, fun p hp => .inr ⟨p, _, rfl, upd_same, fun o => ?_⟩⟩
      rw [upd_upd]
      exact k _ _ _ _ (g.trans (.new hp)) (.lst (.inl ⟨o, upd_same⟩) (Nat.le_trans (cutV_length vs o1 o2) z) ((l.cut o1 o2).grow (.new hp))) (m3.new hp) (q4 nt)
    · refine .inl ⟨a1, vs, rfl, h4, fun w => .inl ?_, fun w p hp => .inl ?_⟩
      · have e5 : cutD xs o1 o2 = xs := by
          unfold cutD
          rw [l.length, w.1, w.2, List.drop_zero, Nat.sub_zero, ← l.length, List.take_length]
        have q5 := q3 h5
        rw [e5] at q5
        subst h5
        exact k _ _ M3 H3 g r3 m3 q5
      · exact k _ _ _ _ (g.trans (.new hp)) (.tup (.of upd_same) (Nat.le_trans (cutV_length vs o1 o2) z) ((l.cut o1 o2).grow (.new hp))) (m3.new hp) (q3 h5)
end
end DL
namespace DL
open PySem PySem.Spec PyProof.Rows L2
section
variable {X : Cx} {e a b o : Expr} {es : List Expr} {pos p apos cpos : Pos} {te ta tb to : DTE} {t : DTA} {x : Str} {tg l : Expr}

/-! ### signs of a text -/
def sgn (z : Str) (i : Int) : Option Str := (atI z.cps.toList i).map fun c => ⟨#[c]⟩
def dIxS : DR2 := fun x y M Q => match x with
  | .str z => ∃ i c, y = .int i ∧ z.length ≤ 16777216 ∧ sgn z i = some c ∧ Q (.str c) M
  | _ => dIx x y M Q
theorem x_ixS : IxR X (upR2 X.K dIxS) := by
  intro value slice pins s σ H x y v u Q I rx ry ⟨d, e, M, Q', r1, r2, m, q, k⟩ hop
  cases d with
  | str z =>
    obtain ⟨i, c, e1, hz, h, q⟩ := q
    subst e1
    cases r1
    cases r2
    unfold sgn at h
    cases w : atI z.cps.toList i with
    | none => rw [w] at h; cases h
    | some n =>
      rw [w] at h
      cases h
      exact ix_str value slice pins s σ H _ _ v u Q I rx ry ⟨z, i, n, rfl, rfl, by rw [sizeLine_eq]; exact hz, w, k _ _ M H (.refl H) (.str _) m q⟩ hop
  | _ => exact x_ix value slice pins s σ H _ _ v u Q I rx ry ⟨_, e, M, Q', r1, r2, m, q, k⟩ hop

/-! ### * of ints, of a text and an int -/
def srep (z : Str) (k : Nat) : Str := ⟨(List.replicate k z.cps.toList).flatten.toArray⟩
theorem foldl_apps (u : Array Nat) : ∀ (k : Nat) (acc : Array Nat), (List.replicate k u).foldl (· ++ ·) acc = (acc.toList ++ (List.replicate k u.toList).flatten).toArray
  | 0, acc => by simp
  | k + 1, acc => by
    rw [List.replicate_succ, List.foldl_cons, foldl_apps u k (acc ++ u), List.replicate_succ, List.flatten_cons]
    simp
theorem srep_1 (z : Str) : srep z 1 = z := Str.ext' (by simp [srep])
theorem srep_0 (z : Str) : srep z 0 = Str.empty := Str.ext' (by simp [srep, Str.empty])
theorem srep_len (z : Str) (k : Nat) : (srep z k).length = z.length * k := by
  simp [srep, Str.length, Nat.mul_comm]
def dMulA : DR2 := fun x y M Q => match x, y with
  | .int i, .int j => CMulA i j ∧ Q (.int (i * j)) M
  | .str z, .int k => (0 ≤ k ∧ k ≤ 1000000) ∧ z.length * k.toNat ≤ 16777216 ∧ Q (.str (srep z k.toNat)) M
  | _, _ => False
theorem o_mulA : DOp X (binaryOp .Mult) dMulA := by
  intro pins s σ H x y v u Q I rx ry ⟨d, e, M, Q', r1, r2, m, q, k⟩
  cases d with
  | int i =>
    cases e with
    | int j => exact o_mul pins s σ H x y v u Q I rx ry ⟨_, _, M, Q', r1, r2, m, ⟨i, j, rfl, rfl, q.1, q.2⟩, k⟩
    | _ => exact q.elim
  | str z =>
    cases e with
    | int n =>
      cases r1
      cases r2
      obtain ⟨t1, rfl⟩ := rx
      obtain ⟨t2, rfl⟩ := ry
      obtain ⟨⟨n0, n1⟩, hz, q⟩ := q
      have fin : ∀ (w : Value) (kk : Nat), RelV (V.str (srep z n.toNat)) w → EP X pins σ Q w { s with toks := kk } := fun w kk hr => ⟨_, H, I.tok kk, hr, k _ _ M H (.refl H) (.str _) m q⟩
      refine PySem.P.mul_str ?_ (fun h1 h2 => ?_) (fun h1 h2 => ?_) ?_
      · rw [decide_eq_false (by omega), decide_eq_false (by omega)]
        rfl
      · rw [Bool.or_eq_false_iff] at h2
        have hn : ¬ n = 1 := by simpa using h2.1
        have : (z.length : Int) ≤ 16777216 := by
          have : 1 ≤ n.toNat := by omega
          have := Nat.mul_le_mul_left z.length this
          omega
        intro hc
        have hb : (2 ^ 63 - 1) / n ≥ 16777216 := by
          apply Int.le_ediv_of_mul_le (by omega)
          omega
        omega
      · exact PyProof.Rows.short24 (by omega)
      · by_cases h1 : n < 1
        · rw [if_pos h1]
          have : n = 0 := by omega
          subst this
          exact ⟨by decide, fin _ _ ⟨_, by rw [show (0 : Int).toNat = 0 from rfl, srep_0] <;> rfl⟩⟩
        · rw [if_neg h1]
          split
          · next h2 =>
            have e1 : srep z n.toNat = z := by
              rw [Bool.or_eq_true] at h2
              rcases h2 with h2 | h2
              · have : n = 1 := by simpa using h2
                subst this
                exact srep_1 z
              · have h3 : z.length = 0 := by simpa using h2
                refine Str.ext' ?_
                have h4 : z.cps = #[] := by
                  have h5 : z.cps.size = 0 := h3
                  exact Array.eq_empty_of_size_eq_zero h5
                simp [srep, h4]
            exact fin _ s.toks ⟨_, by rw [e1] <;> rfl⟩
          · next h2 =>
            have e1 : (⟨(List.replicate n.toNat z.cps).foldl (· ++ ·) #[]⟩ : Str) = srep z n.toNat := by
              refine Str.ext' ?_
              show (List.replicate n.toNat z.cps).foldl (· ++ ·) #[] = _
              rw [foldl_apps]
              simp [srep]
            rw [e1]
            refine ⟨?_, fin _ _ ⟨_, rfl⟩⟩
            show (srep z n.toNat).length ≤ sizeLine
            rw [srep_len, sizeLine_eq]
            exact hz
    | _ => exact q.elim
  | _ => exact q.elim
/-- a list that was just made, times an int -/
def dRep (ta tb : DTE) : DTE := fun m M Q => ta m M fun d M1 => tb m M1 fun e M2 => ∃ p xs k, d = .ref p ∧ e = .int k ∧ M2 p = some (.lst xs) ∧ (0 ≤ k ∧ k ≤ 1000000) ∧ xs.length * k.toNat ≤ 16777216 ∧ ∀ q, M2 q = none → Q (.ref q) (mput M2 q (.lst (List.replicate k.toNat xs).flatten))
theorem RepL.rep {K : PySem.W.Frag} {H : Hp} {xs : List D} {vs : List V} (l : RepL K H xs vs) : ∀ n : Nat, RepL K H (List.replicate n xs).flatten (List.replicate n vs).flatten
  | 0 => .nil
  | n + 1 => by
    rw [List.replicate_succ, List.flatten_cons, List.replicate_succ, List.flatten_cons]
    exact l.append (l.rep n)
theorem rep_len {α : Type} (xs : List α) (n : Nat) : (List.replicate n xs).flatten.length = xs.length * n := by
  simp [Nat.mul_comm]
theorem d_rep (ha : DE X a ta) (hb : DE X b tb) : DE X (.BinOp a .Mult b pos) (dRep ta tb) :=
  imE (pe_op op_rep ha hb) fun σ H Q ⟨m, M, Q', r, q, k⟩ => by
    refine ⟨m, M, _, r, q, fun d v M1 H1 g1 r1 m1 q1 => ?_⟩
    refine ⟨m, M1, _, r.grow g1 m1, q1, fun e w M2 H2 g2 r2 m2 ⟨p, xs, n, e1, e2, h1, hn, hz, q2⟩ => ?_⟩
    subst e1
    subst e2
    cases r1
    cases r2
    obtain ⟨vs, h3, z, l⟩ := m2.lst h1
    have hz' : vs.length * n.toNat ≤ sizeLine := by rw [← l.length, sizeLine_eq]; exact hz
    refine ⟨p, n, vs, rfl, rfl, h3, by omega, by omega, hz', fun q' hq => ?_⟩
    exact k _ _ _ _ ((g1.trans g2).trans (.new hq)) (.ref q') (m2.newLst hq (by rw [rep_len]; exact hz') (l.rep n.toNat)) (q2 q' (m2.free hq))

/-! ### sep.join(list or tuple of texts) -/
def dJoin (to : DTE) (t : DTA) : DTE := fun m M Q => to m M fun d M1 => ∃ a, d = .str a ∧ t m M1 fun ds M2 => ∃ y ys, ds = [y] ∧ dItems y M2 = some (ys.map D.str) ∧ (ys.map (·.length)).sum + ys.length * a.length ≤ 16777216 ∧ Q (.str (Txt.join a ys)) M2
theorem strs_rep {K : PySem.W.Frag} {H : Hp} : ∀ {ys : List Str} {vs : List V}, RepL K H (ys.map D.str) vs → vs = ys.map V.str
  | [], _, h => by
    cases h
    rfl
  | y :: ys, _, h => by
    cases h with
    | cons h1 h2 =>
      cases h1
      rw [strs_rep h2]
      rfl
theorem d_join (ho : DE X o to) (ha : DA X (e :: es) t)
    (hbase : attributeBase o "join" X.env (eval o X.env) = eval o X.env := by rfl)
    (hfew : ((backTo cpos (starEach (e :: es) X.env)).all (fun x => !x.1) && (backToKw cpos (keywordEach [] X.env)).all (fun x => x.1.isSome)
      && decide ((e :: es).length + ([] : List Keyword).length + (if ([] : List Keyword).isEmpty then 0 else 1) < 30)) = true := by rfl)
    (hline : (apos.endLine == cpos.line) = true := by rfl) (hs : starEach (e :: es) X.env = (false, eval e X.env) :: starEach es X.env := by rfl) (hplain : (backTo cpos (starEach es X.env)).any (·.1) = false := by rfl) :
    DE X (.Call (.Attribute o "join" apos) (e :: es) [] cpos) (dJoin to t) :=
  imE (pe_bm PySem.F.plainAttrs_str PySem.F.slot_str_join PySem.F.type_str_join mt_join ho ha hbase hfew hline hs hplain) fun σ H Q ⟨m, M, Q', r, q, k⟩ => by
    refine ⟨m, M, _, r, q, fun d v M1 H1 g1 r1 m1 ⟨a, e1, q1⟩ => ?_⟩
    subst e1
    cases r1
    refine ⟨rfl, m, M1, _, r.grow g1 m1, q1, fun ds vs M2 H2 g2 l2 m2 ⟨y, ys, e2, h1, hz, q2⟩ => ?_⟩
    subst e2
    obtain ⟨w, e3, rw'⟩ := repL_one l2
    subst e3
    obtain ⟨a2, ws, rfl, z, l3, h4⟩ := items_of rw' m2 h1
    rw [strs_rep l3] at h4
    exact ⟨a, a2, ys, rfl, rfl, h4.elim (fun h => .inl h.1) fun h => .inr h.1, hz, k _ _ M2 H2 (g1.trans g2) (.str _) m2 q2⟩

/-! ### lists: extend, index -/
def mExtend : DMR := fun d ds M Q => ∃ a b xs zs, d = .ref a ∧ ds = [.ref b] ∧ M a = some (.lst xs) ∧ M b = some (.lst zs) ∧ xs.length + zs.length ≤ 16777216 ∧ Q .non (mput M a (.lst (xs ++ zs)))
theorem m_extend : MtR X "list.extend" (upM X.K mExtend) := by
  intro pins s σ H x vs v us Q I rx rv ⟨d, ds, M, Q', r1, l, m, ⟨a, b, xs, zs, e1, e2, h, hb, hz, q⟩, k⟩
  subst e1
  subst e2
  cases r1
  obtain ⟨w, e, rw'⟩ := repL_one l
  subst e
  cases rw'
  obtain ⟨ws, h1, z, l1⟩ := m.lst h
  obtain ⟨us2, h2, z2, l2⟩ := m.lst hb
  have hz' : ws.length + us2.length ≤ sizeLine := by rw [← l1.length, ← l2.length, sizeLine_eq]; exact hz
  refine mt_extend pins s σ H _ _ v us Q I rx rv ⟨a, b, ws, us2, rfl, rfl, h1, h2, hz', ?_⟩
  exact k _ _ _ _ (.put h1) .non (m.putLst h1 (by rw [List.length_append]; exact hz') (l1.append l2)) q
def mIndex : DMR := fun d ds M Q => ∃ xs y j z, ds = [y] ∧ dItems d M = some xs ∧ d ≠ .tup xs ∧ (dOk 63 y = true ∧ xs.all (dOk 63) = true) ∧ xs[j]? = some z ∧ D.eqv z y = true ∧ (∀ (i : Nat) (u : D), i < j → xs[i]? = some u → D.eqv u y = false) ∧ Q (.int (j : Nat)) M
theorem m_index (hu : X.A.units + 65 < cLine) : MtR X "list.index" (upM X.K mIndex) := by
  intro pins s σ H x vs v us Q I rx rv ⟨d, ds, M, Q', r1, l, m, ⟨xs, y, j, z, e1, h, h2, ⟨h3, h4⟩, hj, hz, hno, q⟩, k⟩
  subst e1
  obtain ⟨w, e, rw'⟩ := repL_one l
  subst e
  obtain ⟨a, ws, rfl, _, l3, h5⟩ := lst_of r1 m h h2
  have hs : SeqAt.shaped (PyData.list (D.pys xs)) = true := dOk_shaped (n := 64) (d := .lst xs) h4 (Nat.le_refl _)
  refine mt_indexD hu pins s σ H _ _ v us Q I rx rv ⟨a, w, y.py, D.pys xs, j, z.py, rfl, rfl, .lst h5 (l3.dp h4), rw'.dp h3, hs, dOk_shaped h3 (by decide), ?_, hz, fun i z' hi e => ?_, k _ _ M H (.refl H) (.int _) m q⟩
  · rw [pys_map, List.getElem?_map, hj]
    rfl
  · rw [pys_map, List.getElem?_map] at e
    cases g : xs[i]? with
    | none => rw [g] at e; cases e
    | some u' =>
      rw [g] at e
      cases e
      exact hno i u' hi g

/-! ### any, all, sum, max, min of lists -/
theorem bls_rep {K : PySem.W.Frag} {H : Hp} : ∀ {ys : List Bool} {vs : List V}, RepL K H (ys.map D.bl) vs → vs = ys.map V.bl
  | [], _, h => by
    cases h
    rfl
  | y :: ys, _, h => by
    cases h with
    | cons h1 h2 =>
      cases h1
      rw [bls_rep h2]
      rfl
theorem ints_rep {K : PySem.W.Frag} {H : Hp} : ∀ {ys : List Int} {vs : List V}, RepL K H (ys.map D.int) vs → vs = ys.map V.int
  | [], _, h => by
    cases h
    rfl
  | y :: ys, _, h => by
    cases h with
    | cons h1 h2 =>
      cases h1
      rw [ints_rep h2]
      rfl
def rAnyL : DCR := fun ds M Q => ∃ (d : D) (bs : List Bool), ds = [d] ∧ dItems d M = some (bs.map D.bl) ∧ d ≠ .tup (bs.map D.bl) ∧ Q (.bl (bs.any id)) M
def rAllL : DCR := fun ds M Q => ∃ (d : D) (bs : List Bool), ds = [d] ∧ dItems d M = some (bs.map D.bl) ∧ d ≠ .tup (bs.map D.bl) ∧ Q (.bl (bs.all id)) M
def rSumL : DCR := fun ds M Q => ∃ (d : D) (ns : List Int), ds = [d] ∧ dItems d M = some (ns.map D.int) ∧ d ≠ .tup (ns.map D.int) ∧ Q (.int ns.sum) M
def rMaxL : DCR := fun ds M Q => ∃ (d : D) (ns : List Int), ds = [d] ∧ dItems d M = some (ns.map D.int) ∧ d ≠ .tup (ns.map D.int) ∧ 0 < ns.length ∧ ∀ n : Int, n ∈ ns → (∀ y, y ∈ ns → y ≤ n) → Q (.int n) M
def rMinL : DCR := fun ds M Q => ∃ (d : D) (ns : List Int), ds = [d] ∧ dItems d M = some (ns.map D.int) ∧ d ≠ .tup (ns.map D.int) ∧ 0 < ns.length ∧ ∀ n : Int, n ∈ ns → (∀ y, y ∈ ns → n ≤ y) → Q (.int n) M
theorem c_any (hc : X.calm = true) : DCall X (.builtin "any") rAnyL := by
  intro pins s σ H vs us Q I r ⟨ds, M, Q', l, m, ⟨d, bs, e, h, h2, q⟩, k⟩
  subst e
  obtain ⟨v, e, rv⟩ := repL_one l
  subst e
  obtain ⟨a, ws, rfl, _, l3, h5⟩ := lst_of rv m h h2
  rw [bls_rep l3] at h5
  exact cr_any hc pins s σ H _ us Q I r ⟨a, bs, rfl, h5, k _ _ M H (.refl H) (.bl _) m q⟩
theorem c_all (hc : X.calm = true) : DCall X (.builtin "all") rAllL := by
  intro pins s σ H vs us Q I r ⟨ds, M, Q', l, m, ⟨d, bs, e, h, h2, q⟩, k⟩
  subst e
  obtain ⟨v, e, rv⟩ := repL_one l
  subst e
  obtain ⟨a, ws, rfl, _, l3, h5⟩ := lst_of rv m h h2
  rw [bls_rep l3] at h5
  exact cr_all hc pins s σ H _ us Q I r ⟨a, bs, rfl, h5, k _ _ M H (.refl H) (.bl _) m q⟩
theorem c_sum (hc : X.calm = true) : DCall X (.builtin "sum") rSumL := by
  intro pins s σ H vs us Q I r ⟨ds, M, Q', l, m, ⟨d, bs, e, h, h2, q⟩, k⟩
  subst e
  obtain ⟨v, e, rv⟩ := repL_one l
  subst e
  obtain ⟨a, ws, rfl, _, l3, h5⟩ := lst_of rv m h h2
  rw [ints_rep l3] at h5
  exact cr_sum hc pins s σ H _ us Q I r ⟨a, bs, rfl, h5, k _ _ M H (.refl H) (.int _) m q⟩
theorem c_max (hc : X.calm = true) : DCall X (.builtin "max") rMaxL := by
  intro pins s σ H vs us Q I r ⟨ds, M, Q', l, m, ⟨d, bs, e, h, h2, h0, q⟩, k⟩
  subst e
  obtain ⟨v, e, rv⟩ := repL_one l
  subst e
  obtain ⟨a, ws, rfl, _, l3, h5⟩ := lst_of rv m h h2
  rw [ints_rep l3] at h5
  exact cr_max hc pins s σ H _ us Q I r ⟨a, bs, rfl, h5, h0, fun n h6 h7 => k _ _ M H (.refl H) (.int _) m (q n h6 h7)⟩
theorem c_min (hc : X.calm = true) : DCall X (.builtin "min") rMinL := by
  intro pins s σ H vs us Q I r ⟨ds, M, Q', l, m, ⟨d, bs, e, h, h2, h0, q⟩, k⟩
  subst e
  obtain ⟨v, e, rv⟩ := repL_one l
  subst e
  obtain ⟨a, ws, rfl, _, l3, h5⟩ := lst_of rv m h h2
  rw [ints_rep l3] at h5
  exact cr_min hc pins s σ H _ us Q I r ⟨a, bs, rfl, h5, h0, fun n h6 h7 => k _ _ M H (.refl H) (.int _) m (q n h6 h7)⟩

/-! ### list(range(..)) -/
def dLRg (te : DTE) : DTE := fun m M Q => te m M fun d M1 => ∃ j : Int, d = .int j ∧ (-1000000000 ≤ j ∧ j ≤ 16777216) ∧ ∀ p, M1 p = none → Q (.ref p) (mput M1 p (.lst (rangeD 0 j.toNat)))
theorem repL_rg {K : PySem.W.Frag} {H : Hp} (j : Int) : RepL K H (rangeD 0 j.toNat) (rgV 0 j) := by
  unfold rangeD rgV
  rw [Int.sub_zero]
  generalize List.range j.toNat = ks
  induction ks with
  | nil => exact .nil
  | cons n ks ih => exact .cons (.int _) ih
theorem d_lrg {p pos p2 pos2 : Pos} (hc : X.calm = true) (hg : Gl X "list") (hm : X.mg "list" = none) (hg2 : Gl X "range") (hm2 : X.mg "range" = none) (ha : DE X a ta) (na : starEach [a] X.env = (false, eval a X.env) :: starEach [] X.env := by rfl)
    (nb : starEach [.Call (.Name "range" p) [a] [] pos] X.env = (false, eval (.Call (.Name "range" p) [a] [] pos) X.env) :: starEach [] X.env := by rfl) : DE X (.Call (.Name "list" p2) [.Call (.Name "range" p) [a] [] pos] [] pos2) (dLRg ta) :=
  imE (pe_listRg hc hg hm (prg_1 hg2 hm2 ha na) nb) fun σ H Q ⟨m, M, Q', r, q, k⟩ => by
    refine ⟨m, M, _, r, q, fun d v M1 H1 g1 r1 m1 ⟨j, e1, ⟨h1, h2⟩, q1⟩ => ?_⟩
    subst e1
    cases r1
    have hsl := sizeLine_eq
    refine ⟨j, rfl, ⟨by omega, by omega, by omega, by omega, by omega⟩, fun p hp => ?_⟩
    exact k _ _ _ _ (g1.trans (.new hp)) (.ref p) (m1.newLst hp (by rw [rgV_length]; omega) (repL_rg j)) (q1 p (m1.free hp))

/-! ### enumerate(a list that stays) -/
def enumD : Nat → List D → List D
  | _, [] => []
  | n, x :: r => .tup [.int n, x] :: enumD (n + 1) r
theorem enumD_len : ∀ (n : Nat) (xs : List D), (enumD n xs).length = xs.length
  | _, [] => rfl
  | n, _ :: r => congrArg (· + 1) (enumD_len (n + 1) r)
theorem enumD_get : ∀ (n : Nat) (xs : List D) (i : Nat), (enumD n xs)[i]? = xs[i]?.map fun x => .tup [.int ((n + i : Nat) : Int), x]
  | _, [], _ => by simp [enumD]
  | n, x :: r, 0 => by simp [enumD]
  | n, x :: r, i + 1 => by
    rw [enumD, List.getElem?_cons_succ, List.getElem?_cons_succ, enumD_get (n + 1) r i, Nat.add_assoc, Nat.add_comm 1 i]
def diEnum (t : DTA) : DTI := fun m M Q => t m M fun ds M1 => ∃ xs, ds = [.lst xs] ∧ Q (enumD 0 xs, none) M1
theorem di_enum {elts : List Expr} {kk : Nat} {tpos : Pos} (hg : Gl X "enumerate") (hm : X.mg "enumerate" = none) (ha : DA X [e] t) (hs : starEach [e] X.env = [(false, eval e X.env)] := by rfl) :
    DI X (.Tuple elts kk tpos) (.Call (.Name "enumerate" p) [e] [] pos) (diEnum t) :=
  imI (pi_enum hg hm ha hs) fun σ H Q ⟨m, M, Q', r, q, k⟩ => by
    refine ⟨m, M, _, r, q, fun ds vs M1 H1 g1 r1 m1 ⟨xs, e1, q1⟩ => ?_⟩
    subst e1
    obtain ⟨v, e2, rv⟩ := repL_one r1
    subst e2
    cases rv with
    | lst hf z l =>
      refine ⟨_, _, rfl, hf.seq, k _ M1 H1 _ g1 m1 q1 ⟨?_, fun i H2 ok hi => ?_, fun i H2 x H3 ok hi y => ?_, fun H2 ok => ?_⟩⟩
      · show (enumD 0 xs).length ≤ sizeLine
        rw [enumD_len, l.length]
        exact z
      · have hi' : i < xs.length := by rw [← enumD_len 0 xs]; exact hi
        obtain ⟨w, e3, _⟩ := l.get (List.getElem?_eq_getElem hi')
        exact ⟨_, w, (hf.grow ok.1).seq, e3⟩
      · obtain ⟨T, x', e3, hT, e4, hx⟩ := y
        subst e3
        subst e4
        obtain ⟨d, e5, rd⟩ := l.get' (hx _ (hf.grow ok.1).seq)
        refine ⟨.new hT, fun M2 rm => rm.new hT, .tup [.int ((0 + i : Nat) : Int), d], ?_, ?_⟩
        · show (enumD 0 xs)[i]? = _
          rw [enumD_get, e5]
          rfl
        · rw [Nat.zero_add]
          exact .tup (.of upd_same) (by show 2 ≤ sizeLine; decide) (.cons (.int _) (.cons (rd.grow (ok.1.trans (.new hT))) .nil))
      · refine ⟨_, (hf.grow ok.1).seq, ?_⟩
        show _ ≤ (enumD 0 xs).length
        rw [enumD_len, l.length]
        exact Nat.le_refl _
end
end DL
namespace DL
open PySem PySem.Spec PyProof.Rows L2
open PySem.W (EachIs AllAlike Sortable dataLe sorted_data alike alikeAll)

/-! ### a module's tuple -/
/-- what the module's name x holds: a tuple that K knows -/
def GlT (K : PySem.W.Frag) (mg : Str → Option Value) (x : Str) (d : D) : Prop := ∃ a, mg x = some (.ref a) ∧ ∀ H, Rep K H d (.ref a)
theorem d_glT {X : Cx} {x : Str} {d : D} {pos : Pos} (hg : Gl X x) (h : GlT X.K X.mg x d) (hd : (x == ("__debug__" : Str)) = false := by decide) : DE X (.Name x pos) (dC d) := by
  obtain ⟨a, h1, h2⟩ := h
  exact imE (pe_glob (v := .ref a) hg h1 rfl hd) fun σ H Q ⟨m, M, Q', r, q, k⟩ => k d _ M H (.refl H) (h2 H) r.mem q
theorem glT_strs {K : PySem.W.Frag} {mg : Str → Option Value} {x : Str} {a : Addr} {od : Option Addr} {its : Array Value} {n : Nat} {sl : Array (Option Value)} {ys : List Str} (h1 : mg x = some (.ref a)) (h2 : K.lookup a = some ⟨.type "tuple", od, .seq its n, sl⟩)
    (h3 : its.size ≤ sizeLine) (h4 : Vals (ys.map V.str) its.toList) : GlT K mg x (.tup (ys.map D.str)) := by
  refine ⟨a, h1, fun H => .tup (.inr ⟨_, its, n, h2, rfl, rfl, h3, h4⟩) ?_ ?_⟩
  · have := h4.length
    rw [this, Array.length_toList]
    exact h3
  · clear h4
    induction ys with
    | nil => exact .nil
    | cons y ys ih => exact .cons (.str y) ih

/-! ### sorted(a list of data) -/
section
variable {X : Cx}
def srtD (xs : List D) : List D := xs.mergeSort (dataLe false D.py)
theorem srtD_perm (xs : List D) : (srtD xs).Perm xs := List.mergeSort_perm _ _
def rSortD : DCR := fun ds M Q => ∃ d xs, ds = [d] ∧ dItems d M = some xs ∧ d ≠ .tup xs ∧ xs.all (dOk 32) = true ∧ AllAlike (xs.map D.py) ∧ Sortable (xs.map D.py) ∧ ∀ p, M p = none → Q (.ref p) (mput M p (.lst (srtD xs)))
theorem reads_each {pins : List (Addr × Obj)} {σ : SL} {H : Hp} {s : Shared} (I : Inv X pins σ H s) : ∀ {xs : List D} {vs : List V} {its : List Value}, RepL X.K H xs vs → Vals vs its → xs.all (dOk 32) = true →
    EachIs (fun v b => ∃ as, Reads s.heap v (D.py b) as) its xs
  | _, _, _, .nil, .nil, _ => .nil
  | _, _, _, .cons h1 h2, .cons r1 r2, h => by
    rw [List.all_cons, Bool.and_eq_true] at h
    exact .cons (Dp.reads I _ _ _ (h1.dp h.1) r1) (reads_each I h2 r2 h.2)
theorem rel_each {K : PySem.W.Frag} {H : Hp} : ∀ {xs : List D} {vs : List V} {its : List Value}, RepL K H xs vs → Vals vs its → EachIs (fun v b => ∃ y, RelV y v ∧ Rep K H b y) its xs
  | _, _, _, .nil, .nil => .nil
  | _, _, _, .cons h1 h2, .cons r1 r2 => .cons ⟨_, r1, h1⟩ (rel_each h2 r2)
theorem each_rel {K : PySem.W.Frag} {H : Hp} : ∀ {xs : List D} {its : List Value}, EachIs (fun v b => ∃ y, RelV y v ∧ Rep K H b y) its xs → ∃ vs, Vals vs its ∧ RepL K H xs vs
  | _, _, .nil => ⟨[], .nil, .nil⟩
  | _, _, .cons ⟨y, h1, h2⟩ t => by
    obtain ⟨vs, h3, h4⟩ := each_rel t
    exact ⟨y :: vs, .cons h1 h3, .cons h2 h4⟩
theorem c_sortD (hu : X.A.units + 40 < cLine) : DCall X (.builtin "sorted") rSortD := by
  intro pins s σ H vs us Q I r ⟨ds, M, Q', l, m, ⟨d, xs, e, h, h2, h3, h4, h5, q⟩, k⟩
  subst e
  obtain ⟨v, e, rv⟩ := repL_one l
  subst e
  obtain ⟨a, ws, rfl, z, l3, h6⟩ := lst_of rv m h h2
  obtain ⟨its, r2, pl, _⟩ := I.list h6
  rw [Vals.ref1 r]
  have hz : xs.length ≤ sizeLine := by rw [l3.length]; exact z
  refine sorted_data (vs := its) (bs := xs) (enc := D.py) pl.isList (rel_each l3 r2) (reads_each I l3 r2 h3) h4 h5 hz (fun b hb => ?_) fun out ho hr => ?_
  · have := (dOk_lay 32 b (List.all_eq_true.mp h3 b hb)).2
    omega
  · obtain ⟨vs', h7, h8⟩ := each_rel hr
    obtain ⟨ep, he'⟩ := PyProof.Rows.sortedAll_at s.heap its out.toArray
    have hlen : vs'.length ≤ sizeLine := by rw [← h8.length, List.length_mergeSort]; exact hz
    have hp := I.hok.fresh (Nat.le_succ s.heap.objs.size)
    refine ⟨.ref _, upd H (s.heap.objs.size + 1) (.lst vs'), I.laid (t' := s.toks) (fun _ _ => PyProof.Rows.sortedAll_old) (Nat.le_succ _) ⟨hlen, out, ep, h7, he'⟩, rfl, ?_⟩
    exact k _ _ _ _ (.new hp) (.ref _) (m.newLst hp hlen h8) (q _ (m.free hp))
end

/-! ### comprehensions with two clauses -/
def dLcIn (src : Src) (g : DTG) (tt : DTT) (te : DTE) (m0 : DSt) (p : Addr) (Nx : List D → DM → Prop) : List D → List D → DM → Prop
  | [], acc, M => SrcV src M ∧ M p = some (.lst acc) ∧ Nx acc M
  | d :: ds, acc, M => SrcV src M ∧ g d m0 M fun m1 M1 => tt m1 M1 fun b M2 =>
      if b = true then te m1 M2 fun y M3 => M3 p = some (.lst acc) ∧ acc.length < 16777216 ∧ dLcIn src g tt te m0 p Nx ds (acc ++ [y]) (mput M3 p (.lst (acc ++ [y])))
      else dLcIn src g tt te m0 p Nx ds acc M2
def dLcOut (src : Src) (g : DTG) (tt : DTT) (t1 : DTI) (g1 : DTG) (tt1 : DTT) (te : DTE) (ws1 : List Nat) (m0 : DSt) (p : Addr) (Qd : List D → DM → Prop) : List D → List D → DM → Prop
  | [], acc, M => SrcV src M ∧ M p = some (.lst acc) ∧ Qd acc M
  | d :: ds, acc, M => SrcV src M ∧ g d m0 M fun m1 M1 => tt m1 M1 fun b M2 =>
      if b = true then t1 m1 M2 fun src1 M3 => src1.1.length ≤ sizeLine → dLcIn src1 g1 tt1 te (dwipe m1 ws1) p (fun acc' M' => dLcOut src g tt t1 g1 tt1 te ws1 m0 p Qd ds acc' M') src1.1 acc M3
      else dLcOut src g tt t1 g1 tt1 te ws1 m0 p Qd ds acc M2
def dLc2 (t : DTI) (g : DTG) (tt : DTT) (t1 : DTI) (g1 : DTG) (tt1 : DTT) (te : DTE) (vs ws1 : List Nat) : DTE := fun m M Q => t m M fun src M1 => src.1.length ≤ sizeLine → ∀ p, M1 p = none → dLcOut src g tt t1 g1 tt1 te ws1 (dwipe m vs) p (fun _ M2 => Q (.ref p) M2) src.1 [] (mput M1 p (.lst []))
def dLc2F (t : DTI) (g : DTG) (tt : DTT) (t1 : DTI) (g1 : DTG) (tt1 : DTT) (te : DTE) (vs ws1 : List Nat) : DTE := fun m M Q => t m M fun src M1 => src.1.length ≤ sizeLine → ∀ p, M1 p = none → dLcOut src g tt t1 g1 tt1 te ws1 (dwipe m vs) p (fun acc M2 => Q (.lst acc) (mdel M2 p)) src.1 [] (mput M1 p (.lst []))
section
variable {X : Cx} {elt tg iter tg1 iter1 : Expr} {ifs ifs1 : List Expr} {scope : Scope} {own : List (Str × Nat)} {pos : Pos} {t t1 : DTI} {g g1 : DTG} {tt tt1 : DTT} {te : DTE} {ws ws1 : List Nat}
theorem lc2_up {K : PySem.W.Frag} {vs : List Nat} (hsub : ∀ i ∈ ws, i ∈ vs) {σ : SL} {H : Hp} {Q : VK} {Qf : Addr → List D → DM → Prop}
    (fin : ∀ p acc ws M2 H2, Grow H H2 → RM K H2 M2 → H2 p = some (.lst ws) → ws.length ≤ sizeLine → RepL K H2 acc ws → M2 p = some (.lst acc) → Qf p acc M2 → Q (.ref p) H2)
    (m : DSt) (M : DM) (r : R K m M σ H) (q : t m M fun src M1 => src.1.length ≤ sizeLine → ∀ p, M1 p = none → dLcOut src g tt t1 g1 tt1 te ws1 (dwipe m vs) p (Qf p) src.1 [] (mput M1 p (.lst []))) :
    tLc2 (upI K t) (upG K ws g) (upT K tt) (upI K t1) (upG K ws1 g1) (upT K tt1) (upE K te) vs ws1 σ H Q := by
  refine ⟨m, M, _, r, q, fun src M1 H1 J g0 m1 q1 st p np => ?_⟩
  have q2 := q1 st.small p (m1.free np)
  have g2 : Grow H1 (upd H1 p (.lst [])) := .new np
  refine ⟨fun i n H2 => i + n = src.1.length ∧ Grow H1 H2 ∧ ∃ acc M2, RM K H2 M2 ∧ dLcOut src g tt t1 g1 tt1 te ws1 (dwipe m vs) p (Qf p) (src.1.drop i) acc M2,
    ⟨src.1.length, by omega, g2, [], _, m1.newLst np (Nat.zero_le _) .nil, q2⟩, ?_⟩
  rintro i n H2 ⟨hl, g3, acc, M2, m2, q3⟩
  have r2 : R K (dwipe m vs) M2 (wipe σ vs) H2 := (r.wipe vs).grow (g0.trans g3) m2
  by_cases hlt : i < src.1.length
  · rw [List.drop_eq_getElem_cons hlt] at q3
    obtain ⟨sv, q3⟩ := q3
    have so := sv.ok g3 m2
    refine .inr ⟨st.go i H2 so hlt, fun H3 => Grow H1 H3 ∧ ∃ acc M2, RM K H3 M2 ∧ dLcOut src g tt t1 g1 tt1 te ws1 (dwipe m vs) p (Qf p) (src.1.drop (i + 1)) acc M2,
      fun H3 ⟨g4, z⟩ => ⟨n - 1, by omega, by omega, g4, z⟩, fun x H3 y => ?_⟩
    obtain ⟨g4, k4, d, e4, rd⟩ := st.yld i H2 x H3 so hlt y
    have ed : d = src.1[i] := by
      rw [List.getElem?_eq_getElem hlt] at e4
      exact (Option.some.inj e4).symm
    subst ed
    refine ⟨_, _, M2, _, rd, r2.grow g4 (k4 _ m2), q3, fun m5 M5 σ5 H5 g5 r5 o5 q5 => ⟨wipe_off o5 hsub, ?_⟩⟩
    refine ⟨m5, M5, _, r5, q5, fun b M6 H6 g6 m6 q6 => ?_⟩
    have g06 : Grow H1 H6 := ((g3.trans g4).trans g5).trans g6
    have r6 := r5.grow g6 m6
    cases b with
    | true =>
      refine ⟨m5, M6, _, r6, q6, fun src1 M7 H7 J1 g7 m7 q7 st1 => ?_⟩
      have q8 := q7 st1.small
      refine ⟨fun j n H8 => j + n = src1.1.length ∧ Grow H7 H8 ∧ ∃ acc M8, RM K H8 M8 ∧ dLcIn src1 g1 tt1 te (dwipe m5 ws1) p (fun acc' M' => dLcOut src g tt t1 g1 tt1 te ws1 (dwipe m vs) p (Qf p) (src.1.drop (i + 1)) acc' M') (src1.1.drop j) acc M8,
        ⟨src1.1.length, by omega, .refl _, acc, M7, m7, q8⟩, ?_⟩
      rintro j n1 H8 ⟨hl1, g8, acc8, M8, m8, q9⟩
      have r8 : R K (dwipe m5 ws1) M8 (wipe σ5 ws1) H8 := (r6.wipe ws1).grow (g7.trans g8) m8
      by_cases hlt1 : j < src1.1.length
      · rw [List.drop_eq_getElem_cons hlt1] at q9
        obtain ⟨sv1, q9⟩ := q9
        have so1 := sv1.ok g8 m8
        refine .inr ⟨st1.go j H8 so1 hlt1, fun H9 => Grow H7 H9 ∧ ∃ acc M8, RM K H9 M8 ∧ dLcIn src1 g1 tt1 te (dwipe m5 ws1) p (fun acc' M' => dLcOut src g tt t1 g1 tt1 te ws1 (dwipe m vs) p (Qf p) (src.1.drop (i + 1)) acc' M') (src1.1.drop (j + 1)) acc M8,
          fun H9 ⟨g9, z⟩ => ⟨n1 - 1, by omega, by omega, g9, z⟩, fun x1 H9 y1 => ?_⟩
        obtain ⟨g9, k9, d1, e9, rd1⟩ := st1.yld j H8 x1 H9 so1 hlt1 y1
        have ed1 : d1 = src1.1[j] := by
          rw [List.getElem?_eq_getElem hlt1] at e9
          exact (Option.some.inj e9).symm
        subst ed1
        refine ⟨_, _, M8, _, rd1, r8.grow g9 (k9 _ m8), q9, fun mA MA σA HA gA rA oA qA => ⟨wipe_off oA (fun i h => h), ?_⟩⟩
        refine ⟨mA, MA, _, rA, qA, fun b1 MB HB gB mB qB => ?_⟩
        have g0B : Grow H7 HB := ((g8.trans g9).trans gA).trans gB
        cases b1 with
        | true =>
          refine ⟨mA, MB, _, rA.grow gB mB, qB, fun y v MC HC gC rv mC ⟨eC, hC, qC⟩ => ?_⟩
          obtain ⟨us, h8, z8, l8⟩ := mC.lst eC
          have hsz : us.length < sizeLine := by rw [← l8.length, sizeLine_eq]; exact hC
          exact ⟨us, h8, hsz, (g0B.trans gC).trans (.put h8), _, _, mC.putLst h8 (by rw [List.length_append]; exact hsz) (l8.append (.one rv)), qC⟩
        | false => exact ⟨g0B, acc8, MB, mB, qB⟩
      · have e : j = src1.1.length := by omega
        subst e
        rw [List.drop_length] at q9
        exact .inl ⟨st1.stop H8 (q9.1.ok g8 m8), (g06.trans g7).trans g8, acc8, M8, m8, q9.2.2⟩
    | false => exact ⟨g06, acc, M6, m6, q6⟩
  · have e : i = src.1.length := by omega
    subst e
    rw [List.drop_length] at q3
    obtain ⟨us, h8, z8, l8⟩ := m2.lst q3.2.1
    exact .inl ⟨st.stop H2 (q3.1.ok g3 m2), fin p acc us M2 H2 (g0.trans g3) m2 h8 z8 l8 q3.2.1 q3.2.2⟩
theorem d_lc2F (hc : X.calm = true) (hN : X.N.Nodup) (hi : DI X tg iter t) (ok : BlkOk X.N X.env.scope scope own) (hsub : ∀ i ∈ ws, i ∈ own.map (·.2)) (hsub1 : ∀ i ∈ ws1, i ∈ own.map (·.2))
    (hg : ∀ (s : Shared) (H : Hp) (C : Addr) (cl : List (Str × Addr)) (fp : List Addr), DG (X.blk s H scope (compEnvC scope cl C X.env) fp) ws tg g)
    (ht : ∀ (s : Shared) (H : Hp) (C : Addr) (cl : List (Str × Addr)) (fp : List Addr), DPTs (X.blk s H scope (compEnvC scope cl C X.env) fp) ifs tt)
    (hi1 : ∀ (s : Shared) (H : Hp) (C : Addr) (cl : List (Str × Addr)) (fp : List Addr), DI (X.blk s H scope (compEnvC scope cl C X.env) fp) tg1 iter1 t1)
    (hg1 : ∀ (s : Shared) (H : Hp) (C : Addr) (cl : List (Str × Addr)) (fp : List Addr), DG (X.blk s H scope (compEnvC scope cl C X.env) fp) ws1 tg1 g1)
    (ht1 : ∀ (s : Shared) (H : Hp) (C : Addr) (cl : List (Str × Addr)) (fp : List Addr), DPTs (X.blk s H scope (compEnvC scope cl C X.env) fp) ifs1 tt1)
    (he : ∀ (s : Shared) (H : Hp) (C : Addr) (cl : List (Str × Addr)) (fp : List Addr), DE (X.blk s H scope (compEnvC scope cl C X.env) fp) elt te)
    (hs : ∀ x, foldedSetIterable iter X.env x = pure x := by intro _; rfl) (hs1 : ∀ env x, foldedSetIterable iter1 env x = pure x := by intro _ _; rfl) :
    DE X (.ListComp elt [⟨tg, iter, ifs, 0⟩, ⟨tg1, iter1, ifs1, 0⟩] scope pos) (dLc2F t g tt t1 g1 tt1 te (own.map (·.2)) ws1) :=
  imE (pe_fz (pe_lc2 hc hN hi ok hsub1 hg ht hi1 hg1 ht1 he hs hs1)) fun σ H Q ⟨m, M, Q', r, q, k⟩ =>
    lc2_up (Qf := fun p acc M2 => Q' (.lst acc) (mdel M2 p)) hsub (fun p acc ws M2 H2 g2 m2 h8 z8 l8 _ q2 =>
      ⟨p, ws, rfl, h8, fun o => k _ _ _ _ (g2.trans (.put h8)) (.lst (.inl ⟨o, upd_same⟩) z8 (l8.grow (.put h8))) (m2.frz h8) q2⟩) m M r q
/-- name = [.. for .. for ..]: the list is frozen behind it -/
theorem ds_setLc2F {y : Str} {py spos : Pos} {i : Nat} (hc : X.calm = true) (hN : X.N.Nodup) (hy : X.N[i]? = some y) (hyl : X.env.scope.names.lookup y = some .local)
    (hsw : swapsWith (.ListComp elt [⟨tg, iter, ifs, 0⟩, ⟨tg1, iter1, ifs1, 0⟩] scope pos) (some (.Name y py)) spos.line X.env = pure true) (hi : DI X tg iter t) (ok : BlkOk X.N X.env.scope scope own) (hsub : ∀ i ∈ ws, i ∈ own.map (·.2)) (hsub1 : ∀ i ∈ ws1, i ∈ own.map (·.2))
    (hg : ∀ (s : Shared) (H : Hp) (C : Addr) (cl : List (Str × Addr)) (fp : List Addr), DG (X.blk s H scope (compEnvC scope cl C X.env) fp) ws tg g)
    (ht : ∀ (s : Shared) (H : Hp) (C : Addr) (cl : List (Str × Addr)) (fp : List Addr), DPTs (X.blk s H scope (compEnvC scope cl C X.env) fp) ifs tt)
    (hi1 : ∀ (s : Shared) (H : Hp) (C : Addr) (cl : List (Str × Addr)) (fp : List Addr), DI (X.blk s H scope (compEnvC scope cl C X.env) fp) tg1 iter1 t1)
    (hg1 : ∀ (s : Shared) (H : Hp) (C : Addr) (cl : List (Str × Addr)) (fp : List Addr), DG (X.blk s H scope (compEnvC scope cl C X.env) fp) ws1 tg1 g1)
    (ht1 : ∀ (s : Shared) (H : Hp) (C : Addr) (cl : List (Str × Addr)) (fp : List Addr), DPTs (X.blk s H scope (compEnvC scope cl C X.env) fp) ifs1 tt1)
    (he : ∀ (s : Shared) (H : Hp) (C : Addr) (cl : List (Str × Addr)) (fp : List Addr), DE (X.blk s H scope (compEnvC scope cl C X.env) fp) elt te)
    (hs : ∀ x, foldedSetIterable iter X.env x = pure x := by intro _; rfl) (hs1 : ∀ env x, foldedSetIterable iter1 env x = pure x := by intro _ _; rfl) (hil : i < X.N.length := by exact Nat.le_of_ble_eq_true rfl) :
    DS X (.Assign [.Name y py] (.ListComp elt [⟨tg, iter, ifs, 0⟩, ⟨tg1, iter1, ifs1, 0⟩] scope pos) spos) (dSet i (dLc2F t g tt t1 g1 tt1 te (own.map (·.2)) ws1)) := by
  refine ⟨fun pins s σ H Z I h => (ps_after i (ps_setLc2 (wi := upI X.K t) (g := upG X.K ws g) (tt := upT X.K tt) (wi1 := upI X.K t1) (g1 := upG X.K ws1 g1) (tt1 := upT X.K tt1) (te := upE X.K te) hc hN hy hyl hsw hi ok hsub1 hg ht hi1 hg1 ht1 he hs hs1)).run pins s σ H Z I ?_⟩
  obtain ⟨m, M, Z', r, q, k⟩ := h
  have hσ : i < σ.length := by rw [I.len]; exact hil
  refine lc2_up (Qf := fun p acc M2 => Z'.nx (m.set i (some (.lst acc))) (mdel M2 p)) hsub (fun p acc ws M2 H2 g2 m2 h8 z8 l8 _ q2 => ?_) m M r q
  refine ⟨p, ws, List.getElem?_set_self hσ, h8, fun o => k.nx _ _ _ _ (g2.trans (.put h8)) ?_ q2⟩
  exact (r.grow (g2.trans (.put h8)) (m2.frz h8)).set (.lst (.inl ⟨o, upd_same⟩) z8 (l8.grow (.put h8)))
end
end DL
namespace DL
open PySem PySem.Spec PyProof.Rows L2
/-! ### readings, by what comes -/
theorem dAdd_ii {i j : Int} {M : DM} {Q : DVK} : dAdd (.int i) (.int j) M Q = Q (.int (i + j)) M := rfl
theorem dAdd_ss {i j : Str} {M : DM} {Q : DVK} : dAdd (.str i) (.str j) M Q = (i.length + j.length ≤ 16777216 ∧ Q (.str (i ++ j)) M) := rfl
theorem dAdd_tt {i j : List D} {M : DM} {Q : DVK} : dAdd (.tup i) (.tup j) M Q = (i.length + j.length ≤ 16777216 ∧ Q (.tup (i ++ j)) M) := rfl
theorem dMulA_ii {i j : Int} {M : DM} {Q : DVK} : dMulA (.int i) (.int j) M Q = (CMulA i j ∧ Q (.int (i * j)) M) := rfl
theorem dMulA_si {z : Str} {k : Int} {M : DM} {Q : DVK} : dMulA (.str z) (.int k) M Q = ((0 ≤ k ∧ k ≤ 1000000) ∧ z.length * k.toNat ≤ 16777216 ∧ Q (.str (srep z k.toNat)) M) := rfl
theorem dIxS_str {z : Str} {y : D} {M : DM} {Q : DVK} : dIxS (.str z) y M Q = ∃ i c, y = .int i ∧ z.length ≤ 16777216 ∧ sgn z i = some c ∧ Q (.str c) M := rfl
theorem dIxS_tup {z : List D} {y : D} {M : DM} {Q : DVK} : dIxS (.tup z) y M Q = dIx (.tup z) y M Q := rfl
theorem dIxS_lst {z : List D} {y : D} {M : DM} {Q : DVK} : dIxS (.lst z) y M Q = dIx (.lst z) y M Q := rfl
theorem dIxS_ref {z : Addr} {y : D} {M : DM} {Q : DVK} : dIxS (.ref z) y M Q = dIx (.ref z) y M Q := rfl
theorem hu_40 {k : Nat} {A : Around} (hr : Room k A) : A.units + 40 < cLine := by
  have := hr.units
  omega
end DL
namespace DL
open PySem PySem.Spec PyProof.Rows L2

/-! ### plain data: == is identity -/
mutual
def pln : D → Bool
  | .non => true
  | .int _ => true
  | .str _ => true
  | .tup xs => plns xs
  | .lst xs => plns xs
  | .bl _ => false
  | .dct _ => false
  | .ref _ => false
  | .ty _ => false
def plns : List D → Bool
  | [] => true
  | x :: xs => pln x && plns xs
end
theorem plns_iff : ∀ {xs : List D}, plns xs = true ↔ ∀ x ∈ xs, pln x = true
  | [] => by simp [plns]
  | x :: xs => by simp [plns, plns_iff (xs := xs)]
mutual
theorem eqv_pl : ∀ (x y : D), pln x = true → pln y = true → (D.eqv x y = true ↔ x = y)
  | .non, y, _, hy => by cases y <;> simp_all [D.eqv, D.py, PyData.eqv, pln]
  | .int i, y, _, hy => by cases y <;> simp_all [D.eqv, D.py, PyData.eqv, pln]
  | .str i, y, _, hy => by cases y <;> simp_all [D.eqv, D.py, PyData.eqv, pln]
  | .tup xs, .tup ys, hx, hy => by
    have h := eqvs_pl xs ys (by simpa [pln] using hx) (by simpa [pln] using hy)
    simpa [D.eqv, D.py, PyData.eqv] using h
  | .lst xs, .lst ys, hx, hy => by
    have h := eqvs_pl xs ys (by simpa [pln] using hx) (by simpa [pln] using hy)
    simpa [D.eqv, D.py, PyData.eqv] using h
  | .tup xs, .non, _, hy => by simp_all [D.eqv, D.py, PyData.eqv, pln]
  | .tup xs, .bl _, _, hy => by simp_all [D.eqv, D.py, PyData.eqv, pln]
  | .tup xs, .int _, _, hy => by simp_all [D.eqv, D.py, PyData.eqv, pln]
  | .tup xs, .str _, _, hy => by simp_all [D.eqv, D.py, PyData.eqv, pln]
  | .tup xs, .lst _, _, hy => by simp_all [D.eqv, D.py, PyData.eqv, pln]
  | .tup xs, .dct _, _, hy => by simp_all [pln]
  | .tup xs, .ref _, _, hy => by simp_all [pln]
  | .tup xs, .ty _, _, hy => by simp_all [pln]
  | .lst xs, .non, _, hy => by simp_all [D.eqv, D.py, PyData.eqv, pln]
  | .lst xs, .bl _, _, hy => by simp_all [D.eqv, D.py, PyData.eqv, pln]
  | .lst xs, .int _, _, hy => by simp_all [D.eqv, D.py, PyData.eqv, pln]
  | .lst xs, .str _, _, hy => by simp_all [D.eqv, D.py, PyData.eqv, pln]
  | .lst xs, .tup _, _, hy => by simp_all [D.eqv, D.py, PyData.eqv, pln]
  | .lst xs, .dct _, _, hy => by simp_all [pln]
  | .lst xs, .ref _, _, hy => by simp_all [pln]
  | .lst xs, .ty _, _, hy => by simp_all [pln]
  | .bl _, _, hx, _ => by simp [pln] at hx
  | .dct _, _, hx, _ => by simp [pln] at hx
  | .ref _, _, hx, _ => by simp [pln] at hx
  | .ty _, _, hx, _ => by simp [pln] at hx
theorem eqvs_pl : ∀ (xs ys : List D), plns xs = true → plns ys = true → (PyData.eqvAll (D.pys xs) (D.pys ys) = true ↔ xs = ys)
  | [], [], _, _ => by simp [D.pys, PyData.eqvAll]
  | [], y :: ys, _, _ => by simp [D.pys, PyData.eqvAll]
  | x :: xs, [], _, _ => by simp [D.pys, PyData.eqvAll]
  | x :: xs, y :: ys, hx, hy => by
    rw [plns, Bool.and_eq_true] at hx hy
    have h1 := eqv_pl x y hx.1 hy.1
    have h2 := eqvs_pl xs ys hx.2 hy.2
    rw [D.eqv] at h1
    simp [D.pys, PyData.eqvAll, h1, h2]
end
theorem eqv_ne {x y : D} (hx : pln x = true) (hy : pln y = true) (h : x ≠ y) : D.eqv x y = false := by
  cases e : D.eqv x y with
  | false => rfl
  | true => exact absurd ((eqv_pl x y hx hy).mp e) h
theorem any_eqv {x : D} {ys : List D} (hx : pln x = true) (hy : plns ys = true) : (ys.any fun z => D.eqv z x) = true ↔ x ∈ ys := by
  rw [List.any_eq_true]
  refine ⟨fun ⟨z, hz, e⟩ => ?_, fun h => ⟨x, h, (eqv_pl x x hx hx).mpr rfl⟩⟩
  have := (eqv_pl z x (plns_iff.mp hy z hz) hx).mp e
  exact this ▸ hz
/-- x in words -/
theorem any_strs (x : Str) (ys : List Str) : ((ys.map D.str).any fun z => D.eqv z (.str x)) = decide (x ∈ ys) := by
  induction ys with
  | nil => rfl
  | cons y ys ih =>
    rw [List.map_cons, List.any_cons, ih, eqv_str]
    by_cases h : y = x
    · simp [h]
    · simp [h, Ne.symm h]

/-! ### heaps -/
theorem MLe.none {M N : DM} {a : Addr} (l : MLe M N) (h : N a = none) : M a = none := by
  cases e : M a with
  | none => rfl
  | some o => rw [l a o e] at h; cases h
theorem MLe.del {M N : DM} {a : Addr} (l : MLe M N) (h : M a = Option.none) : MLe M (mdel N a) := fun b o e => by
  have hb : b ≠ a := fun z => by rw [z, h] at e; cases e
  unfold mdel
  rw [if_neg hb]
  exact l b o e
theorem mput_swap {M : DM} {p q : Addr} {o o' l : DO} (h : p ≠ q) : mput (mput (mput M p o) q l) p o' = mput (mput M p o') q l := by
  rw [mput_comm h, mput_mput, mput_comm h.symm]
theorem mput_fresh {M : DM} {p q : Addr} {o : DO} (h : p ≠ q) (hp : M q = none) : mput M p o q = none := by
  rw [mput_ne h.symm]
  exact hp

/-! ### comprehensions with two clauses -/
section
variable {src : Src} {g g1 : DTG} {tt tt1 : DTT} {t1 : DTI} {te : DTE} {ws1 : List Nat} {m0 : DSt} {p : Addr} {M1 : DM}
theorem lcIn_map {β : Type} (e : β → D) (f : β → D) {Nx : List D → DM → Prop} (sv : SrcV src M1) (hp : M1 p = none) : ∀ (xs : List β) (step : ∀ x ∈ xs, ∀ M, MLe M1 M → ∀ C1 : D → DM → Prop, C1 (f x) M → g (e x) m0 M fun m1 M1 => te m1 M1 C1)
    (acc : List D), acc.length + xs.length ≤ 16777216 → Nx (acc ++ xs.map f) (mput M1 p (.lst (acc ++ xs.map f))) → dLcIn src g dYes te m0 p Nx (xs.map e) acc (mput M1 p (.lst acc))
  | [], _, acc, _, h => ⟨fun a e => MLe.put (.refl M1) hp a _ (sv a e), mput_same, by simpa using h⟩
  | x :: xs, step, acc, hl, h => by
    rw [List.length_cons] at hl
    refine ⟨fun a e => MLe.put (.refl M1) hp a _ (sv a e), step x (by simp) _ (MLe.put (.refl M1) hp) _ ⟨mput_same, by omega, ?_⟩⟩
    rw [mput_mput]
    refine lcIn_map e f sv hp xs (fun d' h' => step d' (by simp [h'])) _ (by rw [List.length_append, List.length_singleton]; omega) ?_
    simpa using h
theorem lcOut_map {α : Type} (e : α → D) (F : α → List D) {Qd : List D → DM → Prop} (sv : SrcV src M1) (hp : M1 p = none) : ∀ (xs : List α)
    (step : ∀ x ∈ xs, ∀ (acc : List D) (Cn : List D → DM → Prop), acc.length + (F x).length ≤ 16777216 → Cn (acc ++ F x) (mput M1 p (.lst (acc ++ F x))) → g (e x) m0 (mput M1 p (.lst acc)) fun m1 M2 => tt m1 M2 fun b M3 =>
      if b = true then t1 m1 M3 fun src1 M4 => src1.1.length ≤ sizeLine → dLcIn src1 g1 tt1 te (dwipe m1 ws1) p Cn src1.1 acc M4 else Cn acc M3)
    (acc : List D), acc.length + (xs.flatMap F).length ≤ 16777216 → Qd (acc ++ xs.flatMap F) (mput M1 p (.lst (acc ++ xs.flatMap F))) → dLcOut src g tt t1 g1 tt1 te ws1 m0 p Qd (xs.map e) acc (mput M1 p (.lst acc))
  | [], _, acc, _, h => ⟨fun a e => MLe.put (.refl M1) hp a _ (sv a e), mput_same, by simpa using h⟩
  | x :: xs, step, acc, hl, h => by
    rw [List.flatMap_cons, List.length_append] at hl
    refine ⟨fun a e => MLe.put (.refl M1) hp a _ (sv a e), step x (by simp) acc _ (by omega) ?_⟩
    refine lcOut_map e F sv hp xs (fun d' h' => step d' (by simp [h'])) _ (by rw [List.length_append]; omega) ?_
    rw [List.flatMap_cons] at h
    simpa using h
end
/-- loops: what is left of a list, with what is gathered -/
theorem flat_len {α β : Type} (f : α → List β) (n : Nat) : ∀ xs : List α, (∀ x ∈ xs, (f x).length ≤ n) → (xs.flatMap f).length ≤ n * xs.length
  | [], _ => by simp
  | x :: xs, h => by
    rw [List.flatMap_cons, List.length_append, List.length_cons, Nat.mul_succ]
    have := flat_len f n xs fun y hy => h y (by simp [hy])
    have := h x (by simp)
    omega
/-! ### texts -/
abbrev SS (cs : List Nat) : Str := ⟨cs.toArray⟩
theorem join_one (cs : List Nat) : Txt.join "" (cs.map fun c => SS [c]) = SS cs := by
  have z : ∀ cs : List Nat, TL.tl (Str.join "" (cs.map fun c => SS [c])) = cs := by
    intro cs
    rw [TL.tl_join]
    have e0 : TL.tl ("" : Str) = [] := by decide +kernel
    rw [e0]
    induction cs with
    | nil => rfl
    | cons c cs ih =>
      cases cs with
      | nil => rfl
      | cons d r =>
        show [c] ++ ([] ++ TL.joinL [] _) = _
        rw [show TL.joinL [] (TL.tl (SS [d]) :: List.map TL.tl (List.map (fun c => SS [c]) r)) = d :: r from ih]
        rfl
  rw [TL.join_eq]
  exact TL.ext_tl (z cs)
theorem len_one (cs : List Nat) : ((cs.map fun c => SS [c]).map (·.length)).sum = cs.length := by
  induction cs with
  | nil => rfl
  | cons c cs ih =>
    rw [List.map_cons, List.map_cons, List.sum_cons, ih, List.length_cons]
    show 1 + _ = _
    omega
end DL
/-! enumerate(a tuple); slices of texts. -/
namespace DL
open PySem PySem.Spec PyProof.Rows L2
section
variable {prog : Program} {w : World} {A : Around} {E : Value → Shared → Prop} {s : Shared}
theorem nextOf_tup {cu tp : Addr} {i : Nat} {its : Array Value} {u : Value} {Q : Value → Shared → Prop} (hc : s.heap.IsTupleIter cu tp i) (ht : s.heap.IsTuple tp its) (hu : its[i]? = some u)
    (hQ : ∀ h', h'.IsTupleIter cu tp (i + 1) → Heap.SameBut cu s.heap h' → Q u { s with heap := h' }) : wpAny (model prog w) A (Builtin.SmallTypes.nextOf (.ref cu)) Q E s := by
  obtain ⟨ob, go, gc, gd⟩ := id hc
  obtain ⟨ot, got, _, nt, gdt⟩ := ht
  unfold Builtin.SmallTypes.nextOf
  refine wpAny_bind (wpAny_callSpecial?_slot (name := Str.ofString "__next__") hc.typeIs F.slot_tuple_iterator_next (wpAny_call_entry F.slot_tuple_iterator_next hc.typeIs F.entry_tuple_iterator_next ?_ (F.args_tuple_iterator_next_1 _)))
  show wpAny _ _ (field (.ref cu) 0 >>= _) _ _ s
  refine wpAny_bind (wpAny_field go gd (x := .ref tp) rfl ?_)
  show wpAny _ _ (if (Value.ref tp == Value.none) = true then _ else _) _ _ s
  rw [if_neg (show ¬ ((Value.ref tp == Value.none) = true) from Bool.false_ne_true)]
  show wpAny _ _ (field (.ref cu) 1 >>= _) _ _ s
  refine wpAny_bind (wpAny_field go gd (x := .int i 0) rfl ?_)
  show wpAny _ _ (seqItems? (.ref tp) >>= _) _ _ s
  refine wpAny_bind (wpAny_seqItems got gdt ?_)
  simp only [Int.toNat_natCast, hu]
  refine wpAny_bind (wpAny_setField go gd (by simp) (wpAny_pure ⟨u, rfl, wpAny_pure (hQ _ ?_ (Heap.SameBut.update ..))⟩))
  exact ⟨_, Heap.get?_update_self _ go (Obj.isFreed_of_fields (Obj.data_mapFields gd _)), (Obj.cls_mapFields ..).trans gc, by rw [Obj.data_mapFields gd]; simp [rawInt]⟩
theorem nextOf_tup_end {cu tp : Addr} {i : Nat} {its : Array Value} {Q : Value → Shared → Prop} (hh : A.handled = none) (hc : s.heap.IsTupleIter cu tp i) (ht : s.heap.IsTuple tp its) (hu : its[i]? = none)
    (hE : ∀ h' e, Heap.ExtBut cu s.heap h' → (∃ o, h'.get? e = some o ∧ o.cls = .type "StopIteration") → E (.ref e) { s with heap := h' }) : wpAny (model prog w) A (Builtin.SmallTypes.nextOf (.ref cu)) Q E s := by
  obtain ⟨ob, go, gc, gd⟩ := id hc
  obtain ⟨ot, got, _, nt, gdt⟩ := ht
  unfold Builtin.SmallTypes.nextOf
  refine wpAny_bind (wpAny_callSpecial?_slot (name := Str.ofString "__next__") hc.typeIs F.slot_tuple_iterator_next (wpAny_call_entry F.slot_tuple_iterator_next hc.typeIs F.entry_tuple_iterator_next ?_ (F.args_tuple_iterator_next_1 _)))
  show wpAny _ _ (field (.ref cu) 0 >>= _) _ _ s
  refine wpAny_bind (wpAny_field go gd (x := .ref tp) rfl ?_)
  show wpAny _ _ (if (Value.ref tp == Value.none) = true then _ else _) _ _ s
  rw [if_neg (show ¬ ((Value.ref tp == Value.none) = true) from Bool.false_ne_true)]
  show wpAny _ _ (field (.ref cu) 1 >>= _) _ _ s
  refine wpAny_bind (wpAny_field go gd (x := .int i 0) rfl ?_)
  show wpAny _ _ (seqItems? (.ref tp) >>= _) _ _ s
  refine wpAny_bind (wpAny_seqItems got gdt ?_)
  simp only [Int.toNat_natCast, hu]
  refine wpAny_bind (wpAny_rule (wpAny_bind (wpAny_setField go gd (by simp) ?_)))
  (show wpAny _ _ (newExc (.type "StopIteration") [] >>= _) _ _ _); refine wpAny_bind ?_
  simp only [newExc, newTuple]; refine wpAny_bind (wpAny_newObj_type ?_ (by size_fits))
  refine wpAny_bind (m := firstArgMember _ _) (wpAny_of_eq (a := Value.none) (by first | (simp only [firstArgMember]; rfl) | rfl) ?_)
  refine wpAny_newObj_type ?_ (by size_fits); simp only [raiseNew]; refine wpAny_bind (wpAny_handled ?_)
  first | rw [hh] | rw [show A.in1.handled = none from hh]
  refine wpAny_bind (wpAny_pure (wpAny_throw ?_)); exact hE _ _ (((Heap.SameBut.update ..).extBut.push _).push _) ⟨_, Heap.get?_push_size _ rfl, rfl⟩
theorem tup_at {h h' : Heap} {tp : Addr} {its : Array Value} (x : h.IsTuple tp its) (k : ∀ o, h.get? tp = some o → h'.get? tp = some o) : h'.IsTuple tp its := let ⟨o, a, b⟩ := x; ⟨o, k o a, b⟩
theorem titer_at {h h' : Heap} {cu tp : Addr} {i : Nat} (x : h.IsTupleIter cu tp i) (k : ∀ o, h.get? cu = some o → h'.get? cu = some o) : h'.IsTupleIter cu tp i := let ⟨o, a, b⟩ := x; ⟨o, k o a, b⟩
theorem draws_tup (hh : A.handled = none) (cu tp : Addr) (hne : tp ≠ cu) (its : Array Value) :
    Draws prog w A cu [cu, tp] its.size (fun i v => its[i]? = some v) (fun i h => h.IsTupleIter cu tp i ∧ h.IsTuple tp its) where
  live := fun _ _ st => let ⟨o, ho, _⟩ := st.1; ⟨o, ho⟩
  frame := fun _ _ _ st hk => ⟨titer_at st.1 fun o e => hk cu (by simp) o e, tup_at st.2 fun o e => hk tp (by simp) o e⟩
  item := fun i s Q E hi st hQ => nextOf_tup st.1 st.2 (u := its[i]) (by simp [hi]) fun h' hc' hs' => hQ _ h' s.toks (by simp [hi]) ⟨hc', tup_at st.2 fun o e => (hs'.2 tp hne).trans e⟩ hs'
  done := fun s Q E st hE => nextOf_tup_end hh st.1 st.2 (by simp) hE
theorem new_enumT (tp : Addr) (its : Array Value) (ob : Obj) (hc : ob.cls = .type "tuple") (n : Nat) (hd : ob.data = .seq its n) :
    Meets (Builtin.«enumerate.__new__» ⟨[.type "enumerate", .ref tp], []⟩) (fun _ R s => s.heap.get? tp = some ob ∧
      R (.ok (.ret (.ref (s.heap.push { cls := .type "tuple_iterator", data := .fields #[.ref tp, .int 0 0] }).objs.size)))
        { s with heap := (s.heap.push { cls := .type "tuple_iterator", data := .fields #[.ref tp, .int 0 0] }).push { cls := .type "enumerate", data := .fields #[.none, .bool false, .ref s.heap.objs.size, rawInt 0, .none, .none] } }) :=
  .of_wp fun prog w A R s h => by
    obtain ⟨cl, dc, dt, sl⟩ := ob; simp only at hc hd; subst hc hd
    obtain ⟨hp, gs, dr, tk, os⟩ := s; obtain ⟨ht, h⟩ := h; have hsb := sub_enumerate
    have hT : Heap.IsTuple (Shared.heap ⟨hp, gs, dr, tk, os⟩) tp its := ⟨_, ht, rfl, n, rfl⟩
    wp_walk using AutoSeq1.wpAny_loadPart' ht
    refine wpAny_stack_any fun stk => wpAny_pure ?_
    split
    · rename_i c _ _ _ _ _
      cases (c == Value.type "enumerate")
      · wp_walk using AutoSeq1.wpAny_loadPart' ht, wpAny_pyIter_tuple hT
        exact ⟨_, rfl, h⟩
      · wp_walk using AutoSeq1.wpAny_loadPart' ht, wpAny_pyIter_tuple hT
        exact ⟨_, rfl, h⟩
    · wp_walk using AutoSeq1.wpAny_loadPart' ht, wpAny_pyIter_tuple hT
      exact ⟨_, rfl, h⟩
theorem call_enumT {tp : Addr} {its : Array Value} {Q : Value → Shared → Prop} (hT : s.heap.IsTuple tp its)
    (h : ∀ h', IsEnum h' (s.heap.objs.size + 1) s.heap.objs.size 0 .none → h'.IsTupleIter s.heap.objs.size tp 0 → h'.objs.size = s.heap.objs.size + 2 → (∀ b o, s.heap.get? b = some o → h'.get? b = some o) → Q (.ref (s.heap.objs.size + 1)) { s with heap := h' }) :
    wpAny (model prog w) A (call (.type "enumerate") [.ref tp]) Q E s := by
  obtain ⟨ob, ht, hc, n, hd⟩ := hT
  refine callType_new F.called_enumerate (by decide) (F.typeCall_enumerate_1 _) (F.newCall_enumerate_1 _) (fun o => F.args_object_init_2 o _) F.entry_enumerate_new (new_enumT tp its ob hc n hd) ⟨ht, ?_⟩
  have hz : (s.heap.push { cls := .type "tuple_iterator", data := .fields #[.ref tp, .int 0 0] }).objs.size = s.heap.objs.size + 1 := Heap.size_push ..
  show _ ∧ _; rw [hz]
  have he : IsEnum ((s.heap.push { cls := .type "tuple_iterator", data := .fields #[.ref tp, .int 0 0] }).push { cls := .type "enumerate", data := .fields #[.none, .bool false, .ref s.heap.objs.size, rawInt 0, .none, .none] }) (s.heap.objs.size + 1) s.heap.objs.size 0 .none := by
    have q := Heap.get?_push_size (s.heap.push { cls := .type "tuple_iterator", data := .fields #[.ref tp, .int 0 0] }) (o := { cls := .type "enumerate", data := .fields #[.none, .bool false, .ref s.heap.objs.size, rawInt 0, .none, .none] }) rfl
    rw [hz] at q; exact q
  refine ⟨⟨_, he, rfl⟩, h _ he ⟨_, Heap.get?_push_of_some _ (Heap.get?_push_size _ rfl), rfl, rfl⟩ (by rw [Heap.size_push, hz]) fun b o q => Heap.get?_push_of_some _ (Heap.get?_push_of_some _ q)⟩
end
section
variable {prog : Program} {w : World} {A : Around} {E : Value → Shared → Prop} {s : Shared}
theorem enum_endT {e cu tp : Addr} {i : Nat} {iz : Int} {old : Value} {its : Array Value} {Q : Option Value → Shared → Prop} (hh : A.handled = none) (he : IsEnum s.heap e cu iz old) (hc : s.heap.IsTupleIter cu tp i) (ht : s.heap.IsTuple tp its) (hu : its[i]? = none)
    (hQ : ∀ h', Heap.ExtBut cu s.heap h' → Q none { s with heap := h' }) : wpAny (model prog w) A (pyNext (.ref e)) Q E s := by
  have hT : s.TypeIs (.ref e) "enumerate" := ⟨_, he, rfl⟩
  unfold pyNext
  refine wpAny_bind (wpAny_attempt (wpAny_callSpecial?_slot (name := Str.ofString "__next__") hT F.slot_enumerate_next (wpAny_call_entry F.slot_enumerate_next hT F.entry_enumerate_next ?_ (F.args_enumerate_next_1 _))))
  (show wpAny _ _ (field (.ref e) 2 >>= _) _ _ _); refine wpAny_bind (wpAny_field he rfl (x := .ref cu) rfl ?_)
  refine wpAny_bind (nextOf_tup_end hh hc ht hu fun h' x eb hx => ?_)
  obtain ⟨o, ho, hcl⟩ := hx
  refine wpAny_bind (wpAny_isInstance (T := "StopIteration") (b := true) ⟨o, ho, hcl⟩ isSubtype_stop ?_); exact wpAny_pure (hQ _ eb)
end
/-- the tuple at a, each item in a new pair -/
def ItE (K : PySem.W.Frag) (a : Addr) : It :=
  ⟨fun i H => ∃ (xs : List V) (x : V), SqT K H a xs ∧ xs[i]? = some x, fun i H v H' => ∃ T x, v = .ref T ∧ H T = none ∧ H' = upd H T (.tup [.int (i : Nat), x]) ∧ ∀ xs, SqT K H a xs → xs[i]? = some x, fun i H => ∃ xs : List V, SqT K H a xs ∧ xs.length ≤ i⟩
end DL
namespace DL
open PySem PySem.Spec PyProof.Rows L2
theorem turn_enumT {P : Program} {w : World} {K : PySem.W.Frag} {elts : List Expr} {kk : Nat} {tpos : Pos} (a e cu : Addr) :
    Turn P w K (.Tuple elts kk tpos) (ItE K a) [e, cu] e (fun i h => (∃ old, IsEnum h e cu ((i : Nat) : Int) old) ∧ h.IsTupleIter cu a i ∧ e ≠ cu) where
  mem := by simp
  obj := fun i h st b hb => by
    obtain ⟨⟨old, he⟩, ⟨o, ho, hc, hd⟩, _⟩ := st
    rcases (by simpa using hb : b = e ∨ b = cu) with z | z
    · subst z
      exact ⟨_, he, fun v q => nomatch q⟩
    · subst z
      exact ⟨o, ho, fun v q => by rw [hd] at q; cases q⟩
  keep := fun i h h' st k => ⟨⟨st.1.choose, k e (by simp) _ st.1.choose_spec⟩, titer_at st.2.1 fun o q => k cu (by simp) o q, st.2.2⟩
  item := by
    intro X hP hw hK hc i pins s σ H E I hf st hg; subst hP hw hK
    obtain ⟨⟨old, he⟩, hit, hne⟩ := st
    obtain ⟨xs, x, hq, hx⟩ := hg
    obtain ⟨its, rv, p, hz⟩ := I.tuple hq
    obtain ⟨u, hu, ru⟩ := rv.get hx
    have hpt : s.heap.IsTuple a its.toArray := p
    have hel : e < s.heap.objs.size := Heap.lt_size he
    have hil : cu < s.heap.objs.size := by obtain ⟨_, q, _⟩ := hit; exact Heap.lt_size q
    have hnone : ∀ b ∈ [e, cu], H b = none := fun b hb => (hf b hb).1
    have hnc : a ≠ cu := by
      rintro rfl
      obtain ⟨o1, q1, c1, _⟩ := id hit
      obtain ⟨o2, q2, c2, _⟩ := id hpt
      rw [q1] at q2
      cases q2
      rw [c1] at c2
      exact absurd c2 (by decide)
    have hne2 : a ≠ e := by
      rintro rfl
      obtain ⟨o2, q2, c2, _⟩ := id hpt
      rw [he] at q2
      cases q2
      have c3 : Value.type "enumerate" = Value.type "tuple" := c2
      exact absurd c3 (by decide)
    have hlt : i < its.toArray.size := by
      have := (List.getElem?_eq_some_iff.mp hu).1
      simpa using this
    refine wpAny_pyNext_enum_itemD (draws_tup (A := X.A.in1) (I.ok.hd hc) cu a hnc its.toArray) he ⟨hit, hpt⟩ hlt hne (by simp [hne, Ne.symm hne2]) fun y h' tk hy ho hst hT hsz hk => ?_
    have ey : y = u := by
      have hu' : its.toArray[i]? = some u := by simpa using hu
      rw [hu'] at hy
      exact (Option.some.inj hy).symm
    subst ey
    refine ⟨_, rfl, wpAny_letOwnedTupleGo_enum (s := { s with heap := h', toks := tk + 1 }) ho fun h'' he' sb => ?_⟩
    have hT2 : h''.get? s.heap.objs.size = some { cls := .type "tuple", data := .seq #[.int i tk, y] } := (sb.2 _ (Nat.ne_of_gt hel)).trans hT
    have new : ObjOk X.prog X.w (upd H s.heap.objs.size (.tup [.int (i : Nat), x])) h'' s.heap.objs.size (.tup [.int (i : Nat), x]) := ⟨by show 2 ≤ sizeLine; decide, [.int i tk, y], .cons ⟨_, rfl⟩ (.cons ru .nil), ⟨_, hT2, rfl, _, rfl⟩⟩
    have I1 : Inv X pins σ (upd H s.heap.objs.size (.tup [.int (i : Nat), x])) { s with heap := h'', toks := tk + 1 } :=
      I.turnedNew (ch := [e, cu]) (fun b ob hb q => (sb.2 b (fun z => hb (by simp [z]))).trans (hk b ob (fun z => hb (by simp [z])) (fun z => hb (by simp [z])) q)) hf (Nat.le_refl _) new
    refine ⟨.ref s.heap.objs.size, _, I1, rfl, ⟨_, x, rfl, I.hok.fresh (Nat.le_refl _), rfl, fun ys hy => by rw [I.tuple_inj hy hq]; exact hx⟩, ⟨⟨y, ?_⟩, titer_at hst.1 fun o q => (sb.2 cu (Ne.symm hne)).trans q, hne⟩, fun b hb => ?_⟩
    · rw [show ((i + 1 : Nat) : Int) = (i : Int) + 1 by omega]; exact he'
    · have hb' : b < s.heap.objs.size := by
        rcases (by simpa using hb : b = e ∨ b = cu) with z | z
        · exact z ▸ hel
        · exact z ▸ hil
      rw [upd_ne (Nat.ne_of_lt hb')]; exact hnone b hb
  done := by
    intro X hP hw hK hc i pins s σ H E I hf st hg; subst hP hw hK
    obtain ⟨⟨old, he⟩, hit, hne⟩ := st
    obtain ⟨xs, hq, hx⟩ := hg
    obtain ⟨its, rv, p, hz⟩ := I.tuple hq
    obtain ⟨f0, f1, f2, f3, f4, f5⟩ := hf cu (by simp)
    have hl := rv.length
    exact enum_endT (I.ok.hd hc) he hit (show s.heap.IsTuple a its.toArray from p) (by simp; omega) fun h' eb => ⟨rfl, I.turned (t' := s.toks) (fun b o hb q => eb b o hb q) f0 f1 f3 f4 f5⟩
  self := fun A i s Q E st h => let ⟨⟨_, he⟩, _⟩ := st; wpAny_pyIter_enum he h
def iEnumT (K : PySem.W.Frag) (ta : TA) : TI := fun σ H R => ta σ H fun vs H1 => ∃ a xs, vs = [.ref a] ∧ SqT K H1 a xs ∧ R (ItE K a) H1
theorem pi_enumT {X : Cx} {e : Expr} {ta : TA} {p pos tpos : Pos} {elts : List Expr} {kk : Nat} (hg : Gl X "enumerate") (hm : X.mg "enumerate" = none) (ha : PA X [e] ta) (hs : starEach [e] X.env = [(false, eval e X.env)] := by rfl) :
    PI X (.Tuple elts kk tpos) (.Call (.Name "enumerate" p) [e] [] pos) (iEnumT X.K ta) := by
  refine ⟨fun pins s σ H R I h => Call_ (ld_blt I hg hm boot_enumerate (PyProof.Rows.callWith_type1 (thn (ha.run pos pins s σ H _ I h) fun us s1 ⟨vs, H1, I1, r1, q1⟩ => ?_) hs rfl))⟩
  obtain ⟨a, xs, ex, hq, q⟩ := q1; subst ex
  obtain ⟨u, rfl, r⟩ := vals1 r1
  obtain rfl : u = Value.ref a := r
  obtain ⟨its, rv, pt, hz⟩ := I1.tuple hq
  refine call_enumT (show s1.heap.IsTuple a its.toArray from pt) fun h' he hit hsz hk => wpAny_pyIter_enum he ?_
  have I2 : Inv X pins σ H1 { s1 with heap := h' } := I1.kept (t' := s1.toks) hk
  refine ⟨s1.heap.objs.size + 1, [s1.heap.objs.size + 1, s1.heap.objs.size], _, _, H1, rfl, I2, turn_enumT a (s1.heap.objs.size + 1) s1.heap.objs.size, ⟨⟨.none, he⟩, hit, Nat.succ_ne_self _⟩, fun b hb => ?_, q⟩
  have hle : s1.heap.objs.size ≤ b := by
    rcases (by simpa using hb : b = s1.heap.objs.size + 1 ∨ b = s1.heap.objs.size) with z | z
    · exact z ▸ Nat.le_succ _
    · exact z ▸ Nat.le_refl _
  exact I1.fpOk hle (I1.hok.fresh hle)
def diEnumT (t : DTA) : DTI := fun m M Q => t m M fun ds M1 => ∃ xs, ds = [.tup xs] ∧ Q (enumD 0 xs, none) M1
theorem di_enumT {X : Cx} {e : Expr} {t : DTA} {p pos tpos : Pos} {elts : List Expr} {kk : Nat} (hg : Gl X "enumerate") (hm : X.mg "enumerate" = none) (ha : DA X [e] t) (hs : starEach [e] X.env = [(false, eval e X.env)] := by rfl) :
    DI X (.Tuple elts kk tpos) (.Call (.Name "enumerate" p) [e] [] pos) (diEnumT t) :=
  imI (pi_enumT hg hm ha hs) fun σ H Q ⟨m, M, Q', r, q, k⟩ => by
    refine ⟨m, M, _, r, q, fun ds vs M1 H1 g1 r1 m1 ⟨xs, e1, q1⟩ => ?_⟩
    subst e1
    obtain ⟨v, e2, rv⟩ := repL_one r1
    subst e2
    cases rv with
    | tup hf z l =>
      refine ⟨_, _, rfl, hf, k _ M1 H1 _ g1 m1 q1 ⟨?_, fun i H2 ok hi => ?_, fun i H2 x H3 ok hi y => ?_, fun H2 ok => ?_⟩⟩
      · show (enumD 0 xs).length ≤ sizeLine
        rw [enumD_len, l.length]
        exact z
      · have hi' : i < xs.length := by rw [← enumD_len 0 xs]; exact hi
        obtain ⟨w, e3, _⟩ := l.get (List.getElem?_eq_getElem hi')
        exact ⟨_, w, sqT_grow hf ok.1, e3⟩
      · obtain ⟨T, x', e3, hT, e4, hx⟩ := y
        subst e3
        subst e4
        obtain ⟨d, e5, rd⟩ := l.get' (hx _ (sqT_grow hf ok.1))
        refine ⟨.new hT, fun M2 rm => rm.new hT, .tup [.int ((0 + i : Nat) : Int), d], ?_, ?_⟩
        · show (enumD 0 xs)[i]? = _
          rw [enumD_get, e5]
          rfl
        · rw [Nat.zero_add]
          exact .tup (.of upd_same) (by show 2 ≤ sizeLine; decide) (.cons (.int _) (.cons (rd.grow (ok.1.trans (.new hT))) .nil))
      · refine ⟨_, sqT_grow hf ok.1, ?_⟩
        show _ ≤ (enumD 0 xs).length
        rw [enumD_len, l.length]
        exact Nat.le_refl _
/-! ### slices of texts -/
def dSlS (te : DTE) (tl th : DTO) : DTE := fun m M Q => te m M fun d M1 => tl m M1 fun lo M2 => th m M2 fun hi M3 => ∃ z, d = .str z ∧ z.length ≤ 16777216 ∧ Q (.str (cutS z lo hi)) M3
theorem d_slS {X : Cx} {e : Expr} {lo hi : Option Expr} {te : DTE} {tl th : DTO} {pos p2 : Pos} (he : DE X e te) (hl : DPO X lo tl) (hh : DPO X hi th) : DE X (.Subscript e (.Slice lo hi none p2) pos) (dSlS te tl th) :=
  imE (pe_slice sl_str he hl hh) fun σ H Q ⟨m, M, Q', r, q, k⟩ => by
    refine ⟨m, M, _, r, q, fun d v M1 H1 g1 r1 m1 q1 => ?_⟩
    refine ⟨m, M1, _, r.grow g1 m1, q1, fun o1 M2 H2 g2 m2 q2 => ?_⟩
    refine ⟨m, M2, _, r.grow (g1.trans g2) m2, q2, fun o2 M3 H3 g3 m3 ⟨z, e1, hz, q3⟩ => ?_⟩
    subst e1
    cases r1
    exact ⟨z, rfl, by rw [sizeLine_eq]; exact hz, k _ _ M3 H3 ((g1.trans g2).trans g3) (.str _) m3 q3⟩
end DL
/-! sorted(a list, key=a def): the def is pure here, its keys are data -/
namespace DL
open PySem PySem.Spec PyProof.Rows L2
open PySem.W (EachIs AllAlike Sortable dataLe alike alikeAll KeepsBut keyH_end KeyedOut keyedOut_each dataKind SortsAt sorted_of_sort copyHeap copyHeap_at copyHeap_old sortingHeap sortingHeap_old)

section
variable {fs : List Addr} {H H1 : Hp} {h h1 h2 : Heap} {k a : Addr} {P : Program} {w : World} {o : HO}
theorem un_side {k' : Addr} (u : Un fs [] H H1 h h1) (hk : h.get? k = none) (hk' : h.get? k' = none) (keep : ∀ b o, b ≠ k → b ≠ k' → h1.get? b = some o → h2.get? b = some o) : Un fs [] H H1 h h2 := by
  have nk : ∀ {b : Addr} {o : Obj}, h.get? b = some o → b ≠ k := fun q z => by rw [z, hk] at q; cases q
  have nk' : ∀ {b : Addr} {o : Obj}, h.get? b = some o → b ≠ k' := fun q z => by rw [z, hk'] at q; cases q
  refine ⟨fun b o q n hb hx => keep b o (nk q) (nk' q) (u.keep b o q n hb hx), fun b o q n hb hx => ?_, u.free, fun b o q hx => ?_, u.tups, u.frzs, u.tbls⟩
  · obtain ⟨sl, e⟩ := u.slot b o q n hb hx
    exact ⟨sl, keep b _ (nk q) (nk' q) e⟩
  · obtain ⟨o', e⟩ := u.there b o q hx
    exact ⟨o', keep b _ (nk q) (nk' q) e⟩
theorem hok_side {k' : Addr} (x : HOk P w H h) (hn : H k = none) (hn' : H k' = none) (keep : ∀ b o, b ≠ k → b ≠ k' → h.get? b = some o → h2.get? b = some o) : HOk P w H h2 := fun b u e => by
  have nk : ∀ c v, H c = some v → c ≠ k := fun c v q z => by rw [z, hn] at q; cases q
  have nk' : ∀ c v, H c = some v → c ≠ k' := fun c v q z => by rw [z, hn'] at q; cases q
  refine (x b u e).stay (fun c v hc q => keep c v ?_ ?_ q) (fun _ q => q) fun _ _ q => q
  · rcases hc with z | z
    · rw [z]; exact nk b u e
    · exact nk c _ z
  · rcases hc with z | z
    · rw [z]; exact nk' b u e
    · exact nk' c _ z
theorem un_adopt (u : Un fs [] H H1 h h2) (ha : h.get? a = none) (hn : H a = none) (hn1 : H1 a = none) : Un fs [] H (upd H1 a o) h h2 where
  keep := u.keep
  slot := u.slot
  free := fun b ob q n hx => by
    rw [upd_ne (fun z => by rw [z, ha] at q; cases q)]
    exact u.free b ob q n hx
  there := u.there
  tups := fun b xs q => by
    have z := u.tups b xs q
    rw [upd_ne (ne_of_none z hn1)]
    exact z
  frzs := fun b ob x q => by
    have z := u.frzs b ob x q
    rw [upd_ne (ne_of_none z hn1)]
    exact z
  tbls := fun b ps q => by
    obtain ⟨more, z⟩ := u.tbls b ps q
    exact ⟨more, by rw [upd_ne (ne_of_none z hn1)]; exact z⟩
theorem hok_adopt (x : HOk P w H h) (hn : H a = none) (new : ObjOk P w (upd H a o) h a o) : HOk P w (upd H a o) h := fun b u e => by
  by_cases hb : b = a
  · subst hb; rw [upd_same] at e; cases e; exact new
  · rw [upd_ne hb] at e
    exact (x b u e).stay (fun c v _ q => q) (fun c q => by rw [upd_ne (ne_of_none q hn)]; exact q) fun c xs q => by rw [upd_ne (ne_of_none q hn)]; exact q
end
/-! ### lists of tuples of any lengths can be sorted, too -/
/-- as Sortable, or all are tuples (some of them empty) -/
def SortOk (ds : List PyData) : Prop := Sortable ds ∨ ∀ d ∈ ds, ∃ xs, d = .tuple xs
def ne0 : PyData → Bool
  | .tuple (_ :: _) => true
  | _ => false
theorem each_right {α β : Type} {R : α → β → Prop} : ∀ {as : List α} {bs : List β}, EachIs R as bs → ∀ b ∈ bs, ∃ a, a ∈ as ∧ R a b
  | _, _, .cons h t, b, hb => by
    rcases List.mem_cons.mp hb with rfl | hb
    · exact ⟨_, List.mem_cons_self .., h⟩
    · obtain ⟨a, ha, r⟩ := each_right t b hb
      exact ⟨a, List.mem_cons_of_mem _ ha, r⟩
section
variable {prog : Program} {w : World} {A : Around} {E : Value → Shared → Prop} {s : Shared}
theorem lt_tups {f : Bool} {xs ys : List PyData} {a b : Value} {as bs : List Addr} {Q : Bool → Shared → Prop} (ra : Reads s.heap a (.tuple xs) as) (rb : Reads s.heap b (.tuple ys) bs) (h : alike (.tuple xs) (.tuple ys) = true)
    (hu : A.units + min (PyData.tuple xs).depth (PyData.tuple ys).depth < cLine) (hq : Q (PySem.W.dataLt (.tuple xs) (.tuple ys)) s) : wpAny (model prog w) A (oneLt' f a b) Q E s := by
  cases f with
  | false => exact PySem.W.oneLt_alike (fun z => by cases z) ra rb h (fun z => by cases z) hu hq
  | true =>
    have hal : PySem.W.alikeAll xs ys = true := by simpa [alike] using h
    cases ra with
    | @tuple l o vs n _ _ h1 h2 h3 h4 =>
      cases rb with
      | @tuple l' o' vs' n' _ _ k1 k2 k3 k4 =>
        have n1 : vs.size = xs.length := by simpa using SeqAt.ReadsAll.length _ _ _ h4
        have n2 : vs'.size = ys.length := by simpa using SeqAt.ReadsAll.length _ _ _ k4
        rw [PySem.W.dataLt_tuple, ← PySem.W.firstLt_toks xs ys hal, ← n1, ← n2] at hq
        obtain ⟨cls, dd, data, sl⟩ := o
        obtain ⟨cls2, dd2, data2, sl2⟩ := o'
        simp only at h2 h3 k2 k3
        subst h2 h3 k2 k3
        rw [oneLt'_eq]
        simp only [if_true]
        refine wpAny_bind (wpAny_cRoomFor (SeqAt.room_here hu) ?_)
        refine wpAny_bind (wpAny_callSpecialIfBound?_slot (T := "tuple") ⟨_, h1, rfl⟩ PySem.F.slot_tuple_lt (call_meets PySem.F.slot_tuple_lt ⟨_, h1, rfl⟩ PySem.F.entry_tuple_lt (PySem.F.args_tuple_lt_2 _ _)
          (SeqAt.tuple_ltAt l l' vs vs' n n' dd dd2 sl sl2 (SeqAt.pairEq xs ys) fun j => PySem.W.dataLt (xs.getD j .none) (ys.getD j .none)) ⟨h1, k1, fun j j1 j2 => ?_, fun j j1 j2 hj => ?_, ?_⟩))
        · have := PySem.W.eqAt_alikeAll xs ys A.in1 s vs.toList vs'.toList _ _ h4 k4 hal (SeqAt.room_in hu) j (by simpa using j1) (by simpa using j2)
          simpa using this
        · have := PySem.W.rcLt_alikeAll xs ys A.in1 s vs.toList vs'.toList _ _ h4 k4 hal (SeqAt.room_in hu) j (by simpa using j1) (by simpa using j2) hj
          simpa using this
        · exact wpAny_truthy_bool hq
theorem firsts_ex : ∀ {vs : List Value} {ds : List PyData}, EachIs (fun v d => ∃ as, Reads s.heap v d as) vs ds → (∀ d ∈ ds, ∃ xs, d = .tuple xs) →
    ∃ fs : List (Option Value), EachIs (fun (f : Option Value) d => f.isSome = ne0 d) fs ds ∧ ∀ {A : Around} {E : Value → Shared → Prop} {Q : List (Option Value) → Shared → Prop}, Q fs s → wpAny (model prog w) A (vs.mapM firstOfTuple') Q E s
  | _, _, .nil, _ => ⟨[], .nil, fun h => by rw [List.mapM_nil]; exact wpAny_pure h⟩
  | _, _, .cons (b := d) ⟨as, r⟩ t, ht => by
    obtain ⟨fs, h1, h2⟩ := firsts_ex t fun d hd => ht d (List.mem_cons_of_mem _ hd)
    obtain ⟨xs, rfl⟩ := ht d (List.mem_cons_self ..)
    cases r with
    | @tuple a o us n _ _ ho hc hd hr =>
      refine ⟨us[0]? :: fs, .cons ?_ h1, fun {A E Q} q => ?_⟩
      · rw [← Array.getElem?_toList]
        cases e : us.toList with
        | nil =>
          rw [e] at hr
          cases hr
          rfl
        | cons f fr =>
          rw [e] at hr
          cases hr
          rfl
      · rw [List.mapM_cons]
        refine wpAny_bind ?_
        rw [PySem.W.kas_first_eq]
        refine wpAny_bind (PySem.W.Looks.here (show PySem.W.Looks _ s.heap (typeOf (.ref a)) o.cls from (PySem.W.Looks.ld ho).andThen .now) ?_)
        rw [hc, if_neg (by first | decide | simp)]
        refine wpAny_bind (listItems_at ho hd (wpAny_pure ?_))
        exact wpAny_bind (h2 (wpAny_pure q))
/-- values that read as alike tuples of any lengths can be sorted -/
theorem sortsAt_tups {vs : List Value} {ds : List PyData} (e : EachIs (fun v d => ∃ as, Reads s.heap v d as) vs ds) (hal : AllAlike ds) (hk : SortOk ds) (hu : ∀ d, d ∈ ds → A.units + d.depth < cLine) : SortsAt prog w A s (dataKind s.heap ds) vs := by
  rcases hk with hk | ht
  · exact SortsAt.data e hal hk hu
  by_cases all : ∀ d ∈ ds, ne0 d = true
  · refine SortsAt.data e hal (.inl fun d hd => ?_) hu
    obtain ⟨xs, rfl⟩ := ht d hd
    cases xs with
    | nil => exact absurd (all _ hd) (by simp [ne0])
    | cons x r => exact ⟨x, r, rfl⟩
  obtain ⟨fs, hf, hm⟩ := firsts_ex (prog := prog) (w := w) e ht
  have hnall : (fs.toArray.all fun x => x.isSome) = false := by
    rw [List.all_toArray]
    cases q : fs.all fun x => x.isSome with
    | false => rfl
    | true =>
      refine absurd (fun d hd => ?_) all
      obtain ⟨f, hfm, h⟩ := each_right hf d hd
      rw [← h]
      exact List.all_eq_true.mp q f hfm
  have lt : ∀ f : Bool, ∀ (E : Value → Shared → Prop) (x y : Value) (a b) (Q : Bool → Shared → Prop), (dataKind s.heap ds).keyOf x = some a → (dataKind s.heap ds).keyOf y = some b → Q ((dataKind s.heap ds).blt a b) s → wpAny (model prog w) A (oneLt' f x y) Q E s := by
    intro f E x y a b Q ha hb hq
    obtain ⟨d, as, hd, ra, rfl⟩ := PySem.W.dataKind_inv ha
    obtain ⟨d', as', hd', rb, rfl⟩ := PySem.W.dataKind_inv hb
    obtain ⟨x1, rfl⟩ := ht d hd
    obtain ⟨x2, rfl⟩ := ht d' hd'
    exact lt_tups ra rb (hal _ hd _ hd') (Nat.lt_of_le_of_lt (Nat.add_le_add_left (Nat.min_le_left _ _) _) (hu _ hd)) hq
  refine ⟨fun v hv => ?_, if ((fs.toArray[0]?).bind id).isSome then general' else oneType', ?_, fun h2 E Q hq => ?_⟩
  · obtain ⟨d, hd, as, r⟩ := e.left v hv
    exact ⟨_, PySem.W.dataKind_some hal hd r⟩
  · intro E x y a b Q ha hb hq
    split
    · exact lt false E x y a b Q ha hb hq
    · exact lt true E x y a b Q ha hb hq
  · rw [keyKind'_eq, List.mapM_toArray, map_eq_pure_bind]
    refine wpAny_bind (wpAny_bind (hm (wpAny_pure ?_)))
    rw [if_neg (by rw [hnall]; simp)]
    by_cases c : ((fs.toArray[0]?).bind id).isSome = true
    · rw [if_pos c] at hq ⊢
      exact wpAny_pure hq
    · rw [if_neg c] at hq ⊢
      rw [oneTypeOnly'_eq, List.mapM_toArray, map_eq_pure_bind]
      refine wpAny_bind (wpAny_bind (wpAny_bind (PySem.W.kas_mapM (r := Value.type "tuple") _ (fun v hv Q' hq => ?_) (wpAny_pure ?_))))
      · obtain ⟨d, hd, as, r⟩ := e.left v hv
        obtain ⟨xs, rfl⟩ := ht d hd
        exact (PySem.W.looks_reads r).here hq
      · obtain ⟨v₁, rest, rfl⟩ : ∃ v₁ rest, vs = v₁ :: rest := by
          cases vs with
          | nil => simp at h2
          | cons a b => exact ⟨a, b, rfl⟩
        have hall2 : ((List.map (fun _ => Value.type "tuple") (v₁ :: rest)).toArray.all fun x => x == Value.type "tuple") = true := by
          simp only [List.all_toArray, List.all_map, List.all_eq_true]
          intro _ _
          exact beq_self_eq_true _
        have h0 : (List.map (fun _ => Value.type "tuple") (v₁ :: rest)).toArray[0]? = some (Value.type "tuple") := by simp
        rw [h0]
        simp only [hall2, if_true]
        exact wpAny_pure (wpAny_pure (by simpa using hq))
end
section
variable {X : Cx}
/-- sorted(xs, key=f), f a def with the promise dsp that is pure at the items: its keys are data -/
def rSortK (dsp : DSp) : List D → DM → DVK → Prop := fun ds M Q => ∃ d xs, ∃ g : D → D, ds = [d] ∧ dItems d M = some xs ∧ d ≠ .tup xs ∧ (∀ x ∈ xs, ∀ Q' : DVK, Q' (g x) M → dsp [x] M Q') ∧ (xs.map g).all (dOk 32) = true ∧
  AllAlike ((xs.map g).map D.py) ∧ SortOk ((xs.map g).map D.py) ∧ ∀ p, M p = none → Q (.ref p) (mput M p (.lst (xs.mergeSort (dataLe false fun x => D.py (g x)))))
/-- what is so behind the i-th key -/
structure KeyInv (X : Cx) (σ : SL) (H : Hp) (M : DM) (s : Shared) (kS a : Addr) (e1 : Nat) (gs : List D) (i : Nat) (s' : Shared) : Prop where
  ex : ∃ (Hj : Hp) (kA : Array Value) (e : Nat) (ws : List V), Un (frs X.stack) [] H Hj s.heap s'.heap ∧ Grow H Hj ∧ HOk X.prog X.w Hj s'.heap ∧ RM X.K Hj M ∧ AllBare s'.gens ∧ s'.os = s.os ∧
    s'.heap.get? kS = some (seqObj "list" kA e) ∧ s'.heap.get? a = some (seqObj "list" #[] e1) ∧ Hj kS = none ∧ Hj a = none ∧ Vals ws kA.toList ∧ RepL X.K Hj (gs.take i) ws
theorem take_snoc {α : Type} {xs : List α} {i : Nat} {x : α} (h : xs[i]? = some x) : xs.take (i + 1) = xs.take i ++ [x] := by
  rw [List.take_add_one, h]
  rfl
theorem vals_snoc : ∀ {vs : List V} {us : List Value} {v : V} {u : Value}, Vals vs us → RelV v u → Vals (vs ++ [v]) (us ++ [u])
  | _, _, _, _, .nil, r => .cons r .nil
  | _, _, _, _, .cons h t, r => .cons h (vals_snoc t r)
/-- what a call of the key's def gives, in every state that it may be called in -/
def KeyRun (X : Cx) (pins : List (Addr × Obj)) (σ : SL) (H : Hp) (M : DM) (s : Shared) (f : Value) (xs : List D) (g : D → D) : Prop :=
  ∀ (Hj : Hp) (s' : Shared) (d : D) (v : V) (x : Value), d ∈ xs → Un (frs X.stack) [] H Hj s.heap s'.heap → Grow H Hj → Inv X pins σ Hj s' → RM X.K Hj M → Rep X.K Hj d v → RelV v x →
    wpAny (model X.prog X.w) X.A.in1.in1 (call f [x]) (fun v0 s'' => CE X.stack X.prog X.w Hj s' (fun v H' => Grow Hj H' ∧ Rep X.K H' (g d) v ∧ RM X.K H' M) v0 s'') (fun _ _ => False) s'
theorem key_loop {f : Value} {pins : List (Addr × Obj)} {σ : SL} {H : Hp} {M : DM} {s s0 : Shared} {kS a : Addr} {e1 : Nat} {xs : List D} {ws : List V} {vs : List Value} {g : D → D} {P : PySem.Fin → Shared → Prop} {E : Value → Shared → Prop}
    (kr : KeyRun X pins σ H M s f xs g) (I : Inv X pins σ H s) (l : RepL X.K H xs ws) (rv : Vals ws vs) (hz : vs.length ≤ sizeLine)
    (hok : (xs.map g).all (dOk 32) = true) (hal : AllAlike ((xs.map g).map D.py)) (hsk : SortOk ((xs.map g).map D.py)) (hu : X.A.in1.in1.units + 40 < cLine)
    (hkS : s.heap.objs.size ≤ kS) (ha : s.heap.objs.size ≤ a) (hka : kS ≠ a) (I0 : KeyInv X σ H M s kS a e1 (xs.map g) 0 s0)
    (h : ∀ (Hj : Hp) (s' : Shared) (out : List Value) (c : Nat), Un (frs X.stack) [] H Hj s.heap s'.heap → Grow H Hj → HOk X.prog X.w Hj s'.heap → RM X.K Hj M → AllBare s'.gens → s'.os = s.os → s'.heap.get? a = some (seqObj "list" (List.toArray out) c) → Hj a = none →
      KeyedOut false ((xs.map g).map D.py) vs out → P (.done (.ret .none)) s') :
    wpAny (model X.prog X.w) X.A.in1.in1 (ksk_rest a f false vs.toArray e1 (.ref kS)) P E s0 := by
  unfold ksk_rest
  refine wpAny_bind (wpAny_rule ?_)
  first
    | rw [List.forIn_toArray]
    | (rw [← Array.forIn_toList]; simp only [List.toList_toArray])
    | rw [← Array.forIn_toList]
  have hxl : xs.length = vs.length := l.length.trans rv.length
  have fsk : kS ∉ frs X.stack := fun z => (List.mem_cons.mp (I.stkSub _ z)).elim (fun z => absurd (Nat.lt_of_lt_of_le I.lt (by rw [← z]; exact hkS)) (Nat.lt_irrefl _)) (I.nofs hkS)
  have fsa : a ∉ frs X.stack := fun z => (List.mem_cons.mp (I.stkSub _ z)).elim (fun z => absurd (Nat.lt_of_lt_of_le I.lt (by rw [← z]; exact ha)) (Nat.lt_irrefl _)) (I.nofs ha)
  have gk : s.heap.get? kS = none := Heap.get?_none_of_le hkS
  have ga : s.heap.get? a = none := Heap.get?_none_of_le ha
  refine wpAny_bind (ksk_fold (fun i s' => KeyInv X σ H M s kS a e1 (xs.map g) i s') vs 0 s0 I0 ?step ?done)
  case step =>
    rintro j x s' hx ⟨Hj, kA, e, us, un, gr, hk, rm, bare, os, nk, na, fk, fa, vk, lk⟩
    rw [Nat.zero_add] at lk ⊢
    have hj : j < vs.length := (List.getElem?_eq_some_iff.mp hx).1
    obtain ⟨d, hd⟩ : ∃ d, xs[j]? = some d := ⟨_, List.getElem?_eq_getElem (by omega)⟩
    have hdm : d ∈ xs := List.mem_of_getElem? hd
    obtain ⟨v, hv, rd⟩ := l.get hd
    obtain ⟨u, hu', ru⟩ := rv.get hv
    rw [hx] at hu'
    cases hu'
    have J : Inv X pins σ Hj s' := I.call' (ch := []) os un hk bare (fun b z => absurd z (by simp))
    have run := kr Hj s' d v x hdm un gr J rm (rd.grow gr) ru
    refine wpAny_bind (wpAny_attempt (wpAny_mono run (fun v0 s'' he => ?_) fun _ _ hF => hF.elim))
    obtain ⟨v2, H2, os2, bare2, un2, hk2, r2, g2, rd2, rm2⟩ := he
    try dsimp only
    have nk2 : s''.heap.get? kS = some (seqObj "list" kA e) := un2.keep kS _ nk fk fsk (by simp)
    have na2 : s''.heap.get? a = some (seqObj "list" #[] e1) := un2.keep a _ na fa fsa (by simp)
    have fk2 : H2 kS = none := un2.free kS _ nk fk (by simp)
    have fa2 : H2 a = none := un2.free a _ na fa (by simp)
    have s1 := Heap.SameBut.update s''.heap kS (Obj.mapSeq (·.push v0))
    obtain ⟨c2, hc2⟩ : ∃ c2, (s''.heap.update kS (Obj.mapSeq (·.push v0))).get? kS = some (seqObj "list" (kA.push v0) c2) := ⟨_, get?_update_seq nk2 (·.push v0)⟩
    have keep : ∀ b o, b ≠ kS → b ≠ kS → s''.heap.get? b = some o → (s''.heap.update kS (Obj.mapSeq (·.push v0))).get? b = some o := fun b o hb _ e => (s1.2 b hb).trans e
    have hkl : kA.size ≤ vs.length := by
      have h1 := vk.length
      have h2 := lk.length
      have h3 : kA.toList.length = kA.size := Array.length_toList
      rw [List.length_take, List.length_map] at h2
      omega
    refine wpAny_bind (listUpdate_at nk2 rfl ?_ (Nat.le_trans hkl hz) (Nat.le_trans (Nat.le_of_eq (Array.size_push ..)) (Nat.succ_le_succ (Nat.le_trans hkl hz))))
    refine wpAny_pure ⟨rfl, ⟨H2, kA.push v0, c2, us ++ [v2], un_side (un.trans un2) gk gk keep, gr.trans g2, hok_side hk2 fk2 fk2 keep, rm2, bare2, os2.trans os, hc2, (s1.2 a hka.symm).trans na2, fk2, fa2, ?_, ?_⟩⟩
    · have ea : (kA.push v0).toList = kA.toList ++ [v0] := by simp
      rw [ea]
      exact vals_snoc vk r2
    · rw [take_snoc (x := g d) (by rw [List.getElem?_map, hd]; rfl)]
      exact (lk.grow g2).append (.one rd2)
  case done =>
    rintro s' ⟨Hj, kA, e, us, un, gr, hk, rm, bare, os, nk, na, fk, fa, vk, lk⟩
    rw [Nat.zero_add, List.take_of_length_le (by rw [List.length_map]; omega)] at lk
    have J : Inv X pins σ Hj s' := I.call' (ch := []) os un hk bare (fun b z => absurd z (by simp))
    have hk' : EachIs (fun v k => ∃ as, Reads s'.heap v k as) kA.toList ((xs.map g).map D.py) := PySem.W.each_map (R := fun v k => ∃ as, Reads s'.heap v k as) D.py (reads_each J lk vk hok)
    have hsz : kA.size = vs.length := by
      have h1 := vk.length
      have h2 := lk.length
      have h3 : kA.toList.length = kA.size := Array.length_toList
      rw [List.length_map] at h2
      omega
    obtain ⟨G, g1, g2⟩ := restrict s'.heap (fun b => decide (b ≠ kS))
    have kp : KeepsBut a G s'.heap := fun b o hb e => by
      by_cases q : b = kS
      · rw [q, g2 kS (by simp)] at e
        cases e
      · rw [g1 b (by simp [q])] at e
        exact e
    refine wpAny_bind (listItems_at nk rfl ?_)
    refine keyH_end (κ := dataKind s'.heap ((xs.map g).map D.py)) (h₁ := G) kp (g2 kS (by simp)) nk na hka (sortsAt_tups hk' hal hsk fun q hq => ?_) hsz hz fun h3 tk3 c k3 n3 => ?_
    · obtain ⟨b, hb', rfl⟩ := List.mem_map.mp hq
      have := (dOk_lay 32 b (List.all_eq_true.mp hok b hb')).2
      omega
    have keep3 : ∀ b o, b ≠ a → b ≠ kS → s'.heap.get? b = some o → h3.get? b = some o := fun b o hb hk e => k3 b o hb (by rw [g1 b (by simp [hk])]; exact e)
    exact h Hj { s' with heap := h3, toks := tk3 } _ c (un_side un ga gk keep3) gr (hok_side hk fa fk keep3) rm bare os n3 fa ⟨s'.heap, kA.toList, hal, rfl, hk'⟩
/-- sorted(xs, key=f) behind the evaluation of its arguments -/
theorem sort_core {f : Value} {pins : List (Addr × Obj)} {σ : SL} {H : Hp} {M : DM} {s : Shared} {d : D} {v : V} {u : Value} {xs : List D} {g : D → D} {Q : VK} {Q' : DVK} (I : Inv X pins σ H s) (rv : Rep X.K H d v) (r : RelV v u) (m : RM X.K H M) (hd : dItems d M = some xs) (hnt : d ≠ .tup xs)
    (hf : ∀ a : Addr, Builtin.«list.sort» ⟨[.ref a], [(Str.ofString "key", f)]⟩ = ksk_tree a f false) (kr : KeyRun X pins σ H M s f xs g) (hu : X.A.in1.in1.units + 40 < cLine) (hok : (xs.map g).all (dOk 32) = true) (hal : AllAlike ((xs.map g).map D.py)) (hsk : SortOk ((xs.map g).map D.py))
    (q : ∀ p, M p = none → Q' (.ref p) (mput M p (.lst (xs.mergeSort (dataLe false fun x => D.py (g x)))))) (kk : ∀ d v M' H', Grow H H' → Rep X.K H' d v → RM X.K H' M' → Q' d M' → Q v H') :
    wpAny (model X.prog X.w) X.A (call (.builtin "sorted") [u] [(Str.ofString "key", f)]) (EP X pins σ Q) X.xe s := by
  obtain ⟨b, xv, rfl, z, l3, h6⟩ := lst_of rv m hd hnt
  obtain ⟨its, r2, pl, _⟩ := I.list h6
  obtain rfl : u = Value.ref b := r
  have hz : its.length ≤ sizeLine := by rw [← r2.length]; exact z
  refine sorted_of_sort pl.isList hz (ksk_s1 _ _) (fun _ => ksk_l1 _ _) fun E' => ?_
  rw [hf]
  obtain ⟨a, hae⟩ : ∃ a, a = s.heap.objs.size + 1 := ⟨_, rfl⟩
  rw [← hae]
  have ho : (copyHeap s.heap its).get? a = some (seqObj "list" its.toArray 0) := by rw [hae]; exact copyHeap_at s.heap its
  have hla : a < (copyHeap s.heap its).objs.size := Heap.lt_size ho
  obtain ⟨e1, ho1⟩ : ∃ e1, ((copyHeap s.heap its).update a (Obj.mapSeq fun _ => (#[] : Array Value))).get? a = some (seqObj "list" #[] e1) := ⟨_, get?_update_seq ho fun _ => #[]⟩
  have hkS : (((copyHeap s.heap its).update a (Obj.mapSeq fun _ => (#[] : Array Value))).push (seqObj "tuple" its.toArray 0)).objs.size = (copyHeap s.heap its).objs.size + 1 := by rw [size_push', Heap.size_update]
  have old : ∀ b o, s.heap.get? b = some o → (sortingHeap (copyHeap s.heap its) a its).get? b = some o := fun b o q => sortingHeap_old (Nat.ne_of_lt (Nat.lt_of_lt_of_le (Heap.lt_size q) (by rw [hae]; exact Nat.le_succ _))) (copyHeap_old q)
  have ga : s.heap.get? a = none := Heap.get?_none_of_le (by omega)
  have fa0 : H a = none := I.hok.fresh (by omega)
  unfold ksk_tree
  refine wpAny_bind (listItems_at ho rfl ?_)
  refine wpAny_bind (listUpdate_at ho rfl ?_ (by rw [List.size_toArray]; exact hz) (Nat.zero_le _))
  refine wpAny_bind (seqEpoch_at ho1 rfl ?_)
  refine wpAny_bind (wpAny_newTuple ?_ (by show its.length ≤ _; exact hz))
  refine wpAny_bind (wpAny_newList ?_ (Nat.zero_le _))
  refine wpAny_holding ?_
  have szk : s.heap.objs.size ≤ (((copyHeap s.heap its).update a (Obj.mapSeq fun _ => (#[] : Array Value))).push (seqObj "tuple" its.toArray 0)).objs.size := by rw [hkS]; omega
  refine key_loop (kS := (((copyHeap s.heap its).update a (Obj.mapSeq fun _ => (#[] : Array Value))).push (seqObj "tuple" its.toArray 0)).objs.size) kr I l3 r2 hz hok hal hsk hu szk (by omega) (Nat.ne_of_gt (by rw [hkS]; omega))
    ⟨H, #[], 0, [], Un.kept old, .refl H, I.hok.kept old, m, I.bare, rfl, Heap.get?_push_size _ rfl, Heap.get?_push_of_some _ (Heap.get?_push_of_some _ ho1), I.hok.fresh szk, fa0, .nil, .nil⟩ fun Hj s' out c un gr hk rm bare os na fa ko => ⟨rfl, ?_⟩
  have ko' : KeyedOut false (xs.map fun x => D.py (g x)) its out := by
    rw [List.map_map] at ko
    exact ko
  obtain ⟨vs', h7, h8⟩ := each_rel (keyedOut_each (fun x => D.py (g x)) ko' (rel_each (l3.grow gr) r2))
  have hlen : vs'.length ≤ sizeLine := by
    rw [← h8.length, List.length_mergeSort, l3.length]
    exact z
  exact ⟨.ref a, upd Hj a (.lst vs'), I.call' (ch := []) os (un_adopt un ga fa0 fa) (hok_adopt hk fa ⟨hlen, out, c, h7, na⟩) bare (fun b z => absurd z (by simp)), rfl,
    kk _ _ _ _ (gr.trans (.new fa)) (.ref _) (rm.newLst fa hlen h8) (q _ (rm.free fa))⟩
theorem c_sortK {k f : Nat} {fd : FuncData} {ps : List Str} {dsp : DSp} (F : FnOk X.prog X.w X.K X.mg X.base CX0 k f fd ps (upSp X.K dsp)) (hb : Binds X.K fd ps []) (hr : Room k X.A.in1.in1) :
    CallRK X (.builtin "sorted") [Str.ofString "key"] (fun vs zs H Q => zs = [V.ref f] ∧ upC X.K (rSortK dsp) vs H Q) := by
  intro pins s σ H vs zs us ws Q I r rz ⟨ez, ds, M, Q', l, m, ⟨d, xs, g, e, hd, hnt, pure, hok, hal, hsk, q⟩, kk⟩
  subst e
  subst ez
  obtain ⟨v, e, rv⟩ := repL_one l
  subst e
  obtain ⟨u, eu, ru⟩ := vals1 r
  subst eu
  obtain ⟨w1, rfl, e1⟩ := vals1 rz
  obtain rfl : w1 = Value.ref f := e1
  have hu : X.A.in1.in1.units + 40 < cLine := by
    have := hr.un
    omega
  refine sort_core I rv ru m hd hnt (fun a => ksk_t1 _ a) (fun Hj s' d v x hdm un gr J rm rd ru => ?_) hu hok hal hsk q kk
  have hsp : upSp X.K dsp [v] Hj (fun v H' => Grow Hj H' ∧ Rep X.K H' (g d) v ∧ RM X.K H' M) E0 :=
    ⟨[d], M, fun y M' => y = g d ∧ M' = M, .one rd, rm, pure d hdm _ ⟨rfl, rfl⟩, fun y v' M' H' g1 r1 m1 ⟨h1, h2⟩ => by subst h1 h2; exact ⟨g1, r1, m1⟩⟩
  refine wpAny_call (codeAny_mono (F.run X.A.in1.in1 X.stack s' Hj ⟨[x], []⟩ [x] [v] _ E0 hr J.env0.in1.in1 (hb s' [x] J.kIn (F.len [v] Hj _ E0 hsp)) (.cons ru .nil) hsp) fun r s'' hq => ?_)
  cases r with
  | error e => exact False.elim hq
  | ok fl =>
    cases fl with
    | ret u => exact hq
    | next => exact False.elim hq
    | brk => exact False.elim hq
    | cont => exact False.elim hq
/-- sorted(e, key=x) -/
theorem d_sortK {k : Nat} {x : Str} {ps : List Str} {dsp : DSp} {e : Expr} {p p2 kp pos : Pos} {t : DTA} (C : Cal X.prog X.w X.K X.mg X.base k x ps dsp) (hr : Room k X.A.in1.in1) (hg : Gl X x) (hgs : Gl X "sorted") (hms : X.mg "sorted" = none) (ha : DA X [e] t)
    (hdb : (x == ("__debug__" : Str)) = false := by decide) (he : backTo pos (starEach [e] X.env) = [(false, eval e X.env)] := by rfl) (hpl : (backTo pos (starEach [e] X.env)).any (·.1) = false := by rfl)
    (hall : (backToKw pos (keywordEach [⟨some (Str.ofString "key"), .Name x p2, kp⟩] X.env)).all (·.1.isSome) = true := by rfl) (hnone : (backToKw pos (keywordEach [⟨some (Str.ofString "key"), .Name x p2, kp⟩] X.env)).any (·.1.isNone) = false := by rfl)
    (hks : (backToKw pos (keywordEach [⟨some (Str.ofString "key"), .Name x p2, kp⟩] X.env)).filterMap (·.1) = [Str.ofString "key"] := by rfl) :
    DE X (.Call (.Name "sorted" p) [e] [⟨some (Str.ofString "key"), .Name x p2, kp⟩] pos) (dCB (rSortK dsp) t) := by
  obtain ⟨f, fd, F, hm, hk, hb⟩ := C.ex
  refine imE (pe_callBK (c_sortK F hb hr) hgs hms boot_sorted ha (pk_cons (pe_glob (v := .ref f) hg hm rfl hdb) pk_nil) (by decide) (by decide) he hpl hall hnone hks) fun σ H Q ⟨m, M, Q', r, q, kk⟩ => ?_
  refine ⟨m, M, _, r, q, fun ds vs M1 H1 g1 l1 m1 q1 => ?_⟩
  exact ⟨rfl, ds, M1, Q', l1, m1, q1, fun d v M2 H2 g2 => kk d v M2 H2 (g1.trans g2)⟩
end
end DL
/-! reversed, zip, a tuple times a number -/
namespace DL
open PySem PySem.Spec PyProof.Rows L2

section
variable {X : Cx} {tg e e2 : Expr} {te : DTE} {t : DTA} {p p2 pos pos2 : Pos}
/-! ### for .. in reversed(a tuple or a frozen list) -/
def diRev (te : DTE) : DTI := fun m M Q => te m M fun d M1 => ∃ xs, (d = .tup xs ∨ d = .lst xs) ∧ Q (xs.reverse, none) M1
theorem rev_at {α : Type} {xs : List α} {i : Nat} (h : i < xs.length) : xs.reverse[i]? = xs[xs.length - 1 - i]? := List.getElem?_reverse h
theorem di_rev (hg : Gl X "reversed") (hm : X.mg "reversed" = none) (he : DE X e te) (hs : starEach [e] X.env = (false, eval e X.env) :: starEach [] X.env := by rfl) : DI X tg (.Call (.Name "reversed" p) [e] [] pos) (diRev te) :=
  imI (RT.pi_revA hg hm he hs) fun σ H Q ⟨m, M, Q', r, q, k⟩ => by
    refine ⟨m, M, _, r, q, fun d v M1 H1 g1 r1 m1 ⟨xs, e1, q1⟩ => ?_⟩
    rcases e1 with e1 | e1
    · subst e1
      cases r1 with
      | @tup _ a vs hf z l =>
        have hl := l.length
        refine ⟨a, vs, rfl, .inr ⟨hf, k _ M1 H1 _ g1 m1 q1 ⟨?_, fun i H2 ok hi => ?_, fun i H2 x H3 ok hi y => ?_, fun H2 ok => ?_⟩⟩⟩
        · show xs.reverse.length ≤ sizeLine
          rw [List.length_reverse, hl]
          exact z
        · have hi' : i < xs.length := by rw [← List.length_reverse (as := xs)]; exact hi
          obtain ⟨w, e3, _⟩ := l.get (i := xs.length - 1 - i) (List.getElem?_eq_getElem (by omega))
          exact ⟨by omega, vs, w, sqT_grow hf ok.1, by rw [← hl]; exact e3⟩
        · have hi' : i < xs.length := by rw [← List.length_reverse (as := xs)]; exact hi
          obtain ⟨e3, hx⟩ := y
          subst e3
          have hx' := hx vs (sqT_grow hf ok.1)
          rw [← hl] at hx'
          obtain ⟨d, e5, rd⟩ := l.get' hx'
          exact ⟨.refl _, fun _ q => q, d, by show xs.reverse[i]? = _; rw [rev_at hi']; exact e5, rd.grow ok.1⟩
        · show vs.length ≤ xs.reverse.length
          rw [List.length_reverse, hl]
          exact Nat.le_refl _
    · subst e1
      cases r1 with
      | @lst _ a vs hf z l =>
        have hl := l.length
        refine ⟨a, vs, rfl, .inl ⟨hf.seq, k _ M1 H1 _ g1 m1 q1 ⟨?_, fun i H2 ok hi => ?_, fun i H2 x H3 ok hi y => ?_, fun H2 ok => ?_⟩⟩⟩
        · show xs.reverse.length ≤ sizeLine
          rw [List.length_reverse, hl]
          exact z
        · have hi' : i < xs.length := by rw [← List.length_reverse (as := xs)]; exact hi
          obtain ⟨w, e3, _⟩ := l.get (i := xs.length - 1 - i) (List.getElem?_eq_getElem (by omega))
          exact ⟨by omega, vs, w, (hf.grow ok.1).seq, by rw [← hl]; exact e3⟩
        · have hi' : i < xs.length := by rw [← List.length_reverse (as := xs)]; exact hi
          obtain ⟨e3, hx⟩ := y
          subst e3
          have hx' := hx vs (hf.grow ok.1).seq
          rw [← hl] at hx'
          obtain ⟨d, e5, rd⟩ := l.get' hx'
          exact ⟨.refl _, fun _ q => q, d, by show xs.reverse[i]? = _; rw [rev_at hi']; exact e5, rd.grow ok.1⟩
        · show vs.length ≤ xs.reverse.length
          rw [List.length_reverse, hl]
          exact Nat.le_refl _
/-! ### tuple(reversed(a list)) -/
def dTupRev (te : DTE) : DTE := fun m M Q => te m M fun d M1 => ∃ xs, dItems d M1 = some xs ∧ d ≠ .tup xs ∧ Q (.tup xs.reverse) M1
theorem d_tupRev (hc : X.calm = true) (hg : Gl X "tuple") (hm : X.mg "tuple" = none) (hg2 : Gl X "reversed") (hm2 : X.mg "reversed" = none) (he : DE X e te)
    (hs : starEach [e] X.env = (false, eval e X.env) :: starEach [] X.env := by rfl)
    (hs2 : starEach [.Call (.Name "reversed" p2) [e] [] pos2] X.env = (false, eval (.Call (.Name "reversed" p2) [e] [] pos2) X.env) :: starEach [] X.env := by rfl) :
    DE X (.Call (.Name "tuple" p) [.Call (.Name "reversed" p2) [e] [] pos2] [] pos) (dTupRev te) :=
  imE (RT.pe_tupRev hc hg hm hg2 hm2 he hs hs2) fun σ H Q ⟨m, M, Q', r, q, k⟩ => by
    refine ⟨m, M, _, r, q, fun d v M1 H1 g1 r1 m1 ⟨xs, e1, hn, q1⟩ => ?_⟩
    obtain ⟨a, ws, rfl, z, l3, h6⟩ := lst_of r1 m1 e1 hn
    refine ⟨a, ws, rfl, h6, fun c hc => ?_⟩
    have g2 : Grow H1 (upd H1 c (.tup ws.reverse)) := .new hc
    exact k _ _ M1 _ (g1.trans g2) (.tup (.of upd_same) (by rw [List.length_reverse]; exact z) (l3.reverse.grow g2)) (m1.new hc) q1
/-! ### for (..) in zip(two tuples) -/
def zipD : List D → List D → List D
  | x :: xs, y :: ys => .tup [x, y] :: zipD xs ys
  | _, _ => []
theorem zipD_len : ∀ xs ys : List D, (zipD xs ys).length = min xs.length ys.length
  | [], ys => by simp [zipD]
  | x :: xs, [] => by simp [zipD]
  | x :: xs, y :: ys => by
    rw [zipD, List.length_cons, List.length_cons, List.length_cons, zipD_len xs ys]
    omega
theorem zipD_get : ∀ {xs ys : List D} {i : Nat} {x y : D}, xs[i]? = some x → ys[i]? = some y → (zipD xs ys)[i]? = some (.tup [x, y])
  | [], _, _, _, _, h, _ => by simp at h
  | _ :: _, [], _, _, _, _, h => by simp at h
  | x :: xs, y :: ys, 0, a, b, h1, h2 => by
    simp at h1 h2
    subst h1 h2
    rfl
  | x :: xs, y :: ys, i + 1, a, b, h1, h2 => by
    rw [zipD, List.getElem?_cons_succ]
    exact zipD_get (by simpa using h1) (by simpa using h2)
def diZip (t : DTA) : DTI := fun m M Q => t m M fun ds M1 => ∃ xs ys, ds = [.tup xs, .tup ys] ∧ Q (zipD xs ys, none) M1
theorem di_zip {elts : List Expr} {kk : Nat} {tpos : Pos} (hg : Gl X "zip") (hm : X.mg "zip" = none) (ha : DA X [e, e2] t)
    (hs : starEach [e, e2] X.env = (false, eval e X.env) :: starEach [e2] X.env := by rfl) (hpl : (backTo pos (starEach [e2] X.env)).any (·.1) = false := by rfl) :
    DI X (.Tuple elts kk tpos) (.Call (.Name "zip" p) [e, e2] [] pos) (diZip t) :=
  imI (RZ.pi_zipA hg hm ha hs hpl) fun σ H Q ⟨m, M, Q', r, q, k⟩ => by
    refine ⟨m, M, _, r, q, fun ds vs M1 H1 g1 r1 m1 ⟨xs, ys, e1, q1⟩ => ?_⟩
    subst e1
    obtain ⟨v, w, e2, rv, rw'⟩ := repL_two r1
    subst e2
    cases rv with
    | @tup _ a vs hf z l =>
      cases rw' with
      | @tup _ b ws hf2 z2 l2 =>
        have hl := l.length
        have hl2 := l2.length
        have hlen : (zipD xs ys).length = min xs.length ys.length := zipD_len xs ys
        refine ⟨a, b, vs, ws, rfl, .inr ⟨hf, hf2, k _ M1 H1 _ g1 m1 q1 ⟨?_, fun i H2 ok hi => ?_, fun i H2 x H3 ok hi y => ?_, fun H2 ok => ?_⟩⟩⟩
        · show (zipD xs ys).length ≤ sizeLine
          rw [hlen]
          omega
        · have hi' : i < min xs.length ys.length := by rw [← hlen]; exact hi
          obtain ⟨w1, e3, _⟩ := l.get (i := i) (List.getElem?_eq_getElem (by omega))
          obtain ⟨w2, e4, _⟩ := l2.get (i := i) (List.getElem?_eq_getElem (by omega))
          exact ⟨vs, ws, w1, w2, sqT_grow hf ok.1, sqT_grow hf2 ok.1, e3, e4⟩
        · obtain ⟨T, x1, y1, e3, hT, e4, hx, hy⟩ := y
          subst e3
          subst e4
          obtain ⟨d1, e5, rd1⟩ := l.get' (hx _ (sqT_grow hf ok.1))
          obtain ⟨d2, e6, rd2⟩ := l2.get' (hy _ (sqT_grow hf2 ok.1))
          refine ⟨.new hT, fun M2 rm => rm.new hT, .tup [d1, d2], zipD_get e5 e6, ?_⟩
          exact .tup (.of upd_same) (by show 2 ≤ sizeLine; decide) (.cons (rd1.grow (ok.1.trans (.new hT))) (.cons (rd2.grow (ok.1.trans (.new hT))) .nil))
        · refine ⟨vs, ws, sqT_grow hf ok.1, sqT_grow hf2 ok.1, ?_⟩
          show vs.length ≤ (zipD xs ys).length ∨ ws.length ≤ (zipD xs ys).length
          rw [hlen]
          omega
end
/-! ### a tuple, times 0 or 1 -/
theorem tuple_mul1 (l : Addr) (items : Array Value) (n : Nat) (dd : Option Addr) (sl : Array (Option Value)) (u : Tok) :
    Meets (Builtin.«tuple.__mul__» ⟨[.ref l, .int 1 u], []⟩) (fun _ R s => s.heap.get? l = some { cls := .type "tuple", dict := dd, data := .seq items n, slots := sl } ∧ R (.ok (.ret (Value.ref l))) s) :=
  .of_wp fun prog w A R s h => by
    obtain ⟨hp, g, d, tk, os⟩ := s
    obtain ⟨hl, h⟩ := h
    have f1 := AutoSeq1.idx_int
    wp_walk using wpAny_loadPart' hl
    exact ⟨_, rfl, h⟩
theorem tuple_mul0 (l : Addr) (items : Array Value) (n : Nat) (dd : Option Addr) (sl : Array (Option Value)) (u : Tok) (c1 : (items.isEmpty || (0 : Int) == 1) = false) :
    Meets (Builtin.«tuple.__mul__» ⟨[.ref l, .int 0 u], []⟩) (fun _ R s => s.heap.get? l = some { cls := .type "tuple", dict := dd, data := .seq items n, slots := sl } ∧
      R (.ok (.ret (Value.ref s.heap.objs.size))) { s with heap := s.heap.push { cls := Value.type "tuple", data := Data.seq #[] }, toks := s.toks }) :=
  .of_wp fun prog w A R s h => by
    obtain ⟨hp, g, d, tk, os⟩ := s
    obtain ⟨hl, h⟩ := h
    have f1 := AutoSeq1.idx_int
    wp_walk using wpAny_loadPart' hl
    repeat (first
      | (refine wpAny_ite_false (decide_eq_false (by rw [c1]; exact Bool.false_ne_true)) ?_; wp_walk using wpAny_loadPart' hl))
    exact ⟨_, rfl, h⟩
def rRep01 (K : PySem.W.Frag) : R2 := fun x y H Q => ∃ l k xs, x = .ref l ∧ y = .int k ∧ SqT K H l xs ∧ xs ≠ [] ∧ ((k = 1 ∧ Q (.ref l) H) ∨ (k = 0 ∧ ∀ p, H p = none → Q (.ref p) (upd H p (.tup []))))
section
variable {X : Cx}
theorem op_rep01 : OpR X (binaryOp .Mult) (rRep01 X.K) := by
  intro pins s σ H x y v u Q I rx ry h
  obtain ⟨l, k, xs, rfl, rfl, hT, hne, h⟩ := h
  cases rx
  obtain ⟨t, rfl⟩ := ry
  obtain ⟨its, r, ⟨⟨cls, dd, data, sl⟩, ho, hc, n, hd⟩, hs⟩ := I.tuple hT
  simp only at hc hd
  subst hc hd
  have hle : its.length = xs.length := r.length.symm
  have hn : its ≠ [] := fun e => hne (by
    rw [e] at hle
    exact List.eq_nil_of_length_eq_zero hle.symm)
  have hi : its.toArray.isEmpty = false := by
    cases its with
    | nil => exact absurd rfl hn
    | cons a b => rfl
  rcases h with ⟨rfl, q⟩ | ⟨rfl, q⟩
  · refine wpAny_binaryOp_repeat_ref (T := "tuple") (U := "int") (by decide) ⟨_, ho, rfl⟩ (fun s' => typeIs_int s' 1 t) noFill_tuple_mul F.fills_int_mul F.slot_int_rmul repeat_tuple F.slot_int_index.lookup
      (call_meets F.slot_int_rmul (typeIs_int s 1 t) F.entry_int_rmul (F.args_int_rmul_2 _ _) (int_rmul_tuple 1 t l its.toArray n dd sl)
        ⟨ho, rfl, ⟨_, ho, rfl⟩, call_meets F.slot_tuple_mul ⟨_, ho, rfl⟩ F.entry_tuple_mul (F.args_tuple_mul_2 _ _) (tuple_mul1 l its.toArray n dd sl t) ⟨ho, ?_⟩⟩)
    exact ⟨.ref l, H, I, rfl, q⟩
  · refine wpAny_binaryOp_repeat_ref (T := "tuple") (U := "int") (by decide) ⟨_, ho, rfl⟩ (fun s' => typeIs_int s' 0 t) noFill_tuple_mul F.fills_int_mul F.slot_int_rmul repeat_tuple F.slot_int_index.lookup
      (call_meets F.slot_int_rmul (typeIs_int s 0 t) F.entry_int_rmul (F.args_int_rmul_2 _ _) (int_rmul_tuple 0 t l its.toArray n dd sl)
        ⟨ho, rfl, ⟨_, ho, rfl⟩, call_meets F.slot_tuple_mul ⟨_, ho, rfl⟩ F.entry_tuple_mul (F.args_tuple_mul_2 _ _) (tuple_mul0 l its.toArray n dd sl t (by rw [hi]; rfl)) ⟨ho, ?_⟩⟩)
    refine ⟨.ref s.heap.objs.size, _, I.laid (t' := s.toks) (o := .tup []) (fun b ob q => Heap.get?_push_of_some _ q) (Nat.le_refl _) ?_, rfl, q _ (I.hok.fresh (Nat.le_refl _))⟩
    exact ⟨Nat.zero_le _, [], .nil, IsTup.new _ _⟩
/-- a tuple * int -/
def dMulT : DR2 := fun x y M Q => ∃ xs k, x = .tup xs ∧ y = .int k ∧ xs ≠ [] ∧ 0 ≤ k ∧ k ≤ 1000 ∧ xs.length ≤ 1000 ∧ Q (.tup (List.replicate k.toNat xs).flatten) M
theorem o_mulT : DOp X (binaryOp .Mult) dMulT := by
  intro pins s σ H x y v u Q I rx ry ⟨d, e, M, Q', r1, r2, m, ⟨xs, k, e1, e2, hne, h0, h1, hz, q⟩, kk⟩
  subst e1 e2
  cases r2
  cases r1 with
  | @tup _ a vs hf z l =>
    have hl := l.length
    have hvn : vs ≠ [] := fun e => hne (by
      rw [e] at hl
      exact List.eq_nil_of_length_eq_zero hl)
    by_cases c1 : k = 1
    · subst c1
      have er : (List.replicate (1 : Int).toNat xs).flatten = xs := by simp
      rw [er] at q
      exact op_rep01 pins s σ H _ _ v u Q I rx ry ⟨a, 1, vs, rfl, rfl, hf, hvn, .inl ⟨rfl, kk _ _ M H (.refl H) (.tup hf z l) m q⟩⟩
    · by_cases c0 : k = 0
      · subst c0
        have er : (List.replicate (0 : Int).toNat xs).flatten = [] := by simp
        rw [er] at q
        exact op_rep01 pins s σ H _ _ v u Q I rx ry ⟨a, 0, vs, rfl, rfl, hf, hvn, .inr ⟨rfl, fun p hp => kk _ _ M _ (.new hp) (.tup (.of upd_same) (Nat.zero_le _) .nil) (m.new hp) q⟩⟩
      · refine op_repT pins s σ H _ _ v u Q I rx ry ⟨a, k, vs, rfl, rfl, hf, hvn, by omega, h1, by omega, fun p hp => ?_⟩
        have g2 : Grow H (upd H p (.tup (List.replicate k.toNat vs).flatten)) := .new hp
        refine kk _ _ M _ g2 (.tup (.of upd_same) ?_ ((RepL.rep l _).grow g2)) (m.new hp) q
        rw [PyProof.Rows.lm_len_rep_flat, sizeLine_eq]
        have a1 : k.toNat * vs.length ≤ 1000 * 1000 := Nat.mul_le_mul (by omega) (by omega)
        omega
end
end DL
/-! dicts whose keys are tuples -/
namespace DL
open PySem PySem.Spec PyProof.Rows L2

/-! ### keys -/
mutual
theorem nk_inj : ∀ {a b : D}, kOk a = true → kOk b = true → nk a = nk b → a = b
  | .int i, b, _, hb, e => by cases b <;> simp_all [nk, kOk]
  | .str x, b, _, hb, e => by cases b <;> simp_all [nk, kOk]
  | .non, b, _, hb, e => by cases b <;> simp_all [nk, kOk]
  | .tup xs, .tup ys, ha, hb, e => by
    rw [nk, nk] at e
    injection e with e
    rw [nks_inj (xs := xs) (ys := ys) (by simpa [kOk] using ha) (by simpa [kOk] using hb) e]
  | .tup xs, .int _, _, _, e => by simp [nk] at e
  | .tup xs, .str _, _, _, e => by simp [nk] at e
  | .tup xs, .non, _, _, e => by simp [nk] at e
  | .tup xs, .bl _, _, hb, _ => by simp [kOk] at hb
  | .tup xs, .lst _, _, hb, _ => by simp [kOk] at hb
  | .tup xs, .dct _, _, hb, _ => by simp [kOk] at hb
  | .tup xs, .ref _, _, hb, _ => by simp [kOk] at hb
  | .tup xs, .ty _, _, hb, _ => by simp [kOk] at hb
  | .bl _, _, ha, _, _ => by simp [kOk] at ha
  | .lst _, _, ha, _, _ => by simp [kOk] at ha
  | .dct _, _, ha, _, _ => by simp [kOk] at ha
  | .ref _, _, ha, _, _ => by simp [kOk] at ha
  | .ty _, _, ha, _, _ => by simp [kOk] at ha
theorem nks_inj : ∀ {xs ys : List D}, kOks xs = true → kOks ys = true → nks xs = nks ys → xs = ys
  | [], [], _, _, _ => rfl
  | [], y :: ys, _, _, e => by simp [nks] at e
  | x :: xs, [], _, _, e => by simp [nks] at e
  | x :: xs, y :: ys, ha, hb, e => by
    rw [kOks, Bool.and_eq_true] at ha hb
    rw [nks, nks] at e
    injection e with e1 e2
    rw [nk_inj ha.1 hb.1 e1, nks_inj ha.2 hb.2 e2]
end
section
variable {X : Cx} {pins : List (Addr × Obj)} {σ : SL} {H : Hp} {s : Shared}
mutual
theorem Rep.nested (I : Inv X pins σ H s) : ∀ {d : D} {v : V} {u : Value}, Rep X.K H d v → RelV v u → kOk d = true → NestedIs s.heap (nk d) u
  | _, _, _, .non, r, _ => by cases r; exact .none
  | _, _, _, .int i, r, _ => by
    obtain ⟨t, rfl⟩ := r
    exact .int i t
  | _, _, _, .str x, r, _ => by
    obtain ⟨t, rfl⟩ := r
    exact .text x t
  | _, _, _, .tup hs z l, r, h => by
    cases r
    obtain ⟨its, rv, ⟨o, h1, h2, n, h3⟩, hz⟩ := I.tuple hs
    exact .tup h1 h2 h3 (RepL.nested I l rv (by simpa [kOk] using h))
  | _, _, _, .bl _, _, h => by simp [kOk] at h
  | _, _, _, .lst _ _ _, _, h => by simp [kOk] at h
  | _, _, _, .ref _, _, h => by simp [kOk] at h
  | _, _, _, .ty _, _, h => by simp [kOk] at h
  | _, _, _, .dct _ _ _, _, h => by simp [kOk] at h
theorem RepL.nested (I : Inv X pins σ H s) : ∀ {ds : List D} {vs : List V} {us : List Value}, RepL X.K H ds vs → Vals vs us → kOks ds = true → NestedAll s.heap (nks ds) us
  | _, _, _, .nil, .nil, _ => .nil
  | _, _, _, .cons a l, .cons r rs, h => by
    rw [kOks, Bool.and_eq_true] at h
    exact .cons (Rep.nested I a r h.1) (RepL.nested I l rs h.2)
end
/-! ### what a dict's object says -/
abbrev EsXs : List (NestedKey × Addr × V) → List (NestedKey × Addr × Value) → Prop := Paired fun p q => p.1 = q.1 ∧ p.2.1 = q.2.1 ∧ RelV p.2.2 q.2.2
theorem RepKV.is {K : PySem.W.Frag} (I : Inv X pins σ H s) (hK : K = X.K) : ∀ {kvs : List (D × D)} {es : List (NestedKey × Addr × V)} {xs : List (NestedKey × Addr × Value)}, RepKV K H kvs es → EsXs es xs → ∀ x ∈ xs, (nestedKind X.prog X.w).is s.heap x.1 x.2.1
  | _, _, _, .nil, .nil, x, hx => nomatch hx
  | _, _, _, .cons a b c d e, .cons ⟨h1, h2, _⟩ t, x, hx => by
    subst hK
    rcases List.mem_cons.mp hx with rfl | hx
    · rw [← h1, ← h2]
      exact ⟨Rep.nested I a rfl b, c⟩
    · exact RepKV.is I rfl e t x hx
theorem dict_of {a : Addr} {kvs : List (D × D)} {es : List (NestedKey × Addr × V)} (I : Inv X pins σ H s) (h : H a = some (DictO X.w a es)) (r : RepKV X.K H kvs es) :
    (a == sysModules) = false ∧ ∃ xs, EsXs es xs ∧ s.heap.DictOfH (nestedKind X.prog X.w) a xs := by
  obtain ⟨⟨xs, pr, ⟨o, ents, ep, h1, h2, h3, h4⟩, nd, hs⟩, _, _⟩ := I.hok a _ h
  exact ⟨hs, xs, pr, o, ents, ep, h1, h2, h3, h4, RepKV.is I rfl r pr, nd⟩
theorem dict_new {P : Program} {w : World} {H' : Hp} {h : Heap} {a : Addr} {es : List (NestedKey × Addr × V)} {xs : List (NestedKey × Addr × Value)} (hs : (a == sysModules) = false) (pr : EsXs es xs) (dd : h.DictOfH (nestedKind P w) a xs) : ObjOk P w H' h a (DictO w a es) := by
  obtain ⟨o, ents, ep, h1, h2, h3, h4, _, nd⟩ := dd
  refine ⟨⟨xs, pr, ⟨o, ents, ep, h1, h2, h3, h4⟩, nd, hs⟩, ⟨o, h1⟩, fun g1 g2 ⟨ys, py, ⟨o', en, e', k1, k2, k3, k4⟩, nd', hs'⟩ k => ⟨ys, py, ⟨o', en, e', k o' k1, k2, k3, k4⟩, nd', hs'⟩⟩
/-! ### looking up, storing -/
def atV (es : List (NestedKey × Addr × V)) (k : NestedKey) : Option V := (es.find? fun x => decide (x.1 = k)).map fun x => x.2.2
def dget (kvs : List (D × D)) (k : D) : Option D := (kvs.find? fun p => decide (nk p.1 = nk k)).map (·.2)
def dhas (kvs : List (D × D)) (k : D) : Bool := kvs.any fun p => decide (nk p.1 = nk k)
def dput (kvs : List (D × D)) (k v : D) : List (D × D) := if dhas kvs k = true then kvs.map fun p => if nk p.1 = nk k then (p.1, v) else p else kvs ++ [(k, v)]
def storeV (es : List (NestedKey × Addr × V)) (k : NestedKey) (b : Addr) (y : V) : List (NestedKey × Addr × V) := if (es.any fun x => decide (x.1 = k)) = true then es.map fun x => if x.1 = k then (x.1, x.2.1, y) else x else es ++ [(k, b, y)]
theorem atV_at : ∀ {es : List (NestedKey × Addr × V)} {xs : List (NestedKey × Addr × Value)} {k : NestedKey}, EsXs es xs → RelO (atV es k) ((atKey xs k).map (·.2))
  | _, _, k, .nil => by
    show RelO none none
    trivial
  | _, _, k, .cons (a := p) (b := q) ⟨h1, h2, h3⟩ t => by
    have ih := atV_at (k := k) t
    unfold atV atKey at ih ⊢
    rw [List.find?_cons, List.find?_cons, ← h1]
    cases decide (p.1 = k) with
    | true => exact h3
    | false => exact ih
theorem dget_at {K : PySem.W.Frag} : ∀ {kvs : List (D × D)} {es : List (NestedKey × Addr × V)} {k : D}, RepKV K H kvs es → (dget kvs k = none ∧ atV es (nk k) = none) ∨ ∃ d y, dget kvs k = some d ∧ atV es (nk k) = some y ∧ Rep K H d y
  | _, _, k, .nil => .inl ⟨rfl, rfl⟩
  | _, _, k, .cons (k := k1) a b c d e => by
    have ih := dget_at (k := k) e
    unfold dget atV at ih ⊢
    rw [List.find?_cons, List.find?_cons]
    show (_ ∧ _) ∨ _
    cases hk : decide (nk k1 = nk k) with
    | true => exact .inr ⟨_, _, rfl, rfl, d⟩
    | false => exact ih
theorem any_at : ∀ {es : List (NestedKey × Addr × V)} {xs : List (NestedKey × Addr × Value)} {k : NestedKey}, EsXs es xs → (atKey xs k).isSome = es.any fun x => decide (x.1 = k)
  | _, _, k, .nil => rfl
  | _, _, k, .cons (a := p) (b := q) ⟨h1, h2, h3⟩ t => by
    have ih := any_at (k := k) t
    unfold atKey at ih ⊢
    rw [List.find?_cons, List.any_cons, ← h1]
    cases decide (p.1 = k) with
    | true => rfl
    | false => exact ih
theorem EsXs.put {k : NestedKey} {y : V} {r : Value} (ry : RelV y r) : ∀ {es : List (NestedKey × Addr × V)} {xs : List (NestedKey × Addr × Value)}, EsXs es xs → EsXs (es.map fun x => if x.1 = k then (x.1, x.2.1, y) else x) (xs.map (putAt k r))
  | _, _, .nil => .nil
  | _, _, .cons (a := p) (b := q) h t => by
    refine .cons ?_ (EsXs.put ry t)
    obtain ⟨h1, h2, h3⟩ := h
    by_cases c : p.1 = k
    · have hq : q.1 = k := by rw [← h1]; exact c
      simp only [putAt, if_pos c, if_pos hq]
      exact ⟨h1, h2, ry⟩
    · have hq : ¬ q.1 = k := by rw [← h1]; exact c
      simp only [putAt, if_neg c, if_neg hq]
      exact ⟨h1, h2, h3⟩
theorem EsXs.store {es : List (NestedKey × Addr × V)} {xs : List (NestedKey × Addr × Value)} {k : NestedKey} {b : Addr} {y : V} {r : Value} (p : EsXs es xs) (ry : RelV y r) : EsXs (storeV es k b y) (storedH xs k b r) := by
  unfold storeV storedH
  rw [any_at p]
  split
  · exact EsXs.put ry p
  · exact Paired.snoc p ⟨rfl, rfl, ry⟩
theorem has_any {K : PySem.W.Frag} {k : D} : ∀ {kvs : List (D × D)} {es : List (NestedKey × Addr × V)}, RepKV K H kvs es → (es.any fun x => decide (x.1 = nk k)) = dhas kvs k
  | _, _, .nil => rfl
  | _, _, .cons _ _ _ _ e => by
    have ih := has_any (k := k) e
    unfold dhas at ih ⊢
    rw [List.any_cons, List.any_cons, ih]
theorem RepKV.len {K : PySem.W.Frag} : ∀ {kvs : List (D × D)} {es : List (NestedKey × Addr × V)}, RepKV K H kvs es → kvs.length = es.length
  | _, _, .nil => rfl
  | _, _, .cons _ _ _ _ e => by rw [List.length_cons, List.length_cons, RepKV.len e]
theorem RepKV.put {K : PySem.W.Frag} {k v : D} {y : V} (rv : Rep K H v y) : ∀ {kvs : List (D × D)} {es : List (NestedKey × Addr × V)}, RepKV K H kvs es →
    RepKV K H (kvs.map fun p => if nk p.1 = nk k then (p.1, v) else p) (es.map fun x => if x.1 = nk k then (x.1, x.2.1, y) else x)
  | _, _, .nil => .nil
  | _, _, .cons (k := k1) a b c d e => by
    rw [List.map_cons, List.map_cons]
    by_cases h : nk k1 = nk k
    · rw [if_pos h, if_pos h]
      exact .cons a b c rv (RepKV.put rv e)
    · rw [if_neg h, if_neg h]
      exact .cons a b c d (RepKV.put rv e)
theorem RepKV.snoc {K : PySem.W.Frag} {k v : D} {b : Addr} {y : V} (rk : Rep K H k (.ref b)) (hk : kOk k = true) (hd : (nk k).depth ≤ 8) (rv : Rep K H v y) : ∀ {kvs : List (D × D)} {es : List (NestedKey × Addr × V)}, RepKV K H kvs es → RepKV K H (kvs ++ [(k, v)]) (es ++ [(nk k, b, y)])
  | _, _, .nil => .cons rk hk hd rv .nil
  | _, _, .cons a b c d e => .cons a b c d (RepKV.snoc rk hk hd rv e)
theorem RepKV.store {K : PySem.W.Frag} {k v : D} {b : Addr} {y : V} {kvs : List (D × D)} {es : List (NestedKey × Addr × V)} (r : RepKV K H kvs es) (rk : Rep K H k (.ref b)) (hk : kOk k = true) (hd : (nk k).depth ≤ 8) (rv : Rep K H v y) :
    RepKV K H (dput kvs k v) (storeV es (nk k) b y) := by
  unfold dput storeV
  rw [has_any r]
  split
  · exact RepKV.put rv r
  · exact RepKV.snoc rk hk hd rv r
theorem storeV_len (es : List (NestedKey × Addr × V)) (k : NestedKey) (b : Addr) (y : V) : (storeV es k b y).length ≤ es.length + 1 := by
  unfold storeV
  split
  · rw [List.length_map]
    omega
  · rw [List.length_append, List.length_singleton]
    exact Nat.le_refl _
/-- d[k] = v -/
theorem dict_set {a b : Addr} {k : D} {y : V} {r : Value} {kvs : List (D × D)} {es : List (NestedKey × Addr × V)} {Q : Unit → Shared → Prop} {E : Value → Shared → Prop} (hu : X.A.units + 8 < cLine) (I : Inv X pins σ H s) (h : H a = some (DictO X.w a es)) (rkv : RepKV X.K H kvs es)
    (hz : es.length ≤ sizeLine) (rk : Rep X.K H k (.ref b)) (hk : kOk k = true) (hd : (nk k).depth ≤ 8) (ry : RelV y r) (cont : ∀ s', Inv X pins σ (upd H a (DictO X.w a (storeV es (nk k) b y))) s' → Q () s') :
    wpAny (model X.prog X.w) X.A (dictSet a (.ref b) r) Q E s := by
  obtain ⟨hs, xs, pr, dd⟩ := dict_of I h rkv
  have hl : xs.length ≤ sizeLine := by rw [← pr.length]; exact hz
  refine wpAny_dictSet_heap (knd := nestedKind X.prog X.w) (hsz := hl) hu ⟨Rep.nested I rk rfl hk, hd⟩ dd fun h' dd' hsb => cont _ ?_
  obtain ⟨o', _, _, ho', _⟩ := id dd'
  exact d_write I (by rw [h]; exact True.intro) hsb ⟨o', ho'⟩ (dict_new hs (EsXs.store pr ry) dd')
end
/-! ### the mutable part -/
/-- a code object is no dict -/
theorem code_ne_dict {w : World} {p : Addr} {q : Str} {es : List (NestedKey × Addr × V)} : LamX.CodeO p q ≠ DictO w p es := fun z => by
  unfold LamX.CodeO DictO at z
  injection z with z
  have hg : (⟨Array.replicate (p + 1) { cls := .none, data := .fields #[.none, .str q 0] }, {}⟩ : Heap).get? p = some { cls := .none, data := .fields #[.none, .str q 0] } := by
    show (match (Array.replicate (p + 1) ({ cls := .none, data := .fields #[.none, .str q 0] } : Obj))[p]? with | some ⟨_, _, .freed, _⟩ => none | o => o) = _
    rw [Array.getElem?_replicate, if_pos (Nat.lt_succ_self p)]
  have h1 : (fun h : Heap => ∃ (oc : Obj) (vs : Array Value) (t : Tok), h.get? p = some oc ∧ oc.data = .fields vs ∧ vs[1]? = some (.str q t)) ⟨Array.replicate (p + 1) { cls := .none, data := .fields #[.none, .str q 0] }, {}⟩ := ⟨_, _, 0, hg, rfl, rfl⟩
  rw [z] at h1
  obtain ⟨xs, _, ⟨o, ents, ep, e1, _, e3, _⟩, _⟩ := h1
  rw [hg] at e1
  cases e1
  cases e3
theorem Grow.dct {H : Hp} {w : World} {p : Addr} {es : List (NestedKey × Addr × V)} {o : HO} (h : H p = some (DictO w p es)) : Grow H (upd H p o) :=
  ⟨fun b xs e => by rw [upd_ne (ne_of e h (by intro z; cases z))]; exact e, fun b q u e => by rw [upd_ne (ne_of e h (by intro z; cases z))]; exact e, fun b q e => by
    by_cases hb : b = p
    · subst hb
      rw [h] at e
      exact absurd (Option.some.inj e).symm code_ne_dict
    · rw [upd_ne hb]
      exact e⟩
theorem RM.putDct {K : PySem.W.Frag} {H : Hp} {M : DM} {w : World} {p : Addr} {es es' : List (NestedKey × Addr × V)} {kvs : List (D × D)} (h : RM K H M) (hp : H p = some (DictO w p es)) (hz : es'.length ≤ sizeLine) (l : RepKV K H kvs es') :
    RM K (upd H p (DictO w p es')) (mput M p (.dct w kvs)) := fun a q e => by
  have g : Grow H (upd H p (DictO w p es')) := Grow.dct hp
  by_cases ha : a = p
  · subst ha
    rw [mput_same] at e
    cases e
    exact ⟨es', upd_same, hz, l.grow g⟩
  · rw [mput_ne ha] at e
    exact (h a q e).stay (upd_ne ha) g
theorem RM.newDct {K : PySem.W.Frag} {H : Hp} {M : DM} {w : World} {p : Addr} (h : RM K H M) (hp : H p = none) : RM K (upd H p (DictO w p [])) (mput M p (.dct w [])) := fun a q e => by
  by_cases ha : a = p
  · subst ha
    rw [mput_same] at e
    cases e
    exact ⟨[], upd_same, Nat.zero_le _, .nil⟩
  · rw [mput_ne ha] at e
    exact h.new hp a q e
theorem RM.dct {K : PySem.W.Frag} {H : Hp} {M : DM} {w : World} {a : Addr} {kvs : List (D × D)} (h : RM K H M) (e : M a = some (.dct w kvs)) : ∃ es, H a = some (DictO w a es) ∧ es.length ≤ sizeLine ∧ RepKV K H kvs es := h a _ e
/-! ### d.get(k) -/
section
variable {X : Cx} {o e : Expr} {apos cpos : Pos} {to te : DTE}
/-- what may be a key -/
def isKey (k : D) : Prop := (∃ xs, k = .tup xs) ∧ kOk k = true ∧ (nk k).depth ≤ 8
def dDGet1 (w : World) (to te : DTE) : DTE := fun m M Q => to m M fun d M1 => ∃ a, d = .ref a ∧ (∃ kvs, M1 a = some (.dct w kvs)) ∧ te m M1 fun k M2 => ∃ kvs, M2 a = some (.dct w kvs) ∧ isKey k ∧ Q ((dget kvs k).getD .non) M2
theorem d_dget1 {w : World} (hw : X.w = w) (hu : X.A.units + 9 < cLine) (ho : DE X o to) (he : DE X e te) (m : M1 X o "get" apos e cpos := by exact ⟨by rfl, by rfl, by rfl, by rfl⟩) : DE X (.Call (.Attribute o "get" apos) [e] [] cpos) (dDGet1 w to te) := by
  subst hw
  refine ⟨fun pins s σ H Q I ⟨m0, M, Q', r, q, kk⟩ => ?_⟩
  refine wpAny_Call_method m.base m.few m.line PySem.F.plainAttrs_dict PySem.F.slot_dict_get PySem.F.type_dict_get (thn (ho.run pins s σ H (fun x H1 => ∃ a M1, x = .ref a ∧ Grow H H1 ∧ RM X.K H1 M1 ∧ (∃ kvs, M1 a = some (.dct X.w kvs)) ∧ te m0 M1 fun k M2 => ∃ kvs, M2 a = some (.dct X.w kvs) ∧ isKey k ∧ Q' ((dget kvs k).getD .non) M2) I
    ⟨m0, M, _, r, q, fun d v M1 H1 g1 r1 m1 ⟨a, e1, h1, q1⟩ => by subst e1; cases r1; exact ⟨a, M1, rfl, g1, m1, h1, q1⟩⟩) fun u s1 ⟨x, H1, I1, rx, a, M1, ex, g1, m1, ⟨kvs, hk⟩, q1⟩ => ?_)
  subst ex
  obtain rfl : u = Value.ref a := rx
  obtain ⟨es, h1, hz, rkv⟩ := m1.dct hk
  obtain ⟨hs, xs, pr, dd⟩ := dict_of I1 h1 rkv
  refine ⟨dd.typeIs, fun b hb => ?_, ?_⟩
  · cases hb
    obtain ⟨ob, _, _, k1, k2, _⟩ := dd
    exact ⟨ob, k1, k2.2.1⟩
  rw [m.trees]
  refine Calls.callWith_builtin rfl (Calls.evalArgs_plain (Calls.spliced_cons (thn (he.run pins s1 σ H1 (fun y H2 => ∃ k M2 kvs, Rep X.K H2 k y ∧ Grow H H2 ∧ RM X.K H2 M2 ∧ M2 a = some (.dct X.w kvs) ∧ isKey k ∧ Q' ((dget kvs k).getD .non) M2) I1
    ⟨m0, M1, _, r.grow g1 m1, q1, fun d v M2 H2 g2 r2 m2 ⟨kvs, e1, ky, q2⟩ => ⟨d, M2, kvs, r2, g1.trans g2, m2, e1, ky, q2⟩⟩) fun iv s2 ⟨y, H2, I2, ry, k, M2, kvs2, r2, g2, m2, e2, ⟨⟨ks, ek⟩, hok, hdp⟩, q2⟩ => Calls.spliced_nil ?_)))
  subst ek
  cases r2 with
  | @tup _ b vs hf z l =>
    obtain rfl : iv = Value.ref b := ry
    obtain ⟨es2, h2, hz2, rkv2⟩ := m2.dct e2
    obtain ⟨hs2, xs2, pr2, dd2⟩ := dict_of I2 h2 rkv2
    have rk : Rep X.K H2 (.tup ks) (.ref b) := .tup hf z l
    refine call_meetsIn PySem.F.slot_dict_get dd2.typeIs PySem.F.entry_dict_get (PySem.F.args_dict_get_2 _ _) (meetsH_dict_get (nestedKind X.prog X.w) a b hs2) ⟨?_, nk (.tup ks), xs2, ⟨Rep.nested I2 rk rfl hok, hdp⟩, dd2, ?_⟩
    · show X.A.units + 1 + 8 < cLine
      omega
    · have ra := atV_at (k := nk (.tup ks)) pr2
      rcases dget_at (k := .tup ks) rkv2 with ⟨n1, n2⟩ | ⟨d, y', n1, n2, rd⟩
      · rw [n2] at ra
        rw [n1] at q2
        cases ha : (atKey xs2 (nk (.tup ks))).map (·.2) with
        | some v => rw [ha] at ra; exact ra.elim
        | none => exact ⟨.non, H2, I2.tok _, rfl, kk _ _ M2 H2 g2 .non m2 q2⟩
      · rw [n2] at ra
        rw [n1] at q2
        cases ha : (atKey xs2 (nk (.tup ks))).map (·.2) with
        | some v =>
          rw [ha] at ra
          exact ⟨y', H2, I2.tok _, ra, kk _ _ M2 H2 g2 rd m2 q2⟩
        | none => rw [ha] at ra; exact ra.elim
end
end DL
/-! {k: v for .. in ..}, the keys tuples -/
namespace DL
open PySem PySem.Spec PyProof.Rows L2

section
variable {X : Cx}
/-- the reading over V: D the new dict -/
def tDcN (K : PySem.W.Frag) (w : World) (wi : TI) (g : TG) (tt : TT) (tk tv : TE) (vs : List Nat) : TE := fun σ H Q => wi σ H fun J H1 => ∀ da, H1 da = none → ∃ W : Nat → Nat → Hp → Prop, (∃ m, W 0 m (upd H1 da (DictO w da []))) ∧
  ∀ i m H, W i m H → (J.stop i H ∧ Q (.ref da) H) ∨ (J.go i H ∧ ∃ Nx : Hp → Prop, (∀ H', Nx H' → ∃ m', m' < m ∧ W (i + 1) m' H') ∧ ∀ x H', J.yld i H x H' → g x (wipe σ vs) H' fun σ2 H2 => wipe σ2 vs = wipe σ vs ∧ tt σ2 H2 fun c H3 =>
    if c = true then tk σ2 H3 fun y H4 => tv σ2 H4 fun z H5 => ∃ (k : D) (b : Addr) (kvs : List (D × D)) (es : List (NestedKey × Addr × V)), y = .ref b ∧ H5 da = some (DictO w da es) ∧ RepKV K H5 kvs es ∧ es.length ≤ sizeLine ∧ Rep K H5 k (.ref b) ∧ kOk k = true ∧ (nk k).depth ≤ 8 ∧
      Nx (upd H5 da (DictO w da (storeV es (nk k) b z))) else Nx H3)
theorem empty_dict {P : Program} {w : World} {H : Hp} (h : Heap) (hb : sysModules < h.objs.size) : ObjOk P w H (h.push { cls := .type "dict", data := .dict #[] }) h.objs.size (DictO w h.objs.size []) :=
  dict_new (P := P) (beq_eq_false_iff_ne.mpr (Ne.symm (Nat.ne_of_lt hb))) .nil (Heap.DictOfH.new h)
theorem dc_core {pins : List (Addr × Obj)} {s : Shared} {σ : SL} {H : Hp} {Q : VK} {pos' : Pos} {use : Option (Value → Sem Unit)} {Qf : Value → Shared → Prop} {kx vx tg iter : Expr} {ifs : List Expr} {scope : Scope} {own : List (Str × Nat)} {pos : Pos} {wi : TI} {g : TG} {tt : TT} {tk tv : TE} (hu : X.A.units + 8 < cLine) (hc : X.calm = true) (hN : X.N.Nodup) (hi : PI X tg iter wi) (ok : BlkOk X.N X.env.scope scope own)
    (pg : ∀ (s : Shared) (H : Hp) (C : Addr) (cl : List (Str × Addr)) (fp : List Addr), PG (X.blk s H scope (compEnvC scope cl C X.env) fp) tg g)
    (pt : ∀ (s : Shared) (H : Hp) (C : Addr) (cl : List (Str × Addr)) (fp : List Addr), PTs (X.blk s H scope (compEnvC scope cl C X.env) fp) ifs tt)
    (pk : ∀ (s : Shared) (H : Hp) (C : Addr) (cl : List (Str × Addr)) (fp : List Addr), PE (X.blk s H scope (compEnvC scope cl C X.env) fp) kx tk)
    (pv : ∀ (s : Shared) (H : Hp) (C : Addr) (cl : List (Str × Addr)) (fp : List Addr), PE (X.blk s H scope (compEnvC scope cl C X.env) fp) vx tv) (hs : ∀ x, foldedSetIterable iter X.env x = pure x) (I : Inv X pins σ H s)
    (q0 : tDcN X.K X.w wi g tt tk tv (own.map (·.2)) σ H Q) (hRR : ∀ D C s' m H', Inv X pins σ H' s' → Q (.ref D) H' → s'.heap.Ns C m → FpOk X pins H' C → compPost (model X.prog X.w) X.A X.xe use Qf (.ref D) C (.ok .next) s') :
    wpAny (model X.prog X.w) X.A (comprehension (.DictComp kx vx [⟨tg, iter, ifs, 0⟩] scope pos) scope X.env pos' newDict false (eval iter X.env) use) Qf X.xe s := by
  have cap : ∀ y ∈ scope.names, y.2 = .free → ∃ c, X.env.cells.lookup y.1 = some c := by
    intro y hy e
    exact (ok.free y hy e).elim (fun z => I.ok.has _ (.inl z)) fun z => I.ok.has _ (.inr z)
  refine wpAny_comprehension_free (use := use) rfl hs (closure_ok cap) ok.kind (fun y hy e => by rw [ok.uniq y hy, e]) (thn (hi.run pins s σ H _ I q0) fun src sa wa => thn wa fun out sb wb => ?_)
  obtain ⟨itA, ch, tn, J, Hb, rfl, Ib, Tn, stb, fpb, cont⟩ := wb
  refine wpAny_newObj_type (newEnv_comp ?_)
  -- the new dict
  obtain ⟨da, eda⟩ : ∃ da, da = sb.heap.objs.size := ⟨_, rfl⟩
  have nda : Hb da = none := Ib.hok.fresh (by rw [eda]; exact Nat.le_refl _)
  obtain ⟨W, ⟨m0, w0⟩, turn⟩ := cont da nda
  obtain ⟨sc, esc⟩ : ∃ sc : Shared, sc = { sb with heap := sb.heap.push { cls := .type "dict", data := .dict #[] } } := ⟨_, rfl⟩
  obtain ⟨Hc, eHc⟩ : ∃ Hc : Hp, Hc = upd Hb da (DictO X.w da []) := ⟨_, rfl⟩
  have hsc : sc.heap = sb.heap.push { cls := .type "dict", data := .dict #[] } := by rw [esc]
  have Ic : Inv X pins σ Hc sc := by
    rw [eHc, esc, eda]
    exact Ib.laid (t' := sb.toks) (fun b o e => Heap.get?_push_of_some _ e) (Nat.le_refl _) (empty_dict sb.heap Ib.big)
  have fpc : ∀ b ∈ ch, FpOk X pins Hc b ∧ b < sc.heap.objs.size := by
    intro b hb
    obtain ⟨o, e, _⟩ := Tn.obj _ _ stb b hb
    have lt := Heap.lt_size e
    constructor
    · refine ⟨?_, (fpb b hb).2⟩
      rw [eHc, upd_ne (by rw [eda]; exact Nat.ne_of_lt lt)]
      exact (fpb b hb).1
    · rw [hsc, Heap.size_push]
      exact Nat.lt_succ_of_lt lt
  have stc : tn 0 sc.heap := Tn.keep _ _ _ stb fun b _ o e => by rw [hsc]; exact Heap.get?_push_of_some _ e
  have Id := block_start Ic ok hN fpc
  rw [← eHc] at w0
  obtain ⟨cl, ecl⟩ : ∃ cl, cl = cellsFrom (sc.heap.objs.size + 1) scope.names (cloFrom X.env.cells scope.names []) := ⟨_, rfl⟩
  obtain ⟨ce, ece⟩ : ∃ ce : Env, ce = compEnvC scope cl sc.heap.objs.size X.env := ⟨_, rfl⟩
  obtain ⟨sd, esd⟩ : ∃ sd : Shared, sd = { sc with heap := pushCells (sc.heap.push { cls := .type "dict", data := .dict #[] }) scope.names } := ⟨_, rfl⟩
  suffices main : codeAny (model X.prog X.w) X.A (.compStart (.DictComp kx vx [⟨tg, iter, ifs, 0⟩] scope pos) 0 (.ref itA) (.ref da) ce) (compPost (model X.prog X.w) X.A X.xe use Qf (.ref da) sc.heap.objs.size) sd by
    rw [ece, ecl, esd, esc, eda] at main
    exact main
  rw [← ecl, ← ece, ← esd] at Id
  have locC : ce.locals = sc.heap.objs.size := by rw [ece]; rfl
  have std : tn 0 sd.heap := Tn.keep _ _ _ stc fun b _ o e => by
    rw [esd]
    exact pushCells_keeps _ _ _ _ (Heap.get?_push_of_some _ e)
  have still : ∀ {τ : SL} {H' : Hp} {t : Shared}, Inv (X.blk sc Hc scope ce ch) [] τ H' t → (∀ b ∈ ch, H' b = none) → ∀ b ∈ ch, FpOk (X.blk sc Hc scope ce ch) [] H' b := by
    intro τ H' t J' hn b hb
    exact ⟨hn b hb, (J'.ok.exf b hb).1, J'.ok.exfs b hb, .inl hb, fun x c e => (J'.ok.exf b hb).2 x c e, fun p hp => absurd (show p ∈ ([] : List (Addr × Obj)) ++ [] from hp) (by simp)⟩
  have Pg := pg sc Hc sc.heap.objs.size cl ch
  have Pt := pt sc Hc sc.heap.objs.size cl ch
  have Pk := pk sc Hc sc.heap.objs.size cl ch
  have Pv := pv sc Hc sc.heap.objs.size cl ch
  rw [← ece] at Pg Pt Pk Pv
  have walk : codeAny (model X.prog X.w) X.A (.compLoop (.DictComp kx vx [⟨tg, iter, ifs, 0⟩] scope pos) 0 (.ref itA) (.ref da) ce) (compPost (model X.prog X.w) X.A X.xe use Qf (.ref da) sc.heap.objs.size) sd := by
    refine compLoop_anyD (fun n t => ∃ i H', Inv (X.blk sc Hc scope ce ch) [] (wipe σ (own.map (·.2))) H' t ∧ tn i t.heap ∧ (∀ b ∈ ch, H' b = none) ∧ W i n H') (fun n t ⟨i, Ht, It, stt, nt, wt⟩ => ?_) m0 ⟨0, Hc, Id, std, fun b hb => (fpc b hb).1.1, w0⟩
    rcases turn i n Ht wt with ⟨stop, fin⟩ | ⟨go, Nx, less, step⟩
    · refine thnF (Tn.done (X.blk sc Hc scope ce ch) rfl rfl rfl hc i [] t _ Ht (fun _ _ => False) It (still It nt) stt stop) fun r t1 ⟨hr, I1⟩ => ?_
      subst hr
      have I2 : Inv X pins σ Ht t1 := Ic.call' (ch := ch) I1.os I1.base I1.hok I1.bare fun b hb => by
        obtain ⟨_, f1, _, f3, f4, f5⟩ := (fpc b hb).1
        exact ⟨f3, f1, f4, f5⟩
      have nC : Ht sc.heap.objs.size = none := by
        have z : Ht ce.locals = none := I1.free
        rwa [locC] at z
      obtain ⟨mm, hm, _⟩ := I1.loc
      have hm : t1.heap.Ns ce.locals mm := hm
      rw [locC] at hm
      exact hRR da _ t1 mm Ht I2 fin hm (Ic.fpOk (Nat.le_refl _) nC)
    · refine thnF (Tn.item (X.blk sc Hc scope ce ch) rfl rfl rfl hc i [] t _ Ht (fun _ _ => False) It (still It nt) stt go) fun r t1 ⟨u, hr, hu1⟩ => ?_
      subst hr
      refine thnF hu1 fun _ t2 ⟨x, H2, I2, rx, y2, st2, n2⟩ => ?_
      refine thnF (Pg.run _ t2 _ H2 x u _ (I2.pinned (still I2 n2) (Tn.obj _ _ st2)) rx (step x H2 y2)) fun _ t3 ⟨σ3, H3, I3, hw, q3⟩ => ?_
      refine thnF (Pt.run _ t3 σ3 H3 _ I3 q3) fun c t4 ⟨H4, I4, q4⟩ => ?_
      have close : ∀ {t' : Shared} {H' : Hp}, Inv (X.blk sc Hc scope ce ch) ([] ++ pinsAt ch t2.heap) σ3 H' t' → Nx H' → ∃ m, m < n ∧ ∃ i H', Inv (X.blk sc Hc scope ce ch) [] (wipe σ (own.map (·.2))) H' t' ∧ tn i t'.heap ∧ (∀ b ∈ ch, H' b = none) ∧ W i m H' := by
        intro t' H' I' nx
        obtain ⟨m', hm, w'⟩ := less H' nx
        have held : ∀ b ∈ ch, ∀ o, t2.heap.get? b = some o → t'.heap.get? b = some o ∧ H' b = none := by
          intro b hb o e
          have z := I'.pin (b, o) (List.mem_append_right _ (List.mem_append_right _ (mem_pinsAt hb e)))
          exact ⟨z.1, z.2.1⟩
        refine ⟨m', hm, i + 1, H', (I'.unpinned (pins := [])).weak (by rw [← hw, wipe_length]) (fun j v e => ?_), Tn.keep _ _ _ st2 fun b hb o e => (held b hb o e).1, fun b hb => ?_, w'⟩
        · rw [← hw] at e
          exact (wipe_some e).1
        · obtain ⟨o, e, _⟩ := Tn.obj _ _ st2 b hb
          exact (held b hb o e).2
      cases c with
      | false =>
        simp only [Bool.false_eq_true, if_false] at q4 ⊢
        exact close I4 q4
      | true =>
        simp only [if_true] at q4 ⊢
        refine thnF (Pk.run _ t4 σ3 H4 _ I4 q4) fun z t5 ⟨yk, H5, I5, r5, q5⟩ => ?_
        refine thnF (Pv.run _ t5 σ3 H5 _ I5 q5) fun z2 t6 ⟨yv, H6, I6, r6, k, b, kvs, es, ek, h6, rkv, hz, rk, hk, hd, nx⟩ => ?_
        subst ek
        obtain rfl : z = Value.ref b := r5
        exact dict_set (X := X.blk sc Hc scope ce ch) hu I6 h6 rkv hz rk hk hd r6 fun t7 I7 => close I7 nx
  exact codeAny_compStart_dict walk (Tn.self X.A 0 _ _ _ std walk)
theorem pe_dcN {kx vx tg iter : Expr} {ifs : List Expr} {scope : Scope} {own : List (Str × Nat)} {pos : Pos} {wi : TI} {g : TG} {tt : TT} {tk tv : TE} (hu : X.A.units + 8 < cLine) (hc : X.calm = true) (hN : X.N.Nodup) (hi : PI X tg iter wi) (ok : BlkOk X.N X.env.scope scope own)
    (pg : ∀ (s : Shared) (H : Hp) (C : Addr) (cl : List (Str × Addr)) (fp : List Addr), PG (X.blk s H scope (compEnvC scope cl C X.env) fp) tg g)
    (pt : ∀ (s : Shared) (H : Hp) (C : Addr) (cl : List (Str × Addr)) (fp : List Addr), PTs (X.blk s H scope (compEnvC scope cl C X.env) fp) ifs tt)
    (pk : ∀ (s : Shared) (H : Hp) (C : Addr) (cl : List (Str × Addr)) (fp : List Addr), PE (X.blk s H scope (compEnvC scope cl C X.env) fp) kx tk)
    (pv : ∀ (s : Shared) (H : Hp) (C : Addr) (cl : List (Str × Addr)) (fp : List Addr), PE (X.blk s H scope (compEnvC scope cl C X.env) fp) vx tv) (hs : ∀ x, foldedSetIterable iter X.env x = pure x := by intro _; rfl) :
    PE X (.DictComp kx vx [⟨tg, iter, ifs, 0⟩] scope pos) (tDcN X.K X.w wi g tt tk tv (own.map (·.2))) := by
  refine ⟨fun pins s σ H Q I q0 => ?_⟩
  rw [arm_eval_DictComp]
  refine dc_core (Qf := EP X pins σ Q) hu hc hN hi ok pg pt pk pv hs I q0 fun D C s' m H' I' q hn f => ?_
  obtain ⟨f0, f1, f2, f3, f4, f5⟩ := f
  exact ⟨m, hn, fun h'' sb' => ⟨.ref D, H', I'.turned (t' := s'.toks) (fun b o hb e => (sb'.2 b hb).trans e) f0 f1 f3 f4 f5, rfl, q⟩⟩
theorem ps_setDc {i : Nat} {y : Str} {py spos : Pos} {kx vx tg iter : Expr} {ifs : List Expr} {scope : Scope} {own : List (Str × Nat)} {pos : Pos} {wi : TI} {g : TG} {tt : TT} {tk tv : TE} (hu : X.A.units + 8 < cLine) (hc : X.calm = true) (hN : X.N.Nodup) (hy : X.N[i]? = some y) (hyl : X.env.scope.names.lookup y = some .local)
    (hsw : swapsWith (.DictComp kx vx [⟨tg, iter, ifs, 0⟩] scope pos) (some (.Name y py)) spos.line X.env = pure true) (hi : PI X tg iter wi) (ok : BlkOk X.N X.env.scope scope own)
    (pg : ∀ (s : Shared) (H : Hp) (C : Addr) (cl : List (Str × Addr)) (fp : List Addr), PG (X.blk s H scope (compEnvC scope cl C X.env) fp) tg g)
    (pt : ∀ (s : Shared) (H : Hp) (C : Addr) (cl : List (Str × Addr)) (fp : List Addr), PTs (X.blk s H scope (compEnvC scope cl C X.env) fp) ifs tt)
    (pk : ∀ (s : Shared) (H : Hp) (C : Addr) (cl : List (Str × Addr)) (fp : List Addr), PE (X.blk s H scope (compEnvC scope cl C X.env) fp) kx tk)
    (pv : ∀ (s : Shared) (H : Hp) (C : Addr) (cl : List (Str × Addr)) (fp : List Addr), PE (X.blk s H scope (compEnvC scope cl C X.env) fp) vx tv) (hs : ∀ x, foldedSetIterable iter X.env x = pure x := by intro _; rfl) :
    PS X (.Assign [.Name y py] (.DictComp kx vx [⟨tg, iter, ifs, 0⟩] scope pos) spos) (tAsg (tDcN X.K X.w wi g tt tk tv (own.map (·.2))) (gName i)) := by
  refine ⟨fun pins s σ H D I h => ?_⟩
  rw [exec_Assign_Name_used _ _ _ _ hsw]
  refine wpAny_bind (wpAny_standAt (wpAny_bind ?_))
  show wpAny _ X.A (do let _ ← comprehension (.DictComp kx vx [⟨tg, iter, ifs, 0⟩] scope pos) scope X.env (firstIterPos [⟨tg, iter, ifs, 0⟩] pos) newDict false (eval iter X.env) (some (assign (.Name y py) X.env))) _ _ s
  have h : tDcN X.K X.w wi g tt tk tv (own.map (·.2)) σ H (fun x H1 => gName i x σ H1 D.nx) := h
  refine wpAny_bind (thn (dc_core (Qf := fun _ s' => SP X pins D .next s') hu hc hN hi ok pg pt pk pv hs I h fun L C s' m H' I' q hn f => ?_) fun _ s' hq => wpAny_pure (wpAny_pure hq))
  show wpAny _ _ (assign (.Name y py) X.env (.ref L)) _ _ _
  refine wpAny_assign_Name (store_ok2 (v := V.ref L) I' hN hy (.inl hyl) rfl (fun s2 I2 ⟨a, sb, ha⟩ => ?_) (.inr hyl))
  obtain ⟨f0, f1, f2, f3, f4, f5⟩ := f
  have haC : C ≠ a := by
    rcases ha with z | z
    · rw [z]; exact f1
    · exact fun e => f4 y a z e.symm
  refine ⟨m, hn.sameBut sb haC, fun h3 sb3 => ?_⟩
  exact ⟨_, H', I2.turned (t' := s2.toks) (fun b o hb e => (sb3.2 b hb).trans e) f0 f1 f3 f4 f5, q⟩
theorem sw_trueD {kx vx : Expr} {gs : List Comprehension} {scope : Scope} {pos py : Pos} {y : Str} {l : Nat} {env : Env} (hk : env.scope.kind = .function) (hy : env.scope.names.lookup y = some .local) (hl : (py.line == pos.line) = true)
    (ha : (scope.names.any fun (n, k) => n == y && (k == .local || k == .cell)) = false) : swapsWith (.DictComp kx vx gs scope pos) (some (.Name y py)) l env = pure true := by
  have ky : env.kindOf y = some .local := hy
  have hb : env.blockKind = .function := by unfold Env.blockKind; rw [hk]; rfl
  unfold swapsWith
  simp only [hb, ky, ha, Expr.pos, hl]
  rfl
end
/-! ### over deep values -/
def dDcGo (w : World) (src : Src) (g : DTG) (tt : DTT) (tk tv : DTE) (m0 : DSt) (p : Addr) (Qd : List (D × D) → DM → Prop) : List D → List (D × D) → DM → Prop
  | [], acc, M => SrcV src M ∧ Qd acc M
  | d :: ds, acc, M => SrcV src M ∧ g d m0 M fun m1 M1 => tt m1 M1 fun b M2 =>
      if b = true then tk m1 M2 fun k M3 => tv m1 M3 fun v M4 => M4 p = some (.dct w acc) ∧ isKey k ∧ dDcGo w src g tt tk tv m0 p Qd ds (dput acc k v) (mput M4 p (.dct w (dput acc k v)))
      else M2 p = some (.dct w acc) ∧ dDcGo w src g tt tk tv m0 p Qd ds acc M2
def dDc (w : World) (t : DTI) (g : DTG) (tt : DTT) (tk tv : DTE) (vs : List Nat) : DTE := fun m M Q => t m M fun src M1 => src.1.length ≤ sizeLine → ∀ p, M1 p = none → dDcGo w src g tt tk tv (dwipe m vs) p (fun _ M2 => Q (.ref p) M2) src.1 [] (mput M1 p (.dct w []))
theorem dput_len (kvs : List (D × D)) (k v : D) : (dput kvs k v).length ≤ kvs.length + 1 := by
  unfold dput
  split
  · rw [List.length_map]
    omega
  · rw [List.length_append, List.length_singleton]
    exact Nat.le_refl _
section
variable {X : Cx} {kx vx tg iter : Expr} {ifs : List Expr} {scope : Scope} {own : List (Str × Nat)} {pos : Pos} {t : DTI} {g : DTG} {tt : DTT} {tk tv : DTE} {ws : List Nat}
theorem dc_up {σ : SL} {H : Hp} {m : DSt} {M : DM} {Qv : VK} {Qf : Addr → DM → Prop} {w : World} (hw : X.w = w) (hsub : ∀ i ∈ ws, i ∈ own.map (·.2)) (r : R X.K m M σ H)
    (q : t m M fun src M1 => src.1.length ≤ sizeLine → ∀ p, M1 p = none → dDcGo w src g tt tk tv (dwipe m (own.map (·.2))) p (fun _ M2 => Qf p M2) src.1 [] (mput M1 p (.dct w [])))
    (k : ∀ p M2 H2, Grow H H2 → RM X.K H2 M2 → Qf p M2 → Qv (.ref p) H2) : tDcN X.K X.w (upI X.K t) (upG X.K ws g) (upT X.K tt) (upE X.K tk) (upE X.K tv) (own.map (·.2)) σ H Qv := by
  subst hw
  refine ⟨m, M, _, r, q, fun src M1 H1 J g1 m1 q1 st p np => ?_⟩
  have q2 := q1 st.small p (m1.free np)
  have g2 : Grow H1 (upd H1 p (DictO X.w p [])) := .new np
  refine ⟨fun i n H2 => i + n = src.1.length ∧ Grow H1 H2 ∧ ∃ acc M2, acc.length ≤ i ∧ M2 p = some (.dct X.w acc) ∧ RM X.K H2 M2 ∧ dDcGo X.w src g tt tk tv (dwipe m (own.map (·.2))) p (fun _ M2 => Qf p M2) (src.1.drop i) acc M2,
    ⟨src.1.length, by omega, g2, [], _, Nat.le_refl _, mput_same, m1.newDct np, q2⟩, ?_⟩
  rintro i n H2 ⟨hl, g3, acc, M2, ha, hp, m2, q3⟩
  have r2 : R X.K (dwipe m (own.map (·.2))) M2 (wipe σ (own.map (·.2))) H2 := (r.wipe _).grow (g1.trans g3) m2
  by_cases hlt : i < src.1.length
  · rw [List.drop_eq_getElem_cons hlt] at q3
    obtain ⟨sv, q3⟩ := q3
    have so := sv.ok g3 m2
    refine .inr ⟨st.go i H2 so hlt, fun H3 => Grow H1 H3 ∧ ∃ acc M2, acc.length ≤ i + 1 ∧ M2 p = some (.dct X.w acc) ∧ RM X.K H3 M2 ∧ dDcGo X.w src g tt tk tv (dwipe m (own.map (·.2))) p (fun _ M2 => Qf p M2) (src.1.drop (i + 1)) acc M2,
      fun H3 ⟨g4, z⟩ => ⟨n - 1, by omega, by omega, g4, z⟩, fun x H3 y => ?_⟩
    obtain ⟨g4, k4, d, e4, rd⟩ := st.yld i H2 x H3 so hlt y
    have ed : d = src.1[i] := by
      rw [List.getElem?_eq_getElem hlt] at e4
      exact (Option.some.inj e4).symm
    subst ed
    refine ⟨_, _, M2, _, rd, r2.grow g4 (k4 _ m2), q3, fun m5 M5 σ5 H5 g5 r5 o5 q5 => ⟨wipe_off o5 hsub, ?_⟩⟩
    refine ⟨m5, M5, _, r5, q5, fun b M6 H6 g6 m6 q6 => ?_⟩
    have g06 : Grow H1 H6 := ((g3.trans g4).trans g5).trans g6
    cases b with
    | true =>
      refine ⟨m5, M6, _, r5.grow g6 m6, q6, fun kd kv M7 H7 g7 rk m7 q7 => ?_⟩
      refine ⟨m5, M7, _, (r5.grow g6 m6).grow g7 m7, q7, fun vd vv M8 H8 g8 rv m8 ⟨e8, ⟨⟨ks, ek⟩, hok, hdp⟩, q8⟩ => ?_⟩
      subst ek
      obtain ⟨es, h8, hz8, rkv⟩ := m8.dct e8
      cases rk with
      | @tup _ b vs hf z l =>
        have rk8 : Rep X.K H8 (.tup ks) (.ref b) := Rep.grow (.tup hf z l) g8
        have hlen : es.length < sizeLine := by
          rw [← rkv.len]
          exact Nat.lt_of_le_of_lt ha (Nat.lt_of_lt_of_le hlt st.small)
        have hz9 : (storeV es (nk (.tup ks)) b vv).length ≤ sizeLine := Nat.le_trans (storeV_len ..) hlen
        have ge : Grow H8 (upd H8 p (DictO X.w p (storeV es (nk (.tup ks)) b vv))) := Grow.dct h8
        refine ⟨.tup ks, b, acc, es, rfl, h8, rkv, hz8, rk8, hok, hdp, ((g06.trans g7).trans g8).trans ge, dput acc (.tup ks) vd, _, Nat.le_trans (dput_len ..) (Nat.succ_le_succ ha), mput_same, m8.putDct h8 hz9 (rkv.store rk8 hok hdp rv), q8⟩
    | false =>
      have q6' : M6 p = some (.dct X.w acc) ∧ dDcGo X.w src g tt tk tv (dwipe m (own.map (·.2))) p (fun _ M2 => Qf p M2) (src.1.drop (i + 1)) acc M6 := q6
      exact ⟨g06, acc, M6, by omega, q6'.1, m6, q6'.2⟩
  · have e : i = src.1.length := by omega
    subst e
    rw [List.drop_length] at q3
    exact .inl ⟨st.stop H2 (q3.1.ok g3 m2), k _ M2 H2 (g1.trans g3) m2 q3.2⟩
theorem d_dc {w : World} (hw : X.w = w) (hu : X.A.units + 8 < cLine) (hc : X.calm = true) (hN : X.N.Nodup) (hi : DI X tg iter t) (ok : BlkOk X.N X.env.scope scope own) (hsub : ∀ i ∈ ws, i ∈ own.map (·.2))
    (hg : ∀ (s : Shared) (H : Hp) (C : Addr) (cl : List (Str × Addr)) (fp : List Addr), DG (X.blk s H scope (compEnvC scope cl C X.env) fp) ws tg g)
    (ht : ∀ (s : Shared) (H : Hp) (C : Addr) (cl : List (Str × Addr)) (fp : List Addr), DPTs (X.blk s H scope (compEnvC scope cl C X.env) fp) ifs tt)
    (hk : ∀ (s : Shared) (H : Hp) (C : Addr) (cl : List (Str × Addr)) (fp : List Addr), DE (X.blk s H scope (compEnvC scope cl C X.env) fp) kx tk)
    (hv : ∀ (s : Shared) (H : Hp) (C : Addr) (cl : List (Str × Addr)) (fp : List Addr), DE (X.blk s H scope (compEnvC scope cl C X.env) fp) vx tv)
    (hs : ∀ x, foldedSetIterable iter X.env x = pure x := by intro _; rfl) : DE X (.DictComp kx vx [⟨tg, iter, ifs, 0⟩] scope pos) (dDc w t g tt tk tv (own.map (·.2))) := by
  subst hw
  exact imE (pe_dcN (wi := upI X.K t) (g := upG X.K ws g) (tt := upT X.K tt) (tk := upE X.K tk) (tv := upE X.K tv) hu hc hN hi ok hg ht hk hv hs) fun σ H Q ⟨m, M, Q', r, q, k⟩ =>
    dc_up rfl hsub r q fun p M2 H2 g2 m2 q2 => k _ _ M2 H2 g2 (.ref p) m2 q2
/-- name = {.. for ..} on one line -/
theorem ds_setDc {w : World} {y : Str} {py spos : Pos} {i : Nat} (hw : X.w = w) (hu : X.A.units + 8 < cLine) (hc : X.calm = true) (hN : X.N.Nodup) (hy : X.N[i]? = some y) (hyl : X.env.scope.names.lookup y = some .local)
    (hsw : swapsWith (.DictComp kx vx [⟨tg, iter, ifs, 0⟩] scope pos) (some (.Name y py)) spos.line X.env = pure true) (hi : DI X tg iter t) (ok : BlkOk X.N X.env.scope scope own) (hsub : ∀ i ∈ ws, i ∈ own.map (·.2))
    (hg : ∀ (s : Shared) (H : Hp) (C : Addr) (cl : List (Str × Addr)) (fp : List Addr), DG (X.blk s H scope (compEnvC scope cl C X.env) fp) ws tg g)
    (ht : ∀ (s : Shared) (H : Hp) (C : Addr) (cl : List (Str × Addr)) (fp : List Addr), DPTs (X.blk s H scope (compEnvC scope cl C X.env) fp) ifs tt)
    (hk : ∀ (s : Shared) (H : Hp) (C : Addr) (cl : List (Str × Addr)) (fp : List Addr), DE (X.blk s H scope (compEnvC scope cl C X.env) fp) kx tk)
    (hv : ∀ (s : Shared) (H : Hp) (C : Addr) (cl : List (Str × Addr)) (fp : List Addr), DE (X.blk s H scope (compEnvC scope cl C X.env) fp) vx tv)
    (hs : ∀ x, foldedSetIterable iter X.env x = pure x := by intro _; rfl) : DS X (.Assign [.Name y py] (.DictComp kx vx [⟨tg, iter, ifs, 0⟩] scope pos) spos) (dSet i (dDc w t g tt tk tv (own.map (·.2)))) := by
  subst hw
  exact imS (ps_setDc (wi := upI X.K t) (g := upG X.K ws g) (tt := upT X.K tt) (tk := upE X.K tk) (tv := upE X.K tv) hu hc hN hy hyl hsw hi ok hg ht hk hv hs) fun Z σ H ⟨m, M, Z', r, q, k⟩ =>
    dc_up (Qf := fun p M2 => Z'.nx (m.set i (some (.ref p))) M2) rfl hsub r q fun p M2 H2 g2 m2 q2 => k.nx _ M2 _ H2 g2 ((r.grow g2 m2).set (.ref p)) q2
end
theorem hu_8 {k : Nat} {A : Around} (hr : Room k A) : A.units + 8 < cLine := by
  have := hu_40 hr
  omega
theorem hu_9 {k : Nat} {A : Around} (hr : Room k A) : A.units + 9 < cLine := by
  have := hu_40 hr
  omega
/-- a comprehension over what is left, with what is gathered -/
theorem dc_ind {w : World} {src : Src} {g : DTG} {tt : DTT} {tk tv : DTE} {m0 : DSt} {p : Addr} {Qd : List (D × D) → DM → Prop} (V : List D → List (D × D) → DM → Prop) (fin : ∀ acc M, V [] acc M → SrcV src M ∧ Qd acc M)
    (step : ∀ d ds acc M (Cn : List (D × D) → DM → Prop), (∀ acc' M', V ds acc' M' → Cn acc' M') → V (d :: ds) acc M → SrcV src M ∧ g d m0 M fun m1 M1 => tt m1 M1 fun b M2 =>
      if b = true then tk m1 M2 fun k M3 => tv m1 M3 fun v M4 => M4 p = some (.dct w acc) ∧ isKey k ∧ Cn (dput acc k v) (mput M4 p (.dct w (dput acc k v))) else M2 p = some (.dct w acc) ∧ Cn acc M2) :
    ∀ ds acc M, V ds acc M → dDcGo w src g tt tk tv m0 p Qd ds acc M
  | [], acc, M, h => fin acc M h
  | d :: ds, acc, M, h => step d ds acc M (dDcGo w src g tt tk tv m0 p Qd ds) (dc_ind V fin step ds) h
theorem dput_new {kvs : List (D × D)} {k v : D} (h : dhas kvs k = false) : dput kvs k v = kvs ++ [(k, v)] := by
  unfold dput
  rw [h]
  rfl
end DL
/-! dicts whose keys are ints and texts: in the mutable part (DO.dk), or frozen: plain data (D.dct) -/
namespace DL
open PySem PySem.Spec PyProof.Rows L2

/-! ### keys -/
def isKb : D → Bool
  | .int _ => true
  | .str _ => true
  | _ => false
theorem isKb_int (i : Int) : isKb (.int i) = true := rfl
theorem isKb_str (x : Str) : isKb (.str x) = true := rfl
theorem isKb_kD (k : Key) : isKb (kD k) = true := by cases k <;> rfl
theorem isKb_ex {d : D} (h : isKb d = true) : ∃ k, d = kD k := by
  cases d with
  | int i => exact ⟨.inl i, rfl⟩
  | str x => exact ⟨.inr x, rfl⟩
  | _ => cases h
theorem nk_kD {a b : Key} : nk (kD a) = nk (kD b) ↔ a = b := by
  constructor
  · intro h
    cases a <;> cases b <;> simp [kD, nk] at h <;> simp [h]
  · intro h
    rw [h]
theorem rep_kD {K : PySem.W.Frag} {H : Hp} (k : Key) : Rep K H (kD k) (kV k) := by
  cases k with
  | inl i => exact .int i
  | inr x => exact .str x
theorem rep_kV {K : PySem.W.Frag} {H : Hp} {k : Key} {v : V} (r : Rep K H (kD k) v) : v = kV k := by
  cases k <;> cases r <;> rfl
/-- what the dict holds -/
def dDict : D → DM → Option (List (D × D))
  | .dct kvs, _ => some kvs
  | .ref a, M => match M a with
    | some (.dk kvs) => some kvs
    | _ => none
  | _, _ => none
@[simp] theorem dDict_dct {kvs : List (D × D)} {M : DM} : dDict (.dct kvs) M = some kvs := rfl
theorem dDict_ref {kvs : List (D × D)} {M : DM} {a : Addr} (h : M a = some (.dk kvs)) : dDict (.ref a) M = some kvs := by
  simp [dDict, h]
theorem dDict_put {kvs : List (D × D)} {M : DM} {a : Addr} : dDict (.ref a) (mput M a (.dk kvs)) = some kvs := dDict_ref mput_same
theorem dDict_rf {M : DM} {a : Addr} : dDict (.ref a) M = match M a with
    | some (.dk kvs) => some kvs
    | _ => none := rfl
section
variable {K : PySem.W.Frag} {H H' : Hp} {M : DM}
theorem RepK.length : ∀ {kvs : List (D × D)} {es : List (Key × V)}, RepK K H kvs es → kvs.length = es.length
  | _, _, .nil => rfl
  | _, _, .cons _ l => congrArg (· + 1) l.length
theorem RepK.get : ∀ {kvs : List (D × D)} {es : List (Key × V)} {i : Nat} {k : Key} {v : V}, RepK K H kvs es → es[i]? = some (k, v) → ∃ d, kvs[i]? = some (kD k, d) ∧ Rep K H d v
  | _, _, _, _, _, .nil, e => by simp at e
  | _, _, 0, _, _, .cons h _, e => by
    simp at e
    obtain ⟨rfl, rfl⟩ := e
    exact ⟨_, rfl, h⟩
  | _, _, i + 1, _, _, .cons _ l, e => by
    obtain ⟨d, h1, h2⟩ := RepK.get (i := i) l (by simpa using e)
    exact ⟨d, by simpa using h1, h2⟩
theorem RepK.val {k : Key} : ∀ {kvs : List (D × D)} {es : List (Key × V)}, RepK K H kvs es → (dget kvs (kD k) = none ∧ valV es k = none) ∨ ∃ d y, dget kvs (kD k) = some d ∧ valV es k = some y ∧ Rep K H d y
  | _, _, .nil => .inl ⟨rfl, rfl⟩
  | _, _, .cons (k := k1) (d := d) h l => by
    have ih := RepK.val (k := k) l
    by_cases c : k1 = k
    · subst c
      refine .inr ⟨d, _, ?_, valV_pos rfl, h⟩
      unfold dget
      rw [List.find?_cons, decide_eq_true rfl]
      rfl
    · rw [valV_neg (p := (k1, _)) c]
      unfold dget at ih ⊢
      rw [List.find?_cons, decide_eq_false (fun z => c (nk_kD.mp z))]
      exact ih
theorem RepK.has {k : Key} : ∀ {kvs : List (D × D)} {es : List (Key × V)}, RepK K H kvs es → (es.any fun kv => decide (kv.1 = k)) = dhas kvs (kD k)
  | _, _, .nil => rfl
  | _, _, .cons (k := k1) h l => by
    have ih := RepK.has (k := k) l
    unfold dhas at ih ⊢
    rw [List.any_cons, List.any_cons, ih]
    congr 1
    by_cases c : k1 = k
    · rw [decide_eq_true c, decide_eq_true (nk_kD.mpr c)]
    · rw [decide_eq_false c, decide_eq_false (fun z => c (nk_kD.mp z))]
theorem RepK.map {k : Key} {d : D} {y : V} (rd : Rep K H d y) : ∀ {kvs : List (D × D)} {es : List (Key × V)}, RepK K H kvs es → RepK K H (kvs.map fun p => if nk p.1 = nk (kD k) then (p.1, d) else p) (es.map fun kv => if kv.1 = k then (kv.1, y) else kv)
  | _, _, .nil => .nil
  | _, _, .cons (k := k1) h l => by
    rw [List.map_cons, List.map_cons]
    by_cases c : k1 = k
    · rw [if_pos (show (k1, _).1 = k from c), if_pos (show nk (kD k1, _).1 = nk (kD k) from nk_kD.mpr c)]
      exact .cons rd (RepK.map rd l)
    · rw [if_neg (show ¬ (k1, _).1 = k from c), if_neg (show ¬ nk (kD k1, _).1 = nk (kD k) from fun z => c (nk_kD.mp z))]
      exact .cons h (RepK.map rd l)
theorem RepK.snoc {k : Key} {d : D} {y : V} (rd : Rep K H d y) : ∀ {kvs : List (D × D)} {es : List (Key × V)}, RepK K H kvs es → RepK K H (kvs ++ [(kD k, d)]) (es ++ [(k, y)])
  | _, _, .nil => .cons rd .nil
  | _, _, .cons h l => .cons h (RepK.snoc rd l)
theorem RepK.put {k : Key} {d : D} {y : V} {kvs : List (D × D)} {es : List (Key × V)} (l : RepK K H kvs es) (rd : Rep K H d y) : RepK K H (dput kvs (kD k) d) (putK es k y) := by
  unfold dput putK
  rw [l.has]
  split
  · exact l.map rd
  · exact l.snoc rd
theorem RepK.keys : ∀ {kvs : List (D × D)} {es : List (Key × V)}, RepK K H kvs es → RepL K H (kvs.map (·.1)) (es.map fun x => kV x.1)
  | _, _, .nil => .nil
  | _, _, .cons (k := k) _ l => .cons (rep_kD k) (RepK.keys l)
theorem dict_at {d : D} {v : V} {kvs : List (D × D)} (r : Rep K H d v) (m : RM K H M) (e : dDict d M = some kvs) : ∃ a es, v = .ref a ∧ Rd H a (.dK es) ∧ es.length ≤ sizeLine ∧ RepK K H kvs es := by
  cases r with
  | dct h z l =>
    cases e
    exact ⟨_, _, rfl, .inr ⟨_, h⟩, z, l⟩
  | ref a =>
    cases q : M a with
    | none => simp [dDict, q] at e
    | some o =>
      cases o with
      | dk ks =>
        simp [dDict, q] at e
        subst e
        obtain ⟨es, h, z, l⟩ := m a _ q
        exact ⟨a, es, rfl, .inl h, z, l⟩
      | _ => simp [dDict, q] at e
  | _ => cases e
theorem Grow.dk {p : Addr} {es : List (Key × V)} {o : HO} (h : H p = some (.dK es)) : Grow H (upd H p o) :=
  ⟨fun b xs e => by rw [upd_ne (ne_of e h (by intro z; cases z))]; exact e, fun b q u e => by rw [upd_ne (ne_of e h (by intro z; cases z))]; exact e, fun b q e => by rw [upd_ne (ne_of e h (by intro z; cases z))]; exact e⟩
theorem RM.putDk {p : Addr} {es es' : List (Key × V)} {kvs : List (D × D)} (h : RM K H M) (hp : H p = some (.dK es)) (hz : es'.length ≤ sizeLine) (l : RepK K H kvs es') : RM K (upd H p (.dK es')) (mput M p (.dk kvs)) := fun a q e => by
  have g : Grow H (upd H p (.dK es')) := Grow.dk hp
  by_cases ha : a = p
  · subst ha
    rw [mput_same] at e
    cases e
    exact ⟨es', upd_same, hz, l.grow g⟩
  · rw [mput_ne ha] at e
    exact (h a q e).stay (upd_ne ha) g
theorem RM.newDk {p : Addr} {es : List (Key × V)} {kvs : List (D × D)} (h : RM K H M) (hp : H p = none) (hz : es.length ≤ sizeLine) (l : RepK K H kvs es) : RM K (upd H p (.dK es)) (mput M p (.dk kvs)) := fun a q e => by
  by_cases ha : a = p
  · subst ha
    rw [mput_same] at e
    cases e
    exact ⟨es, upd_same, hz, l.grow (.new hp)⟩
  · rw [mput_ne ha] at e
    exact h.new hp a q e
theorem RM.dk {a : Addr} {kvs : List (D × D)} (h : RM K H M) (e : M a = some (.dk kvs)) : ∃ es, H a = some (.dK es) ∧ es.length ≤ sizeLine ∧ RepK K H kvs es := h a _ e
theorem RM.frzDk {p : Addr} {es : List (Key × V)} {o : Obj} (h : RM K H M) (hp : H p = some (.dK es)) : RM K (upd H p (.frz o (.dK es))) (mdel M p) := fun a q e => by
  have ha : a ≠ p := fun z => by
    subst z
    unfold mdel at e
    simp at e
  have e' : M a = some q := by
    unfold mdel at e
    rw [if_neg ha] at e
    exact e
  exact (h a q e').stay (upd_ne ha) (Grow.dk hp)
end
theorem dput_len' (kvs : List (D × D)) (k v : D) : (dput kvs k v).length ≤ kvs.length + 1 := dput_len kvs k v

section
variable {X : Cx} {o e a b f : Expr} {pos apos cpos : Pos} {to te tf ta tb : DTE}
/-! ### d[k], k in d, k not in d -/
def dKIx (to te : DTE) : DTE := fun m M Q => to m M fun x M1 => te m M1 fun y M2 => ∃ kvs v, dDict x M2 = some kvs ∧ isKb y = true ∧ dget kvs y = some v ∧ Q v M2
theorem d_kix (hu : X.A.units + 1 < cLine) (ho : DE X o to) (he : DE X e te) (hs : NoSl e) : DE X (.Subscript o e pos) (dKIx to te) :=
  imE (pe_dget hu ho he hs) fun σ H Q ⟨m, M, Q', r, q, kk⟩ => by
    refine ⟨m, M, _, r, q, fun x v1 M1 H1 g1 r1 m1 q1 => ⟨m, M1, _, r.grow g1 m1, q1, fun y v2 M2 H2 g2 r2 m2 ⟨kvs, v, e1, e2, e3, q2⟩ => ?_⟩⟩
    obtain ⟨p, es, rfl, hr, z, l⟩ := dict_at (r1.grow g2) m2 e1
    obtain ⟨k, rfl⟩ := isKb_ex e2
    obtain rfl := rep_kV r2
    rcases l.val (k := k) with ⟨n1, _⟩ | ⟨d, y, n1, n2, rd⟩
    · rw [n1] at e3
      cases e3
    · rw [n1] at e3
      cases e3
      exact ⟨p, y, rfl, .inl ⟨es, k, hr, rfl, n2.symm⟩, kk _ _ M2 H2 (g1.trans g2) rd m2 q2⟩
def dKIn : DR2 := fun x y M Q => ∃ kvs, dDict y M = some kvs ∧ isKb x = true ∧ Q (.bl (dhas kvs x)) M
def dKNotIn : DR2 := fun x y M Q => ∃ kvs, dDict y M = some kvs ∧ isKb x = true ∧ Q (.bl (!dhas kvs x)) M
theorem has_val {K : PySem.W.Frag} {H : Hp} {kvs : List (D × D)} {es : List (Key × V)} (l : RepK K H kvs es) (k : Key) : (valV es k).isSome = dhas kvs (kD k) := by
  rw [← valV_any, l.has]
theorem o_inK (hu : X.A.units + 1 < cLine) : DOp X (compareOp .In) dKIn := by
  intro pins s σ H x y v u Q I rx ry ⟨d, e, M, Q', r1, r2, m, ⟨kvs, e1, e2, q⟩, k⟩
  obtain ⟨p, es, rfl, hr, z, l⟩ := dict_at r2 m e1
  obtain ⟨key, rfl⟩ := isKb_ex e2
  obtain rfl := rep_kV r1
  obtain rfl : u = Value.ref p := ry
  refine d_in hu I (.inl ⟨es, key, hr, rfl, rfl⟩) rx fun s' I' => ?_
  rw [has_val l]
  exact ⟨.bl _, H, I', rfl, k _ _ M H (.refl H) (.bl _) m q⟩
theorem o_notinK (hu : X.A.units + 1 < cLine) : DOp X (compareOp .NotIn) dKNotIn := by
  intro pins s σ H x y v u Q I rx ry ⟨d, e, M, Q', r1, r2, m, ⟨kvs, e1, e2, q⟩, k⟩
  obtain ⟨p, es, rfl, hr, z, l⟩ := dict_at r2 m e1
  obtain ⟨key, rfl⟩ := isKb_ex e2
  obtain rfl := rep_kV r1
  obtain rfl : u = Value.ref p := ry
  refine d_notIn hu I (.inl ⟨es, key, hr, rfl, rfl⟩) rx fun s' I' => ?_
  rw [has_val l]
  exact ⟨.bl _, H, I', rfl, k _ _ M H (.refl H) (.bl _) m q⟩
/-! ### len(d) -/
def rLenK : DCR := fun ds M Q => ∃ d kvs, ds = [d] ∧ dDict d M = some kvs ∧ Q (.int kvs.length) M
theorem c_lenK : DCall X (.builtin "len") rLenK := by
  intro pins s σ H vs us Q I r ⟨ds, M, Q', l, m, ⟨d, kvs, e, h, q⟩, k⟩
  subst e
  obtain ⟨v, e, rv⟩ := repL_one l
  subst e
  obtain ⟨p, es, rfl, hr, z, l2⟩ := dict_at rv m h
  obtain ⟨u, eu, rx⟩ := vals1 r
  subst eu
  obtain rfl : u = Value.ref p := rx
  refine d_len I hr fun t s' I' => ⟨.int es.length, H, I', ⟨t, rfl⟩, ?_⟩
  rw [← l2.length]
  exact k _ _ M H (.refl H) (.int _) m q
/-! ### {}, freezing -/
def dKNew : DTE := fun _ M Q => ∀ p, M p = none → Q (.ref p) (mput M p (.dk []))
theorem d_knew : DE X (.Dict [] [] pos) dKNew :=
  imE pe_dnewK fun σ H Q ⟨m, M, Q', r, q, kk⟩ p hp => kk _ _ _ _ (.new hp) (.ref p) (r.mem.newDk hp (Nat.zero_le _) .nil) (q p (r.mem.free hp))
theorem inv_frzD {pins : List (Addr × Obj)} {σ : SL} {H : Hp} {s : Shared} {p : Addr} {es : List (Key × V)} (I : Inv X pins σ H s) (h : H p = some (.dK es)) : ∃ ob, Inv X pins σ (upd H p (.frz ob (.dK es))) s := I.lock h True.intro
def tFzK (t : TE) : TE := fun σ H Q => t σ H fun v H1 => ∃ p es, v = .ref p ∧ H1 p = some (.dK es) ∧ ∀ ob, Q v (upd H1 p (.frz ob (.dK es)))
theorem pe_fzK {t : TE} (h : PE X e t) : PE X e (tFzK t) := by
  refine ⟨fun pins s σ H Q I q => thn (h.run pins s σ H _ I q) fun u s1 ⟨v, H1, I1, r1, p, es, e1, e2, q1⟩ => ?_⟩
  obtain ⟨ob, I2⟩ := inv_frzD I1 e2
  exact ⟨v, _, I2, r1, q1 ob⟩
/-- the dict that comes is frozen -/
def dFzK (t : DTE) : DTE := fun m M Q => t m M fun d M1 => ∃ p kvs, d = .ref p ∧ M1 p = some (.dk kvs) ∧ Q (.dct kvs) (mdel M1 p)
theorem d_fzK (h : DE X e te) : DE X e (dFzK te) :=
  imE (pe_fzK h) fun σ H Q ⟨m, M, Q', r, q, k⟩ => by
    refine ⟨m, M, _, r, q, fun d v M1 H1 g1 r1 m1 ⟨p, kvs, e1, e2, q1⟩ => ?_⟩
    subst e1
    cases r1
    obtain ⟨es, h1, z, l⟩ := m1.dk e2
    exact ⟨p, es, rfl, h1, fun ob => k _ _ _ _ (g1.trans (.dk h1)) (.dct upd_same z (l.grow (.dk h1))) (m1.frzDk h1) q1⟩
/-! ### d[k] = v -/
def dKPut (to te tv : DTE) : DTS := fun Z m M => tv m M fun v M1 => to m M1 fun x M2 => te m M2 fun y M3 => ∃ p kvs, x = .ref p ∧ M3 p = some (.dk kvs) ∧ isKb y = true ∧ kvs.length < sizeLine ∧ Z.nx m (mput M3 p (.dk (dput kvs y v)))
theorem ds_kput {value : Expr} {spos : Pos} {tv : DTE} (hu : X.A.units + 1 < cLine) (hv : DE X value tv) (ho : DE X o to) (he : DE X e te) (hs : swapsWith value (some (.Subscript o e pos)) spos.line X.env = pure false := by rfl) : DS X (.Assign [.Subscript o e pos] value spos) (dKPut to te tv) :=
  imS (ps_dput hu ho he hv hs) fun Z σ H ⟨m, M, Z', r, q, k⟩ => by
    refine ⟨m, M, _, r, q, fun v v0 M1 H1 g1 r1 m1 q1 => ⟨m, M1, _, r.grow g1 m1, q1, fun x v1 M2 H2 g2 r2 m2 q2 => ⟨m, M2, _, (r.grow g1 m1).grow g2 m2, q2, fun y v2 M3 H3 g3 r3 m3 ⟨p, kvs, e1, e2, e3, e4, q3⟩ => ?_⟩⟩⟩
    subst e1
    cases r2
    obtain ⟨es, h3, z, l⟩ := m3.dk e2
    obtain ⟨key, rfl⟩ := isKb_ex e3
    obtain rfl := rep_kV r3
    have hlen : es.length < sizeLine := by rw [← l.length]; exact e4
    have hz : (putK es key v0).length ≤ sizeLine := by have := length_putK es key v0; omega
    have g4 : Grow H3 (upd H3 p (.dK (putK es key v0))) := Grow.dk h3
    exact ⟨p, _, rfl, .inl ⟨es, key, h3, rfl, hlen, rfl⟩, k.nx _ _ _ _ (((g1.trans g2).trans g3).trans g4) (((r.grow g1 m1).grow g2 m2).grow (g3.trans g4) (m3.putDk h3 hz (l.put ((r1.grow g2).grow g3)))) q3⟩
end
end DL
/-! dicts whose keys are ints and texts: walked, by comprehension, get, setdefault, list -/
namespace DL
open PySem PySem.Spec PyProof.Rows L2
section
variable {K : PySem.W.Frag} {H : Hp}
theorem RepK.get' : ∀ {kvs : List (D × D)} {es : List (Key × V)} {i : Nat} {k : Key} {v : V}, RepK K H kvs es → es[i]? = some (k, v) → (kvs.map (·.1))[i]? = some (kD k) := fun {kvs es i k v} l e => by
  obtain ⟨d, h1, _⟩ := l.get e
  rw [List.getElem?_map, h1]
  rfl
/-- what is walked stays: frozen -/
theorem frz_ok {H0 H : Hp} {a : Addr} {ob : Obj} {es : List (Key × V)} (h : H0 a = some (.frz ob (.dK es))) (g : Grow H0 H) : H a = some (.frz ob (.dK es)) := g.frzs _ _ _ h
theorem stream_keys {a : Addr} {ob : Obj} {kvs : List (D × D)} {es : List (Key × V)} (h : H a = some (.frz ob (.dK es))) (hz : es.length ≤ sizeLine) (l : RepK K H kvs es) : Stream K (Itk a ob es) (kvs.map (·.1), none) H := by
  have hl : (kvs.map (·.1)).length = es.length := by rw [List.length_map, l.length]
  refine ⟨by show (kvs.map (·.1)).length ≤ sizeLine; rw [hl]; exact hz, fun i H1 ok hi => ⟨frz_ok h ok.1, ?_⟩, fun i H1 x H2 ok hi y => ?_, fun H1 ok => ⟨frz_ok h ok.1, ?_⟩⟩
  · rw [← hl]; exact hi
  · obtain ⟨e1, k, v, e2, e3⟩ := y
    subst e1
    subst e3
    exact ⟨.refl _, fun _ q => q, kD k, l.get' e2, rep_kD k⟩
  · show es.length ≤ (kvs.map (·.1)).length
    omega
theorem stream_vals {a : Addr} {ob : Obj} {kvs : List (D × D)} {es : List (Key × V)} (h : H a = some (.frz ob (.dK es))) (hz : es.length ≤ sizeLine) (l : RepK K H kvs es) : Stream K (Itd a ob es) (kvs.map (·.2), none) H := by
  have hl : (kvs.map (·.2)).length = es.length := by rw [List.length_map, l.length]
  refine ⟨by show (kvs.map (·.2)).length ≤ sizeLine; rw [hl]; exact hz, fun i H1 ok hi => ⟨frz_ok h ok.1, ?_⟩, fun i H1 x H2 ok hi y => ?_, fun H1 ok => ⟨frz_ok h ok.1, ?_⟩⟩
  · rw [← hl]; exact hi
  · obtain ⟨e1, k, e2⟩ := y
    subst e1
    obtain ⟨d, h1, h2⟩ := l.get e2
    exact ⟨.refl _, fun _ q => q, d, by rw [List.getElem?_map, h1]; rfl, h2.grow ok.1⟩
  · show es.length ≤ (kvs.map (·.2)).length
    omega
def pairD (p : D × D) : D := .tup [p.1, p.2]
theorem stream_items {a : Addr} {ob : Obj} {kvs : List (D × D)} {es : List (Key × V)} (h : H a = some (.frz ob (.dK es))) (hz : es.length ≤ sizeLine) (l : RepK K H kvs es) : Stream K (Iti a ob es) (kvs.map pairD, none) H := by
  have hl : (kvs.map pairD).length = es.length := by rw [List.length_map, l.length]
  refine ⟨by show (kvs.map pairD).length ≤ sizeLine; rw [hl]; exact hz, fun i H1 ok hi => ⟨frz_ok h ok.1, ?_⟩, fun i H1 x H2 ok hi y => ?_, fun H1 ok => ⟨frz_ok h ok.1, ?_⟩⟩
  · rw [← hl]; exact hi
  · obtain ⟨T, k, v, e2, e3, e4, e5⟩ := y
    subst e3
    subst e5
    obtain ⟨d, h1, h2⟩ := l.get e2
    refine ⟨.new e4, fun _ q => q.new e4, pairD (kD k, d), by rw [List.getElem?_map, h1]; rfl, ?_⟩
    exact .tup (.of upd_same) (by show 2 ≤ sizeLine; rw [sizeLine_eq]; omega) (.cons (rep_kD k) (.cons ((h2.grow ok.1).grow (.new e4)) .nil))
  · show es.length ≤ (kvs.map pairD).length
    omega
end
section
variable {X : Cx} {tg e o f : Expr} {te to tf : DTE} {pos apos cpos : Pos}
def diKeys (te : DTE) : DTI := fun m M Q => te m M fun d M1 => ∃ kvs, d = .dct kvs ∧ Q (kvs.map (·.1), none) M1
def diVals (te : DTE) : DTI := fun m M Q => te m M fun d M1 => ∃ kvs, d = .dct kvs ∧ Q (kvs.map (·.2), none) M1
def diItems (te : DTE) : DTI := fun m M Q => te m M fun d M1 => ∃ kvs, d = .dct kvs ∧ Q (kvs.map pairD, none) M1
theorem di_keys (he : DE X e te) : DI X tg e (diKeys te) :=
  imI (pi_keys he) fun σ H Q ⟨m, M, Q', r, q, k⟩ => by
    refine ⟨m, M, _, r, q, fun d v M1 H1 g1 r1 m1 ⟨kvs, e, q1⟩ => ?_⟩
    subst e
    cases r1 with
    | dct h z l => exact ⟨_, _, rfl, .inl ⟨_, h, k _ M1 H1 _ g1 m1 q1 (stream_keys h z l)⟩⟩
theorem di_keysM (he : DE X e te) (hbase : attributeBase e "keys" X.env (eval e X.env) = eval e X.env := by rfl) (hline : (apos.endLine == cpos.line) = true := by rfl) : DI X tg (.Call (.Attribute e "keys" apos) [] [] cpos) (diKeys te) :=
  imI (pi_keysM he hbase hline) fun σ H Q ⟨m, M, Q', r, q, k⟩ => by
    refine ⟨m, M, _, r, q, fun d v M1 H1 g1 r1 m1 ⟨kvs, e, q1⟩ => ?_⟩
    subst e
    cases r1 with
    | dct h z l => exact ⟨_, _, _, rfl, h, k _ M1 H1 _ g1 m1 q1 (stream_keys h z l)⟩
theorem di_vals (he : DE X e te) (hbase : attributeBase e "values" X.env (eval e X.env) = eval e X.env := by rfl) (hline : (apos.endLine == cpos.line) = true := by rfl) : DI X tg (.Call (.Attribute e "values" apos) [] [] cpos) (diVals te) :=
  imI (pi_values he hbase hline) fun σ H Q ⟨m, M, Q', r, q, k⟩ => by
    refine ⟨m, M, _, r, q, fun d v M1 H1 g1 r1 m1 ⟨kvs, e, q1⟩ => ?_⟩
    subst e
    cases r1 with
    | dct h z l => exact ⟨_, _, _, rfl, h, k _ M1 H1 _ g1 m1 q1 (stream_vals h z l)⟩
theorem di_items {elts : List Expr} {kk : Nat} {tpos : Pos} (he : DE X e te) (hbase : attributeBase e "items" X.env (eval e X.env) = eval e X.env := by rfl) (hline : (apos.endLine == cpos.line) = true := by rfl) :
    DI X (.Tuple elts kk tpos) (.Call (.Attribute e "items" apos) [] [] cpos) (diItems te) :=
  imI (pi_items he hbase hline) fun σ H Q ⟨m, M, Q', r, q, k⟩ => by
    refine ⟨m, M, _, r, q, fun d v M1 H1 g1 r1 m1 ⟨kvs, e, q1⟩ => ?_⟩
    subst e
    cases r1 with
    | dct h z l => exact ⟨_, _, _, rfl, h, k _ M1 H1 _ g1 m1 q1 (stream_items h z l)⟩
/-- the dict in the slot i is frozen ahead of the statement -/
def dFzD (i : Nat) (t : DTS) : DTS := fun Z m M => ∃ p kvs, m[i]? = some (some (.ref p)) ∧ M p = some (.dk kvs) ∧ t Z (m.set i (some (.dct kvs))) (mdel M p)
theorem ds_fzD {st : Stmt} {t : DTS} (i : Nat) (h : DS X st t) : DS X st (dFzD i t) := by
  refine ⟨fun pins s σ H Z I ⟨m, M, Z', r, ⟨p, kvs, e1, e2, q⟩, k⟩ => ?_⟩
  obtain ⟨v, hv, rv⟩ := r.slot i _ e1
  cases rv
  obtain ⟨es, h1, z, l⟩ := r.mem.dk e2
  obtain ⟨ob, I2⟩ := inv_frzD I h1
  have g : Grow H (upd H p (.frz ob (.dK es))) := Grow.dk h1
  have r2 : R X.K m (mdel M p) σ (upd H p (.frz ob (.dK es))) := r.grow g (r.mem.frzDk h1)
  have r3 := r2.set (i := i) (d := .dct kvs) (v := .ref p) (.dct upd_same z (l.grow g))
  have es' : σ.set i (some (V.ref p)) = σ := by
    refine List.ext_getElem? fun j => ?_
    by_cases c : i = j
    · subst c
      by_cases hi : i < σ.length
      · rw [List.getElem?_set_self hi, hv]
      · rw [List.getElem?_eq_none (by omega)] at hv
        cases hv
    · rw [List.getElem?_set_ne c]
  rw [es'] at r3
  exact h.run pins s σ _ Z I2 ⟨_, _, Z', r3, q, k.grow g⟩
/-! ### d.get(k), d.get(k, x) -/
theorem dict_is {K : PySem.W.Frag} {H : Hp} {a : Addr} {es : List (Key × V)} (h : Rd H a (.dK es)) : IsD H a := .inl ⟨es, h⟩
def dKGet1 (to te : DTE) : DTE := fun m M Q => to m M fun x M1 => (∃ kvs, dDict x M1 = some kvs) ∧ te m M1 fun y M2 => ∃ kvs, dDict x M2 = some kvs ∧ isKb y = true ∧ Q ((dget kvs y).getD .non) M2
theorem d_kget1 (hu : X.A.units + 1 < cLine) (ho : DE X o to) (he : DE X e te) (m : M1 X o "get" apos e cpos := by exact ⟨by rfl, by rfl, by rfl, by rfl⟩) : DE X (.Call (.Attribute o "get" apos) [e] [] cpos) (dKGet1 to te) :=
  imE (pe_dget1 hu ho he m) fun σ H Q ⟨m, M, Q', r, q, kk⟩ => by
    refine ⟨m, M, _, r, q, fun x v1 M1 H1 g1 r1 m1 ⟨⟨kvs0, e0⟩, q1⟩ => ?_⟩
    obtain ⟨p, es0, rfl, hr0, _, _⟩ := dict_at r1 m1 e0
    refine ⟨p, rfl, .inl ⟨_, hr0⟩, m, M1, _, r.grow g1 m1, q1, fun y v2 M2 H2 g2 r2 m2 ⟨kvs, e1, e2, q2⟩ => ?_⟩
    obtain ⟨p', es, e3, hr, z, l⟩ := dict_at (r1.grow g2) m2 e1
    cases e3
    obtain ⟨k, rfl⟩ := isKb_ex e2
    obtain rfl := rep_kV r2
    refine ⟨valV es k, .inl ⟨es, k, hr, rfl, rfl⟩, ?_⟩
    rcases l.val (k := k) with ⟨n1, n2⟩ | ⟨d, y, n1, n2, rd⟩
    · rw [n1] at q2
      rw [n2]
      exact kk _ _ M2 H2 (g1.trans g2) .non m2 q2
    · rw [n1] at q2
      rw [n2]
      exact kk _ _ M2 H2 (g1.trans g2) rd m2 q2
def dKGet2 (to te tf : DTE) : DTE := fun m M Q => to m M fun x M1 => (∃ kvs, dDict x M1 = some kvs) ∧ te m M1 fun y M2 => tf m M2 fun z M3 => ∃ kvs, dDict x M3 = some kvs ∧ isKb y = true ∧ Q ((dget kvs y).getD z) M3
theorem d_kget2 (hu : X.A.units + 1 < cLine) (ho : DE X o to) (he : DE X e te) (hf : DE X f tf) (m : M2 X o "get" apos e f cpos := by exact ⟨by rfl, by rfl, by rfl, by rfl⟩) : DE X (.Call (.Attribute o "get" apos) [e, f] [] cpos) (dKGet2 to te tf) :=
  imE (pe_dget2 hu ho he hf m) fun σ H Q ⟨m, M, Q', r, q, kk⟩ => by
    refine ⟨m, M, _, r, q, fun x v1 M1 H1 g1 r1 m1 ⟨⟨kvs0, e0⟩, q1⟩ => ?_⟩
    obtain ⟨p, es0, rfl, hr0, _, _⟩ := dict_at r1 m1 e0
    refine ⟨p, rfl, .inl ⟨_, hr0⟩, m, M1, _, r.grow g1 m1, q1, fun y v2 M2 H2 g2 r2 m2 q2 => ?_⟩
    refine ⟨m, M2, _, (r.grow g1 m1).grow g2 m2, q2, fun w v3 M3 H3 g3 r3 m3 ⟨kvs, e1, e2, q3⟩ => ?_⟩
    obtain ⟨p', es, e3, hr, z, l⟩ := dict_at ((r1.grow g2).grow g3) m3 e1
    cases e3
    obtain ⟨k, rfl⟩ := isKb_ex e2
    obtain rfl := rep_kV r2
    refine ⟨valV es k, .inl ⟨es, k, hr, rfl, rfl⟩, ?_⟩
    rcases l.val (k := k) with ⟨n1, n2⟩ | ⟨d, y, n1, n2, rd⟩
    · rw [n1] at q3
      rw [n2]
      exact kk _ _ M3 H3 ((g1.trans g2).trans g3) r3 m3 q3
    · rw [n1] at q3
      rw [n2]
      exact kk _ _ M3 H3 ((g1.trans g2).trans g3) rd m3 q3
end
/-! ### {k: v for ..} -/
def dKcGo (src : Src) (g : DTG) (tt : DTT) (tk tv : DTE) (m0 : DSt) (p : Addr) (Qd : List (D × D) → DM → Prop) : List D → List (D × D) → DM → Prop
  | [], acc, M => SrcV src M ∧ Qd acc M
  | d :: ds, acc, M => SrcV src M ∧ g d m0 M fun m1 M1 => tt m1 M1 fun b M2 =>
      if b = true then tk m1 M2 fun k M3 => tv m1 M3 fun v M4 => M4 p = some (.dk acc) ∧ isKb k = true ∧ dKcGo src g tt tk tv m0 p Qd ds (dput acc k v) (mput M4 p (.dk (dput acc k v)))
      else M2 p = some (.dk acc) ∧ dKcGo src g tt tk tv m0 p Qd ds acc M2
def dKc (t : DTI) (g : DTG) (tt : DTT) (tk tv : DTE) (vs : List Nat) : DTE := fun m M Q => t m M fun src M1 => src.1.length ≤ sizeLine → ∀ p, M1 p = none → dKcGo src g tt tk tv (dwipe m vs) p (fun _ M2 => Q (.ref p) M2) src.1 [] (mput M1 p (.dk []))
section
variable {X : Cx} {kx vx tg iter : Expr} {ifs : List Expr} {scope : Scope} {own : List (Str × Nat)} {pos : Pos} {t : DTI} {g : DTG} {tt : DTT} {tk tv : DTE} {ws : List Nat}
theorem kc_up {σ : SL} {H : Hp} {m : DSt} {M : DM} {Qv : VK} {Qf : Addr → DM → Prop} (hsub : ∀ i ∈ ws, i ∈ own.map (·.2)) (r : R X.K m M σ H)
    (q : t m M fun src M1 => src.1.length ≤ sizeLine → ∀ p, M1 p = none → dKcGo src g tt tk tv (dwipe m (own.map (·.2))) p (fun _ M2 => Qf p M2) src.1 [] (mput M1 p (.dk [])))
    (k : ∀ p M2 H2, Grow H H2 → RM X.K H2 M2 → Qf p M2 → Qv (.ref p) H2) : tDc (upI X.K t) (upG X.K ws g) (upT X.K tt) (upE X.K tk) (upE X.K tv) (own.map (·.2)) σ H Qv := by
  refine ⟨m, M, _, r, q, fun src M1 H1 J g1 m1 q1 st p np => ?_⟩
  have q2 := q1 st.small p (m1.free np)
  have g2 : Grow H1 (upd H1 p (.dK [])) := .new np
  refine ⟨fun i n H2 => i + n = src.1.length ∧ Grow H1 H2 ∧ ∃ acc M2, acc.length ≤ i ∧ M2 p = some (.dk acc) ∧ RM X.K H2 M2 ∧ dKcGo src g tt tk tv (dwipe m (own.map (·.2))) p (fun _ M2 => Qf p M2) (src.1.drop i) acc M2,
    ⟨src.1.length, by omega, g2, [], _, Nat.le_refl _, mput_same, m1.newDk np (Nat.zero_le _) .nil, q2⟩, ?_⟩
  rintro i n H2 ⟨hl, g3, acc, M2, ha, hp, m2, q3⟩
  have r2 : R X.K (dwipe m (own.map (·.2))) M2 (wipe σ (own.map (·.2))) H2 := (r.wipe _).grow (g1.trans g3) m2
  by_cases hlt : i < src.1.length
  · rw [List.drop_eq_getElem_cons hlt] at q3
    obtain ⟨sv, q3⟩ := q3
    have so := sv.ok g3 m2
    refine .inr ⟨st.go i H2 so hlt, fun H3 => Grow H1 H3 ∧ ∃ acc M2, acc.length ≤ i + 1 ∧ M2 p = some (.dk acc) ∧ RM X.K H3 M2 ∧ dKcGo src g tt tk tv (dwipe m (own.map (·.2))) p (fun _ M2 => Qf p M2) (src.1.drop (i + 1)) acc M2,
      fun H3 ⟨g4, z⟩ => ⟨n - 1, by omega, by omega, g4, z⟩, fun x H3 y => ?_⟩
    obtain ⟨g4, k4, d, e4, rd⟩ := st.yld i H2 x H3 so hlt y
    have ed : d = src.1[i] := by
      rw [List.getElem?_eq_getElem hlt] at e4
      exact (Option.some.inj e4).symm
    subst ed
    refine ⟨_, _, M2, _, rd, r2.grow g4 (k4 _ m2), q3, fun m5 M5 σ5 H5 g5 r5 o5 q5 => ⟨wipe_off o5 hsub, ?_⟩⟩
    refine ⟨m5, M5, _, r5, q5, fun b M6 H6 g6 m6 q6 => ?_⟩
    have g06 : Grow H1 H6 := ((g3.trans g4).trans g5).trans g6
    cases b with
    | true =>
      refine ⟨m5, M6, _, r5.grow g6 m6, q6, fun kd kv M7 H7 g7 rk m7 q7 => ?_⟩
      refine ⟨m5, M7, _, (r5.grow g6 m6).grow g7 m7, q7, fun vd vv M8 H8 g8 rv m8 ⟨e8, hk, q8⟩ => ?_⟩
      obtain ⟨key, rfl⟩ := isKb_ex hk
      obtain rfl := rep_kV rk
      obtain ⟨es, h8, hz8, rkv⟩ := m8.dk e8
      have hlen : es.length < sizeLine := by
        rw [← rkv.length]
        exact Nat.lt_of_le_of_lt ha (Nat.lt_of_lt_of_le hlt st.small)
      have hz9 : (putK es key vv).length ≤ sizeLine := by have := length_putK es key vv; omega
      have ge : Grow H8 (upd H8 p (.dK (putK es key vv))) := Grow.dk h8
      exact ⟨es, key, rfl, h8, hlen, ((g06.trans g7).trans g8).trans ge, dput acc (kD key) vd, _, Nat.le_trans (dput_len ..) (Nat.succ_le_succ ha), mput_same, m8.putDk h8 hz9 (rkv.put rv), q8⟩
    | false =>
      have q6' : M6 p = some (.dk acc) ∧ dKcGo src g tt tk tv (dwipe m (own.map (·.2))) p (fun _ M2 => Qf p M2) (src.1.drop (i + 1)) acc M6 := q6
      exact ⟨g06, acc, M6, by omega, q6'.1, m6, q6'.2⟩
  · have e : i = src.1.length := by omega
    subst e
    rw [List.drop_length] at q3
    exact .inl ⟨st.stop H2 (q3.1.ok g3 m2), k _ M2 H2 (g1.trans g3) m2 q3.2⟩
theorem d_kc (hc : X.calm = true) (hN : X.N.Nodup) (hi : DI X tg iter t) (ok : BlkOk X.N X.env.scope scope own) (hsub : ∀ i ∈ ws, i ∈ own.map (·.2))
    (hg : ∀ (s : Shared) (H : Hp) (C : Addr) (cl : List (Str × Addr)) (fp : List Addr), DG (X.blk s H scope (compEnvC scope cl C X.env) fp) ws tg g)
    (ht : ∀ (s : Shared) (H : Hp) (C : Addr) (cl : List (Str × Addr)) (fp : List Addr), DPTs (X.blk s H scope (compEnvC scope cl C X.env) fp) ifs tt)
    (hk : ∀ (s : Shared) (H : Hp) (C : Addr) (cl : List (Str × Addr)) (fp : List Addr), DE (X.blk s H scope (compEnvC scope cl C X.env) fp) kx tk)
    (hv : ∀ (s : Shared) (H : Hp) (C : Addr) (cl : List (Str × Addr)) (fp : List Addr), DE (X.blk s H scope (compEnvC scope cl C X.env) fp) vx tv)
    (hs : ∀ x, foldedSetIterable iter X.env x = pure x := by intro _; rfl) : DE X (.DictComp kx vx [⟨tg, iter, ifs, 0⟩] scope pos) (dKc t g tt tk tv (own.map (·.2))) :=
  imE (pe_dc (wi := upI X.K t) (g := upG X.K ws g) (tt := upT X.K tt) (tk := upE X.K tk) (tv := upE X.K tv) hc hN hi ok hg ht hk hv hs) fun σ H Q ⟨m, M, Q', r, q, k⟩ =>
    kc_up hsub r q fun p M2 H2 g2 m2 q2 => k _ _ M2 H2 g2 (.ref p) m2 q2
theorem ps_setKc {i : Nat} {y : Str} {py spos : Pos} {wi : TI} {g : TG} {tt : TT} {tk tv : TE} (hc : X.calm = true) (hN : X.N.Nodup) (hy : X.N[i]? = some y) (hyl : X.env.scope.names.lookup y = some .local)
    (hsw : swapsWith (.DictComp kx vx [⟨tg, iter, ifs, 0⟩] scope pos) (some (.Name y py)) spos.line X.env = pure true) (hi : PI X tg iter wi) (ok : BlkOk X.N X.env.scope scope own)
    (pg : ∀ (s : Shared) (H : Hp) (C : Addr) (cl : List (Str × Addr)) (fp : List Addr), PG (X.blk s H scope (compEnvC scope cl C X.env) fp) tg g)
    (pt : ∀ (s : Shared) (H : Hp) (C : Addr) (cl : List (Str × Addr)) (fp : List Addr), PTs (X.blk s H scope (compEnvC scope cl C X.env) fp) ifs tt)
    (pk : ∀ (s : Shared) (H : Hp) (C : Addr) (cl : List (Str × Addr)) (fp : List Addr), PE (X.blk s H scope (compEnvC scope cl C X.env) fp) kx tk)
    (pv : ∀ (s : Shared) (H : Hp) (C : Addr) (cl : List (Str × Addr)) (fp : List Addr), PE (X.blk s H scope (compEnvC scope cl C X.env) fp) vx tv) (hs : ∀ x, foldedSetIterable iter X.env x = pure x := by intro _; rfl) :
    PS X (.Assign [.Name y py] (.DictComp kx vx [⟨tg, iter, ifs, 0⟩] scope pos) spos) (tAsg (tDc wi g tt tk tv (own.map (·.2))) (gName i)) := by
  refine ⟨fun pins s σ H D I h => ?_⟩
  rw [exec_Assign_Name_used _ _ _ _ hsw]
  refine wpAny_bind (wpAny_standAt (wpAny_bind ?_))
  show wpAny _ X.A (do let _ ← comprehension (.DictComp kx vx [⟨tg, iter, ifs, 0⟩] scope pos) scope X.env (firstIterPos [⟨tg, iter, ifs, 0⟩] pos) newDict false (eval iter X.env) (some (assign (.Name y py) X.env))) _ _ s
  have h : tDc wi g tt tk tv (own.map (·.2)) σ H (fun x H1 => gName i x σ H1 D.nx) := h
  refine wpAny_bind (thn (L2.dc_core (Qf := fun _ s' => SP X pins D .next s') hc hN I hi ok pg pt pk pv hs h fun L C s' m H' I' q hn f => ?_) fun _ s' hq => wpAny_pure (wpAny_pure hq))
  show wpAny _ _ (assign (.Name y py) X.env (.ref L)) _ _ _
  refine wpAny_assign_Name (store_ok2 (v := V.ref L) I' hN hy (.inl hyl) rfl (fun s2 I2 ⟨a, sb, ha⟩ => ?_) (.inr hyl))
  obtain ⟨f0, f1, f2, f3, f4, f5⟩ := f
  have haC : C ≠ a := by
    rcases ha with z | z
    · rw [z]; exact f1
    · exact fun e => f4 y a z e.symm
  refine ⟨m, hn.sameBut sb haC, fun h3 sb3 => ?_⟩
  exact ⟨_, H', I2.turned (t' := s2.toks) (fun b o hb e => (sb3.2 b hb).trans e) f0 f1 f3 f4 f5, q⟩
/-- name = {.. for ..} on one line -/
theorem ds_setKc {y : Str} {py spos : Pos} {i : Nat} (hc : X.calm = true) (hN : X.N.Nodup) (hy : X.N[i]? = some y) (hyl : X.env.scope.names.lookup y = some .local)
    (hsw : swapsWith (.DictComp kx vx [⟨tg, iter, ifs, 0⟩] scope pos) (some (.Name y py)) spos.line X.env = pure true) (hi : DI X tg iter t) (ok : BlkOk X.N X.env.scope scope own) (hsub : ∀ i ∈ ws, i ∈ own.map (·.2))
    (hg : ∀ (s : Shared) (H : Hp) (C : Addr) (cl : List (Str × Addr)) (fp : List Addr), DG (X.blk s H scope (compEnvC scope cl C X.env) fp) ws tg g)
    (ht : ∀ (s : Shared) (H : Hp) (C : Addr) (cl : List (Str × Addr)) (fp : List Addr), DPTs (X.blk s H scope (compEnvC scope cl C X.env) fp) ifs tt)
    (hk : ∀ (s : Shared) (H : Hp) (C : Addr) (cl : List (Str × Addr)) (fp : List Addr), DE (X.blk s H scope (compEnvC scope cl C X.env) fp) kx tk)
    (hv : ∀ (s : Shared) (H : Hp) (C : Addr) (cl : List (Str × Addr)) (fp : List Addr), DE (X.blk s H scope (compEnvC scope cl C X.env) fp) vx tv)
    (hs : ∀ x, foldedSetIterable iter X.env x = pure x := by intro _; rfl) : DS X (.Assign [.Name y py] (.DictComp kx vx [⟨tg, iter, ifs, 0⟩] scope pos) spos) (dSet i (dKc t g tt tk tv (own.map (·.2)))) :=
  imS (ps_setKc (wi := upI X.K t) (g := upG X.K ws g) (tt := upT X.K tt) (tk := upE X.K tk) (tv := upE X.K tv) hc hN hy hyl hsw hi ok hg ht hk hv hs) fun Z σ H ⟨m, M, Z', r, q, k⟩ =>
    kc_up (Qf := fun p M2 => Z'.nx (m.set i (some (.ref p))) M2) hsub r q fun p M2 H2 g2 m2 q2 => k.nx _ M2 _ H2 g2 ((r.grow g2 m2).set (.ref p)) q2
end
theorem hu_1 {k : Nat} {A : Around} (hr : Room k A) : A.units + 1 < cLine := by
  have := hu_40 hr
  omega
/-- a comprehension over what is left, with what is gathered -/
theorem kc_ind {src : Src} {g : DTG} {tt : DTT} {tk tv : DTE} {m0 : DSt} {p : Addr} {Qd : List (D × D) → DM → Prop} (V : List D → List (D × D) → DM → Prop) (fin : ∀ acc M, V [] acc M → SrcV src M ∧ Qd acc M)
    (step : ∀ d ds acc M (Cn : List (D × D) → DM → Prop), (∀ acc' M', V ds acc' M' → Cn acc' M') → V (d :: ds) acc M → SrcV src M ∧ g d m0 M fun m1 M1 => tt m1 M1 fun b M2 =>
      if b = true then tk m1 M2 fun k M3 => tv m1 M3 fun v M4 => M4 p = some (.dk acc) ∧ isKb k = true ∧ Cn (dput acc k v) (mput M4 p (.dk (dput acc k v))) else M2 p = some (.dk acc) ∧ Cn acc M2) :
    ∀ ds acc M, V ds acc M → dKcGo src g tt tk tv m0 p Qd ds acc M
  | [], acc, M, h => fin acc M h
  | d :: ds, acc, M, h => step d ds acc M (dKcGo src g tt tk tv m0 p Qd ds) (kc_ind V fin step ds) h
end DL
/-! xs.insert(i, y), xs.pop(i), list of a dict -/
namespace DL
open PySem PySem.Spec PyProof.Rows L2
section
variable {X : Cx}
def mInsert : DMR := fun d ds M Q => ∃ (a : Addr) (xs : List D) (i : Int) (y : D), d = .ref a ∧ ds = [.int i, y] ∧ M a = some (.lst xs) ∧ xs.length < sizeLine ∧ 0 ≤ i ∧ i < 9223372036854775808 ∧ Q .non (mput M a (.lst (xs.take i.toNat ++ [y] ++ xs.drop i.toNat)))
theorem m_insert : MtR X "list.insert" (upM X.K mInsert) := by
  intro pins s σ H x vs v us Q I rx rv ⟨d, ds, M, Q', r1, l, m, ⟨a, xs, i, y, e1, e2, h, hz, h0, h9, q⟩, k⟩
  subst e1
  subst e2
  cases r1
  cases l with
  | cons ri l =>
    cases ri
    obtain ⟨w, rfl, rw'⟩ := repL_one l
    obtain ⟨ws, h1, z, l1⟩ := m.lst h
    have hl := l1.length
    refine mt_insert pins s σ H _ _ v us Q I rx rv ⟨a, ws, i, w, rfl, rfl, h1, by omega, h0, h9, ?_⟩
    have g : Grow H (upd H a (.lst (ws.take i.toNat ++ [w] ++ ws.drop i.toNat))) := .put h1
    refine k _ _ _ _ g .non (m.putLst h1 ?_ (((l1.take _).append (.one rw')).append (l1.drop _))) q
    rw [List.length_append, List.length_append, List.length_take, List.length_drop, List.length_singleton]
    omega
def mPopAt : DMR := fun d ds M Q => ∃ (a : Addr) (xs : List D) (i : Nat) (y : D), d = .ref a ∧ ds = [.int (i : Int)] ∧ M a = some (.lst xs) ∧ xs[i]? = some y ∧ Q y (mput M a (.lst (xs.eraseIdx i)))
theorem m_popAt : MtR X "list.pop" (upM X.K mPopAt) := by
  intro pins s σ H x vs v us Q I rx rv ⟨d, ds, M, Q', r1, l, m, ⟨a, xs, i, y, e1, e2, h, hy, q⟩, k⟩
  subst e1
  subst e2
  cases r1
  obtain ⟨w0, rfl, r0⟩ := repL_one l
  cases r0
  obtain ⟨ws, h1, z, l1⟩ := m.lst h
  obtain ⟨w, h2, h3⟩ := l1.get hy
  have hi : i < ws.length := by
    rcases Nat.lt_or_ge i ws.length with c | c
    · exact c
    · rw [List.getElem?_eq_none c] at h2
      cases h2
  have hsz : ws.length ≤ 16777216 := by rw [sizeLine_eq] at z; exact z
  have hk : seqIndex? (i : Int) ws.length = some i := by
    unfold seqIndex?
    simp
    omega
  have g : Grow H (upd H a (.lst (ws.eraseIdx i))) := .put h1
  refine mt_popAt pins s σ H _ _ v us Q I rx rv ⟨a, ws, i, i, w, rfl, rfl, h1, by omega, by omega, hk, h2, ?_⟩
  have hle : (ws.eraseIdx i).length ≤ ws.length := (List.length_eraseIdx_le ..)
  exact k _ _ _ _ g (h3.grow g) (m.putLst h1 (by omega) (l1.eraseIdx i)) q
end
end DL
/-! a comprehension each of whose items takes draws -/
namespace DL
open PySem PySem.Spec PyProof.Rows L2
theorem lc_draw {src : Src} {g : DTG} {te : DTE} {m0 : DSt} {Qd : Addr → List D → DM → Prop} {M : DM} {p : Addr} {o1 : DO} (P : D → Prop) (hsrc : src.2 = none) (ho : DrO o1)
    (step : ∀ d ∈ src.1, ∀ (r : Addr) (l : DO) (o : DO), p ≠ r → M r = none → DrO o → ∀ C1 : D → DM → Prop, (∀ o' y, DrO o' → P y → C1 y (mput (mput M p o') r l)) → g d m0 (mput (mput M p o) r l) fun m1 M1 => te m1 M1 C1)
    (fin : ∀ r o acc, p ≠ r → mput M p o r = none → DrO o → acc.length = src.1.length → (∀ y ∈ acc, P y) → Qd r acc (mput (mput M p o) r (.lst acc))) :
    ∀ r, mput M p o1 r = none → dLcGo src g dYes te m0 r (Qd r) src.1 [] (mput (mput M p o1) r (.lst [])) := fun r hr => by
  have hpr : p ≠ r := ne_of_fresh mput_same hr
  have hrM : M r = none := by rw [mput_ne hpr.symm] at hr; exact hr
  have key : ∀ (its : List D) (acc : List D) (o : DO), (∀ d ∈ its, d ∈ src.1) → DrO o → (∀ y ∈ acc, P y) → acc.length + its.length = src.1.length → dLcGo src g dYes te m0 r (Qd r) its acc (mput (mput M p o) r (.lst acc)) := by
    intro its
    induction its with
    | nil =>
      intro acc o _ ho ha hl
      refine ⟨fun a e => ?_, fin r o acc hpr (by rw [mput_ne hpr.symm]; exact hrM) ho (by simpa using hl) ha⟩
      rw [hsrc] at e
      cases e
    | cons d its ih =>
      intro acc o hs ho ha hl
      refine ⟨fun a e => (by rw [hsrc] at e; cases e), ?_⟩
      have z := step d (hs d (by simp)) r (.lst acc) o hpr hrM ho (fun y M3 => M3 r = some (.lst acc) ∧ dLcGo src g dYes te m0 r (Qd r) its (acc ++ [y]) (mput M3 r (.lst (acc ++ [y])))) fun o' y ho' hy => ⟨mput_same, by
        rw [mput_mput]
        refine ih _ o' (fun x hx => hs x (by simp [hx])) ho' (fun x hx => ?_) (by rw [List.length_append, List.length_singleton]; rw [List.length_cons] at hl; omega)
        rcases List.mem_append.mp hx with hx | hx
        · exact ha x hx
        · rw [List.mem_singleton.mp hx]
          exact hy⟩
      exact z
  exact key src.1 [] o1 (fun _ h => h) ho (by simp) (by simp)
def ar7 (p : D → D → D → D → D → D → D → DM → DVK → Prop) : DSp := fun ds M Q => ∃ a b c d e f g, ds = [a, b, c, d, e, f, g] ∧ p a b c d e f g M Q
def ar8 (p : D → D → D → D → D → D → D → D → DM → DVK → Prop) : DSp := fun ds M Q => ∃ a b c d e f g h, ds = [a, b, c, d, e, f, g, h] ∧ p a b c d e f g h M Q
theorem len7 {p} {ds : List D} {M : DM} {Q : DVK} (h : ar7 p ds M Q) : ds.length = 7 := by obtain ⟨_, _, _, _, _, _, _, rfl, _⟩ := h; rfl
theorem len8 {p} {ds : List D} {M : DM} {Q : DVK} (h : ar8 p ds M Q) : ds.length = 8 := by obtain ⟨_, _, _, _, _, _, _, _, rfl, _⟩ := h; rfl
theorem rangeD0 (n : Nat) : rangeD 0 n = (List.range n).map fun k => D.int ((k : Nat) : Int) := by simp [rangeD]
theorem rangeD_cons (lo : Int) (n : Nat) : rangeD lo (n + 1) = D.int lo :: rangeD (lo + 1) n := by
  simp only [rangeD, List.range_succ_eq_map, List.map_cons, List.map_map, Function.comp_def, Int.natCast_zero, Int.add_zero]
  congr 1
  refine List.map_congr_left fun i _ => ?_
  congr 1
  simp
  omega
theorem mem_rangeD {lo : Int} {n : Nat} {d : D} (h : d ∈ rangeD lo n) : ∃ i : Nat, i < n ∧ d = .int (lo + (i : Nat)) := by
  unfold rangeD at h
  obtain ⟨i, hi, rfl⟩ := List.mem_map.mp h
  exact ⟨i, List.mem_range.mp hi, rfl⟩
theorem rangeD_len (n : Int) : (rangeD 0 n.toNat).length = n.toNat := by simp [rangeD]
end DL
/-! DL32: a comprehension whose items take draws, item by item. -/
namespace DL
open PySem PySem.Spec PyProof.Rows L2
theorem lc_drawT {α β : Type} (f : α → D) (k : β → D) (R : α → β → Prop) {xs : List α} {src : Src} {g : DTG} {te : DTE} {m0 : DSt} {Qd : Addr → List D → DM → Prop} {M : DM} {p : Addr} {o1 : DO} (hx : src.1 = xs.map f) (hsrc : src.2 = none) (ho : DrO o1)
    (step : ∀ x ∈ xs, ∀ (r : Addr) (l : DO) (o : DO), p ≠ r → M r = none → DrO o → ∀ C1 : D → DM → Prop, (∀ o' y, DrO o' → R x y → C1 (k y) (mput (mput M p o') r l)) → g (f x) m0 (mput (mput M p o) r l) fun m1 M1 => te m1 M1 C1)
    (fin : ∀ r o ys, p ≠ r → mput M p o r = none → DrO o → Paired R xs ys → Qd r (ys.map k) (mput (mput M p o) r (.lst (ys.map k)))) :
    ∀ r, mput M p o1 r = none → dLcGo src g dYes te m0 r (Qd r) src.1 [] (mput (mput M p o1) r (.lst [])) := fun r hr => by
  have hpr : p ≠ r := ne_of_fresh mput_same hr
  have hrM : M r = none := by rw [mput_ne hpr.symm] at hr; exact hr
  have key : ∀ (rest dn : List α) (ys : List β) (o : DO), dn ++ rest = xs → DrO o → Paired R dn ys → dLcGo src g dYes te m0 r (Qd r) (rest.map f) (ys.map k) (mput (mput M p o) r (.lst (ys.map k))) := by
    intro rest
    induction rest with
    | nil =>
      intro dn ys o hd ho hp
      rw [List.append_nil] at hd
      subst hd
      refine ⟨fun a e => ?_, fin r o ys hpr (by rw [mput_ne hpr.symm]; exact hrM) ho hp⟩
      rw [hsrc] at e
      cases e
    | cons x rest ih =>
      intro dn ys o hd ho hp
      refine ⟨fun a e => (by rw [hsrc] at e; cases e), ?_⟩
      have z := step x (by rw [← hd]; simp) r (.lst (ys.map k)) o hpr hrM ho (fun y M3 => M3 r = some (.lst (ys.map k)) ∧ dLcGo src g dYes te m0 r (Qd r) (rest.map f) (ys.map k ++ [y]) (mput M3 r (.lst (ys.map k ++ [y])))) fun o' y ho' hy => ⟨mput_same, by
        rw [mput_mput]
        have e : ys.map k ++ [k y] = (ys ++ [y]).map k := by rw [List.map_append]; rfl
        rw [e]
        exact ih (dn ++ [x]) (ys ++ [y]) o' (by rw [← hd]; simp) ho' (hp.snoc hy)⟩
      exact z
  rw [hx]
  exact key xs [] [] o1 rfl ho .nil
theorem Paired.len {α β : Type} {R : α → β → Prop} : ∀ {xs : List α} {ys : List β}, Paired R xs ys → xs.length = ys.length
  | _, _, .nil => rfl
  | _, _, .cons _ t => congrArg (· + 1) (Paired.len t)
theorem Paired.mem_right {α β : Type} {R : α → β → Prop} : ∀ {xs : List α} {ys : List β}, Paired R xs ys → ∀ y ∈ ys, ∃ x ∈ xs, R x y
  | _, _, .nil, y, h => by cases h
  | _, _, .cons a t, y, h => by
    rcases List.mem_cons.mp h with rfl | h
    · exact ⟨_, by simp, a⟩
    · obtain ⟨x, h1, h2⟩ := Paired.mem_right t y h
      exact ⟨x, by simp [h1], h2⟩
theorem Paired.map_eq {α β γ : Type} {R : α → β → Prop} (f : α → γ) (g : β → γ) (h : ∀ x y, R x y → g y = f x) : ∀ {xs : List α} {ys : List β}, Paired R xs ys → ys.map g = xs.map f
  | _, _, .nil => rfl
  | _, _, .cons a t => by rw [List.map_cons, List.map_cons, h _ _ a, Paired.map_eq f g h t]
theorem srcV_it {a : D} {xs : List D} {M : DM} (h : dItems a M = some xs) : SrcV (xs, dAt a) M := by
  intro p hp
  cases a with
  | ref q =>
    have e : q = p := Option.some.inj hp
    subst e
    rw [dItems_rf] at h
    cases c : M q with
    | none => rw [c] at h; cases h
    | some o =>
      rw [c] at h
      cases o with
      | lst ys =>
        cases h
        rfl
      | _ => cases h
  | _ => cases hp
theorem items_up {M N : DM} {b : D} {xs : List D} (h : dItems b M = some xs) (l : MLe M N) : dItems b N = some xs := by
  cases b with
  | ref r =>
    cases q : M r with
    | none => simp [dItems, q] at h
    | some o =>
      cases o with
      | lst ys =>
        simp [dItems, q] at h
        exact dItems_ref (by rw [l _ _ q, h])
      | _ => simp [dItems, q] at h
  | _ => first | exact h | cases h
theorem range_gets {α β : Type} (f : α → β) (d : α) (l : List α) : (List.range l.length).map (fun k => f (l.getD k d)) = l.map f := by
  refine List.ext_getElem (by rw [List.length_map, List.length_range, List.length_map]) fun i h1 h2 => ?_
  rw [List.length_map, List.length_range] at h1
  rw [List.getElem_map, List.getElem_range, List.getElem_map]
  simp [List.getD_eq_getElem?_getD, List.getElem?_eq_getElem h1]
end DL
/-! DL33: the order of data; sorted(xs, key=len). -/
namespace DL
open PySem PySem.Spec PyProof.Rows L2
open PySem.W (dataLt dataLe keyToks alike)
/-! ### the order -/
def dlt (a b : D) : Bool := dataLt a.py b.py
theorem dlt_irr (a : D) : dlt a a = false := PySem.W.dataLt_self _
theorem dlt_trans {a b c : D} (h : dlt a b = true) (k : dlt b c = true) : dlt a c = true := lex_trans _ _ _ h k
theorem dlt_neg {a b c : D} (h : dlt a c = true) : dlt a b = true ∨ dlt b c = true := lex_negTrans _ _ _ h
theorem dlt_asym {a b : D} (h : dlt a b = true) : dlt b a = false := by
  cases e : dlt b a with
  | false => rfl
  | true =>
    have := dlt_trans h e
    rw [dlt_irr] at this
    cases this
/-- not less: transitive -/
theorem dle_trans {a b c : D} (h : dlt b a = false) (k : dlt c b = false) : dlt c a = false := by
  cases e : dlt c a with
  | false => rfl
  | true =>
    rcases dlt_neg (b := b) e with z | z
    · rw [k] at z
      cases z
    · rw [h] at z
      cases z
theorem dlt_le {a b c : D} (h : dlt a b = true) (k : dlt c b = false) : dlt a c = true := by
  rcases dlt_neg (b := c) h with z | z
  · exact z
  · rw [k] at z
    cases z
theorem dle_lt {a b c : D} (h : dlt b a = false) (k : dlt b c = true) : dlt a c = true := by
  rcases dlt_neg (b := a) k with z | z
  · rw [h] at z
    cases z
  · exact z
/-- three ways -/
theorem dlt_tri {a b : D} (ha : alike a.py b.py = true) (h : dlt a b = false) (k : dlt b a = false) : D.eqv a b = true := by
  cases e : D.eqv a b with
  | true => rfl
  | false =>
    have z := (PySem.W.toks_eqv a.py b.py ha).2 e
    have et : keyToks a.py = keyToks b.py := lex_total _ _ h k
    have z1 := z [] [Sum.inl 0]
    rw [et, PySem.W.lex_pre] at z1
    have y2 : PyProof.Rows.lexLt PyProof.Rows.itemOrd (keyToks b.py) (keyToks b.py) = false := lex_irrefl _
    rw [y2] at z1
    cases z1
theorem sort_pair {α : Type} (g : α → D) (xs : List α) : (xs.mergeSort (dataLe false fun x => (g x).py)).Pairwise fun a b => dlt (g b) (g a) = false := by
  have e : ∀ a b : α, dataLe false (fun x => (g x).py) a b = !dlt (g b) (g a) := fun a b => rfl
  have z := List.pairwise_mergeSort (le := dataLe false fun x => (g x).py) (fun a b c h k => by
    rw [e] at h k ⊢
    rw [Bool.not_eq_true'] at h k ⊢
    exact dle_trans h k) (fun a b => by
    rw [e, e]
    cases h : dlt (g b) (g a) with
    | false => rfl
    | true => rw [dlt_asym h]; rfl) xs
  exact z.imp fun {a b} h => by
    rw [e, Bool.not_eq_true'] at h
    exact h
/-! ### sorted(xs, key=len), the items tuples -/
def gLen : D → D
  | .tup ys => .int (ys.length : Nat)
  | _ => .non
section
variable {X : Cx}
theorem lenKeyRun {pins : List (Addr × Obj)} {σ : SL} {H : Hp} {M : DM} {s : Shared} {xs : List D} (hx : ∀ x ∈ xs, ∃ ys, x = .tup ys) : KeyRun X pins σ H M s (.builtin "len") xs gLen := by
  intro Hj s' d v x hdm un gr J rm rd ru
  obtain ⟨ys, rfl⟩ := hx d hdm
  cases rd with
  | @tup _ b vs hf z l =>
    obtain rfl : x = Value.ref b := ru
    obtain ⟨its, r', pl, hz⟩ := J.tuple hf
    have hlen := r'.length
    have hn := line63
    refine PyProof.Rows.len_tuple pl (by simp only [List.size_toArray]; omega) ⟨.int ys.length, Hj, rfl, J.bare, Un.refl, J.hok, ⟨s'.toks + 1, ?_⟩, .refl _, .int _, rm⟩
    rw [List.size_toArray, ← hlen, ← l.length]
def sortLenB (Q : DVK) (d : D) (M1 : DM) : Prop := ∃ xs : List (List D), dItems d M1 = some (xs.map D.tup) ∧ d ≠ .tup (xs.map D.tup) ∧ ∀ p, M1 p = none → Q (.ref p) (mput M1 p (.lst ((xs.map D.tup).mergeSort (dataLe false fun x => D.py (gLen x)))))
def dSortLen (t : DTE) : DTE := fun m M Q => t m M (sortLenB Q)
def sortLenP (Q : DVK) : List D → DM → Prop
  | [d], M1 => sortLenB Q d M1
  | _, _ => False
theorem d_sortLen {k : Nat} {e : Expr} {p p2 kp pos : Pos} {t : DTE} (hr : Room k X.A.in1.in1) (hg : Gl X "len") (hm : X.mg "len" = none) (hgs : Gl X "sorted") (hms : X.mg "sorted" = none) (ha : DE X e t)
    (he : backTo pos (starEach [e] X.env) = [(false, eval e X.env)] := by rfl) (hpl : (backTo pos (starEach [e] X.env)).any (·.1) = false := by rfl)
    (hall : (backToKw pos (keywordEach [⟨some (Str.ofString "key"), .Name "len" p2, kp⟩] X.env)).all (·.1.isSome) = true := by rfl) (hnone : (backToKw pos (keywordEach [⟨some (Str.ofString "key"), .Name "len" p2, kp⟩] X.env)).any (·.1.isNone) = false := by rfl)
    (hks : (backToKw pos (keywordEach [⟨some (Str.ofString "key"), .Name "len" p2, kp⟩] X.env)).filterMap (·.1) = [Str.ofString "key"] := by rfl)
    (hs0 : starEach [e] X.env = [(false, eval e X.env)] := by rfl) :
    DE X (.Call (.Name "sorted" p) [e] [⟨some (Str.ofString "key"), .Name "len" p2, kp⟩] pos) (dSortLen t) := by
  have hu : X.A.in1.in1.units + 40 < cLine := by
    have := hr.un
    omega
  refine ⟨fun pins s σ H Q I ⟨m, M, Q', r, q, kk⟩ => ?_⟩
  refine wpAny_Call_Name_kw (ld_blt I hgs hms boot_sorted ?_ (by decide) (by decide))
  refine PyProof.Rows.callWith_kw (thn ((da_cons ha da_nil hs0 : DA X [e] _).run pos pins s σ H (fun vs H1 => ∃ ds M1, Grow H H1 ∧ RepL X.K H1 ds vs ∧ RM X.K H1 M1 ∧ sortLenP Q' ds M1) I
    ⟨m, M, sortLenP Q', r, q, fun ds vs M1 H1 g1 l1 m1 q1 => ⟨ds, M1, g1, l1, m1, q1⟩⟩) fun us s1 ⟨vs, H1, I1, r1, ds, M1, g1, l1, m1, q1⟩ => ?_) he hpl hall hnone
  obtain ⟨d, rfl, q1⟩ : ∃ d, ds = [d] ∧ sortLenB Q' d M1 := by
    match ds, q1 with
    | [d], q1 => exact ⟨d, rfl, q1⟩
  obtain ⟨xs, hd, hnt, q1⟩ := q1
  obtain ⟨v, rfl, rv⟩ := repL_one l1
  obtain ⟨u, rfl, ru⟩ := vals1 r1
  show wpAny _ _ (evalAll ((do let v ← eval (.Name "len" p2) X.env; standAt pos; pure v) :: [])) _ _ s1
  refine wpAny_evalAll_cons (wpAny_bind (ld_blt I1 hg hm boot_len (wpAny_bind (wpAny_standAt (wpAny_pure ?_)))))
  refine wpAny_evalAll_nil ?_
  rw [hks]
  have hxt : ∀ x ∈ xs.map D.tup, ∃ ys, x = .tup ys := fun x hx => by
    obtain ⟨y, _, rfl⟩ := List.mem_map.mp hx
    exact ⟨y, rfl⟩
  have hxk : ∀ x ∈ (xs.map D.tup).map gLen, ∃ n : Int, x = .int n := fun x hx => by
    obtain ⟨y, hy, rfl⟩ := List.mem_map.mp hx
    obtain ⟨ys, rfl⟩ := hxt y hy
    exact ⟨_, rfl⟩
  refine sort_core I1 rv ru m1 hd hnt (fun a => ksk_t4 _ a) (lenKeyRun hxt) hu ?_ ?_ ?_ q1 fun d v M' H' g3 => kk d v M' H' (g1.trans g3)
  · refine List.all_eq_true.mpr fun x hx => ?_
    obtain ⟨n, rfl⟩ := hxk x hx
    simp
  · intro d hd d' hd'
    obtain ⟨x, hx, rfl⟩ := List.mem_map.mp hd
    obtain ⟨y, hy, rfl⟩ := List.mem_map.mp hd'
    obtain ⟨n, rfl⟩ := hxk x hx
    obtain ⟨k, rfl⟩ := hxk y hy
    simp [D.py, alike]
  · refine .inl (.inr fun d hd => ?_)
    obtain ⟨x, hx, rfl⟩ := List.mem_map.mp hd
    obtain ⟨n, rfl⟩ := hxk x hx
    exact ⟨(fun z => by cases z), fun xs z => by cases z⟩
end
end DL
/-! DL34: sorted of tuples of any lengths. -/
namespace DL
open PySem PySem.Spec PyProof.Rows L2
open PySem.W
theorem sorted_dataO {β : Type} {prog : Program} {w : World} {A : Around} {E : Value → Shared → Prop} {s : Shared} {vs : List Value} {bs : List β} {R : Value → β → Prop} {enc : β → PyData} {l : Addr} {Q : Value → Shared → Prop} (hl : s.heap.IsList l vs.toArray) (e : EachIs R vs bs) (er : EachIs (fun v b => ∃ as, Reads s.heap v (enc b) as) vs bs) (hal : AllAlike (bs.map enc)) (hk : SortOk (bs.map enc)) (hL : bs.length ≤ sizeLine)
    (hu : ∀ b, b ∈ bs → A.units + 2 + (enc b).depth < cLine) (h : ∀ out, out.length = bs.length → EachIs R out (bs.mergeSort (dataLe false enc)) → Q (.ref (s.heap.objs.size + 1)) { s with heap := sortedAll s.heap vs (List.toArray out) }) :
    wpAny (model prog w) A (call (.builtin "sorted") [.ref l]) Q E s := by
  have er' : EachIs (fun v b => ∃ as, Reads (sortingHeap (copyHeap s.heap vs) (s.heap.objs.size + 1) vs) v (enc b) as) vs bs := er.mono fun _ _ ⟨as, r⟩ => ⟨as, PyProof.Rows.Reads.keeps (fun _ _ => sorting_copy_old) r⟩
  exact sorted_vals hl (sortsAt_tups (s := { s with heap := sortingHeap (copyHeap s.heap vs) (s.heap.objs.size + 1) vs }) (each_map (R := fun v d => ∃ as, Reads (sortingHeap (copyHeap s.heap vs) (s.heap.objs.size + 1) vs) v d as) enc er') hal hk (bound_map hu)) (by rw [e.length]; exact hL)
    (h _ (by rw [sortVals_length false rfl]; exact e.length) (sortVals_data false e er' hal))
variable {X : Cx}
def rSortO : DCR := fun ds M Q => ∃ d xs, ds = [d] ∧ dItems d M = some xs ∧ d ≠ .tup xs ∧ xs.all (dOk 32) = true ∧ AllAlike (xs.map D.py) ∧ SortOk (xs.map D.py) ∧ ∀ p, M p = none → Q (.ref p) (mput M p (.lst (srtD xs)))
theorem c_sortO (hu : X.A.units + 40 < cLine) : DCall X (.builtin "sorted") rSortO := by
  intro pins s σ H vs us Q I r ⟨ds, M, Q', l, m, ⟨d, xs, e, h, h2, h3, h4, h5, q⟩, k⟩
  subst e
  obtain ⟨v, e, rv⟩ := repL_one l
  subst e
  obtain ⟨a, ws, rfl, z, l3, h6⟩ := lst_of rv m h h2
  obtain ⟨its, r2, pl, _⟩ := I.list h6
  rw [Vals.ref1 r]
  have hz : xs.length ≤ sizeLine := by rw [l3.length]; exact z
  refine sorted_dataO (vs := its) (bs := xs) (enc := D.py) pl.isList (rel_each l3 r2) (reads_each I l3 r2 h3) h4 h5 hz (fun b hb => ?_) fun out ho hr => ?_
  · have := (dOk_lay 32 b (List.all_eq_true.mp h3 b hb)).2
    omega
  · obtain ⟨vs', h7, h8⟩ := each_rel hr
    obtain ⟨ep, he'⟩ := PyProof.Rows.sortedAll_at s.heap its out.toArray
    have hlen : vs'.length ≤ sizeLine := by rw [← h8.length, List.length_mergeSort]; exact hz
    have hp := I.hok.fresh (Nat.le_succ s.heap.objs.size)
    refine ⟨.ref _, upd H (s.heap.objs.size + 1) (.lst vs'), I.laid (t' := s.toks) (fun _ _ => PyProof.Rows.sortedAll_old) (Nat.le_succ _) ⟨hlen, out, ep, h7, he'⟩, rfl, ?_⟩
    exact k _ _ _ _ (.new hp) (.ref _) (m.newLst hp hlen h8) (q _ (m.free hp))
end DL
set_option maxHeartbeats 1000000
/-! DL42: {k: v for .. in .. for .. in ..}, the keys tuples. -/
namespace DL
open PySem PySem.Spec PyProof.Rows L2
/-- the two clauses -/
def cl2 (t0 i0 : Expr) (ifs0 : List Expr) (t1 i1 : Expr) (ifs1 : List Expr) : List Comprehension := [⟨t0, i0, ifs0, 0⟩, ⟨t1, i1, ifs1, 0⟩]
section
variable {kx vx t0 i0 t1 i1 : Expr} {ifs0 ifs1 : List Expr} {scope : Scope} {pos : Pos}
theorem turn2D_out (it : Value) (D : Addr) (env : Env) :
    compTurn (.DictComp kx vx (cl2 t0 i0 ifs0 t1 i1 ifs1) scope pos) 0 it (.ref D) env = (do
      standAt i0.pos
      match ← pyNext it with
      | none => pure (.done .next)
      | some v =>
        letOwnedTupleGo t0 it v
        assign t0 env v
        let mut ok := true
        for c in ifs0 do
          if ok then ok ← isTrue c env (eval c env)
        if ok then
          let x ← eval i1 env
          standAt i1.pos
          let x ← foldedSetIterable i1 env x
          let _ ← runOwn (.compStart (.DictComp kx vx (cl2 t0 i0 ifs0 t1 i1 ifs1) scope pos) 1 (← holding [x] (pyIter x)) (.ref D) env) env
        again (.compLoop (.DictComp kx vx (cl2 t0 i0 ifs0 t1 i1 ifs1) scope pos) 0 it (.ref D) env)) := by rfl
theorem turn2D_in (it : Value) (D : Addr) (env : Env) :
    compTurn (.DictComp kx vx (cl2 t0 i0 ifs0 t1 i1 ifs1) scope pos) 1 it (.ref D) env = (do
      standAt i1.pos
      match ← pyNext it with
      | none => pure (.done .next)
      | some v =>
        letOwnedTupleGo t1 it v
        assign t1 env v
        let mut ok := true
        for c in ifs1 do
          if ok then ok ← isTrue c env (eval c env)
        if ok then
          (do
            let kv ← eval kx env
            let vv ← holding [kv] (eval vx env)
            standAt { kx.pos with endLine := vx.pos.endLine, endCol := vx.pos.endCol }
            holding [kv, vv] (dictSet D kv vv))
        again (.compLoop (.DictComp kx vx (cl2 t0 i0 ifs0 t1 i1 ifs1) scope pos) 1 it (.ref D) env)) := by rfl
variable {prog : Program} {w : World} {A : Around} {R : Result → Shared → Prop} {s : Shared} {it : Value} {D : Addr} {env : Env}
theorem loop2D_out (hs : ∀ x, foldedSetIterable i1 env x = pure x) (I : Nat → Shared → Prop)
    (turn : ∀ n s, I n s → wpAny (model prog w) A (pyNext it) (fun r s₁ => match r with
      | none => R (.ok .next) s₁
      | some v => wpAny (model prog w) A (letOwnedTupleGo t0 it v) (fun _ s₁' => wpAny (model prog w) A (assign t0 env v) (fun _ s₂ =>
          wpAny (model prog w) A (forIn ifs0 true fun c r => if r = true then do let ok ← isTrue c env (eval c env); pure (ForInStep.yield ok) else pure (ForInStep.yield r)) (fun ok s₃ =>
            if ok = true then wpAny (model prog w) A (eval i1 env) (fun x s₄ => wpAny (model prog w) A (pyIter x) (fun it1 s₅ =>
              codeAny (model prog w) A (.compStart (.DictComp kx vx (cl2 t0 i0 ifs0 t1 i1 ifs1) scope pos) 1 it1 (.ref D) env) (fun r s' => match r with
                | .ok _ => ∃ m, m < n ∧ I m s'
                | .error _ => False) s₅) (notedBy (model prog w) A env fun e s' => R (.error e) s') s₄) (notedBy (model prog w) A env fun e s' => R (.error e) s') s₃
            else ∃ m, m < n ∧ I m s₃) (notedBy (model prog w) A env fun e s' => R (.error e) s') s₂) (notedBy (model prog w) A env fun e s' => R (.error e) s') s₁') (notedBy (model prog w) A env fun e s' => R (.error e) s') s₁) (notedBy (model prog w) A env fun e s' => R (.error e) s') s)
    (n : Nat) (h : I n s) : codeAny (model prog w) A (.compLoop (.DictComp kx vx (cl2 t0 i0 ifs0 t1 i1 ifs1) scope pos) 0 it (.ref D) env) R s := by
  refine codeAny_loop rfl I (fun n s hI => ?_) n h
  show wpAny _ A ((compTurn (.DictComp kx vx (cl2 t0 i0 ifs0 t1 i1 ifs1) scope pos) 0 it (.ref D) env).onRaise (fun x => do noteFrame x env; theTreesLotGoes x)) _ _ s
  refine wpAny_noted ?_
  rw [turn2D_out]
  refine wpAny_bind (wpAny_standAt (wpAny_bind (wpAny_mono (turn n s hI) (fun r s₁ h₁ => ?_) fun _ _ h' => h')))
  cases r with
  | none => exact wpAny_pure h₁
  | some v =>
    refine wpAny_bind (wpAny_mono h₁ (fun _ s₁' h₁' => ?_) fun _ _ h' => h')
    refine wpAny_bind (wpAny_mono h₁' (fun _ s₂ h₂ => wpAny_bind (wpAny_mono h₂ (fun ok s₃ h₃ => ?_) fun _ _ h' => h')) fun _ _ h' => h')
    cases ok with
    | false => exact wpAny_pure ⟨rfl, h₃⟩
    | true =>
      refine wpAny_bind (wpAny_mono h₃ (fun x s₄ h₄ => ?_) fun _ _ h' => h')
      refine wpAny_bind (wpAny_standAt (wpAny_bind (wpAny_of_eq (hs x) (wpAny_bind (wpAny_holding (wpAny_mono h₄ (fun it1 s₅ h₅ => ?_) fun _ _ h' => h'))))))
      refine wpAny_bind (wpAny_runOwn ?_)
      rw [Around.mark_none]
      refine codeAny_mono h₅ fun r s' hr => ?_
      cases r with
      | ok f =>
        first
          | exact wpAny_pure ⟨rfl, hr⟩
          | exact wpAny_bind (wpAny_pure (wpAny_pure ⟨rfl, hr⟩))
      | error e => exact hr.elim
theorem loop2D_in (I : Nat → Shared → Prop)
    (turn : ∀ n s, I n s → wpAny (model prog w) A (pyNext it) (fun r s₁ => match r with
      | none => R (.ok .next) s₁
      | some v => wpAny (model prog w) A (letOwnedTupleGo t1 it v) (fun _ s₁' => wpAny (model prog w) A (assign t1 env v) (fun _ s₂ =>
          wpAny (model prog w) A (forIn ifs1 true fun c r => if r = true then do let ok ← isTrue c env (eval c env); pure (ForInStep.yield ok) else pure (ForInStep.yield r)) (fun ok s₃ =>
            if ok = true then wpAny (model prog w) A (eval kx env) (fun kv s₄ => wpAny (model prog w) A (eval vx env) (fun vv s₅ =>
              wpAny (model prog w) A (dictSet D kv vv) (fun _ s₆ => ∃ m, m < n ∧ I m s₆) (notedBy (model prog w) A env fun e s' => R (.error e) s') s₅) (notedBy (model prog w) A env fun e s' => R (.error e) s') s₄) (notedBy (model prog w) A env fun e s' => R (.error e) s') s₃
            else ∃ m, m < n ∧ I m s₃) (notedBy (model prog w) A env fun e s' => R (.error e) s') s₂) (notedBy (model prog w) A env fun e s' => R (.error e) s') s₁') (notedBy (model prog w) A env fun e s' => R (.error e) s') s₁) (notedBy (model prog w) A env fun e s' => R (.error e) s') s)
    (n : Nat) (h : I n s) : codeAny (model prog w) A (.compLoop (.DictComp kx vx (cl2 t0 i0 ifs0 t1 i1 ifs1) scope pos) 1 it (.ref D) env) R s := by
  refine codeAny_loop rfl I (fun n s hI => ?_) n h
  show wpAny _ A ((compTurn (.DictComp kx vx (cl2 t0 i0 ifs0 t1 i1 ifs1) scope pos) 1 it (.ref D) env).onRaise (fun x => do noteFrame x env; theTreesLotGoes x)) _ _ s
  refine wpAny_noted ?_
  rw [turn2D_in]
  refine wpAny_bind (wpAny_standAt (wpAny_bind (wpAny_mono (turn n s hI) (fun r s₁ h₁ => ?_) fun _ _ h' => h')))
  cases r with
  | none => exact wpAny_pure h₁
  | some v =>
    refine wpAny_bind (wpAny_mono h₁ (fun _ s₁' h₁' => ?_) fun _ _ h' => h')
    refine wpAny_bind (wpAny_mono h₁' (fun _ s₂ h₂ => wpAny_bind (wpAny_mono h₂ (fun ok s₃ h₃ => ?_) fun _ _ h' => h')) fun _ _ h' => h')
    cases ok with
    | false => exact wpAny_pure ⟨rfl, h₃⟩
    | true =>
      exact wpAny_bind (wpAny_bind (wpAny_mono h₃ (fun kv s₄ h₄ => wpAny_bind (wpAny_holding (wpAny_mono h₄ (fun vv s₅ h₅ => wpAny_bind (wpAny_standAt (wpAny_holding (wpAny_mono h₅ (fun _ s₆ h₆ => wpAny_pure ⟨rfl, h₆⟩) fun _ _ h' => h')))) fun _ _ h' => h'))) fun _ _ h' => h'))
theorem start2D_in (h0 : codeAny (model prog w) A (.compLoop (.DictComp kx vx (cl2 t0 i0 ifs0 t1 i1 ifs1) scope pos) 1 it (.ref D) env) R s)
    (h : wpAny (model prog w) A (pyIter it) (fun it' s' => codeAny (model prog w) A (.compLoop (.DictComp kx vx (cl2 t0 i0 ifs0 t1 i1 ifs1) scope pos) 1 it' (.ref D) env) R s') (notedBy (model prog w) A env fun x s' => R (.error x) s') s) :
    codeAny (model prog w) A (.compStart (.DictComp kx vx (cl2 t0 i0 ifs0 t1 i1 ifs1) scope pos) 1 it (.ref D) env) R s := by
  refine codeAny_of_tree ?_
  show wpAny _ _ ((compStart (.DictComp kx vx (cl2 t0 i0 ifs0 t1 i1 ifs1) scope pos) 1 it (.ref D) env).onRaise (fun x => do noteFrame x env; standAt theWindowsPlace)) _ _ s
  refine wpAny_notedAt ?_
  unfold compStart
  show wpAny _ _ (ask >>= _) _ _ s
  refine wpAny_bind (wpAny_askSetting (wpAny_ite ?_))
  split
  · first
      | exact wpAny_bind (wpAny_pure (wpAny_pure (And.intro rfl h0)))
      | exact wpAny_pure (And.intro rfl h0)
  · first
      | exact wpAny_bind (wpAny_rule (wpAny_bind (wpAny_standAt (wpAny_bind (wpAny_mono h (fun it' s' h' => wpAny_pure (And.intro rfl h')) fun _ _ x => x)))))
      | (refine wpAny_bind (wpAny_rule ?_); show wpAny _ _ (standAt i1.pos >>= _) _ _ s; exact wpAny_bind (wpAny_standAt (wpAny_bind (wpAny_mono h (fun it' s' h' => wpAny_pure (And.intro rfl h')) fun _ _ x => x))))
end
section
variable {X : Cx}
/-- the reading over V -/
def tDc2N (K : PySem.W.Frag) (w : World) (wi : TI) (g : TG) (tt : TT) (wi1 : TI) (g1 : TG) (tt1 : TT) (tk tv : TE) (vs vs1 : List Nat) : TE := fun σ H Q => wi σ H fun J H1 => ∀ da, H1 da = none → ∃ W : Nat → Nat → Hp → Prop, (∃ m, W 0 m (upd H1 da (DictO w da []))) ∧
  ∀ i m H, W i m H → (J.stop i H ∧ Q (.ref da) H) ∨ (J.go i H ∧ ∃ Nx : Hp → Prop, (∀ H', Nx H' → ∃ m', m' < m ∧ W (i + 1) m' H') ∧ ∀ x H', J.yld i H x H' → g x (wipe σ vs) H' fun σ2 H2 => wipe σ2 vs = wipe σ vs ∧ tt σ2 H2 fun c H3 =>
    if c = true then wi1 σ2 H3 fun J1 H4 => ∃ W1 : Nat → Nat → Hp → Prop, (∃ m, W1 0 m H4) ∧ ∀ j k H, W1 j k H →
      (J1.stop j H ∧ Nx H) ∨ (J1.go j H ∧ ∃ Nx1 : Hp → Prop, (∀ H', Nx1 H' → ∃ k', k' < k ∧ W1 (j + 1) k' H') ∧ ∀ x H', J1.yld j H x H' → g1 x (wipe σ2 vs1) H' fun σ3 H5 => wipe σ3 vs1 = wipe σ2 vs1 ∧ tt1 σ3 H5 fun b H6 =>
        if b = true then tk σ3 H6 fun y H7 => tv σ3 H7 fun z H8 => ∃ (k : D) (b : Addr) (kvs : List (D × D)) (es : List (NestedKey × Addr × V)), y = .ref b ∧ H8 da = some (DictO w da es) ∧ RepKV K H8 kvs es ∧ es.length ≤ sizeLine ∧ Rep K H8 k (.ref b) ∧ kOk k = true ∧ (nk k).depth ≤ 8 ∧
          Nx1 (upd H8 da (DictO w da (storeV es (nk k) b z))) else Nx1 H6)
    else Nx H3)
theorem dc2_core {pins : List (Addr × Obj)} {s : Shared} {σ : SL} {H : Hp} {Q : VK} {pos' : Pos} {use : Option (Value → Sem Unit)} {Qf : Value → Shared → Prop} {kx vx tg iter tg1 iter1 : Expr} {ifs ifs1 : List Expr} {scope : Scope} {own : List (Str × Nat)} {vs1 : List Nat} {pos : Pos} {wi wi1 : TI} {g g1 : TG} {tt tt1 : TT} {tk tv : TE}
    (hu : X.A.units + 8 < cLine) (hc : X.calm = true) (hN : X.N.Nodup) (hi : PI X tg iter wi) (ok : BlkOk X.N X.env.scope scope own) (hv : ∀ i ∈ vs1, i ∈ own.map (·.2))
    (pg : ∀ (s : Shared) (H : Hp) (C : Addr) (cl : List (Str × Addr)) (fp : List Addr), PG (X.blk s H scope (compEnvC scope cl C X.env) fp) tg g)
    (pt : ∀ (s : Shared) (H : Hp) (C : Addr) (cl : List (Str × Addr)) (fp : List Addr), PTs (X.blk s H scope (compEnvC scope cl C X.env) fp) ifs tt)
    (pi1 : ∀ (s : Shared) (H : Hp) (C : Addr) (cl : List (Str × Addr)) (fp : List Addr), PI (X.blk s H scope (compEnvC scope cl C X.env) fp) tg1 iter1 wi1)
    (pg1 : ∀ (s : Shared) (H : Hp) (C : Addr) (cl : List (Str × Addr)) (fp : List Addr), PG (X.blk s H scope (compEnvC scope cl C X.env) fp) tg1 g1)
    (pt1 : ∀ (s : Shared) (H : Hp) (C : Addr) (cl : List (Str × Addr)) (fp : List Addr), PTs (X.blk s H scope (compEnvC scope cl C X.env) fp) ifs1 tt1)
    (pk : ∀ (s : Shared) (H : Hp) (C : Addr) (cl : List (Str × Addr)) (fp : List Addr), PE (X.blk s H scope (compEnvC scope cl C X.env) fp) kx tk)
    (pv : ∀ (s : Shared) (H : Hp) (C : Addr) (cl : List (Str × Addr)) (fp : List Addr), PE (X.blk s H scope (compEnvC scope cl C X.env) fp) vx tv) (hs : ∀ x, foldedSetIterable iter X.env x = pure x) (hs1 : ∀ env x, foldedSetIterable iter1 env x = pure x) (I : Inv X pins σ H s)
    (q0 : tDc2N X.K X.w wi g tt wi1 g1 tt1 tk tv (own.map (·.2)) vs1 σ H Q) (hRR : ∀ D C s' m H', Inv X pins σ H' s' → Q (.ref D) H' → s'.heap.Ns C m → FpOk X pins H' C → compPost (model X.prog X.w) X.A X.xe use Qf (.ref D) C (.ok .next) s') :
    wpAny (model X.prog X.w) X.A (comprehension (.DictComp kx vx (cl2 tg iter ifs tg1 iter1 ifs1) scope pos) scope X.env pos' newDict false (eval iter X.env) use) Qf X.xe s := by
  have cap : ∀ y ∈ scope.names, y.2 = .free → ∃ c, X.env.cells.lookup y.1 = some c := by
    intro y hy e
    exact (ok.free y hy e).elim (fun z => I.ok.has _ (.inl z)) fun z => I.ok.has _ (.inr z)
  refine wpAny_comprehension_free (use := use) rfl hs (closure_ok cap) ok.kind (fun y hy e => by rw [ok.uniq y hy, e]) (thn (hi.run pins s σ H _ I q0) fun src sa wa => thn wa fun out sb wb => ?_)
  obtain ⟨itA, ch, tn, J, Hb, rfl, Ib, Tn, stb, fpb, cont⟩ := wb
  refine wpAny_newObj_type (newEnv_comp ?_)
  obtain ⟨da, eda⟩ : ∃ da, da = sb.heap.objs.size := ⟨_, rfl⟩
  have nda : Hb da = none := Ib.hok.fresh (by rw [eda]; exact Nat.le_refl _)
  obtain ⟨W, ⟨m0, w0⟩, turn⟩ := cont da nda
  obtain ⟨sc, esc⟩ : ∃ sc : Shared, sc = { sb with heap := sb.heap.push { cls := .type "dict", data := .dict #[] } } := ⟨_, rfl⟩
  obtain ⟨Hc, eHc⟩ : ∃ Hc : Hp, Hc = upd Hb da (DictO X.w da []) := ⟨_, rfl⟩
  have hsc : sc.heap = sb.heap.push { cls := .type "dict", data := .dict #[] } := by rw [esc]
  have Ic : Inv X pins σ Hc sc := by
    rw [eHc, esc, eda]
    exact Ib.laid (t' := sb.toks) (fun b o e => Heap.get?_push_of_some _ e) (Nat.le_refl _) (empty_dict sb.heap Ib.big)
  have fpc : ∀ b ∈ ch, FpOk X pins Hc b ∧ b < sc.heap.objs.size := by
    intro b hb
    obtain ⟨o, e, _⟩ := Tn.obj _ _ stb b hb
    have lt := Heap.lt_size e
    constructor
    · refine ⟨?_, (fpb b hb).2⟩
      rw [eHc, upd_ne (by rw [eda]; exact Nat.ne_of_lt lt)]
      exact (fpb b hb).1
    · rw [hsc, Heap.size_push]
      exact Nat.lt_succ_of_lt lt
  have stc : tn 0 sc.heap := Tn.keep _ _ _ stb fun b _ o e => by rw [hsc]; exact Heap.get?_push_of_some _ e
  have Id := block_start Ic ok hN fpc
  rw [← eHc] at w0
  obtain ⟨cl, ecl⟩ : ∃ cl, cl = cellsFrom (sc.heap.objs.size + 1) scope.names (cloFrom X.env.cells scope.names []) := ⟨_, rfl⟩
  obtain ⟨ce, ece⟩ : ∃ ce : Env, ce = compEnvC scope cl sc.heap.objs.size X.env := ⟨_, rfl⟩
  obtain ⟨sd, esd⟩ : ∃ sd : Shared, sd = { sc with heap := pushCells (sc.heap.push { cls := .type "dict", data := .dict #[] }) scope.names } := ⟨_, rfl⟩
  suffices main : codeAny (model X.prog X.w) X.A (.compStart (.DictComp kx vx (cl2 tg iter ifs tg1 iter1 ifs1) scope pos) 0 (.ref itA) (.ref da) ce) (compPost (model X.prog X.w) X.A X.xe use Qf (.ref da) sc.heap.objs.size) sd by
    rw [ece, ecl, esd, esc, eda] at main
    exact main
  rw [← ecl, ← ece, ← esd] at Id
  have locC : ce.locals = sc.heap.objs.size := by rw [ece]; rfl
  have std : tn 0 sd.heap := Tn.keep _ _ _ stc fun b _ o e => by
    rw [esd]
    exact pushCells_keeps _ _ _ _ (Heap.get?_push_of_some _ e)
  have still : ∀ {τ : SL} {H' : Hp} {t : Shared}, Inv (X.blk sc Hc scope ce ch) [] τ H' t → (∀ b ∈ ch, H' b = none) → ∀ b ∈ ch, FpOk (X.blk sc Hc scope ce ch) [] H' b := by
    intro τ H' t J' hn b hb
    exact ⟨hn b hb, (J'.ok.exf b hb).1, J'.ok.exfs b hb, .inl hb, fun x c e => (J'.ok.exf b hb).2 x c e, fun p hp => absurd (show p ∈ ([] : List (Addr × Obj)) ++ [] from hp) (by simp)⟩
  have Pg := pg sc Hc sc.heap.objs.size cl ch
  have Pt := pt sc Hc sc.heap.objs.size cl ch
  have Pi1 := pi1 sc Hc sc.heap.objs.size cl ch
  have Pg1 := pg1 sc Hc sc.heap.objs.size cl ch
  have Pt1 := pt1 sc Hc sc.heap.objs.size cl ch
  have Pk := pk sc Hc sc.heap.objs.size cl ch
  have Pv := pv sc Hc sc.heap.objs.size cl ch
  rw [← ece] at Pg Pt Pi1 Pg1 Pt1 Pk Pv
  have walk : codeAny (model X.prog X.w) X.A (.compLoop (.DictComp kx vx (cl2 tg iter ifs tg1 iter1 ifs1) scope pos) 0 (.ref itA) (.ref da) ce) (compPost (model X.prog X.w) X.A X.xe use Qf (.ref da) sc.heap.objs.size) sd := by
    refine loop2D_out (hs1 ce) (fun n t => ∃ i H', Inv (X.blk sc Hc scope ce ch) [] (wipe σ (own.map (·.2))) H' t ∧ tn i t.heap ∧ (∀ b ∈ ch, H' b = none) ∧ W i n H') (fun n t ⟨i, Ht, It, stt, nt, wt⟩ => ?_) m0 ⟨0, Hc, Id, std, fun b hb => (fpc b hb).1.1, w0⟩
    rcases turn i n Ht wt with ⟨stop, fin⟩ | ⟨go, Nx, less, step⟩
    · refine thnF (Tn.done (X.blk sc Hc scope ce ch) rfl rfl rfl hc i [] t _ Ht (fun _ _ => False) It (still It nt) stt stop) fun r t1 ⟨hr, I1⟩ => ?_
      subst hr
      have I2 : Inv X pins σ Ht t1 := Ic.call' (ch := ch) I1.os I1.base I1.hok I1.bare fun b hb => by
        obtain ⟨_, f1, _, f3, f4, f5⟩ := (fpc b hb).1
        exact ⟨f3, f1, f4, f5⟩
      have nC : Ht sc.heap.objs.size = none := by
        have z : Ht ce.locals = none := I1.free
        rwa [locC] at z
      obtain ⟨mm, hm, _⟩ := I1.loc
      have hm : t1.heap.Ns ce.locals mm := hm
      rw [locC] at hm
      exact hRR da _ t1 mm Ht I2 fin hm (Ic.fpOk (Nat.le_refl _) nC)
    · refine thnF (Tn.item (X.blk sc Hc scope ce ch) rfl rfl rfl hc i [] t _ Ht (fun _ _ => False) It (still It nt) stt go) fun r t1 ⟨u, hr, hu1⟩ => ?_
      subst hr
      refine thnF hu1 fun _ t2 ⟨x, H2, I2, rx, y2, st2, n2⟩ => ?_
      refine thnF (Pg.run _ t2 _ H2 x u _ (I2.pinned (still I2 n2) (Tn.obj _ _ st2)) rx (step x H2 y2)) fun _ t3 ⟨σ3, H3, I3, hw, q3⟩ => ?_
      refine thnF (Pt.run _ t3 σ3 H3 _ I3 q3) fun c t4 ⟨H4, I4, q4⟩ => ?_
      have close : ∀ {τ : SL} {t' : Shared} {H' : Hp}, Inv (X.blk sc Hc scope ce ch) ([] ++ pinsAt ch t2.heap) τ H' t' → (wipe σ (own.map (·.2))).length = τ.length → (∀ (j : Nat) v, (wipe σ (own.map (·.2)))[j]? = some (some v) → τ[j]? = some (some v)) → Nx H' →
          ∃ m, m < n ∧ ∃ i H', Inv (X.blk sc Hc scope ce ch) [] (wipe σ (own.map (·.2))) H' t' ∧ tn i t'.heap ∧ (∀ b ∈ ch, H' b = none) ∧ W i m H' := by
        intro τ t' H' I' hl hk nx
        obtain ⟨m', hm, w'⟩ := less H' nx
        have held : ∀ b ∈ ch, ∀ o, t2.heap.get? b = some o → t'.heap.get? b = some o ∧ H' b = none := by
          intro b hb o e
          have z := I'.pin (b, o) (List.mem_append_right _ (List.mem_append_right _ (mem_pinsAt hb e)))
          exact ⟨z.1, z.2.1⟩
        refine ⟨m', hm, i + 1, H', (I'.unpinned (pins := [])).weak hl hk, Tn.keep _ _ _ st2 fun b hb o e => (held b hb o e).1, fun b hb => ?_, w'⟩
        obtain ⟨o, e, _⟩ := Tn.obj _ _ st2 b hb
        exact (held b hb o e).2
      have hl3 : (wipe σ (own.map (·.2))).length = σ3.length := by rw [← hw, wipe_length]
      have hk3 : ∀ (j : Nat) v, (wipe σ (own.map (·.2)))[j]? = some (some v) → σ3[j]? = some (some v) := fun j v e => by
        rw [← hw] at e
        exact (wipe_some e).1
      have hk9 : ∀ (j : Nat) v, (wipe σ (own.map (·.2)))[j]? = some (some v) → (wipe σ3 vs1)[j]? = some (some v) := fun j v e => by
        rw [← hw] at e
        obtain ⟨e1, e2⟩ := wipe_some e
        rw [wipe_out fun z => e2 (hv j z)]
        exact e1
      cases c with
      | false =>
        simp only [Bool.false_eq_true, if_false] at q4 ⊢
        exact close I4 hl3 hk3 q4
      | true =>
        simp only [if_true] at q4 ⊢
        refine thnF (Pi1.run _ t4 σ3 H4 _ I4 q4) fun xv t5 hx => thnF hx fun itv t6 h6 => ?_
        obtain ⟨it1, ch1, tn1, J1, H6, e1, I6, Tn1, st6, f6, W1, ⟨m1, w1⟩, turn1⟩ := h6
        subst e1
        have still1 : ∀ {H' : Hp}, (∀ b ∈ ch1, H' b = none) → ∀ b ∈ ch1, FpOk (X.blk sc Hc scope ce ch) ([] ++ pinsAt ch t2.heap) H' b := fun hn b hb => ⟨hn b hb, (f6 b hb).2⟩
        have walk1 : codeAny (model X.prog X.w) X.A (.compLoop (.DictComp kx vx (cl2 tg iter ifs tg1 iter1 ifs1) scope pos) 1 (.ref it1) (.ref da) ce)
            (fun r s' => match r with
              | .ok _ => ∃ m, m < n ∧ ∃ i H', Inv (X.blk sc Hc scope ce ch) [] (wipe σ (own.map (·.2))) H' s' ∧ tn i s'.heap ∧ (∀ b ∈ ch, H' b = none) ∧ W i m H'
              | .error _ => False) t6 := by
          refine loop2D_in (fun k s' => ∃ j H', Inv (X.blk sc Hc scope ce ch) ([] ++ pinsAt ch t2.heap) (wipe σ3 vs1) H' s' ∧ tn1 j s'.heap ∧ (∀ b ∈ ch1, H' b = none) ∧ W1 j k H') ?_ m1 ⟨0, H6, I6.weak (wipe_length _ _) (fun j v e => (wipe_some e).1), st6, fun b hb => (f6 b hb).1, w1⟩
          rintro k s12 ⟨j, H12, I12, st12, n12, w12⟩
          rcases turn1 j k H12 w12 with ⟨stop1, nx1⟩ | ⟨go1, Nx1, less1, step1⟩
          · refine thnF (Tn1.done (X.blk sc Hc scope ce ch) rfl rfl rfl hc j _ s12 (wipe σ3 vs1) H12 (fun _ _ => False) I12 (still1 n12) st12 stop1) fun r s13 ⟨hr, I13⟩ => ?_
            subst hr
            exact close I13 (hl3.trans (wipe_length σ3 vs1).symm) hk9 nx1
          · refine thnF (Tn1.item (X.blk sc Hc scope ce ch) rfl rfl rfl hc j _ s12 (wipe σ3 vs1) H12 (fun _ _ => False) I12 (still1 n12) st12 go1) fun r s13 ⟨u1, hr, h13⟩ => ?_
            subst hr
            refine thnF h13 fun _ s14 ⟨x1, H14, I14, r14, y14, st14, n14⟩ => ?_
            refine thnF (Pg1.run _ s14 (wipe σ3 vs1) H14 x1 u1 _ (I14.pinned (still1 n14) (Tn1.obj _ _ st14)) r14 (step1 x1 H14 y14)) fun _ s15 ⟨σ15, H15, I15, hw15, q15⟩ => ?_
            refine thnF (Pt1.run _ s15 σ15 H15 _ I15 q15) fun b1 s16 ⟨H16, I16, q16⟩ => ?_
            have close1 : ∀ {s' : Shared} {H' : Hp}, Inv (X.blk sc Hc scope ce ch) (([] ++ pinsAt ch t2.heap) ++ pinsAt ch1 s14.heap) σ15 H' s' → Nx1 H' → ∃ m, m < k ∧ ∃ j H', Inv (X.blk sc Hc scope ce ch) ([] ++ pinsAt ch t2.heap) (wipe σ3 vs1) H' s' ∧ tn1 j s'.heap ∧ (∀ b ∈ ch1, H' b = none) ∧ W1 j m H' := fun {s' H'} I' nx => by
              obtain ⟨m', hm, w'⟩ := less1 H' nx
              have pin' : ∀ b ∈ ch1, ∀ o, s14.heap.get? b = some o → s'.heap.get? b = some o ∧ H' b = none := fun b hb o e =>
                let z := I'.pin (b, o) (List.mem_append_right _ (List.mem_append_right _ (mem_pinsAt hb e)))
                ⟨z.1, z.2.1⟩
              refine ⟨m', hm, j + 1, H', I'.unpinned.weak (by rw [← hw15, wipe_length]) (fun j v e => by rw [← hw15] at e; exact (wipe_some e).1), Tn1.keep _ _ _ st14 fun b hb o e => (pin' b hb o e).1, fun b hb => ?_, w'⟩
              obtain ⟨o, e, _⟩ := Tn1.obj _ _ st14 b hb
              exact (pin' b hb o e).2
            cases b1 with
            | false =>
              simp only [Bool.false_eq_true, if_false] at q16 ⊢
              exact close1 I16 q16
            | true =>
              simp only [if_true] at q16 ⊢
              refine thnF (Pk.run _ s16 σ15 H16 _ I16 q16) fun z s17 ⟨yk, H17, I17, r17, q17⟩ => ?_
              refine thnF (Pv.run _ s17 σ15 H17 _ I17 q17) fun z2 s18 ⟨yv, H18, I18, r18, k, b, kvs, es, ek, h18, rkv, hz, rk, hk, hd, nx⟩ => ?_
              subst ek
              obtain rfl : z = Value.ref b := r17
              exact dict_set (X := X.blk sc Hc scope ce ch) hu I18 h18 rkv hz rk hk hd r18 fun s19 I19 => close1 I19 nx
        exact start2D_in walk1 (Tn1.self X.A 0 _ _ _ st6 walk1)
  exact codeAny_compStart_dict walk (Tn.self X.A 0 _ _ _ std walk)
theorem ps_setDc2 {i : Nat} {y : Str} {py spos : Pos} {kx vx tg iter tg1 iter1 : Expr} {ifs ifs1 : List Expr} {scope : Scope} {own : List (Str × Nat)} {vs1 : List Nat} {pos : Pos} {wi wi1 : TI} {g g1 : TG} {tt tt1 : TT} {tk tv : TE} (hu : X.A.units + 8 < cLine) (hc : X.calm = true) (hN : X.N.Nodup) (hy : X.N[i]? = some y) (hyl : X.env.scope.names.lookup y = some .local)
    (hsw : swapsWith (.DictComp kx vx (cl2 tg iter ifs tg1 iter1 ifs1) scope pos) (some (.Name y py)) spos.line X.env = pure true) (hi : PI X tg iter wi) (ok : BlkOk X.N X.env.scope scope own) (hv : ∀ i ∈ vs1, i ∈ own.map (·.2))
    (pg : ∀ (s : Shared) (H : Hp) (C : Addr) (cl : List (Str × Addr)) (fp : List Addr), PG (X.blk s H scope (compEnvC scope cl C X.env) fp) tg g)
    (pt : ∀ (s : Shared) (H : Hp) (C : Addr) (cl : List (Str × Addr)) (fp : List Addr), PTs (X.blk s H scope (compEnvC scope cl C X.env) fp) ifs tt)
    (pi1 : ∀ (s : Shared) (H : Hp) (C : Addr) (cl : List (Str × Addr)) (fp : List Addr), PI (X.blk s H scope (compEnvC scope cl C X.env) fp) tg1 iter1 wi1)
    (pg1 : ∀ (s : Shared) (H : Hp) (C : Addr) (cl : List (Str × Addr)) (fp : List Addr), PG (X.blk s H scope (compEnvC scope cl C X.env) fp) tg1 g1)
    (pt1 : ∀ (s : Shared) (H : Hp) (C : Addr) (cl : List (Str × Addr)) (fp : List Addr), PTs (X.blk s H scope (compEnvC scope cl C X.env) fp) ifs1 tt1)
    (pk : ∀ (s : Shared) (H : Hp) (C : Addr) (cl : List (Str × Addr)) (fp : List Addr), PE (X.blk s H scope (compEnvC scope cl C X.env) fp) kx tk)
    (pv : ∀ (s : Shared) (H : Hp) (C : Addr) (cl : List (Str × Addr)) (fp : List Addr), PE (X.blk s H scope (compEnvC scope cl C X.env) fp) vx tv) (hs : ∀ x, foldedSetIterable iter X.env x = pure x := by intro _; rfl) (hs1 : ∀ env x, foldedSetIterable iter1 env x = pure x := by intro _ _; rfl) :
    PS X (.Assign [.Name y py] (.DictComp kx vx (cl2 tg iter ifs tg1 iter1 ifs1) scope pos) spos) (tAsg (tDc2N X.K X.w wi g tt wi1 g1 tt1 tk tv (own.map (·.2)) vs1) (gName i)) := by
  refine ⟨fun pins s σ H D I h => ?_⟩
  rw [exec_Assign_Name_used _ _ _ _ hsw]
  refine wpAny_bind (wpAny_standAt (wpAny_bind ?_))
  show wpAny _ X.A (do let _ ← comprehension (.DictComp kx vx (cl2 tg iter ifs tg1 iter1 ifs1) scope pos) scope X.env (firstIterPos (cl2 tg iter ifs tg1 iter1 ifs1) pos) newDict false (eval iter X.env) (some (assign (.Name y py) X.env))) _ _ s
  have h : tDc2N X.K X.w wi g tt wi1 g1 tt1 tk tv (own.map (·.2)) vs1 σ H (fun x H1 => gName i x σ H1 D.nx) := h
  refine wpAny_bind (thn (dc2_core (Qf := fun _ s' => SP X pins D .next s') hu hc hN hi ok hv pg pt pi1 pg1 pt1 pk pv hs hs1 I h fun L C s' m H' I' q hn f => ?_) fun _ s' hq => wpAny_pure (wpAny_pure hq))
  show wpAny _ _ (assign (.Name y py) X.env (.ref L)) _ _ _
  refine wpAny_assign_Name (store_ok2 (v := V.ref L) I' hN hy (.inl hyl) rfl (fun s2 I2 ⟨a, sb, ha⟩ => ?_) (.inr hyl))
  obtain ⟨f0, f1, f2, f3, f4, f5⟩ := f
  have haC : C ≠ a := by
    rcases ha with z | z
    · rw [z]; exact f1
    · exact fun e => f4 y a z e.symm
  refine ⟨m, hn.sameBut sb haC, fun h3 sb3 => ?_⟩
  exact ⟨_, H', I2.turned (t' := s2.toks) (fun b o hb e => (sb3.2 b hb).trans e) f0 f1 f3 f4 f5, q⟩
end
/-! ### over deep values -/
def dDcIn (w : World) (src : Src) (g : DTG) (tt : DTT) (tk tv : DTE) (m0 : DSt) (p : Addr) (Nx : List (D × D) → DM → Prop) : List D → List (D × D) → DM → Prop
  | [], acc, M => SrcV src M ∧ M p = some (.dct w acc) ∧ Nx acc M
  | d :: ds, acc, M => SrcV src M ∧ g d m0 M fun m1 M1 => tt m1 M1 fun b M2 =>
      if b = true then tk m1 M2 fun k M3 => tv m1 M3 fun v M4 => M4 p = some (.dct w acc) ∧ isKey k ∧ acc.length < 16777216 ∧ dDcIn w src g tt tk tv m0 p Nx ds (dput acc k v) (mput M4 p (.dct w (dput acc k v)))
      else dDcIn w src g tt tk tv m0 p Nx ds acc M2
def dDcOut (w : World) (src : Src) (g : DTG) (tt : DTT) (t1 : DTI) (g1 : DTG) (tt1 : DTT) (tk tv : DTE) (ws1 : List Nat) (m0 : DSt) (p : Addr) (Qd : List (D × D) → DM → Prop) : List D → List (D × D) → DM → Prop
  | [], acc, M => SrcV src M ∧ M p = some (.dct w acc) ∧ Qd acc M
  | d :: ds, acc, M => SrcV src M ∧ g d m0 M fun m1 M1 => tt m1 M1 fun b M2 =>
      if b = true then t1 m1 M2 fun src1 M3 => src1.1.length ≤ sizeLine → dDcIn w src1 g1 tt1 tk tv (dwipe m1 ws1) p (fun acc' M' => dDcOut w src g tt t1 g1 tt1 tk tv ws1 m0 p Qd ds acc' M') src1.1 acc M3
      else dDcOut w src g tt t1 g1 tt1 tk tv ws1 m0 p Qd ds acc M2
def dDc2 (w : World) (t : DTI) (g : DTG) (tt : DTT) (t1 : DTI) (g1 : DTG) (tt1 : DTT) (tk tv : DTE) (vs ws1 : List Nat) : DTE := fun m M Q => t m M fun src M1 => src.1.length ≤ sizeLine → ∀ p, M1 p = none → dDcOut w src g tt t1 g1 tt1 tk tv ws1 (dwipe m vs) p (fun _ M2 => Q (.ref p) M2) src.1 [] (mput M1 p (.dct w []))
section
variable {X : Cx} {kx vx tg iter tg1 iter1 : Expr} {ifs ifs1 : List Expr} {scope : Scope} {own : List (Str × Nat)} {pos : Pos} {t t1 : DTI} {g g1 : DTG} {tt tt1 : DTT} {tk tv : DTE} {ws ws1 : List Nat}
theorem dc2_up {σ : SL} {H : Hp} {m : DSt} {M : DM} {Qv : VK} {Qf : Addr → DM → Prop} {w : World} {vs : List Nat} (hw : X.w = w) (hsub : ∀ i ∈ ws, i ∈ vs) (r : R X.K m M σ H)
    (q : t m M fun src M1 => src.1.length ≤ sizeLine → ∀ p, M1 p = none → dDcOut w src g tt t1 g1 tt1 tk tv ws1 (dwipe m vs) p (fun _ M2 => Qf p M2) src.1 [] (mput M1 p (.dct w [])))
    (k : ∀ p M2 H2, Grow H H2 → RM X.K H2 M2 → Qf p M2 → Qv (.ref p) H2) : tDc2N X.K X.w (upI X.K t) (upG X.K ws g) (upT X.K tt) (upI X.K t1) (upG X.K ws1 g1) (upT X.K tt1) (upE X.K tk) (upE X.K tv) vs ws1 σ H Qv := by
  subst hw
  refine ⟨m, M, _, r, q, fun src M1 H1 J g0 m1 q1 st p np => ?_⟩
  have q2 := q1 st.small p (m1.free np)
  have g2 : Grow H1 (upd H1 p (DictO X.w p [])) := .new np
  refine ⟨fun i n H2 => i + n = src.1.length ∧ Grow H1 H2 ∧ ∃ acc M2, RM X.K H2 M2 ∧ dDcOut X.w src g tt t1 g1 tt1 tk tv ws1 (dwipe m vs) p (fun _ M2 => Qf p M2) (src.1.drop i) acc M2,
    ⟨src.1.length, by omega, g2, [], _, m1.newDct np, q2⟩, ?_⟩
  rintro i n H2 ⟨hl, g3, acc, M2, m2, q3⟩
  have r2 : R X.K (dwipe m vs) M2 (wipe σ vs) H2 := (r.wipe vs).grow (g0.trans g3) m2
  by_cases hlt : i < src.1.length
  · rw [List.drop_eq_getElem_cons hlt] at q3
    obtain ⟨sv, q3⟩ := q3
    have so := sv.ok g3 m2
    refine .inr ⟨st.go i H2 so hlt, fun H3 => Grow H1 H3 ∧ ∃ acc M2, RM X.K H3 M2 ∧ dDcOut X.w src g tt t1 g1 tt1 tk tv ws1 (dwipe m vs) p (fun _ M2 => Qf p M2) (src.1.drop (i + 1)) acc M2,
      fun H3 ⟨g4, z⟩ => ⟨n - 1, by omega, by omega, g4, z⟩, fun x H3 y => ?_⟩
    obtain ⟨g4, k4, d, e4, rd⟩ := st.yld i H2 x H3 so hlt y
    have ed : d = src.1[i] := by
      rw [List.getElem?_eq_getElem hlt] at e4
      exact (Option.some.inj e4).symm
    subst ed
    refine ⟨_, _, M2, _, rd, r2.grow g4 (k4 _ m2), q3, fun m5 M5 σ5 H5 g5 r5 o5 q5 => ⟨wipe_off o5 hsub, ?_⟩⟩
    refine ⟨m5, M5, _, r5, q5, fun b M6 H6 g6 m6 q6 => ?_⟩
    have g06 : Grow H1 H6 := ((g3.trans g4).trans g5).trans g6
    have r6 := r5.grow g6 m6
    cases b with
    | true =>
      refine ⟨m5, M6, _, r6, q6, fun src1 M7 H7 J1 g7 m7 q7 st1 => ?_⟩
      have q8 := q7 st1.small
      refine ⟨fun j n H8 => j + n = src1.1.length ∧ Grow H7 H8 ∧ ∃ acc M8, RM X.K H8 M8 ∧ dDcIn X.w src1 g1 tt1 tk tv (dwipe m5 ws1) p (fun acc' M' => dDcOut X.w src g tt t1 g1 tt1 tk tv ws1 (dwipe m vs) p (fun _ M2 => Qf p M2) (src.1.drop (i + 1)) acc' M') (src1.1.drop j) acc M8,
        ⟨src1.1.length, by omega, .refl _, acc, M7, m7, q8⟩, ?_⟩
      rintro j n1 H8 ⟨hl1, g8, acc8, M8, m8, q9⟩
      have r8 : R X.K (dwipe m5 ws1) M8 (wipe σ5 ws1) H8 := (r6.wipe ws1).grow (g7.trans g8) m8
      by_cases hlt1 : j < src1.1.length
      · rw [List.drop_eq_getElem_cons hlt1] at q9
        obtain ⟨sv1, q9⟩ := q9
        have so1 := sv1.ok g8 m8
        refine .inr ⟨st1.go j H8 so1 hlt1, fun H9 => Grow H7 H9 ∧ ∃ acc M8, RM X.K H9 M8 ∧ dDcIn X.w src1 g1 tt1 tk tv (dwipe m5 ws1) p (fun acc' M' => dDcOut X.w src g tt t1 g1 tt1 tk tv ws1 (dwipe m vs) p (fun _ M2 => Qf p M2) (src.1.drop (i + 1)) acc' M') (src1.1.drop (j + 1)) acc M8,
          fun H9 ⟨g9, z⟩ => ⟨n1 - 1, by omega, by omega, g9, z⟩, fun x1 H9 y1 => ?_⟩
        obtain ⟨g9, k9, d1, e9, rd1⟩ := st1.yld j H8 x1 H9 so1 hlt1 y1
        have ed1 : d1 = src1.1[j] := by
          rw [List.getElem?_eq_getElem hlt1] at e9
          exact (Option.some.inj e9).symm
        subst ed1
        refine ⟨_, _, M8, _, rd1, r8.grow g9 (k9 _ m8), q9, fun mA MA σA HA gA rA oA qA => ⟨wipe_off oA (fun i h => h), ?_⟩⟩
        refine ⟨mA, MA, _, rA, qA, fun b1 MB HB gB mB qB => ?_⟩
        have g0B : Grow H7 HB := ((g8.trans g9).trans gA).trans gB
        cases b1 with
        | true =>
          refine ⟨mA, MB, _, rA.grow gB mB, qB, fun kd kv MC HC gC rk mC qC => ?_⟩
          refine ⟨mA, MC, _, (rA.grow gB mB).grow gC mC, qC, fun vd vv ME HE gE rv mE ⟨eE, ⟨⟨ks, ek⟩, hok, hdp⟩, hsz, qE⟩ => ?_⟩
          subst ek
          obtain ⟨es, hE, hzE, rkv⟩ := mE.dct eE
          cases rk with
          | @tup _ b vs hf z l =>
            have rkE : Rep X.K HE (.tup ks) (.ref b) := Rep.grow (.tup hf z l) gE
            have hlen : es.length < sizeLine := by
              rw [← rkv.len, sizeLine_eq]
              exact hsz
            have hz9 : (storeV es (nk (.tup ks)) b vv).length ≤ sizeLine := Nat.le_trans (storeV_len ..) hlen
            have ge : Grow HE (upd HE p (DictO X.w p (storeV es (nk (.tup ks)) b vv))) := Grow.dct hE
            exact ⟨.tup ks, b, acc8, es, rfl, hE, rkv, hzE, rkE, hok, hdp, ((g0B.trans gC).trans gE).trans ge, dput acc8 (.tup ks) vd, _, mE.putDct hE hz9 (rkv.store rkE hok hdp rv), qE⟩
        | false => exact ⟨g0B, acc8, MB, mB, qB⟩
      · have e : j = src1.1.length := by omega
        subst e
        rw [List.drop_length] at q9
        exact .inl ⟨st1.stop H8 (q9.1.ok g8 m8), (g06.trans g7).trans g8, acc8, M8, m8, q9.2.2⟩
    | false => exact ⟨g06, acc, M6, m6, q6⟩
  · have e : i = src.1.length := by omega
    subst e
    rw [List.drop_length] at q3
    exact .inl ⟨st.stop H2 (q3.1.ok g3 m2), k p M2 H2 (g0.trans g3) m2 q3.2.2⟩
/-- name = {.. for .. for ..} on one line -/
theorem ds_setDc2 {w : World} {y : Str} {py spos : Pos} {i : Nat} (hw : X.w = w) (hu : X.A.units + 8 < cLine) (hc : X.calm = true) (hN : X.N.Nodup) (hy : X.N[i]? = some y) (hyl : X.env.scope.names.lookup y = some .local)
    (hsw : swapsWith (.DictComp kx vx [⟨tg, iter, ifs, 0⟩, ⟨tg1, iter1, ifs1, 0⟩] scope pos) (some (.Name y py)) spos.line X.env = pure true) (hi : DI X tg iter t) (ok : BlkOk X.N X.env.scope scope own) (hsub : ∀ i ∈ ws, i ∈ own.map (·.2)) (hsub1 : ∀ i ∈ ws1, i ∈ own.map (·.2))
    (hg : ∀ (s : Shared) (H : Hp) (C : Addr) (cl : List (Str × Addr)) (fp : List Addr), DG (X.blk s H scope (compEnvC scope cl C X.env) fp) ws tg g)
    (ht : ∀ (s : Shared) (H : Hp) (C : Addr) (cl : List (Str × Addr)) (fp : List Addr), DPTs (X.blk s H scope (compEnvC scope cl C X.env) fp) ifs tt)
    (hi1 : ∀ (s : Shared) (H : Hp) (C : Addr) (cl : List (Str × Addr)) (fp : List Addr), DI (X.blk s H scope (compEnvC scope cl C X.env) fp) tg1 iter1 t1)
    (hg1 : ∀ (s : Shared) (H : Hp) (C : Addr) (cl : List (Str × Addr)) (fp : List Addr), DG (X.blk s H scope (compEnvC scope cl C X.env) fp) ws1 tg1 g1)
    (ht1 : ∀ (s : Shared) (H : Hp) (C : Addr) (cl : List (Str × Addr)) (fp : List Addr), DPTs (X.blk s H scope (compEnvC scope cl C X.env) fp) ifs1 tt1)
    (hk : ∀ (s : Shared) (H : Hp) (C : Addr) (cl : List (Str × Addr)) (fp : List Addr), DE (X.blk s H scope (compEnvC scope cl C X.env) fp) kx tk)
    (hv : ∀ (s : Shared) (H : Hp) (C : Addr) (cl : List (Str × Addr)) (fp : List Addr), DE (X.blk s H scope (compEnvC scope cl C X.env) fp) vx tv)
    (hs : ∀ x, foldedSetIterable iter X.env x = pure x := by intro _; rfl) (hs1 : ∀ env x, foldedSetIterable iter1 env x = pure x := by intro _ _; rfl) :
    DS X (.Assign [.Name y py] (.DictComp kx vx [⟨tg, iter, ifs, 0⟩, ⟨tg1, iter1, ifs1, 0⟩] scope pos) spos) (dSet i (dDc2 w t g tt t1 g1 tt1 tk tv (own.map (·.2)) ws1)) := by
  subst hw
  exact imS (ps_setDc2 (wi := upI X.K t) (g := upG X.K ws g) (tt := upT X.K tt) (wi1 := upI X.K t1) (g1 := upG X.K ws1 g1) (tt1 := upT X.K tt1) (tk := upE X.K tk) (tv := upE X.K tv) hu hc hN hy hyl hsw hi ok hsub1 hg ht hi1 hg1 ht1 hk hv hs hs1) fun Z σ H ⟨m, M, Z', r, q, k⟩ =>
    dc2_up (Qf := fun p M2 => Z'.nx (m.set i (some (.ref p))) M2) rfl hsub r q fun p M2 H2 g2 m2 q2 => k.nx _ M2 _ H2 g2 ((r.grow g2 m2).set (.ref p)) q2
end
end DL
set_option maxHeartbeats 1000000
/-! DL43: bits: & | ^ of ints, 1 << k, x.bit_length(), f"{x:b}", text.count(sign); sorted(a dict with ints as keys). -/
namespace DL
open PySem PySem.Spec PyProof.Rows L2
open PySem.Sem (wp)
/-- the text of f"{n:b}" -/
def binS (n : Nat) : Str := ⟨((Nat.toDigits 2 n).map fun c => c.toNat).toArray⟩
/-- how many bits are 1 -/
def pc (n : Nat) : Nat := if n < 2 then n else pc (n / 2) + n % 2
termination_by n
decreasing_by omega
theorem pc_cnt : ∀ n : Nat, cnt 49 ((Nat.toDigits 2 n).map fun c => c.toNat) = (pc n : Int) := by
  intro n
  induction n using Nat.strongRecOn with
  | ind n ih =>
    rw [pc]
    by_cases h : n < 2
    · rw [if_pos h]
      have : n = 0 ∨ n = 1 := by omega
      rcases this with rfl | rfl <;> decide
    · rw [if_neg h, Nat.toDigits_of_base_le (by decide) (by omega), List.map_append, cnt_append, ih (n / 2) (by omega)]
      have : n % 2 = 0 ∨ n % 2 = 1 := by omega
      rcases this with e | e <;> rw [e]
      · rw [show ([Nat.digitChar 0].map fun c => c.toNat) = [48] from by decide, cnt_cons, cnt_nil]
        simp
      · rw [show ([Nat.digitChar 1].map fun c => c.toNat) = [49] from by decide, cnt_cons, cnt_nil]
        simp
theorem binS_count (n : Nat) : Txt.count (binS n) ⟨#[49]⟩ = (pc n : Int) := by
  rw [count_cnt]
  exact pc_cnt n
theorem binS_len {n k : Nat} (hk : 0 < k) (h : n < 2 ^ k) : (binS n).length ≤ k := by
  have := (Nat.length_toDigits_le_iff (n := n) (by decide : 1 < 2) hk).mpr h
  show (((Nat.toDigits 2 n).map fun c => c.toNat).toArray).size ≤ k
  rw [List.size_toArray, List.length_map]
  exact this
theorem field_plain (l : List Nat) (h : l.isEmpty = false) : PyProof.Rows.intField' { align := 62, type := some 98 } false [] l [] 4 = ⟨l.toArray⟩ := by
  unfold PyProof.Rows.intField'
  simp [h]
section
variable {prog : Program} {w : World} {A : Around} {E : Value → Shared → Prop} {s : Shared}
theorem ret_t {M : Model} {X T : Str} {Q : Fin → Shared → Prop} (e : X = T) (hL : T.length ≤ sizeLine) (h : ∀ t k, Q (.done (.ret (.str T t))) { s with toks := k }) : wpAny M A (retStr X) Q E s := by
  subst e
  exact PySem.W.KXf.ret_text rfl hL h
theorem field_b {n : Nat} {t : Tok} {Q : Value → Shared → Prop} (hlen : (binS n).length ≤ sizeLine) (h : ∀ t' k, Q (.str (binS n) t') { s with toks := k }) : wpAny (model prog w) A (formatField (.int (n : Int) t) (Str.ofString "b")) Q E s := by
  refine PySem.W.KXf.field_int (y := binS n) rfl (by decide +kernel) (by decide +kernel) (fun u => ?_) h
  refine .of_wp fun prog w A R s h => ?_
  obtain ⟨f, hf, hty, hpr, hz, hal, hwi, hfi⟩ : ∃ f, Builtin.Float.parseFormatSpec (Str.ofString "b").cps.toList "int" 62 = .ok f ∧ f.type.getD (if (Str.ofString "b").cps.back? == some 0 then 0 else 100) = 98 ∧ f.precision = none ∧ f.noNeg0 = false ∧ f.alt = false ∧ f.width = none ∧ f = { fill := 32, align := 62, type := some 98 } := ⟨_, rfl, rfl, rfl, rfl, rfl, rfl, rfl⟩
  have hne : ((Str.ofString "b").length == 0) = false := by decide +kernel
  have hasc : (((Str.ofString "b").cps.toList.drop 1).any (· ≥ 128) || ((Str.ofString "b").cps.getD 0 0 ≥ 128 && !([60, 62, 61, 94] : List Nat).contains ((Str.ofString "b").cps.getD 1 0))) = false := by decide +kernel
  generalize Str.ofString "b" = spec at hf hne hasc hty
  unfold Builtin.«int.__format__»
  simp only [selfAndOne, noKeywords, Builtin.Int.intOfSelf, asInt?, asStr?, List.isEmpty_nil, if_true, pure_bind, bind_pure, bind_assoc, hne, hasc, Bool.false_eq_true, if_false,
    show (Value.str spec u == Value.none) = false from rfl]
  refine wpAny_bind (wpAny_typeNameOf (T := "str") (typeIs_str _ _ _) (by decide) fun _ => ?_)
  refine wpAny_bind (PyProof.Rows.wpAny_typeNameOfCut_int ?_)
  simp only [hf, hty]
  rw [if_pos (by decide)]
  show wpAny _ _ (if _ then _ else _) _ _ _
  rw [if_neg (by simp [hpr])]
  show wpAny _ _ (if _ then _ else _) _ _ _
  rw [if_neg (by simp [hz])]
  show wpAny _ _ (if _ then _ else _) _ _ _
  rw [if_neg (by decide)]
  rw [hfi]
  show wpAny _ _ (if _ then _ else _) _ _ _
  rw [if_neg (by decide)]
  show wpAny _ _ (if _ then _ else _) _ _ _
  rw [if_neg (by decide)]
  refine ret_t (T := binS n) ?_ hlen fun t' k => ⟨_, rfl, h t' k⟩
  have hds : ((Nat.toDigits 2 n).map fun c => c.toNat).isEmpty = false := by
    have := Nat.length_toDigits_pos (b := 2) (n := n)
    cases e : Nat.toDigits 2 n with
    | nil => rw [e] at this; cases this
    | cons a b => rfl
  simp only [Int.natAbs_natCast, show ((98 : Nat) == 88) = false from rfl, show ((2 : Nat) == 10) = false from rfl, Bool.false_eq_true, if_false, show decide ((n : Int) < 0) = false from decide_eq_false (by omega)]
  unfold binS
  generalize ((Nat.toDigits 2 n).map fun c => c.toNat) = l at hds ⊢
  exact field_plain l hds
end
section
variable {X : Cx} {o e x : Expr} {apos cpos pos p1 p2 p3 p4 : Pos} {to te : DTE}
theorem o_and : DOp X (binaryOp .BitAnd) (dI0 fun i j => .int (Builtin.bitAnd i j)) := dop_I0 op_and fun _ _ _ _ => .int _
theorem o_or : DOp X (binaryOp .BitOr) (dI0 fun i j => .int (Builtin.bitOr i j)) := dop_I0 op_or fun _ _ _ _ => .int _
theorem o_xor : DOp X (binaryOp .BitXor) (dI0 fun i j => .int (Builtin.bitXor i j)) := dop_I0 op_xor fun _ _ _ _ => .int _
/-- 1 << k -/
def dShl1 : DR2 := fun x y M Q => ∃ k : Nat, x = .int 1 ∧ y = .int (k : Int) ∧ k ≤ 134217727 ∧ Q (.int (2 ^ k)) M
theorem o_shl1 : DOp X (binaryOp .LShift) dShl1 := by
  intro pins s σ H x y v u Q I rx ry ⟨d, e, M, Q', r1, r2, m, ⟨k, e1, e2, hk, q⟩, kk⟩
  subst e1
  subst e2
  cases r1
  cases r2
  exact op_oneShl pins s σ H _ _ v u Q I rx ry ⟨k, rfl, rfl, hk, kk _ _ M H (.refl H) (.int _) m q⟩
/-- x.bit_length() -/
def dBits (to : DTE) : DTE := fun m M Q => to m M fun d M1 => ∃ i : Int, d = .int i ∧ Q (.int (Builtin.Int.intBits i : Nat)) M1
theorem d_bits (ho : DE X o to) (hbase : attributeBase o "bit_length" X.env (eval o X.env) = eval o X.env := by rfl) (hline : (apos.endLine == pos.line) = true := by rfl) : DE X (.Call (.Attribute o "bit_length" apos) [] [] pos) (dBits to) :=
  imE (pe_bits ho hbase hline) fun σ H Q ⟨m, M, Q', r, q, k⟩ => by
    refine ⟨m, M, _, r, q, fun d v M1 H1 g1 r1 m1 ⟨i, e1, q1⟩ => ?_⟩
    subst e1
    cases r1
    exact ⟨i, rfl, k _ _ M1 H1 g1 (.int _) m1 q1⟩
/-- f"{x:b}" -/
def dFmtB (te : DTE) : DTE := fun m M Q => te m M fun d M1 => ∃ n : Nat, d = .int (n : Int) ∧ n < 2 ^ 4000 ∧ Q (.str (binS n)) M1
theorem d_fmtB (he : DE X e te) : DE X (.JoinedStr [.FormattedValue e (-1) (some (.JoinedStr [.Constant (.str "b") 0 p1] p2)) p3] p4) (dFmtB te) := by
  refine ⟨fun pins s σ H Q I ⟨m0, M, Q', r, q, kk⟩ => wpAny_JoinedStr_one (wpAny_FormattedValue_spec ?_)⟩
  refine thn (he.run pins s σ H (fun x H1 => ∃ n : Nat, x = .int (n : Int) ∧ n < 2 ^ 4000 ∧ Q (.str (binS n)) H1) I
    ⟨m0, M, _, r, q, fun d v M1 H1 g1 r1 m1 ⟨n, e1, hn, q1⟩ => by subst e1; cases r1; exact ⟨n, rfl, hn, kk _ _ M1 H1 g1 (.str _) m1 q1⟩⟩) fun u s1 ⟨x, H1, I1, rx, n, ex, hn, q1⟩ => ?_
  subst ex
  obtain ⟨t, rfl⟩ := rx
  have hlen : (binS n).length ≤ sizeLine := by
    have := binS_len (k := 4000) (by decide) hn
    rw [sizeLine_eq]
    omega
  refine wpAny_JoinedStr_one (wpAny_Constant_str ?_)
  exact ⟨_, _, rfl, field_b hlen fun t' k => ⟨.str (binS n), H1, I1.tok _, ⟨t', rfl⟩, q1⟩⟩
/-- text.count(text) -/
def dCnt (to : DTE) (t : DTA) : DTE := fun m M Q => to m M fun d M1 => ∃ a, d = .str a ∧ t m M1 fun ds M2 => ∃ b, ds = [.str b] ∧ Q (.int (Txt.count a b)) M2
theorem d_count {t : DTA} (ho : DE X o to) (ha : DA X [e] t) (hbase : attributeBase o "count" X.env (eval o X.env) = eval o X.env := by rfl)
    (hfew : ((backTo cpos (starEach [e] X.env)).all (fun x => !x.1) && (backToKw cpos (keywordEach [] X.env)).all (fun x => x.1.isSome)
      && decide (([e] : List Expr).length + ([] : List Keyword).length + (if ([] : List Keyword).isEmpty then 0 else 1) < 30)) = true := by rfl)
    (hline : (apos.endLine == cpos.line) = true := by rfl) (hs : starEach [e] X.env = (false, eval e X.env) :: starEach [] X.env := by rfl) (hplain : (backTo cpos (starEach [] X.env)).any (·.1) = false := by rfl) :
    DE X (.Call (.Attribute o "count" apos) [e] [] cpos) (dCnt to t) :=
  imE (pe_bm PySem.F.plainAttrs_str PySem.F.slot_str_count PySem.F.type_str_count mt_count ho ha hbase hfew hline hs hplain) fun σ H Q ⟨m, M, Q', r, q, k⟩ => by
    refine ⟨m, M, _, r, q, fun d v M1 H1 g1 r1 m1 ⟨a, e1, q1⟩ => ?_⟩
    subst e1
    cases r1
    refine ⟨rfl, m, M1, _, r.grow g1 m1, q1, fun ds vs M2 H2 g2 l2 m2 ⟨b, e2, q2⟩ => ?_⟩
    subst e2
    obtain ⟨w, e3, rw'⟩ := repL_one l2
    subst e3
    cases rw'
    exact ⟨a, b, rfl, rfl, k _ _ M2 H2 (g1.trans g2) (.int _) m2 q2⟩
theorem RepK.ints {K : PySem.W.Frag} {H : Hp} : ∀ {kvs : List (D × D)} {es : List (Key × V)} {ks : List Int}, RepK K H kvs es → kvs.map (·.1) = ks.map D.int → es.map (·.1) = ks.map Sum.inl
  | _, _, [], .nil, _ => rfl
  | _, _, [], .cons _ _, e => by simp at e
  | _, _, k :: ks, .nil, e => by simp at e
  | _, _, k :: ks, .cons (k := k1) _ l, e => by
    rw [List.map_cons, List.map_cons] at e
    injection e with e1 e2
    rw [List.map_cons, List.map_cons, l.ints e2]
    cases k1 with
    | inr x => cases e1
    | inl x =>
      injection e1 with e1
      show Sum.inl x :: _ = _
      rw [e1]
/-- sorted(d), d a dict with ints as keys -/
def rSortDI : DCR := fun ds M Q => ∃ d kvs ks, ds = [d] ∧ dDict d M = some kvs ∧ kvs.map (·.1) = ks.map D.int ∧ ks.length < 64 ∧ ∀ (ys : List Int) (p : Addr), ys.Perm ks → ys.Pairwise (· ≤ ·) → M p = none → Q (.ref p) (mput M p (.lst (ys.map D.int)))
theorem c_sortDI (hcalm : X.calm = true) : DCall X (.builtin "sorted") rSortDI := by
  intro pins s σ H vs us Q I r ⟨ds, M, Q', l, m, ⟨d, kvs, ks, e, h, h2, h3, q⟩, k⟩
  subst e
  obtain ⟨v, e, rv⟩ := repL_one l
  subst e
  obtain ⟨p, es, rfl, hr, z, l2⟩ := dict_at rv m h
  refine call_sortedDI hcalm pins s σ H _ us Q I r ⟨p, es, ks, rfl, hr, l2.ints h2, h3, fun ys a hp hs hn => ?_⟩
  have hlen : (ys.map V.int).length ≤ sizeLine := by rw [List.length_map, hp.length_eq, sizeLine_eq]; omega
  exact k _ _ _ _ (.new hn) (.ref a) (m.newLst hn hlen (repL_ints _)) (q ys a hp hs (m.free hn))
end
/-- loops of a comprehension with two clauses -/
theorem dcIn_ind {w : World} {src : Src} {g : DTG} {tt : DTT} {tk tv : DTE} {m0 : DSt} {p : Addr} {Nx : List (D × D) → DM → Prop} (V : List D → List (D × D) → DM → Prop) (fin : ∀ acc M, V [] acc M → SrcV src M ∧ M p = some (.dct w acc) ∧ Nx acc M)
    (step : ∀ d ds acc M (Cn : List (D × D) → DM → Prop), (∀ acc' M', V ds acc' M' → Cn acc' M') → V (d :: ds) acc M → SrcV src M ∧ g d m0 M fun m1 M1 => tt m1 M1 fun b M2 =>
      if b = true then tk m1 M2 fun k M3 => tv m1 M3 fun v M4 => M4 p = some (.dct w acc) ∧ isKey k ∧ acc.length < 16777216 ∧ Cn (dput acc k v) (mput M4 p (.dct w (dput acc k v))) else Cn acc M2) :
    ∀ ds acc M, V ds acc M → dDcIn w src g tt tk tv m0 p Nx ds acc M
  | [], acc, M, h => fin acc M h
  | d :: ds, acc, M, h => step d ds acc M (dDcIn w src g tt tk tv m0 p Nx ds) (dcIn_ind V fin step ds) h
theorem dcOut_ind {w : World} {src : Src} {g : DTG} {tt : DTT} {t1 : DTI} {g1 : DTG} {tt1 : DTT} {tk tv : DTE} {ws1 : List Nat} {m0 : DSt} {p : Addr} {Qd : List (D × D) → DM → Prop} (V : List D → List (D × D) → DM → Prop) (fin : ∀ acc M, V [] acc M → SrcV src M ∧ M p = some (.dct w acc) ∧ Qd acc M)
    (step : ∀ d ds acc M (Cn : List (D × D) → DM → Prop), (∀ acc' M', V ds acc' M' → Cn acc' M') → V (d :: ds) acc M → SrcV src M ∧ g d m0 M fun m1 M1 => tt m1 M1 fun b M2 =>
      if b = true then t1 m1 M2 fun src1 M3 => src1.1.length ≤ sizeLine → dDcIn w src1 g1 tt1 tk tv (dwipe m1 ws1) p Cn src1.1 acc M3 else Cn acc M2) :
    ∀ ds acc M, V ds acc M → dDcOut w src g tt t1 g1 tt1 tk tv ws1 m0 p Qd ds acc M
  | [], acc, M, h => fin acc M h
  | d :: ds, acc, M, h => step d ds acc M (dDcOut w src g tt t1 g1 tt1 tk tv ws1 m0 p Qd ds) (dcOut_ind V fin step ds) h
end DL
/-! DL44: list(a dict whose keys are ints or texts). -/
namespace DL
open PySem PySem.Spec PyProof.Rows L2
section
variable {X : Cx}
theorem RepK.keysV {K : PySem.W.Frag} {H : Hp} : ∀ {kvs : List (D × D)} {es : List (Key × V)}, RepK K H kvs es → RepL K H (kvs.map (·.1)) (es.map fun e => kV e.1)
  | _, _, .nil => .nil
  | _, _, .cons (k := k) _ l => .cons (by cases k with
    | inl i => exact .int i
    | inr x => exact .str x) l.keysV
def rListKK : DCR := fun ds M Q => ∃ d kvs, ds = [d] ∧ dDict d M = some kvs ∧ ∀ p, M p = none → Q (.ref p) (mput M p (.lst (kvs.map (·.1))))
theorem c_listKK (hcalm : X.calm = true) : DCall X (.type "list") rListKK := by
  intro pins s σ H vs us Q I r ⟨ds, M, Q', l, m, ⟨d, kvs, e, h, q⟩, k⟩
  subst e
  obtain ⟨v, e, rv⟩ := repL_one l
  subst e
  obtain ⟨p, es, rfl, hr, z, l2⟩ := dict_at rv m h
  refine call_listD hcalm pins s σ H _ us Q I r ⟨p, es, rfl, hr, fun a hn => ?_⟩
  have hlen : (es.map fun e => kV e.1).length ≤ sizeLine := by rw [List.length_map]; exact z
  exact k _ _ _ _ (.new hn) (.ref a) (m.newLst hn hlen l2.keysV) (q a (m.free hn))
end
end DL
/-! DL46: sorted(a tuple, key=a def). -/
namespace DL
open PySem PySem.Spec PyProof.Rows L2
open PySem.W (EachIs AllAlike Sortable dataLe alike alikeAll KeepsBut keyH_end KeyedOut keyedOut_each dataKind SortsAt copyHeap copyHeap_at copyHeap_old sortingHeap sortingHeap_old)
section
variable {prog : Program} {w : World} {A : Around} {E : Value → Shared → Prop} {s : Shared}
theorem collect_tup {b : Addr} {us : List Value} {Z : List Value → Shared → Prop} (ht : IsTup s.heap b us.toArray) (z : us.length ≤ sizeLine)
    (q : Z us { s with heap := (s.heap.push (seqObj "list" #[] 0)).update s.heap.objs.size (Obj.mapSeq (· ++ us.toArray)) }) : wpAny (model prog w) A (collect (.ref b)) Z E s := by
  obtain ⟨o, h1, h2, n, h3⟩ := ht
  unfold collect
  refine wpAny_bind (wpAny_runValue (codeAny_builtin entry_proto_collect' ?_))
  have h1' : (s.heap.push (seqObj "list" #[] 0)).get? b = some o := Heap.get?_push_of_some _ h1
  have hn : (s.heap.push (seqObj "list" #[] 0)).get? s.heap.objs.size = some (seqObj "list" #[] 0) := Heap.get?_push_size _ rfl
  have hT : (Value.type "tuple" == Value.type "list" || Value.type "tuple" == Value.type "tuple") = true := by rfl
  show wpAny _ _ (newList [] >>= fun x => again (.builtin "list.__iadd__" ⟨[x, .ref b], []⟩)) _ _ s
  refine wpAny_bind (wpAny_newList (wpAny_pure ⟨Code.quiet_builtin _ (by decide +kernel), codeAny_builtin entry_list_iadd' ?_⟩))
  show wpAny _ _ (Builtin.List.listExtendWith (.ref s.heap.objs.size) (.ref b) (.ref s.heap.objs.size)) _ _ _
  unfold Builtin.List.listExtendWith
  refine wpAny_bind (wpAny_typeOf (T := "tuple") ⟨o, h1', h2⟩ ?_)
  rw [if_pos (by first | exact hT | (rw [show (Value.type "tuple" == Value.type "tuple") = true from rfl]; simp))]
  refine wpAny_bind (listItems_at h1' h3 (wpAny_bind (listItems_at hn rfl ?_)))
  rw [if_neg (by simp)]
  refine wpAny_bind (listUpdate_at hn rfl (wpAny_pure ?_) (Nat.zero_le _) (by simp only [Array.size_append, List.size_toArray]; show 0 + us.length ≤ _; omega))
  show wpAny (model prog w) A (load s.heap.objs.size >>= fun o => match o.data with | .seq xs _ => pure xs.toList | _ => unsupported "internal:collect") Z E _
  refine wpAny_bind (wpAny_load (get?_update_seq hn _) ?_)
  show wpAny _ _ (pure ((#[] : Array Value) ++ us.toArray).toList) Z E _
  have e : ((#[] : Array Value) ++ us.toArray).toList = us := by simp
  rw [e]
  exact wpAny_pure q
theorem sorted_of_tup {b : Addr} {us : List Value} {kw : List (Str × Value)} {Z : Value → Shared → Prop} (ht : IsTup s.heap b us.toArray) (z : us.length ≤ sizeLine) (a1 : argsOk "sorted" ⟨[.ref b], kw⟩) (a2 : ∀ x, argsOk "list.sort" ⟨[.ref x], kw⟩)
    (run : ∀ E' : Value → Shared → Prop, wpAny (model prog w) A.in1.in1 (Builtin.«list.sort» ⟨[.ref (s.heap.objs.size + 1)], kw⟩) (fun f s' => f = .done (.ret .none) ∧ Z (.ref (s.heap.objs.size + 1)) s') E' { s with heap := copyHeap s.heap us }) :
    wpAny (model prog w) A (call (.builtin "sorted") [.ref b] kw) Z E s := by
  refine call_function_entry_kw kind_sorted plain_sorted entry_sorted a1 ?_
  unfold Builtin.«sorted»
  refine wpAny_bind (m := checkCount "sorted" 1 1 _) (wpAny_pure (wpAny_bind (collect_tup ht z ?_)))
  refine wpAny_bind (wpAny_newList ?_ z)
  have sz : ((s.heap.push (seqObj "list" #[] 0)).update s.heap.objs.size (Obj.mapSeq (· ++ us.toArray))).objs.size = s.heap.objs.size + 1 := by rw [Heap.size_update, size_push']
  show wpAny (model prog w) _ _ _ E { s with heap := copyHeap s.heap us }
  rw [sz]
  refine wpAny_bind (wpAny_holding (wpAny_call_entry_kw slot_list_sort ⟨_, copyHeap_at s.heap us, rfl⟩ entry_list_sort ?r (a2 _)))
  case r =>
    refine wpAny_mono (run _) (fun f s' ⟨e, hz⟩ => ?_) fun _ _ e => e
    subst e
    exact ⟨_, rfl, wpAny_pure ⟨_, rfl, hz⟩⟩
end
section
variable {X : Cx}
theorem sort_coreT {f : Value} {pins : List (Addr × Obj)} {σ : SL} {H : Hp} {M : DM} {s : Shared} {d : D} {v : V} {u : Value} {xs : List D} {g : D → D} {Q : VK} {Q' : DVK} (I : Inv X pins σ H s) (rv : Rep X.K H d v) (r : RelV v u) (m : RM X.K H M) (hd : d = .tup xs)
    (hf : ∀ a : Addr, Builtin.«list.sort» ⟨[.ref a], [(Str.ofString "key", f)]⟩ = ksk_tree a f false) (kr : KeyRun X pins σ H M s f xs g) (hu : X.A.in1.in1.units + 40 < cLine) (hok : (xs.map g).all (dOk 32) = true) (hal : AllAlike ((xs.map g).map D.py)) (hsk : SortOk ((xs.map g).map D.py))
    (q : ∀ p, M p = none → Q' (.ref p) (mput M p (.lst (xs.mergeSort (dataLe false fun x => D.py (g x)))))) (kk : ∀ d v M' H', Grow H H' → Rep X.K H' d v → RM X.K H' M' → Q' d M' → Q v H') :
    wpAny (model X.prog X.w) X.A (call (.builtin "sorted") [u] [(Str.ofString "key", f)]) (EP X pins σ Q) X.xe s := by
  subst hd
  obtain ⟨b, xv, rfl, z, l3, h6⟩ : ∃ (b : Addr) (xv : List V), v = .ref b ∧ xv.length ≤ sizeLine ∧ RepL X.K H xs xv ∧ SqT X.K H b xv := by
    cases rv with
    | tup h1 h2 h3 => exact ⟨_, _, rfl, h2, h3, h1⟩
  obtain ⟨its, r2, pl, _⟩ := I.tuple h6
  obtain rfl : u = Value.ref b := r
  have hz : its.length ≤ sizeLine := by rw [← r2.length]; exact z
  refine sorted_of_tup pl hz (ksk_s1 _ _) (fun _ => ksk_l1 _ _) fun E' => ?_
  rw [hf]
  obtain ⟨a, hae⟩ : ∃ a, a = s.heap.objs.size + 1 := ⟨_, rfl⟩
  rw [← hae]
  have ho : (copyHeap s.heap its).get? a = some (seqObj "list" its.toArray 0) := by rw [hae]; exact copyHeap_at s.heap its
  have hla : a < (copyHeap s.heap its).objs.size := Heap.lt_size ho
  obtain ⟨e1, ho1⟩ : ∃ e1, ((copyHeap s.heap its).update a (Obj.mapSeq fun _ => (#[] : Array Value))).get? a = some (seqObj "list" #[] e1) := ⟨_, get?_update_seq ho fun _ => #[]⟩
  have hkS : (((copyHeap s.heap its).update a (Obj.mapSeq fun _ => (#[] : Array Value))).push (seqObj "tuple" its.toArray 0)).objs.size = (copyHeap s.heap its).objs.size + 1 := by rw [size_push', Heap.size_update]
  have old : ∀ b o, s.heap.get? b = some o → (sortingHeap (copyHeap s.heap its) a its).get? b = some o := fun b o q => sortingHeap_old (Nat.ne_of_lt (Nat.lt_of_lt_of_le (Heap.lt_size q) (by rw [hae]; exact Nat.le_succ _))) (copyHeap_old q)
  have ga : s.heap.get? a = none := Heap.get?_none_of_le (by omega)
  have fa0 : H a = none := I.hok.fresh (by omega)
  unfold ksk_tree
  refine wpAny_bind (listItems_at ho rfl ?_)
  refine wpAny_bind (listUpdate_at ho rfl ?_ (by rw [List.size_toArray]; exact hz) (Nat.zero_le _))
  refine wpAny_bind (seqEpoch_at ho1 rfl ?_)
  refine wpAny_bind (wpAny_newTuple ?_ (by show its.length ≤ _; exact hz))
  refine wpAny_bind (wpAny_newList ?_ (Nat.zero_le _))
  refine wpAny_holding ?_
  have szk : s.heap.objs.size ≤ (((copyHeap s.heap its).update a (Obj.mapSeq fun _ => (#[] : Array Value))).push (seqObj "tuple" its.toArray 0)).objs.size := by rw [hkS]; omega
  refine key_loop (kS := (((copyHeap s.heap its).update a (Obj.mapSeq fun _ => (#[] : Array Value))).push (seqObj "tuple" its.toArray 0)).objs.size) kr I l3 r2 hz hok hal hsk hu szk (by omega) (Nat.ne_of_gt (by rw [hkS]; omega))
    ⟨H, #[], 0, [], Un.kept old, .refl H, I.hok.kept old, m, I.bare, rfl, Heap.get?_push_size _ rfl, Heap.get?_push_of_some _ (Heap.get?_push_of_some _ ho1), I.hok.fresh szk, fa0, .nil, .nil⟩ fun Hj s' out c un gr hk rm bare os na fa ko => ⟨rfl, ?_⟩
  have ko' : KeyedOut false (xs.map fun x => D.py (g x)) its out := by
    rw [List.map_map] at ko
    exact ko
  obtain ⟨vs', h7, h8⟩ := each_rel (keyedOut_each (fun x => D.py (g x)) ko' (rel_each (l3.grow gr) r2))
  have hlen : vs'.length ≤ sizeLine := by
    rw [← h8.length, List.length_mergeSort, l3.length]
    exact z
  exact ⟨.ref a, upd Hj a (.lst vs'), I.call' (ch := []) os (un_adopt un ga fa0 fa) (hok_adopt hk fa ⟨hlen, out, c, h7, na⟩) bare (fun b z => absurd z (by simp)), rfl,
    kk _ _ _ _ (gr.trans (.new fa)) (.ref _) (rm.newLst fa hlen h8) (q _ (rm.free fa))⟩
def rSortKT (dsp : DSp) : List D → DM → DVK → Prop := fun ds M Q => ∃ xs, ∃ g : D → D, ds = [.tup xs] ∧ (∀ x ∈ xs, ∀ Q' : DVK, Q' (g x) M → dsp [x] M Q') ∧ (xs.map g).all (dOk 32) = true ∧
  AllAlike ((xs.map g).map D.py) ∧ SortOk ((xs.map g).map D.py) ∧ ∀ p, M p = none → Q (.ref p) (mput M p (.lst (xs.mergeSort (dataLe false fun x => D.py (g x)))))
theorem c_sortKT {k f : Nat} {fd : FuncData} {ps : List Str} {dsp : DSp} (F : FnOk X.prog X.w X.K X.mg X.base CX0 k f fd ps (upSp X.K dsp)) (hb : Binds X.K fd ps []) (hr : Room k X.A.in1.in1) :
    CallRK X (.builtin "sorted") [Str.ofString "key"] (fun vs zs H Q => zs = [V.ref f] ∧ upC X.K (rSortKT dsp) vs H Q) := by
  intro pins s σ H vs zs us ws Q I r rz ⟨ez, ds, M, Q', l, m, ⟨xs, g, e, pure, hok, hal, hsk, q⟩, kk⟩
  subst e
  subst ez
  obtain ⟨v, e, rv⟩ := repL_one l
  subst e
  obtain ⟨u, eu, ru⟩ := vals1 r
  subst eu
  obtain ⟨w1, rfl, e1⟩ := vals1 rz
  obtain rfl : w1 = Value.ref f := e1
  have hu : X.A.in1.in1.units + 40 < cLine := by
    have := hr.un
    omega
  refine sort_coreT I rv ru m rfl (fun a => ksk_t1 _ a) (fun Hj s' d v x hdm un gr J rm rd ru => ?_) hu hok hal hsk q kk
  have hsp : upSp X.K dsp [v] Hj (fun v H' => Grow Hj H' ∧ Rep X.K H' (g d) v ∧ RM X.K H' M) E0 :=
    ⟨[d], M, fun y M' => y = g d ∧ M' = M, .one rd, rm, pure d hdm _ ⟨rfl, rfl⟩, fun y v' M' H' g1 r1 m1 ⟨h1, h2⟩ => by subst h1 h2; exact ⟨g1, r1, m1⟩⟩
  refine wpAny_call (codeAny_mono (F.run X.A.in1.in1 X.stack s' Hj ⟨[x], []⟩ [x] [v] _ E0 hr J.env0.in1.in1 (hb s' [x] J.kIn (F.len [v] Hj _ E0 hsp)) (.cons ru .nil) hsp) fun r s'' hq => ?_)
  cases r with
  | error e => exact False.elim hq
  | ok fl =>
    cases fl with
    | ret u => exact hq
    | next => exact False.elim hq
    | brk => exact False.elim hq
    | cont => exact False.elim hq
/-- sorted(e, key=x) -/
theorem d_sortKT {k : Nat} {x : Str} {ps : List Str} {dsp : DSp} {e : Expr} {p p2 kp pos : Pos} {t : DTA} (C : Cal X.prog X.w X.K X.mg X.base k x ps dsp) (hr : Room k X.A.in1.in1) (hg : Gl X x) (hgs : Gl X "sorted") (hms : X.mg "sorted" = none) (ha : DA X [e] t)
    (hdb : (x == ("__debug__" : Str)) = false := by decide) (he : backTo pos (starEach [e] X.env) = [(false, eval e X.env)] := by rfl) (hpl : (backTo pos (starEach [e] X.env)).any (·.1) = false := by rfl)
    (hall : (backToKw pos (keywordEach [⟨some (Str.ofString "key"), .Name x p2, kp⟩] X.env)).all (·.1.isSome) = true := by rfl) (hnone : (backToKw pos (keywordEach [⟨some (Str.ofString "key"), .Name x p2, kp⟩] X.env)).any (·.1.isNone) = false := by rfl)
    (hks : (backToKw pos (keywordEach [⟨some (Str.ofString "key"), .Name x p2, kp⟩] X.env)).filterMap (·.1) = [Str.ofString "key"] := by rfl) :
    DE X (.Call (.Name "sorted" p) [e] [⟨some (Str.ofString "key"), .Name x p2, kp⟩] pos) (dCB (rSortKT dsp) t) := by
  obtain ⟨f, fd, F, hm, hk, hb⟩ := C.ex
  refine imE (pe_callBK (c_sortKT F hb hr) hgs hms boot_sorted ha (pk_cons (pe_glob (v := .ref f) hg hm rfl hdb) pk_nil) (by decide) (by decide) he hpl hall hnone hks) fun σ H Q ⟨m, M, Q', r, q, kk⟩ => ?_
  refine ⟨m, M, _, r, q, fun ds vs M1 H1 g1 l1 m1 q1 => ?_⟩
  exact ⟨rfl, ds, M1, Q', l1, m1, q1, fun d v M2 H2 g2 => kk d v M2 H2 (g1.trans g2)⟩
end
end DL
set_option maxHeartbeats 1000000
/-! DL47: {k: v for .. in .. for .. in ..}, the keys ints or texts. -/
namespace DL
open PySem PySem.Spec PyProof.Rows L2
section
variable {X : Cx}
/-- the reading over V -/
def tKc2N (wi : TI) (g : TG) (tt : TT) (wi1 : TI) (g1 : TG) (tt1 : TT) (tk tv : TE) (vs vs1 : List Nat) : TE := fun σ H Q => wi σ H fun J H1 => ∀ da, H1 da = none → ∃ W : Nat → Nat → Hp → Prop, (∃ m, W 0 m (upd H1 da (.dK []))) ∧
  ∀ i m H, W i m H → (J.stop i H ∧ Q (.ref da) H) ∨ (J.go i H ∧ ∃ Nx : Hp → Prop, (∀ H', Nx H' → ∃ m', m' < m ∧ W (i + 1) m' H') ∧ ∀ x H', J.yld i H x H' → g x (wipe σ vs) H' fun σ2 H2 => wipe σ2 vs = wipe σ vs ∧ tt σ2 H2 fun c H3 =>
    if c = true then wi1 σ2 H3 fun J1 H4 => ∃ W1 : Nat → Nat → Hp → Prop, (∃ m, W1 0 m H4) ∧ ∀ j k H, W1 j k H →
      (J1.stop j H ∧ Nx H) ∨ (J1.go j H ∧ ∃ Nx1 : Hp → Prop, (∀ H', Nx1 H' → ∃ k', k' < k ∧ W1 (j + 1) k' H') ∧ ∀ x H', J1.yld j H x H' → g1 x (wipe σ2 vs1) H' fun σ3 H5 => wipe σ3 vs1 = wipe σ2 vs1 ∧ tt1 σ3 H5 fun b H6 =>
        if b = true then tk σ3 H6 fun y H7 => tv σ3 H7 fun z H8 => ∃ (kvs : List (Key × V)) (k : Key), y = kV k ∧ H8 da = some (.dK kvs) ∧ kvs.length < sizeLine ∧
          Nx1 (upd H8 da (.dK (putK kvs k z))) else Nx1 H6)
    else Nx H3)
theorem kc2_core {pins : List (Addr × Obj)} {s : Shared} {σ : SL} {H : Hp} {Q : VK} {pos' : Pos} {use : Option (Value → Sem Unit)} {Qf : Value → Shared → Prop} {kx vx tg iter tg1 iter1 : Expr} {ifs ifs1 : List Expr} {scope : Scope} {own : List (Str × Nat)} {vs1 : List Nat} {pos : Pos} {wi wi1 : TI} {g g1 : TG} {tt tt1 : TT} {tk tv : TE}
    (hc : X.calm = true) (hN : X.N.Nodup) (hi : PI X tg iter wi) (ok : BlkOk X.N X.env.scope scope own) (hv : ∀ i ∈ vs1, i ∈ own.map (·.2))
    (pg : ∀ (s : Shared) (H : Hp) (C : Addr) (cl : List (Str × Addr)) (fp : List Addr), PG (X.blk s H scope (compEnvC scope cl C X.env) fp) tg g)
    (pt : ∀ (s : Shared) (H : Hp) (C : Addr) (cl : List (Str × Addr)) (fp : List Addr), PTs (X.blk s H scope (compEnvC scope cl C X.env) fp) ifs tt)
    (pi1 : ∀ (s : Shared) (H : Hp) (C : Addr) (cl : List (Str × Addr)) (fp : List Addr), PI (X.blk s H scope (compEnvC scope cl C X.env) fp) tg1 iter1 wi1)
    (pg1 : ∀ (s : Shared) (H : Hp) (C : Addr) (cl : List (Str × Addr)) (fp : List Addr), PG (X.blk s H scope (compEnvC scope cl C X.env) fp) tg1 g1)
    (pt1 : ∀ (s : Shared) (H : Hp) (C : Addr) (cl : List (Str × Addr)) (fp : List Addr), PTs (X.blk s H scope (compEnvC scope cl C X.env) fp) ifs1 tt1)
    (pk : ∀ (s : Shared) (H : Hp) (C : Addr) (cl : List (Str × Addr)) (fp : List Addr), PE (X.blk s H scope (compEnvC scope cl C X.env) fp) kx tk)
    (pv : ∀ (s : Shared) (H : Hp) (C : Addr) (cl : List (Str × Addr)) (fp : List Addr), PE (X.blk s H scope (compEnvC scope cl C X.env) fp) vx tv) (hs : ∀ x, foldedSetIterable iter X.env x = pure x) (hs1 : ∀ env x, foldedSetIterable iter1 env x = pure x) (I : Inv X pins σ H s)
    (q0 : tKc2N wi g tt wi1 g1 tt1 tk tv (own.map (·.2)) vs1 σ H Q) (hRR : ∀ D C s' m H', Inv X pins σ H' s' → Q (.ref D) H' → s'.heap.Ns C m → FpOk X pins H' C → compPost (model X.prog X.w) X.A X.xe use Qf (.ref D) C (.ok .next) s') :
    wpAny (model X.prog X.w) X.A (comprehension (.DictComp kx vx (cl2 tg iter ifs tg1 iter1 ifs1) scope pos) scope X.env pos' newDict false (eval iter X.env) use) Qf X.xe s := by
  have cap : ∀ y ∈ scope.names, y.2 = .free → ∃ c, X.env.cells.lookup y.1 = some c := by
    intro y hy e
    exact (ok.free y hy e).elim (fun z => I.ok.has _ (.inl z)) fun z => I.ok.has _ (.inr z)
  refine wpAny_comprehension_free (use := use) rfl hs (closure_ok cap) ok.kind (fun y hy e => by rw [ok.uniq y hy, e]) (thn (hi.run pins s σ H _ I q0) fun src sa wa => thn wa fun out sb wb => ?_)
  obtain ⟨itA, ch, tn, J, Hb, rfl, Ib, Tn, stb, fpb, cont⟩ := wb
  refine wpAny_newObj_type (newEnv_comp ?_)
  obtain ⟨da, eda⟩ : ∃ da, da = sb.heap.objs.size := ⟨_, rfl⟩
  have nda : Hb da = none := Ib.hok.fresh (by rw [eda]; exact Nat.le_refl _)
  obtain ⟨W, ⟨m0, w0⟩, turn⟩ := cont da nda
  obtain ⟨sc, esc⟩ : ∃ sc : Shared, sc = { sb with heap := sb.heap.push { cls := .type "dict", data := .dict #[] } } := ⟨_, rfl⟩
  obtain ⟨Hc, eHc⟩ : ∃ Hc : Hp, Hc = upd Hb da (.dK []) := ⟨_, rfl⟩
  have hsc : sc.heap = sb.heap.push { cls := .type "dict", data := .dict #[] } := by rw [esc]
  have Ic : Inv X pins σ Hc sc := by
    rw [eHc, esc, eda]
    exact Ib.laid (t' := sb.toks) (fun b o e => Heap.get?_push_of_some _ e) (Nat.le_refl _) (dk_empty sb.heap Ib.big)
  have fpc : ∀ b ∈ ch, FpOk X pins Hc b ∧ b < sc.heap.objs.size := by
    intro b hb
    obtain ⟨o, e, _⟩ := Tn.obj _ _ stb b hb
    have lt := Heap.lt_size e
    constructor
    · refine ⟨?_, (fpb b hb).2⟩
      rw [eHc, upd_ne (by rw [eda]; exact Nat.ne_of_lt lt)]
      exact (fpb b hb).1
    · rw [hsc, Heap.size_push]
      exact Nat.lt_succ_of_lt lt
  have stc : tn 0 sc.heap := Tn.keep _ _ _ stb fun b _ o e => by rw [hsc]; exact Heap.get?_push_of_some _ e
  have Id := block_start Ic ok hN fpc
  rw [← eHc] at w0
  obtain ⟨cl, ecl⟩ : ∃ cl, cl = cellsFrom (sc.heap.objs.size + 1) scope.names (cloFrom X.env.cells scope.names []) := ⟨_, rfl⟩
  obtain ⟨ce, ece⟩ : ∃ ce : Env, ce = compEnvC scope cl sc.heap.objs.size X.env := ⟨_, rfl⟩
  obtain ⟨sd, esd⟩ : ∃ sd : Shared, sd = { sc with heap := pushCells (sc.heap.push { cls := .type "dict", data := .dict #[] }) scope.names } := ⟨_, rfl⟩
  suffices main : codeAny (model X.prog X.w) X.A (.compStart (.DictComp kx vx (cl2 tg iter ifs tg1 iter1 ifs1) scope pos) 0 (.ref itA) (.ref da) ce) (compPost (model X.prog X.w) X.A X.xe use Qf (.ref da) sc.heap.objs.size) sd by
    rw [ece, ecl, esd, esc, eda] at main
    exact main
  rw [← ecl, ← ece, ← esd] at Id
  have locC : ce.locals = sc.heap.objs.size := by rw [ece]; rfl
  have std : tn 0 sd.heap := Tn.keep _ _ _ stc fun b _ o e => by
    rw [esd]
    exact pushCells_keeps _ _ _ _ (Heap.get?_push_of_some _ e)
  have still : ∀ {τ : SL} {H' : Hp} {t : Shared}, Inv (X.blk sc Hc scope ce ch) [] τ H' t → (∀ b ∈ ch, H' b = none) → ∀ b ∈ ch, FpOk (X.blk sc Hc scope ce ch) [] H' b := by
    intro τ H' t J' hn b hb
    exact ⟨hn b hb, (J'.ok.exf b hb).1, J'.ok.exfs b hb, .inl hb, fun x c e => (J'.ok.exf b hb).2 x c e, fun p hp => absurd (show p ∈ ([] : List (Addr × Obj)) ++ [] from hp) (by simp)⟩
  have Pg := pg sc Hc sc.heap.objs.size cl ch
  have Pt := pt sc Hc sc.heap.objs.size cl ch
  have Pi1 := pi1 sc Hc sc.heap.objs.size cl ch
  have Pg1 := pg1 sc Hc sc.heap.objs.size cl ch
  have Pt1 := pt1 sc Hc sc.heap.objs.size cl ch
  have Pk := pk sc Hc sc.heap.objs.size cl ch
  have Pv := pv sc Hc sc.heap.objs.size cl ch
  rw [← ece] at Pg Pt Pi1 Pg1 Pt1 Pk Pv
  have walk : codeAny (model X.prog X.w) X.A (.compLoop (.DictComp kx vx (cl2 tg iter ifs tg1 iter1 ifs1) scope pos) 0 (.ref itA) (.ref da) ce) (compPost (model X.prog X.w) X.A X.xe use Qf (.ref da) sc.heap.objs.size) sd := by
    refine loop2D_out (hs1 ce) (fun n t => ∃ i H', Inv (X.blk sc Hc scope ce ch) [] (wipe σ (own.map (·.2))) H' t ∧ tn i t.heap ∧ (∀ b ∈ ch, H' b = none) ∧ W i n H') (fun n t ⟨i, Ht, It, stt, nt, wt⟩ => ?_) m0 ⟨0, Hc, Id, std, fun b hb => (fpc b hb).1.1, w0⟩
    rcases turn i n Ht wt with ⟨stop, fin⟩ | ⟨go, Nx, less, step⟩
    · refine thnF (Tn.done (X.blk sc Hc scope ce ch) rfl rfl rfl hc i [] t _ Ht (fun _ _ => False) It (still It nt) stt stop) fun r t1 ⟨hr, I1⟩ => ?_
      subst hr
      have I2 : Inv X pins σ Ht t1 := Ic.call' (ch := ch) I1.os I1.base I1.hok I1.bare fun b hb => by
        obtain ⟨_, f1, _, f3, f4, f5⟩ := (fpc b hb).1
        exact ⟨f3, f1, f4, f5⟩
      have nC : Ht sc.heap.objs.size = none := by
        have z : Ht ce.locals = none := I1.free
        rwa [locC] at z
      obtain ⟨mm, hm, _⟩ := I1.loc
      have hm : t1.heap.Ns ce.locals mm := hm
      rw [locC] at hm
      exact hRR da _ t1 mm Ht I2 fin hm (Ic.fpOk (Nat.le_refl _) nC)
    · refine thnF (Tn.item (X.blk sc Hc scope ce ch) rfl rfl rfl hc i [] t _ Ht (fun _ _ => False) It (still It nt) stt go) fun r t1 ⟨u, hr, hu1⟩ => ?_
      subst hr
      refine thnF hu1 fun _ t2 ⟨x, H2, I2, rx, y2, st2, n2⟩ => ?_
      refine thnF (Pg.run _ t2 _ H2 x u _ (I2.pinned (still I2 n2) (Tn.obj _ _ st2)) rx (step x H2 y2)) fun _ t3 ⟨σ3, H3, I3, hw, q3⟩ => ?_
      refine thnF (Pt.run _ t3 σ3 H3 _ I3 q3) fun c t4 ⟨H4, I4, q4⟩ => ?_
      have close : ∀ {τ : SL} {t' : Shared} {H' : Hp}, Inv (X.blk sc Hc scope ce ch) ([] ++ pinsAt ch t2.heap) τ H' t' → (wipe σ (own.map (·.2))).length = τ.length → (∀ (j : Nat) v, (wipe σ (own.map (·.2)))[j]? = some (some v) → τ[j]? = some (some v)) → Nx H' →
          ∃ m, m < n ∧ ∃ i H', Inv (X.blk sc Hc scope ce ch) [] (wipe σ (own.map (·.2))) H' t' ∧ tn i t'.heap ∧ (∀ b ∈ ch, H' b = none) ∧ W i m H' := by
        intro τ t' H' I' hl hk nx
        obtain ⟨m', hm, w'⟩ := less H' nx
        have held : ∀ b ∈ ch, ∀ o, t2.heap.get? b = some o → t'.heap.get? b = some o ∧ H' b = none := by
          intro b hb o e
          have z := I'.pin (b, o) (List.mem_append_right _ (List.mem_append_right _ (mem_pinsAt hb e)))
          exact ⟨z.1, z.2.1⟩
        refine ⟨m', hm, i + 1, H', (I'.unpinned (pins := [])).weak hl hk, Tn.keep _ _ _ st2 fun b hb o e => (held b hb o e).1, fun b hb => ?_, w'⟩
        obtain ⟨o, e, _⟩ := Tn.obj _ _ st2 b hb
        exact (held b hb o e).2
      have hl3 : (wipe σ (own.map (·.2))).length = σ3.length := by rw [← hw, wipe_length]
      have hk3 : ∀ (j : Nat) v, (wipe σ (own.map (·.2)))[j]? = some (some v) → σ3[j]? = some (some v) := fun j v e => by
        rw [← hw] at e
        exact (wipe_some e).1
      have hk9 : ∀ (j : Nat) v, (wipe σ (own.map (·.2)))[j]? = some (some v) → (wipe σ3 vs1)[j]? = some (some v) := fun j v e => by
        rw [← hw] at e
        obtain ⟨e1, e2⟩ := wipe_some e
        rw [wipe_out fun z => e2 (hv j z)]
        exact e1
      cases c with
      | false =>
        simp only [Bool.false_eq_true, if_false] at q4 ⊢
        exact close I4 hl3 hk3 q4
      | true =>
        simp only [if_true] at q4 ⊢
        refine thnF (Pi1.run _ t4 σ3 H4 _ I4 q4) fun xv t5 hx => thnF hx fun itv t6 h6 => ?_
        obtain ⟨it1, ch1, tn1, J1, H6, e1, I6, Tn1, st6, f6, W1, ⟨m1, w1⟩, turn1⟩ := h6
        subst e1
        have still1 : ∀ {H' : Hp}, (∀ b ∈ ch1, H' b = none) → ∀ b ∈ ch1, FpOk (X.blk sc Hc scope ce ch) ([] ++ pinsAt ch t2.heap) H' b := fun hn b hb => ⟨hn b hb, (f6 b hb).2⟩
        have walk1 : codeAny (model X.prog X.w) X.A (.compLoop (.DictComp kx vx (cl2 tg iter ifs tg1 iter1 ifs1) scope pos) 1 (.ref it1) (.ref da) ce)
            (fun r s' => match r with
              | .ok _ => ∃ m, m < n ∧ ∃ i H', Inv (X.blk sc Hc scope ce ch) [] (wipe σ (own.map (·.2))) H' s' ∧ tn i s'.heap ∧ (∀ b ∈ ch, H' b = none) ∧ W i m H'
              | .error _ => False) t6 := by
          refine loop2D_in (fun k s' => ∃ j H', Inv (X.blk sc Hc scope ce ch) ([] ++ pinsAt ch t2.heap) (wipe σ3 vs1) H' s' ∧ tn1 j s'.heap ∧ (∀ b ∈ ch1, H' b = none) ∧ W1 j k H') ?_ m1 ⟨0, H6, I6.weak (wipe_length _ _) (fun j v e => (wipe_some e).1), st6, fun b hb => (f6 b hb).1, w1⟩
          rintro k s12 ⟨j, H12, I12, st12, n12, w12⟩
          rcases turn1 j k H12 w12 with ⟨stop1, nx1⟩ | ⟨go1, Nx1, less1, step1⟩
          · refine thnF (Tn1.done (X.blk sc Hc scope ce ch) rfl rfl rfl hc j _ s12 (wipe σ3 vs1) H12 (fun _ _ => False) I12 (still1 n12) st12 stop1) fun r s13 ⟨hr, I13⟩ => ?_
            subst hr
            exact close I13 (hl3.trans (wipe_length σ3 vs1).symm) hk9 nx1
          · refine thnF (Tn1.item (X.blk sc Hc scope ce ch) rfl rfl rfl hc j _ s12 (wipe σ3 vs1) H12 (fun _ _ => False) I12 (still1 n12) st12 go1) fun r s13 ⟨u1, hr, h13⟩ => ?_
            subst hr
            refine thnF h13 fun _ s14 ⟨x1, H14, I14, r14, y14, st14, n14⟩ => ?_
            refine thnF (Pg1.run _ s14 (wipe σ3 vs1) H14 x1 u1 _ (I14.pinned (still1 n14) (Tn1.obj _ _ st14)) r14 (step1 x1 H14 y14)) fun _ s15 ⟨σ15, H15, I15, hw15, q15⟩ => ?_
            refine thnF (Pt1.run _ s15 σ15 H15 _ I15 q15) fun b1 s16 ⟨H16, I16, q16⟩ => ?_
            have close1 : ∀ {s' : Shared} {H' : Hp}, Inv (X.blk sc Hc scope ce ch) (([] ++ pinsAt ch t2.heap) ++ pinsAt ch1 s14.heap) σ15 H' s' → Nx1 H' → ∃ m, m < k ∧ ∃ j H', Inv (X.blk sc Hc scope ce ch) ([] ++ pinsAt ch t2.heap) (wipe σ3 vs1) H' s' ∧ tn1 j s'.heap ∧ (∀ b ∈ ch1, H' b = none) ∧ W1 j m H' := fun {s' H'} I' nx => by
              obtain ⟨m', hm, w'⟩ := less1 H' nx
              have pin' : ∀ b ∈ ch1, ∀ o, s14.heap.get? b = some o → s'.heap.get? b = some o ∧ H' b = none := fun b hb o e =>
                let z := I'.pin (b, o) (List.mem_append_right _ (List.mem_append_right _ (mem_pinsAt hb e)))
                ⟨z.1, z.2.1⟩
              refine ⟨m', hm, j + 1, H', I'.unpinned.weak (by rw [← hw15, wipe_length]) (fun j v e => by rw [← hw15] at e; exact (wipe_some e).1), Tn1.keep _ _ _ st14 fun b hb o e => (pin' b hb o e).1, fun b hb => ?_, w'⟩
              obtain ⟨o, e, _⟩ := Tn1.obj _ _ st14 b hb
              exact (pin' b hb o e).2
            cases b1 with
            | false =>
              simp only [Bool.false_eq_true, if_false] at q16 ⊢
              exact close1 I16 q16
            | true =>
              simp only [if_true] at q16 ⊢
              refine thnF (Pk.run _ s16 σ15 H16 _ I16 q16) fun z s17 ⟨yk, H17, I17, r17, q17⟩ => ?_
              refine thnF (Pv.run _ s17 σ15 H17 _ I17 q17) fun z2 s18 ⟨yv, H18, I18, r18, kvs, k, ek, h18, hz, nx⟩ => ?_
              subst ek
              exact d_dictSet (X := X.blk sc Hc scope ce ch) I18 h18 hz r17 r18 fun s19 I19 => close1 I19 nx
        exact start2D_in walk1 (Tn1.self X.A 0 _ _ _ st6 walk1)
  exact codeAny_compStart_dict walk (Tn.self X.A 0 _ _ _ std walk)
theorem ps_setKc2 {i : Nat} {y : Str} {py spos : Pos} {kx vx tg iter tg1 iter1 : Expr} {ifs ifs1 : List Expr} {scope : Scope} {own : List (Str × Nat)} {vs1 : List Nat} {pos : Pos} {wi wi1 : TI} {g g1 : TG} {tt tt1 : TT} {tk tv : TE} (hc : X.calm = true) (hN : X.N.Nodup) (hy : X.N[i]? = some y) (hyl : X.env.scope.names.lookup y = some .local)
    (hsw : swapsWith (.DictComp kx vx (cl2 tg iter ifs tg1 iter1 ifs1) scope pos) (some (.Name y py)) spos.line X.env = pure true) (hi : PI X tg iter wi) (ok : BlkOk X.N X.env.scope scope own) (hv : ∀ i ∈ vs1, i ∈ own.map (·.2))
    (pg : ∀ (s : Shared) (H : Hp) (C : Addr) (cl : List (Str × Addr)) (fp : List Addr), PG (X.blk s H scope (compEnvC scope cl C X.env) fp) tg g)
    (pt : ∀ (s : Shared) (H : Hp) (C : Addr) (cl : List (Str × Addr)) (fp : List Addr), PTs (X.blk s H scope (compEnvC scope cl C X.env) fp) ifs tt)
    (pi1 : ∀ (s : Shared) (H : Hp) (C : Addr) (cl : List (Str × Addr)) (fp : List Addr), PI (X.blk s H scope (compEnvC scope cl C X.env) fp) tg1 iter1 wi1)
    (pg1 : ∀ (s : Shared) (H : Hp) (C : Addr) (cl : List (Str × Addr)) (fp : List Addr), PG (X.blk s H scope (compEnvC scope cl C X.env) fp) tg1 g1)
    (pt1 : ∀ (s : Shared) (H : Hp) (C : Addr) (cl : List (Str × Addr)) (fp : List Addr), PTs (X.blk s H scope (compEnvC scope cl C X.env) fp) ifs1 tt1)
    (pk : ∀ (s : Shared) (H : Hp) (C : Addr) (cl : List (Str × Addr)) (fp : List Addr), PE (X.blk s H scope (compEnvC scope cl C X.env) fp) kx tk)
    (pv : ∀ (s : Shared) (H : Hp) (C : Addr) (cl : List (Str × Addr)) (fp : List Addr), PE (X.blk s H scope (compEnvC scope cl C X.env) fp) vx tv) (hs : ∀ x, foldedSetIterable iter X.env x = pure x := by intro _; rfl) (hs1 : ∀ env x, foldedSetIterable iter1 env x = pure x := by intro _ _; rfl) :
    PS X (.Assign [.Name y py] (.DictComp kx vx (cl2 tg iter ifs tg1 iter1 ifs1) scope pos) spos) (tAsg (tKc2N wi g tt wi1 g1 tt1 tk tv (own.map (·.2)) vs1) (gName i)) := by
  refine ⟨fun pins s σ H D I h => ?_⟩
  rw [exec_Assign_Name_used _ _ _ _ hsw]
  refine wpAny_bind (wpAny_standAt (wpAny_bind ?_))
  show wpAny _ X.A (do let _ ← comprehension (.DictComp kx vx (cl2 tg iter ifs tg1 iter1 ifs1) scope pos) scope X.env (firstIterPos (cl2 tg iter ifs tg1 iter1 ifs1) pos) newDict false (eval iter X.env) (some (assign (.Name y py) X.env))) _ _ s
  have h : tKc2N wi g tt wi1 g1 tt1 tk tv (own.map (·.2)) vs1 σ H (fun x H1 => gName i x σ H1 D.nx) := h
  refine wpAny_bind (thn (kc2_core (Qf := fun _ s' => SP X pins D .next s') hc hN hi ok hv pg pt pi1 pg1 pt1 pk pv hs hs1 I h fun L C s' m H' I' q hn f => ?_) fun _ s' hq => wpAny_pure (wpAny_pure hq))
  show wpAny _ _ (assign (.Name y py) X.env (.ref L)) _ _ _
  refine wpAny_assign_Name (store_ok2 (v := V.ref L) I' hN hy (.inl hyl) rfl (fun s2 I2 ⟨a, sb, ha⟩ => ?_) (.inr hyl))
  obtain ⟨f0, f1, f2, f3, f4, f5⟩ := f
  have haC : C ≠ a := by
    rcases ha with z | z
    · rw [z]; exact f1
    · exact fun e => f4 y a z e.symm
  refine ⟨m, hn.sameBut sb haC, fun h3 sb3 => ?_⟩
  exact ⟨_, H', I2.turned (t' := s2.toks) (fun b o hb e => (sb3.2 b hb).trans e) f0 f1 f3 f4 f5, q⟩
end
/-! ### over deep values -/
def dKcIn (src : Src) (g : DTG) (tt : DTT) (tk tv : DTE) (m0 : DSt) (p : Addr) (Nx : List (D × D) → DM → Prop) : List D → List (D × D) → DM → Prop
  | [], acc, M => SrcV src M ∧ M p = some (.dk acc) ∧ Nx acc M
  | d :: ds, acc, M => SrcV src M ∧ g d m0 M fun m1 M1 => tt m1 M1 fun b M2 =>
      if b = true then tk m1 M2 fun k M3 => tv m1 M3 fun v M4 => M4 p = some (.dk acc) ∧ isKb k = true ∧ acc.length < 16777216 ∧ dKcIn src g tt tk tv m0 p Nx ds (dput acc k v) (mput M4 p (.dk (dput acc k v)))
      else dKcIn src g tt tk tv m0 p Nx ds acc M2
def dKcOut (src : Src) (g : DTG) (tt : DTT) (t1 : DTI) (g1 : DTG) (tt1 : DTT) (tk tv : DTE) (ws1 : List Nat) (m0 : DSt) (p : Addr) (Qd : List (D × D) → DM → Prop) : List D → List (D × D) → DM → Prop
  | [], acc, M => SrcV src M ∧ M p = some (.dk acc) ∧ Qd acc M
  | d :: ds, acc, M => SrcV src M ∧ g d m0 M fun m1 M1 => tt m1 M1 fun b M2 =>
      if b = true then t1 m1 M2 fun src1 M3 => src1.1.length ≤ sizeLine → dKcIn src1 g1 tt1 tk tv (dwipe m1 ws1) p (fun acc' M' => dKcOut src g tt t1 g1 tt1 tk tv ws1 m0 p Qd ds acc' M') src1.1 acc M3
      else dKcOut src g tt t1 g1 tt1 tk tv ws1 m0 p Qd ds acc M2
def dKc2 (t : DTI) (g : DTG) (tt : DTT) (t1 : DTI) (g1 : DTG) (tt1 : DTT) (tk tv : DTE) (vs ws1 : List Nat) : DTE := fun m M Q => t m M fun src M1 => src.1.length ≤ sizeLine → ∀ p, M1 p = none → dKcOut src g tt t1 g1 tt1 tk tv ws1 (dwipe m vs) p (fun _ M2 => Q (.ref p) M2) src.1 [] (mput M1 p (.dk []))
section
variable {X : Cx} {kx vx tg iter tg1 iter1 : Expr} {ifs ifs1 : List Expr} {scope : Scope} {own : List (Str × Nat)} {pos : Pos} {t t1 : DTI} {g g1 : DTG} {tt tt1 : DTT} {tk tv : DTE} {ws ws1 : List Nat}
theorem kc2_up {σ : SL} {H : Hp} {m : DSt} {M : DM} {Qv : VK} {Qf : Addr → DM → Prop} {vs : List Nat} (hsub : ∀ i ∈ ws, i ∈ vs) (r : R X.K m M σ H)
    (q : t m M fun src M1 => src.1.length ≤ sizeLine → ∀ p, M1 p = none → dKcOut src g tt t1 g1 tt1 tk tv ws1 (dwipe m vs) p (fun _ M2 => Qf p M2) src.1 [] (mput M1 p (.dk [])))
    (k : ∀ p M2 H2, Grow H H2 → RM X.K H2 M2 → Qf p M2 → Qv (.ref p) H2) : tKc2N (upI X.K t) (upG X.K ws g) (upT X.K tt) (upI X.K t1) (upG X.K ws1 g1) (upT X.K tt1) (upE X.K tk) (upE X.K tv) vs ws1 σ H Qv := by
  refine ⟨m, M, _, r, q, fun src M1 H1 J g0 m1 q1 st p np => ?_⟩
  have q2 := q1 st.small p (m1.free np)
  have g2 : Grow H1 (upd H1 p (.dK [])) := .new np
  refine ⟨fun i n H2 => i + n = src.1.length ∧ Grow H1 H2 ∧ ∃ acc M2, RM X.K H2 M2 ∧ dKcOut src g tt t1 g1 tt1 tk tv ws1 (dwipe m vs) p (fun _ M2 => Qf p M2) (src.1.drop i) acc M2,
    ⟨src.1.length, by omega, g2, [], _, m1.newDk np (Nat.zero_le _) .nil, q2⟩, ?_⟩
  rintro i n H2 ⟨hl, g3, acc, M2, m2, q3⟩
  have r2 : R X.K (dwipe m vs) M2 (wipe σ vs) H2 := (r.wipe vs).grow (g0.trans g3) m2
  by_cases hlt : i < src.1.length
  · rw [List.drop_eq_getElem_cons hlt] at q3
    obtain ⟨sv, q3⟩ := q3
    have so := sv.ok g3 m2
    refine .inr ⟨st.go i H2 so hlt, fun H3 => Grow H1 H3 ∧ ∃ acc M2, RM X.K H3 M2 ∧ dKcOut src g tt t1 g1 tt1 tk tv ws1 (dwipe m vs) p (fun _ M2 => Qf p M2) (src.1.drop (i + 1)) acc M2,
      fun H3 ⟨g4, z⟩ => ⟨n - 1, by omega, by omega, g4, z⟩, fun x H3 y => ?_⟩
    obtain ⟨g4, k4, d, e4, rd⟩ := st.yld i H2 x H3 so hlt y
    have ed : d = src.1[i] := by
      rw [List.getElem?_eq_getElem hlt] at e4
      exact (Option.some.inj e4).symm
    subst ed
    refine ⟨_, _, M2, _, rd, r2.grow g4 (k4 _ m2), q3, fun m5 M5 σ5 H5 g5 r5 o5 q5 => ⟨wipe_off o5 hsub, ?_⟩⟩
    refine ⟨m5, M5, _, r5, q5, fun b M6 H6 g6 m6 q6 => ?_⟩
    have g06 : Grow H1 H6 := ((g3.trans g4).trans g5).trans g6
    have r6 := r5.grow g6 m6
    cases b with
    | true =>
      refine ⟨m5, M6, _, r6, q6, fun src1 M7 H7 J1 g7 m7 q7 st1 => ?_⟩
      have q8 := q7 st1.small
      refine ⟨fun j n H8 => j + n = src1.1.length ∧ Grow H7 H8 ∧ ∃ acc M8, RM X.K H8 M8 ∧ dKcIn src1 g1 tt1 tk tv (dwipe m5 ws1) p (fun acc' M' => dKcOut src g tt t1 g1 tt1 tk tv ws1 (dwipe m vs) p (fun _ M2 => Qf p M2) (src.1.drop (i + 1)) acc' M') (src1.1.drop j) acc M8,
        ⟨src1.1.length, by omega, .refl _, acc, M7, m7, q8⟩, ?_⟩
      rintro j n1 H8 ⟨hl1, g8, acc8, M8, m8, q9⟩
      have r8 : R X.K (dwipe m5 ws1) M8 (wipe σ5 ws1) H8 := (r6.wipe ws1).grow (g7.trans g8) m8
      by_cases hlt1 : j < src1.1.length
      · rw [List.drop_eq_getElem_cons hlt1] at q9
        obtain ⟨sv1, q9⟩ := q9
        have so1 := sv1.ok g8 m8
        refine .inr ⟨st1.go j H8 so1 hlt1, fun H9 => Grow H7 H9 ∧ ∃ acc M8, RM X.K H9 M8 ∧ dKcIn src1 g1 tt1 tk tv (dwipe m5 ws1) p (fun acc' M' => dKcOut src g tt t1 g1 tt1 tk tv ws1 (dwipe m vs) p (fun _ M2 => Qf p M2) (src.1.drop (i + 1)) acc' M') (src1.1.drop (j + 1)) acc M8,
          fun H9 ⟨g9, z⟩ => ⟨n1 - 1, by omega, by omega, g9, z⟩, fun x1 H9 y1 => ?_⟩
        obtain ⟨g9, k9, d1, e9, rd1⟩ := st1.yld j H8 x1 H9 so1 hlt1 y1
        have ed1 : d1 = src1.1[j] := by
          rw [List.getElem?_eq_getElem hlt1] at e9
          exact (Option.some.inj e9).symm
        subst ed1
        refine ⟨_, _, M8, _, rd1, r8.grow g9 (k9 _ m8), q9, fun mA MA σA HA gA rA oA qA => ⟨wipe_off oA (fun i h => h), ?_⟩⟩
        refine ⟨mA, MA, _, rA, qA, fun b1 MB HB gB mB qB => ?_⟩
        have g0B : Grow H7 HB := ((g8.trans g9).trans gA).trans gB
        cases b1 with
        | true =>
          refine ⟨mA, MB, _, rA.grow gB mB, qB, fun kd kv MC HC gC rk mC qC => ?_⟩
          refine ⟨mA, MC, _, (rA.grow gB mB).grow gC mC, qC, fun vd vv ME HE gE rv mE ⟨eE, hk, hsz, qE⟩ => ?_⟩
          obtain ⟨key, rfl⟩ := isKb_ex hk
          obtain rfl := rep_kV rk
          obtain ⟨es, hE, hzE, rkv⟩ := mE.dk eE
          have hlen : es.length < sizeLine := by
            rw [← rkv.length, sizeLine_eq]
            exact hsz
          have hz9 : (putK es key vv).length ≤ sizeLine := by have := length_putK es key vv; omega
          have ge : Grow HE (upd HE p (.dK (putK es key vv))) := Grow.dk hE
          exact ⟨es, key, rfl, hE, hlen, ((g0B.trans gC).trans gE).trans ge, dput acc8 (kD key) vd, _, mE.putDk hE hz9 (rkv.put rv), qE⟩
        | false => exact ⟨g0B, acc8, MB, mB, qB⟩
      · have e : j = src1.1.length := by omega
        subst e
        rw [List.drop_length] at q9
        exact .inl ⟨st1.stop H8 (q9.1.ok g8 m8), (g06.trans g7).trans g8, acc8, M8, m8, q9.2.2⟩
    | false => exact ⟨g06, acc, M6, m6, q6⟩
  · have e : i = src.1.length := by omega
    subst e
    rw [List.drop_length] at q3
    exact .inl ⟨st.stop H2 (q3.1.ok g3 m2), k p M2 H2 (g0.trans g3) m2 q3.2.2⟩
/-- name = {.. for .. for ..} on one line -/
theorem ds_setKc2 {y : Str} {py spos : Pos} {i : Nat} (hc : X.calm = true) (hN : X.N.Nodup) (hy : X.N[i]? = some y) (hyl : X.env.scope.names.lookup y = some .local)
    (hsw : swapsWith (.DictComp kx vx [⟨tg, iter, ifs, 0⟩, ⟨tg1, iter1, ifs1, 0⟩] scope pos) (some (.Name y py)) spos.line X.env = pure true) (hi : DI X tg iter t) (ok : BlkOk X.N X.env.scope scope own) (hsub : ∀ i ∈ ws, i ∈ own.map (·.2)) (hsub1 : ∀ i ∈ ws1, i ∈ own.map (·.2))
    (hg : ∀ (s : Shared) (H : Hp) (C : Addr) (cl : List (Str × Addr)) (fp : List Addr), DG (X.blk s H scope (compEnvC scope cl C X.env) fp) ws tg g)
    (ht : ∀ (s : Shared) (H : Hp) (C : Addr) (cl : List (Str × Addr)) (fp : List Addr), DPTs (X.blk s H scope (compEnvC scope cl C X.env) fp) ifs tt)
    (hi1 : ∀ (s : Shared) (H : Hp) (C : Addr) (cl : List (Str × Addr)) (fp : List Addr), DI (X.blk s H scope (compEnvC scope cl C X.env) fp) tg1 iter1 t1)
    (hg1 : ∀ (s : Shared) (H : Hp) (C : Addr) (cl : List (Str × Addr)) (fp : List Addr), DG (X.blk s H scope (compEnvC scope cl C X.env) fp) ws1 tg1 g1)
    (ht1 : ∀ (s : Shared) (H : Hp) (C : Addr) (cl : List (Str × Addr)) (fp : List Addr), DPTs (X.blk s H scope (compEnvC scope cl C X.env) fp) ifs1 tt1)
    (hk : ∀ (s : Shared) (H : Hp) (C : Addr) (cl : List (Str × Addr)) (fp : List Addr), DE (X.blk s H scope (compEnvC scope cl C X.env) fp) kx tk)
    (hv : ∀ (s : Shared) (H : Hp) (C : Addr) (cl : List (Str × Addr)) (fp : List Addr), DE (X.blk s H scope (compEnvC scope cl C X.env) fp) vx tv)
    (hs : ∀ x, foldedSetIterable iter X.env x = pure x := by intro _; rfl) (hs1 : ∀ env x, foldedSetIterable iter1 env x = pure x := by intro _ _; rfl) :
    DS X (.Assign [.Name y py] (.DictComp kx vx [⟨tg, iter, ifs, 0⟩, ⟨tg1, iter1, ifs1, 0⟩] scope pos) spos) (dSet i (dKc2 t g tt t1 g1 tt1 tk tv (own.map (·.2)) ws1)) := by
  exact imS (ps_setKc2 (wi := upI X.K t) (g := upG X.K ws g) (tt := upT X.K tt) (wi1 := upI X.K t1) (g1 := upG X.K ws1 g1) (tt1 := upT X.K tt1) (tk := upE X.K tk) (tv := upE X.K tv) hc hN hy hyl hsw hi ok hsub1 hg ht hi1 hg1 ht1 hk hv hs hs1) fun Z σ H ⟨m, M, Z', r, q, k⟩ =>
    kc2_up (Qf := fun p M2 => Z'.nx (m.set i (some (.ref p))) M2) hsub r q fun p M2 H2 g2 m2 q2 => k.nx _ M2 _ H2 g2 ((r.grow g2 m2).set (.ref p)) q2
end
/-- loops of a comprehension with two clauses -/
theorem kcIn_ind {src : Src} {g : DTG} {tt : DTT} {tk tv : DTE} {m0 : DSt} {p : Addr} {Nx : List (D × D) → DM → Prop} (V : List D → List (D × D) → DM → Prop) (fin : ∀ acc M, V [] acc M → SrcV src M ∧ M p = some (.dk acc) ∧ Nx acc M)
    (step : ∀ d ds acc M (Cn : List (D × D) → DM → Prop), (∀ acc' M', V ds acc' M' → Cn acc' M') → V (d :: ds) acc M → SrcV src M ∧ g d m0 M fun m1 M1 => tt m1 M1 fun b M2 =>
      if b = true then tk m1 M2 fun k M3 => tv m1 M3 fun v M4 => M4 p = some (.dk acc) ∧ isKb k = true ∧ acc.length < 16777216 ∧ Cn (dput acc k v) (mput M4 p (.dk (dput acc k v))) else Cn acc M2) :
    ∀ ds acc M, V ds acc M → dKcIn src g tt tk tv m0 p Nx ds acc M
  | [], acc, M, h => fin acc M h
  | d :: ds, acc, M, h => step d ds acc M (dKcIn src g tt tk tv m0 p Nx ds) (kcIn_ind V fin step ds) h
theorem kcOut_ind {src : Src} {g : DTG} {tt : DTT} {t1 : DTI} {g1 : DTG} {tt1 : DTT} {tk tv : DTE} {ws1 : List Nat} {m0 : DSt} {p : Addr} {Qd : List (D × D) → DM → Prop} (V : List D → List (D × D) → DM → Prop) (fin : ∀ acc M, V [] acc M → SrcV src M ∧ M p = some (.dk acc) ∧ Qd acc M)
    (step : ∀ d ds acc M (Cn : List (D × D) → DM → Prop), (∀ acc' M', V ds acc' M' → Cn acc' M') → V (d :: ds) acc M → SrcV src M ∧ g d m0 M fun m1 M1 => tt m1 M1 fun b M2 =>
      if b = true then t1 m1 M2 fun src1 M3 => src1.1.length ≤ sizeLine → dKcIn src1 g1 tt1 tk tv (dwipe m1 ws1) p Cn src1.1 acc M3 else Cn acc M2) :
    ∀ ds acc M, V ds acc M → dKcOut src g tt t1 g1 tt1 tk tv ws1 m0 p Qd ds acc M
  | [], acc, M, h => fin acc M h
  | d :: ds, acc, M, h => step d ds acc M (dKcOut src g tt t1 g1 tt1 tk tv ws1 m0 p Qd ds) (kcOut_ind V fin step ds) h
end DL
set_option maxHeartbeats 1000000
/-! DL48: min(a list of ints, default=x); x >> k. -/
namespace DL
open PySem PySem.Spec PyProof.Rows L2
theorem min_fold : ∀ (ys : List Int) (y : Int), PySem.W.minOf y ys ∈ y :: ys ∧ ∀ z ∈ y :: ys, PySem.W.minOf y ys ≤ z
  | [], y => ⟨by simp [PySem.W.minOf], fun z hz => by
    rw [List.mem_singleton.mp hz]
    exact Int.le_refl _⟩
  | x :: ys, y => by
    have e : PySem.W.minOf y (x :: ys) = PySem.W.minOf (if PySem.W.DatumOrd.lt x y = true then x else y) ys := rfl
    have e2 : (PySem.W.DatumOrd.lt x y = true) = (x < y) := by
      show (decide (x < y) = true) = _
      rw [decide_eq_true_eq]
    rw [e]
    simp only [e2]
    by_cases c : x < y
    · rw [if_pos c]
      obtain ⟨h1, h2⟩ := min_fold ys x
      refine ⟨List.mem_cons_of_mem _ h1, fun z hz => ?_⟩
      rcases List.mem_cons.mp hz with rfl | hz
      · have := h2 x (by simp)
        omega
      · exact h2 z hz
    · rw [if_neg c]
      obtain ⟨h1, h2⟩ := min_fold ys y
      constructor
      · rcases List.mem_cons.mp h1 with h1 | h1
        · rw [h1]
          simp
        · simp [h1]
      · intro z hz
        have hy := h2 y (by simp)
        rcases List.mem_cons.mp hz with rfl | hz
        · exact hy
        · rcases List.mem_cons.mp hz with rfl | hz
          · omega
          · exact h2 z (by simp [hz])
section
variable {X : Cx}
def rMinDV (K : PySem.W.Frag) : List V → List V → Hp → VK → Prop := fun vs zs H Q => ∃ (a : Addr) (ns : List Int) (z : V), vs = [V.ref a] ∧ zs = [z] ∧ SqL K H a (ns.map V.int) ∧ (ns = [] → Q z H) ∧ ∀ n : Int, n ∈ ns → (∀ y, y ∈ ns → n ≤ y) → Q (.int n) H
theorem cr_minD (hu : X.A.units + 9 < cLine) (hc : X.calm = true) : CallRK X (.builtin "min") [Str.ofString "default"] (rMinDV X.K) := by
  intro pins s σ H vs zs us ws Q I r rz h
  obtain ⟨a, ns, z, rfl, rfl, hs, q0, q⟩ := h
  obtain rfl := Vals.ref1 r
  obtain ⟨w1, rfl, e1⟩ := vals1 rz
  obtain ⟨its, rv, hl, _⟩ := I.list hs
  refine PySem.W.min_list_datum_default (α := Int) (vs := its.toArray) (xs := ns) (I.ok.hd hc) hl.isList (.of_ints rv.ints) ?_ (fun e h' tk hk => ?_) fun y ys i v h' tk e hi hh hk => ?_
  · show X.A.units + 1 + PySem.W.Datum.depth Int < cLine
    have : PySem.W.Datum.depth Int ≤ 1 := by decide
    omega
  · exact ⟨z, H, I.kept hk, e1, q0 e⟩
  · obtain ⟨t', rfl⟩ : ∃ t', v = .int (PySem.W.minOf y ys) t' := by
      obtain ⟨as, hr⟩ := hh
      cases hr
      exact ⟨_, rfl⟩
    obtain ⟨m1, m2⟩ := min_fold ys y
    rw [← e] at m1 m2
    exact ⟨.int _, H, I.kept hk, ⟨_, rfl⟩, q _ m1 m2⟩
def dMinD (te td : DTE) : DTE := fun m M Q => te m M fun d M1 => td m M1 fun z M2 => ∃ ns : List Int, dItems d M2 = some (ns.map D.int) ∧ d ≠ .tup (ns.map D.int) ∧ (ns = [] → Q z M2) ∧ ∀ n : Int, n ∈ ns → (∀ y, y ∈ ns → n ≤ y) → Q (.int n) M2
variable {e d : Expr} {p pos kpos : Pos} {te td : DTE}
theorem d_minD (hu : X.A.units + 9 < cLine) (hc : X.calm = true) (hg : Gl X "min") (hm : X.mg "min" = none) (he : DE X e te) (hd : DE X d td)
    (hs : starEach [e] X.env = (false, eval e X.env) :: starEach [] X.env := by rfl)
    (h1 : backTo pos (starEach [e] X.env) = (false, eval e X.env) :: backTo pos (starEach [] X.env) := by rfl) (h2 : (backTo pos (starEach [e] X.env)).any (·.1) = false := by rfl)
    (h3 : (backToKw pos (keywordEach [⟨some "default", d, kpos⟩] X.env)).all (·.1.isSome) = true := by rfl) (h4 : (backToKw pos (keywordEach [⟨some "default", d, kpos⟩] X.env)).any (·.1.isNone) = false := by rfl)
    (h5 : (backToKw pos (keywordEach [⟨some "default", d, kpos⟩] X.env)).filterMap (·.1) = [Str.ofString "default"] := by rfl) :
    DE X (.Call (.Name "min" p) [e] [⟨some "default", d, kpos⟩] pos) (dMinD te td) :=
  imE (pe_callBK (cr_minD hu hc) hg hm boot_min (pa_cons he pa_nil hs) (pk_cons hd pk_nil) (by decide) (by decide) h1 h2 h3 h4 h5) fun σ H Q ⟨m, M, Q', r, q, k⟩ => by
    refine ⟨m, M, _, r, q, fun dv v1 M1 H1 g1 r1 m1 q1 => ⟨m, M1, _, r.grow g1 m1, q1, fun z v2 M2 H2 g2 r2 m2 ⟨ns, hi, hne, q3, q4⟩ => ?_⟩⟩
    obtain ⟨a, ws, rfl, _, l3, h5⟩ := lst_of (r1.grow g2) m2 hi hne
    rw [ints_rep l3] at h5
    exact ⟨a, ns, v2, rfl, rfl, h5, fun e => k _ _ M2 H2 (g1.trans g2) r2 m2 (q3 e), fun n h6 h7 => k _ _ M2 H2 (g1.trans g2) (.int _) m2 (q4 n h6 h7)⟩
/-- x >> k -/
def dShr : DR2 := fun x y M Q => ∃ (i : Int) (k : Nat), x = .int i ∧ y = .int (k : Int) ∧ Q (.int (i / 2 ^ k)) M
theorem o_shr : DOp X (binaryOp .RShift) dShr := by
  intro pins s σ H x y v u Q I rx ry ⟨d, e, M, Q', r1, r2, m, ⟨i, k, e1, e2, q⟩, kk⟩
  subst e1
  subst e2
  cases r1
  cases r2
  exact op_shrN pins s σ H _ _ v u Q I rx ry ⟨i, k, rfl, rfl, kk _ _ M H (.refl H) (.int _) m q⟩
end
end DL
/-! DL49: what a dict's pairs give behind a put. -/
namespace DL
open PySem PySem.Spec PyProof.Rows L2
theorem dget_put (kvs : List (D × D)) (x v y : D) : dget (dput kvs x v) y = if nk x = nk y then some v else dget kvs y := by
  have key : ∀ l : List (D × D), ((l.map fun p => if nk p.1 = nk x then (p.1, v) else p).find? fun p => decide (nk p.1 = nk y)).map (·.2) = if nk x = nk y ∧ dhas l x = true then some v else dget l y := by
    intro l
    induction l with
    | nil =>
      rw [if_neg (fun z => by cases z.2)]
      rfl
    | cons p l ih =>
      unfold dget dhas at ih ⊢
      rw [List.map_cons, List.find?_cons, List.find?_cons, List.any_cons]
      by_cases e1 : nk p.1 = nk x
      · rw [if_pos e1]
        by_cases e2 : nk x = nk y
        · have e3 : nk p.1 = nk y := e1.trans e2
          simp [e1, e2, e3]
        · have e3 : ¬ nk p.1 = nk y := fun z => e2 (e1.symm.trans z)
          simp only [decide_eq_false e3]
          rw [ih, if_neg (fun z => e2 z.1), if_neg (fun z => e2 z.1)]
      · rw [if_neg e1]
        by_cases e3 : nk p.1 = nk y
        · have e2 : ¬ nk x = nk y := fun z => e1 (e3.trans z.symm)
          simp [e3, e2]
        · simp only [decide_eq_false e3, decide_eq_false e1, Bool.false_or]
          exact ih
  unfold dput
  split
  · next c =>
    unfold dget at key ⊢
    rw [key kvs]
    by_cases e : nk x = nk y
    · rw [if_pos ⟨e, c⟩, if_pos e]
    · rw [if_neg (fun z => e z.1), if_neg e]
  · next c =>
    unfold dget
    rw [List.find?_append]
    by_cases e : nk x = nk y
    · rw [if_pos e]
      have hn : kvs.find? (fun p => decide (nk p.1 = nk y)) = none := by
        rw [List.find?_eq_none]
        intro p hp z
        refine c ?_
        unfold dhas
        rw [List.any_eq_true]
        exact ⟨p, hp, decide_eq_true ((of_decide_eq_true z).trans e.symm)⟩
      rw [hn]
      simp [e]
    · rw [if_neg e]
      cases kvs.find? (fun p => decide (nk p.1 = nk y)) with
      | some u => rfl
      | none => simp [e]
/-- where a pair stands -/
theorem cast_sum0 : ∀ l : List Nat, ((l.map fun i : Nat => (i : Int)).sum) = ((l.sum : Nat) : Int)
  | [] => rfl
  | x :: l => by
    rw [List.map_cons, List.sum_cons, List.sum_cons, cast_sum0 l]
    push_cast
    rfl
end DL
/-! DL50: sorted(a tuple). -/
namespace DL
open PySem PySem.Spec PyProof.Rows L2
open PySem.W
theorem sorted_valsT {prog : Program} {w : World} {A : Around} {E : Value → Shared → Prop} {s : Shared} {κ : PyProof.Rows.KeyKind} {l : Addr} {vs : List Value} {Q : Value → Shared → Prop} (hl : IsTup s.heap l vs.toArray) (S : SortsAt prog w A.in1.in1 { s with heap := sortingHeap (copyHeap s.heap vs) (s.heap.objs.size + 1) vs } κ vs) (hL : vs.length ≤ sizeLine)
    (h : Q (.ref (s.heap.objs.size + 1)) { s with heap := sortedAll s.heap vs (sortVals κ false vs vs).toArray }) : wpAny (model prog w) A (call (.builtin "sorted") [.ref l]) Q E s :=
  sorted_of_tup (kw := []) hl hL (args_sorted1 _) (fun _ => args_list_sort _) fun _ => list_sort_vals (s := { s with heap := copyHeap s.heap vs }) (copyHeap_at s.heap vs) S hL ⟨rfl, h⟩
theorem sorted_dataOT {β : Type} {prog : Program} {w : World} {A : Around} {E : Value → Shared → Prop} {s : Shared} {vs : List Value} {bs : List β} {R : Value → β → Prop} {enc : β → PyData} {l : Addr} {Q : Value → Shared → Prop} (hl : IsTup s.heap l vs.toArray) (e : EachIs R vs bs) (er : EachIs (fun v b => ∃ as, Reads s.heap v (enc b) as) vs bs) (hal : AllAlike (bs.map enc)) (hk : SortOk (bs.map enc)) (hL : bs.length ≤ sizeLine)
    (hu : ∀ b, b ∈ bs → A.units + 2 + (enc b).depth < cLine) (h : ∀ out, out.length = bs.length → EachIs R out (bs.mergeSort (dataLe false enc)) → Q (.ref (s.heap.objs.size + 1)) { s with heap := sortedAll s.heap vs (List.toArray out) }) :
    wpAny (model prog w) A (call (.builtin "sorted") [.ref l]) Q E s := by
  have er' : EachIs (fun v b => ∃ as, Reads (sortingHeap (copyHeap s.heap vs) (s.heap.objs.size + 1) vs) v (enc b) as) vs bs := er.mono fun _ _ ⟨as, r⟩ => ⟨as, PyProof.Rows.Reads.keeps (fun _ _ => sorting_copy_old) r⟩
  exact sorted_valsT hl (sortsAt_tups (s := { s with heap := sortingHeap (copyHeap s.heap vs) (s.heap.objs.size + 1) vs }) (each_map (R := fun v d => ∃ as, Reads (sortingHeap (copyHeap s.heap vs) (s.heap.objs.size + 1) vs) v d as) enc er') hal hk (bound_map hu)) (by rw [e.length]; exact hL)
    (h _ (by rw [sortVals_length false rfl]; exact e.length) (sortVals_data false e er' hal))
variable {X : Cx}
def rSortOT : DCR := fun ds M Q => ∃ xs, ds = [.tup xs] ∧ xs.all (dOk 32) = true ∧ AllAlike (xs.map D.py) ∧ SortOk (xs.map D.py) ∧ ∀ p, M p = none → Q (.ref p) (mput M p (.lst (srtD xs)))
theorem c_sortOT (hu : X.A.units + 40 < cLine) : DCall X (.builtin "sorted") rSortOT := by
  intro pins s σ H vs us Q I r ⟨ds, M, Q', l, m, ⟨xs, e, h3, h4, h5, q⟩, k⟩
  subst e
  obtain ⟨v, e, rv⟩ := repL_one l
  subst e
  obtain ⟨a, ws, rfl, z, l3, h6⟩ : ∃ (b : Addr) (xv : List V), v = .ref b ∧ xv.length ≤ sizeLine ∧ RepL X.K H xs xv ∧ SqT X.K H b xv := by
    cases rv with
    | tup h1 h2 h3 => exact ⟨_, _, rfl, h2, h3, h1⟩
  obtain ⟨its, r2, pl, _⟩ := I.tuple h6
  rw [Vals.ref1 r]
  have hz : xs.length ≤ sizeLine := by rw [l3.length]; exact z
  refine sorted_dataOT (vs := its) (bs := xs) (enc := D.py) pl (rel_each l3 r2) (reads_each I l3 r2 h3) h4 h5 hz (fun b hb => ?_) fun out ho hr => ?_
  · have := (dOk_lay 32 b (List.all_eq_true.mp h3 b hb)).2
    omega
  · obtain ⟨vs', h7, h8⟩ := each_rel hr
    obtain ⟨ep, he'⟩ := PyProof.Rows.sortedAll_at s.heap its out.toArray
    have hlen : vs'.length ≤ sizeLine := by rw [← h8.length, List.length_mergeSort]; exact hz
    have hp := I.hok.fresh (Nat.le_succ s.heap.objs.size)
    refine ⟨.ref _, upd H (s.heap.objs.size + 1) (.lst vs'), I.laid (t' := s.toks) (fun _ _ => PyProof.Rows.sortedAll_old) (Nat.le_succ _) ⟨hlen, out, ep, h7, he'⟩, rfl, ?_⟩
    exact k _ _ _ _ (.new hp) (.ref _) (m.newLst hp hlen h8) (q _ (m.free hp))
end DL
namespace Law
open PySem PySem.Spec PyProof.Rows L2 DL
local macro_rules | `(tactic| walk_at "rd") => `(tactic| simp only [dSeq, dSet, dIf, dTst, dOp, dVar, dC, dRet, dRetN, dNext, dDrop, dBreak, dCont, dAnd, dOr, dNot, dAndV, dOrV, dNotV, dIfE, dTup, dLstF, dLst, dCons, dNil, dCB, dCall, dUn, dNegI, dI, dI0, dEq, dNe, dIs, dIsNot, dIn, dNotIn, dIx, isN_non, isN_bl, isN_int, isN_str, isN_tup, isN_lst, isN_rf, DL.rLen, rInt, rAbs, rMax2, rMin2, DL.rGcd, rTuple, rList, rIs, rIsT, ar0, ar1, ar2, ar3, ar4, ar5, ar6, ar7, ar8, dEnds, dMt, dMt0, mAppend, mPop, mReverse, dSetL, dPut, dAsg, dgName, dgTup, dgCons, dgNil, dFor, diSeq, diRng1, diRng2, dLcF, dLc, dwipe, dFz, dstart, List.map_cons, List.map_nil, List.length_cons, List.length_nil, List.cons_append, List.nil_append, List.append_nil, List.replicate, Nat.reduceAdd, Nat.reduceSub, Nat.reduceLeDiff, Int.reduceNeg, List.set_cons_zero, List.set_cons_succ, List.getElem?_cons_zero, List.getElem?_cons_succ, Option.some.injEq, exists_eq_left', exists_eq_left, exists_eq_right, exists_eq, exists_and_left, exists_and_right, D.int.injEq, D.bl.injEq, D.str.injEq, D.tup.injEq, D.lst.injEq, D.ref.injEq, D.ty.injEq, D.dct.injEq, List.cons.injEq, and_assoc, and_true, true_and, and_self, reduceCtorEq, false_and, and_false, if_true, if_false, if_pos, ite_true, ite_false, Bool.false_eq_true, decide_eq_true_eq, Bool.not_eq_true', decide_eq_false_iff_not, Bool.not_true, Bool.not_false, decide_true, decide_false, eqv_int, eqv_str, eqv_bl, dOk_int, dOk_bl, dOk_non, dOk_tup, dOk_lst, dOk_str, List.all_cons, List.all_nil, Bool.and_true, Bool.true_and, Bool.and_self, dItems_tup, dItems_lst, dItems_rf, CMulA, CDivA, CPowA, Int.reduceLT, Int.reduceLE, Int.reducePow, Int.reduceToNat, Int.reduceMul, Int.reduceAdd, Int.reduceSub, Nat.reducePow, true_or, or_true, ne_eq, not_false_eq_true, not_true_eq_false, dAt_tup, dAt_lst, dAt_rf, dLenOf_tup, dLenOf_lst, dLenOf_rf, dLenOf_str, dTyN_non, dTyN_bl, dTyN_int, dTyN_str, dTyN_tup, dTyN_lst, dTyN_dct, dTyN_rf, dIntOf_int, dIntOf_bl, knownT, subT, atI_0, atI_1, atI_2, atI_3, atI_4, atI_5, atI_neg1, mput_same, mput_mput, eqv_non, tyNames, Option.map_some, String.reduceBEq, Bool.or_true, Bool.true_or, Bool.or_false, Bool.false_or, Bool.false_and, Bool.and_false, beq_self_eq_true, BEq.rfl, List.any_cons, List.any_nil, sizeLine_eq, rLenB, Bool.true_eq_false, implies_true, Nat.zero_le, Bool.or_self, String.reduceEq, dAdd_ii, dAdd_ss, dAdd_tt, dMulA_ii, dMulA_si, dIxS_str, dIxS_tup, dIxS_lst, dIxS_ref, dCat, dCatF, dRep, dSl, dNoP, dPart, dJoin, mExtend, mIndex, rAnyL, rAllL, rSumL, rMaxL, rMinL, dLRg, diEnum, rSortD, dLc2F, dLc2, dYes, diEnumT, dSlS, rSortK, dFzS, dTupRev, diRev, diZip, dMulT, zipD, dDc, dDGet1, dKIx, dKIn, dKNotIn, rLenK, dKNew, dFzK, dFzD, dKPut, diKeys, diVals, diItems, mInsert, mPopAt, dKGet1, dKGet2, dKc, dDict_dct, dDict_put, isKb_int, isKb_str, true_implies, false_implies, dSortLen, sortLenB, rSortO, dDc2, dShl1, dBits, dFmtB, dCnt, rSortDI, rListKK, rSortKT, dMinD, dShr, dKc2, rSortOT])
local macro_rules | `(tactic| walk_at "st") => `(tactic| (refine seq_i ?_; simp only [dSet, dIf, dTst, dOp, dVar, dC, dRet, dRetN, dNext, dDrop, dBreak, dCont, dAnd, dOr, dNot, dAndV, dOrV, dNotV, dIfE, dTup, dLstF, dLst, dCons, dNil, dCB, dCall, dUn, dNegI, dI, dI0, dEq, dNe, dIs, dIsNot, dIn, dNotIn, dIx, isN_non, isN_bl, isN_int, isN_str, isN_tup, isN_lst, isN_rf, DL.rLen, rInt, rAbs, rMax2, rMin2, DL.rGcd, rTuple, rList, rIs, rIsT, ar0, ar1, ar2, ar3, ar4, ar5, ar6, ar7, ar8, dEnds, dMt, dMt0, mAppend, mPop, mReverse, dSetL, dPut, dAsg, dgName, dgTup, dgCons, dgNil, dFor, diSeq, diRng1, diRng2, dLcF, dLc, dwipe, dFz, dstart, List.map_cons, List.map_nil, List.length_cons, List.length_nil, List.cons_append, List.nil_append, List.append_nil, List.replicate, Nat.reduceAdd, Nat.reduceSub, Nat.reduceLeDiff, Int.reduceNeg, List.set_cons_zero, List.set_cons_succ, List.getElem?_cons_zero, List.getElem?_cons_succ, Option.some.injEq, exists_eq_left', exists_eq_left, exists_eq_right, exists_eq, exists_and_left, exists_and_right, D.int.injEq, D.bl.injEq, D.str.injEq, D.tup.injEq, D.lst.injEq, D.ref.injEq, D.ty.injEq, D.dct.injEq, List.cons.injEq, and_assoc, and_true, true_and, and_self, reduceCtorEq, false_and, and_false, if_true, if_false, if_pos, ite_true, ite_false, Bool.false_eq_true, decide_eq_true_eq, Bool.not_eq_true', decide_eq_false_iff_not, Bool.not_true, Bool.not_false, decide_true, decide_false, eqv_int, eqv_str, eqv_bl, dOk_int, dOk_bl, dOk_non, dOk_tup, dOk_lst, dOk_str, List.all_cons, List.all_nil, Bool.and_true, Bool.true_and, Bool.and_self, dItems_tup, dItems_lst, dItems_rf, CMulA, CDivA, CPowA, Int.reduceLT, Int.reduceLE, Int.reducePow, Int.reduceToNat, Int.reduceMul, Int.reduceAdd, Int.reduceSub, Nat.reducePow, true_or, or_true, ne_eq, not_false_eq_true, not_true_eq_false, dAt_tup, dAt_lst, dAt_rf, dLenOf_tup, dLenOf_lst, dLenOf_rf, dLenOf_str, dTyN_non, dTyN_bl, dTyN_int, dTyN_str, dTyN_tup, dTyN_lst, dTyN_dct, dTyN_rf, dIntOf_int, dIntOf_bl, knownT, subT, atI_0, atI_1, atI_2, atI_3, atI_4, atI_5, atI_neg1, mput_same, mput_mput, eqv_non, tyNames, Option.map_some, String.reduceBEq, Bool.or_true, Bool.true_or, Bool.or_false, Bool.false_or, Bool.false_and, Bool.and_false, beq_self_eq_true, BEq.rfl, List.any_cons, List.any_nil, sizeLine_eq, rLenB, Bool.true_eq_false, implies_true, Nat.zero_le, Bool.or_self, String.reduceEq, dAdd_ii, dAdd_ss, dAdd_tt, dMulA_ii, dMulA_si, dIxS_str, dIxS_tup, dIxS_lst, dIxS_ref, dCat, dCatF, dRep, dSl, dNoP, dPart, dJoin, mExtend, mIndex, rAnyL, rAllL, rSumL, rMaxL, rMinL, dLRg, diEnum, rSortD, dLc2F, dLc2, dYes, diEnumT, dSlS, rSortK, dFzS, dTupRev, diRev, diZip, dMulT, zipD, dDc, dDGet1, dKIx, dKIn, dKNotIn, rLenK, dKNew, dFzK, dFzD, dKPut, diKeys, diVals, diItems, mInsert, mPopAt, dKGet1, dKGet2, dKc, dDict_dct, dDict_put, isKb_int, isKb_str, true_implies, false_implies, dSortLen, sortLenB, rSortO, dDc2, dShl1, dBits, dFmtB, dCnt, rSortDI, rListKK, rSortKT, dMinD, dShr, dKc2, rSortOT]))
local macro_rules | `(tactic| walk_at "p") => `(tactic| simp only [dRet, dOp, dVar, dCall, dCB, dCons, dNil, ar0, ar1, ar2, ar3, ar4, ar5, DL.rLen, dIx, dEnds, dstart, List.map_cons, List.map_nil, List.length_cons, List.length_nil, List.cons_append, List.nil_append, List.replicate, Nat.reduceAdd, Nat.reduceSub, Nat.reduceLeDiff, List.getElem?_cons_zero, List.getElem?_cons_succ, Option.some.injEq, exists_eq_left', exists_eq_left, exists_and_left, exists_and_right, List.cons.injEq, and_assoc, and_true, true_and, D.ref.injEq, D.int.injEq])
local macro_rules | `(tactic| walk_at "s1") => `(tactic| simp only [dSet, dIf, dTst, dOp, dVar, dC, dRet, dRetN, dNext, dDrop, dBreak, dCont, dAnd, dOr, dNot, dAndV, dOrV, dNotV, dIfE, dTup, dLstF, dLst, dCons, dNil, dCB, dCall, dUn, dNegI, dI, dI0, dEq, dNe, dIs, dIsNot, dIn, dNotIn, dIx, isN_non, isN_bl, isN_int, isN_str, isN_tup, isN_lst, isN_rf, DL.rLen, rInt, rAbs, rMax2, rMin2, DL.rGcd, rTuple, rList, rIs, rIsT, ar0, ar1, ar2, ar3, ar4, ar5, ar6, ar7, ar8, dEnds, dMt, dMt0, mAppend, mPop, mReverse, dSetL, dPut, dAsg, dgName, dgTup, dgCons, dgNil, dFor, diSeq, diRng1, diRng2, dLcF, dLc, dwipe, dFz, dstart, List.map_cons, List.map_nil, List.length_cons, List.length_nil, List.cons_append, List.nil_append, List.append_nil, List.replicate, Nat.reduceAdd, Nat.reduceSub, Nat.reduceLeDiff, Int.reduceNeg, List.set_cons_zero, List.set_cons_succ, List.getElem?_cons_zero, List.getElem?_cons_succ, Option.some.injEq, exists_eq_left', exists_eq_left, exists_eq_right, exists_eq, exists_and_left, exists_and_right, D.int.injEq, D.bl.injEq, D.str.injEq, D.tup.injEq, D.lst.injEq, D.ref.injEq, D.ty.injEq, D.dct.injEq, List.cons.injEq, and_assoc, and_true, true_and, and_self, reduceCtorEq, false_and, and_false, if_true, if_false, if_pos, ite_true, ite_false, Bool.false_eq_true, decide_eq_true_eq, Bool.not_eq_true', decide_eq_false_iff_not, Bool.not_true, Bool.not_false, decide_true, decide_false, eqv_int, eqv_str, eqv_bl, dOk_int, dOk_bl, dOk_non, dOk_tup, dOk_lst, dOk_str, List.all_cons, List.all_nil, Bool.and_true, Bool.true_and, Bool.and_self, dItems_tup, dItems_lst, dItems_rf, CMulA, CDivA, CPowA, Int.reduceLT, Int.reduceLE, Int.reducePow, Int.reduceToNat, Int.reduceMul, Int.reduceAdd, Int.reduceSub, Nat.reducePow, true_or, or_true, ne_eq, not_false_eq_true, not_true_eq_false, dAt_tup, dAt_lst, dAt_rf, dLenOf_tup, dLenOf_lst, dLenOf_rf, dLenOf_str, dTyN_non, dTyN_bl, dTyN_int, dTyN_str, dTyN_tup, dTyN_lst, dTyN_dct, dTyN_rf, dIntOf_int, dIntOf_bl, knownT, subT, atI_0, atI_1, atI_2, atI_3, atI_4, atI_5, atI_neg1, mput_same, mput_mput, eqv_non, tyNames, Option.map_some, String.reduceBEq, Bool.or_true, Bool.true_or, Bool.or_false, Bool.false_or, Bool.false_and, Bool.and_false, beq_self_eq_true, BEq.rfl, List.any_cons, List.any_nil, sizeLine_eq, rLenB, Bool.true_eq_false, implies_true, Nat.zero_le, Bool.or_self, String.reduceEq, dAdd_ii, dAdd_ss, dAdd_tt, dMulA_ii, dMulA_si, dIxS_str, dIxS_tup, dIxS_lst, dIxS_ref, dCat, dCatF, dRep, dSl, dNoP, dPart, dJoin, mExtend, mIndex, rAnyL, rAllL, rSumL, rMaxL, rMinL, dLRg, diEnum, rSortD, dLc2F, dLc2, dYes, diEnumT, dSlS, rSortK, dFzS, dTupRev, diRev, diZip, dMulT, zipD, dDc, dDGet1, dKIx, dKIn, dKNotIn, rLenK, dKNew, dFzK, dFzD, dKPut, diKeys, diVals, diItems, mInsert, mPopAt, dKGet1, dKGet2, dKc, dDict_dct, dDict_put, isKb_int, isKb_str, true_implies, false_implies, dSortLen, sortLenB, rSortO, dDc2, dShl1, dBits, dFmtB, dCnt, rSortDI, rListKK, rSortKT, dMinD, dShr, dKc2, rSortOT])
section
variable {P : Program} {w : World} {K : PySem.W.Frag} {mg : Str → Option Value} {base : Heap} {tb : Addr}
def topS (i : Nat) : Stmt := PySem.Challenge.pw_doubtbook_k47_cuts.main.body.getD i (.Pass ⟨0, 0, 0, 0⟩)
abbrev s_value_key : Stmt := topS 1
abbrev N_value_key : List Str := ["value"]
theorem sc_value_key : FnScope N_value_key ["value"] (defScope s_value_key) := ⟨rfl, rfl, rfl, by decide +kernel, rfl, by decide +kernel, by decide +kernel⟩
abbrev s_row_key : Stmt := topS 2
abbrev N_row_key : List Str := ["row", "value"]
theorem sc_row_key : FnScope N_row_key ["row"] (defScope s_row_key) := ⟨rfl, rfl, rfl, by decide +kernel, rfl, by decide +kernel, by decide +kernel⟩
abbrev s_mark_key : Stmt := topS 4
abbrev N_mark_key : List Str := ["mark"]
theorem sc_mark_key : FnScope N_mark_key ["mark"] (defScope s_mark_key) := ⟨rfl, rfl, rfl, by decide +kernel, rfl, by decide +kernel, by decide +kernel⟩
abbrev s_pair_key : Stmt := topS 5
abbrev N_pair_key : List Str := ["pair"]
theorem sc_pair_key : FnScope N_pair_key ["pair"] (defScope s_pair_key) := ⟨rfl, rfl, rfl, by decide +kernel, rfl, by decide +kernel, by decide +kernel⟩
abbrev s_mask_size : Stmt := topS 7
abbrev N_mask_size : List Str := ["mask", "text"]
theorem sc_mask_size : FnScope N_mask_size ["mask"] (defScope s_mask_size) := ⟨rfl, rfl, rfl, by decide +kernel, rfl, by decide +kernel, by decide +kernel⟩
abbrev s_places_of : Stmt := topS 8
abbrev N_places_of : List Str := ["mask", "places", "lowest"]
theorem sc_places_of : FnScope N_places_of ["mask"] (defScope s_places_of) := ⟨rfl, rfl, rfl, by decide +kernel, rfl, by decide +kernel, by decide +kernel⟩
abbrev s_ordered_parts : Stmt := topS 10
abbrev N_ordered_parts : List Str := ["house", "members", "found", "member", "part"]
theorem sc_ordered_parts : FnScope N_ordered_parts ["house", "members"] (defScope s_ordered_parts) := ⟨rfl, rfl, rfl, by decide +kernel, rfl, by decide +kernel, by decide +kernel⟩
abbrev s_masks_of : Stmt := topS 11
abbrev N_masks_of : List Str := ["members", "parts", "bits", "place", "part", "member"]
theorem sc_masks_of : FnScope N_masks_of ["members", "parts"] (defScope s_masks_of) := ⟨rfl, rfl, rfl, by decide +kernel, rfl, by decide +kernel, by decide +kernel⟩
abbrev s_members_of : Stmt := topS 12
abbrev N_members_of : List Str := ["masks", "parts", "found", "mask", "places", "place"]
theorem sc_members_of : FnScope N_members_of ["masks", "parts"] (defScope s_members_of) := ⟨rfl, rfl, rfl, by decide +kernel, rfl, by decide +kernel, by decide +kernel⟩
abbrev s_missed : Stmt := topS 15
abbrev N_missed : List Str := ["supports", "chosen", "allowed", "best", "fewest", "support", "many"]
theorem sc_missed : FnScope N_missed ["supports", "chosen", "allowed"] (defScope s_missed) := ⟨rfl, rfl, rfl, by decide +kernel, rfl, by decide +kernel, by decide +kernel⟩
abbrev s_has_idle : Stmt := topS 16
abbrev N_has_idle : List Str := ["supports", "chosen", "alone", "support", "hit"]
theorem sc_has_idle : FnScope N_has_idle ["supports", "chosen"] (defScope s_has_idle) := ⟨rfl, rfl, rfl, by decide +kernel, rfl, by decide +kernel, by decide +kernel⟩
abbrev s_cut_masks : Stmt := topS 17
abbrev N_cut_masks : List Str := ["supports", "every", "support", "choices", "found", "chosen", "allowed", "place"]
theorem sc_cut_masks : FnScope N_cut_masks ["supports"] (defScope s_cut_masks) := ⟨rfl, rfl, rfl, by decide +kernel, rfl, by decide +kernel, by decide +kernel⟩
abbrev s_cuts : Stmt := topS 18
abbrev N_cuts : List Str := ["why", "parts"]
theorem sc_cuts : FnScope N_cuts ["why"] (defScope s_cuts) := ⟨rfl, rfl, rfl, by decide +kernel, rfl, by decide +kernel, by decide +kernel⟩
abbrev s_least_cut : Stmt := topS 19
abbrev N_least_cut : List Str := ["why", "best", "cut"]
theorem sc_least_cut : FnScope N_least_cut ["why"] (defScope s_least_cut) := ⟨rfl, rfl, rfl, by decide +kernel, rfl, by decide +kernel, by decide +kernel⟩
abbrev s_l_draws : Stmt := topS 21
abbrev N_l_draws : List Str := ["script", "many", "cells", "left", "draws", "k", "place", "mixed", "cell"]
theorem sc_l_draws : FnScope N_l_draws ["script", "many"] (defScope s_l_draws) := ⟨rfl, rfl, rfl, by decide +kernel, rfl, by decide +kernel, by decide +kernel⟩
abbrev s_l_take : Stmt := topS 22
abbrev N_l_take : List Str := ["draws", "many"]
theorem sc_l_take : FnScope N_l_take ["draws", "many"] (defScope s_l_take) := ⟨rfl, rfl, rfl, by decide +kernel, rfl, by decide +kernel, by decide +kernel⟩
abbrev s_l_same : Stmt := topS 23
abbrev N_l_same : List Str := ["actual", "due", "k"]
theorem sc_l_same : FnScope N_l_same ["actual", "due"] (defScope s_l_same) := ⟨rfl, rfl, rfl, by decide +kernel, rfl, by decide +kernel, by decide +kernel⟩
abbrev s_l_value_key : Stmt := topS 24
abbrev N_l_value_key : List Str := ["value"]
theorem sc_l_value_key : FnScope N_l_value_key ["value"] (defScope s_l_value_key) := ⟨rfl, rfl, rfl, by decide +kernel, rfl, by decide +kernel, by decide +kernel⟩
abbrev s_l_row_key : Stmt := topS 25
abbrev N_l_row_key : List Str := ["row", "value"]
theorem sc_l_row_key : FnScope N_l_row_key ["row"] (defScope s_l_row_key) := ⟨rfl, rfl, rfl, by decide +kernel, rfl, by decide +kernel, by decide +kernel⟩
abbrev s_l_mark_key : Stmt := topS 26
abbrev N_l_mark_key : List Str := ["mark"]
theorem sc_l_mark_key : FnScope N_l_mark_key ["mark"] (defScope s_l_mark_key) := ⟨rfl, rfl, rfl, by decide +kernel, rfl, by decide +kernel, by decide +kernel⟩
abbrev s_l_is_part : Stmt := topS 27
abbrev N_l_is_part : List Str := ["small", "large", "part"]
theorem sc_l_is_part : FnScope N_l_is_part ["small", "large"] (defScope s_l_is_part) := ⟨rfl, rfl, rfl, by decide +kernel, rfl, by decide +kernel, by decide +kernel⟩
abbrev s_l_pair_key : Stmt := topS 28
abbrev N_l_pair_key : List Str := ["pair"]
theorem sc_l_pair_key : FnScope N_l_pair_key ["pair"] (defScope s_l_pair_key) := ⟨rfl, rfl, rfl, by decide +kernel, rfl, by decide +kernel, by decide +kernel⟩
abbrev s_l_reason_key : Stmt := topS 29
abbrev N_l_reason_key : List Str := ["reason", "pair"]
theorem sc_l_reason_key : FnScope N_l_reason_key ["reason"] (defScope s_l_reason_key) := ⟨rfl, rfl, rfl, by decide +kernel, rfl, by decide +kernel, by decide +kernel⟩
abbrev s_l_member_key : Stmt := topS 30
abbrev N_l_member_key : List Str := ["member"]
theorem sc_l_member_key : FnScope N_l_member_key ["member"] (defScope s_l_member_key) := ⟨rfl, rfl, rfl, by decide +kernel, rfl, by decide +kernel, by decide +kernel⟩
abbrev s_l_thin : Stmt := topS 31
abbrev N_l_thin : List Str := ["members", "found", "member", "other"]
theorem sc_l_thin : FnScope N_l_thin ["members"] (defScope s_l_thin) := ⟨rfl, rfl, rfl, by decide +kernel, rfl, by decide +kernel, by decide +kernel⟩
abbrev s_l_drawn_why : Stmt := topS 32
abbrev N_l_drawn_why : List Str := ["draws", "numbers", "kind", "supports", "k", "support", "number"]
theorem sc_l_drawn_why : FnScope N_l_drawn_why ["draws", "numbers"] (defScope s_l_drawn_why) := ⟨rfl, rfl, rfl, by decide +kernel, rfl, by decide +kernel, by decide +kernel⟩
abbrev s_l_some_numbers : Stmt := topS 33
abbrev N_l_some_numbers : List Str := ["draws", "numbers", "k"]
theorem sc_l_some_numbers : FnScope N_l_some_numbers ["draws"] (defScope s_l_some_numbers) := ⟨rfl, rfl, rfl, by decide +kernel, rfl, by decide +kernel, by decide +kernel⟩
abbrev s_l_cuts : Stmt := topS 34
abbrev N_l_cuts : List Str := ["why", "numbers", "masks", "k", "mine", "found", "j", "other", "support", "number"]
theorem sc_l_cuts : FnScope N_l_cuts ["why", "numbers"] (defScope s_l_cuts) := ⟨rfl, rfl, rfl, by decide +kernel, rfl, by decide +kernel, by decide +kernel⟩
abbrev s_l_least : Stmt := topS 35
abbrev N_l_least : List Str := ["due", "cut", "least"]
theorem sc_l_least : FnScope N_l_least ["due"] (defScope s_l_least) := ⟨rfl, rfl, rfl, by decide +kernel, rfl, by decide +kernel, by decide +kernel⟩
abbrev s_l_pairs : Stmt := topS 36
abbrev N_l_pairs : List Str := ["draws", "k", "left", "pairs", "found", "pair", "grown", "cut", "number"]
theorem sc_l_pairs : FnScope N_l_pairs ["draws"] (defScope s_l_pairs) := ⟨rfl, rfl, rfl, by decide +kernel, rfl, by decide +kernel, by decide +kernel⟩
abbrev s_law : Stmt := topS 37
abbrev N_law : List Str := ["script", "draws", "scenes", "k", "numbers", "why", "pairs", "scene"]
theorem sc_law : FnScope N_law ["script"] (defScope s_law) := ⟨rfl, rfl, rfl, by decide +kernel, rfl, by decide +kernel, by decide +kernel⟩

structure Bi (K : PySem.W.Frag) (mg : Str → Option Value) : Prop where
  b_bool : mg "bool" = none
  b_enumerate : mg "enumerate" = none
  b_int : mg "int" = none
  b_isinstance : mg "isinstance" = none
  b_len : mg "len" = none
  b_list : mg "list" = none
  b_min : mg "min" = none
  b_range : mg "range" = none
  b_sorted : mg "sorted" = none
  b_str : mg "str" = none
  b_sum : mg "sum" = none
  b_tuple : mg "tuple" = none
  g_WHYS : GlT K mg "WHYS" (.tup [.str "whys"])
structure Im (mg : Str → Option Value) : Prop where
  i_ok : True
/-! ### draws -/
abbrev sp_l_draws : DSp := ar2 fun a b M Q => ∃ (ns : List Int) (n : Int), a = .lst (ns.map D.int) ∧ b = .int n ∧ 0 ≤ n ∧ n ≤ 4000 ∧ ∀ p o, M p = none → DrO o → Q (.ref p) (mput M p o)
theorem ok_l_draws (F : Def K mg "_law_draws" s_l_draws ["script", "many"]) (B : Bi K mg) (I : Im mg)  : Cal P w K mg base 1 "_law_draws" ["script", "many"] sp_l_draws := by
  have sc := sc_l_draws
  refine F.cal sc (fun ds M Q h => len2 h) (fun f cdv A outer s H E hr => (ds_cons (ds_setLc (i := 2) rfl sc.nd rfl rfl (sw_true rfl rfl rfl (by decide +kernel)) (own := [("cell", 8)]) (di_seq (d_v 0)) (blkOk_by (N := N_l_draws) (sc := defScope s_l_draws) (by decide +kernel)) (by decide) (fun _ _ _ _ _ => (dg_name (i := 8) sc.nd rfl (Or.inl rfl))) (fun _ _ _ _ _ => dts_nil) (fun _ _ _ _ _ => (d_ct c_int rfl B.b_int boot_int (da_cons (d_v 8) da_nil))))
    (ds_cons (ds_if (dt_cmp (o_eq (hu_eq hr)) (d_cb c_len rfl B.b_len boot_len (da_cons (d_v 2) da_nil)) d_int (nomark _))
    (ds_one (ds_expr (d_mt PySem.F.slot_list_append PySem.F.type_list_append m_append (d_v 2) (da_cons d_int da_nil))))
    ds_nil)
    (ds_cons (ds_set (i := 3) sc.nd rfl (Or.inl rfl) (d_ct c_list rfl B.b_list boot_list (da_cons (d_v 2) da_nil)))
    (ds_cons (ds_set (i := 4) sc.nd rfl (Or.inl rfl) (d_lst da_nil))
    (ds_cons (ds_for PassesOwn.never rfl (di_range1 rfl B.b_range (da_cons (d_v 1) da_nil)) (dg_name (i := 5) sc.nd rfl (Or.inl rfl))
    (ds_cons (ds_set (i := 6) sc.nd rfl (Or.inl rfl) (d_op o_mod (d_v 5) (d_cb c_len rfl B.b_len boot_len (da_cons (d_v 2) da_nil))))
    (ds_one (ds_if (dt_cmp o_ge (d_ix x_ix (d_v 2) (d_v 6) (fun _ _ => rfl)) (d_op o_pow d_int d_int) (nomark _))
    (ds_cons (ds_expr (d_mt PySem.F.slot_list_append PySem.F.type_list_append m_append (d_v 4) (da_cons (d_op o_mod (d_ct c_int rfl B.b_int boot_int (da_cons (d_ix x_ix (d_v 3) (d_v 6) (fun _ _ => rfl)) da_nil)) d_int) da_nil)))
    (ds_one (ds_put (d_op o_div (d_ix x_ix (d_v 3) (d_v 6) (fun _ _ => rfl)) d_int) (d_v 3) (d_v 6) s_lst)))
    (ds_cons (ds_set (i := 7) sc.nd rfl (Or.inl rfl) (d_op o_mod (d_ct c_int rfl B.b_int boot_int (da_cons (d_op o_add (d_op o_add (d_op o_mul (d_ix x_ix (d_v 2) (d_v 6) (fun _ _ => rfl)) d_int) (d_op o_mul (d_v 5) d_int)) d_int) da_nil)) d_int))
    (ds_one (ds_expr (d_mt PySem.F.slot_list_append PySem.F.type_list_append m_append (d_v 4) (da_cons (d_op o_mod (d_ct c_int rfl B.b_int boot_int (da_cons (d_op o_add (d_op o_add (d_op o_mul (d_v 7) (d_v 7)) (d_op o_mul d_int (d_v 7))) (d_v 5)) da_nil)) d_int) da_nil)))))))))
    (ds_cons (ds_expr (d_mt0 PySem.F.slot_list_reverse PySem.F.type_list_reverse m_reverse (d_v 4)))
    (ds_one (ds_ret (d_v 4)))))))))) (fun ds M Q h => ?_)
  obtain ⟨a, b, rfl, ns, n, rfl, rfl, h0, h1, h⟩ := h
  walk_at "st"
  intro _
  refine lc_map ns D.int D.int rfl srcV_none (fun x hx M l C1 h1 => by walk_at "s1"; exact h1) fun c hc => ?_
  refine seq_cut (fun m1 M1 => ∃ cs : List Int, cs ≠ [] ∧ M1 c = some (.lst (cs.map D.int)) ∧ MLe M M1 ∧ m1 = [some (.lst (ns.map D.int)), some (.int n), some (.ref c), none, none, none, none, none, none]) (fun Cn hC => ?_) ?_
  · walk_at "s1"
    split
    · next e =>
      refine ⟨⟨_, rfl⟩, _, rfl, ?_⟩
      have e2 : ns = [] := by
        rw [List.length_map] at e
        exact List.eq_nil_of_length_eq_zero (by omega)
      subst e2
      exact ⟨by decide, hC _ _ ⟨[0], by simp, by rw [mput_same]; rfl, MLe.put (.refl M) hc, rfl⟩⟩
    · next e =>
      refine hC _ _ ⟨ns, fun z => e ?_, mput_same, MLe.put (.refl M) hc, rfl⟩
      rw [z]
      rfl
  rintro _ M1 ⟨cs, hcs, hM1, le1, rfl⟩
  walk_at "st"
  refine ⟨_, by rw [hM1], fun l hl => ?_⟩
  have hcl : c ≠ l := ne_of_fresh hM1 hl
  walk_at "st"
  intro d hd
  have hM2 : mput M1 l (.lst (cs.map D.int)) c = some (.lst (cs.map D.int)) := by rw [mput_ne hcl]; exact hM1
  have hcd : c ≠ d := ne_of_fresh hM2 hd
  have hld : l ≠ d := ne_of_fresh mput_same hd
  have hMl : M l = none := by
    cases q : M l with
    | none => rfl
    | some o => rw [le1 l o q] at hl; cases hl
  have hMd : M d = none := by
    cases q : M d with
    | none => rfl
    | some o => rw [mput_ne hld.symm, le1 d o q] at hd; cases hd
  walk_at "st"
  refine ⟨by omega, by omega, fun _ => ?_⟩
  have hpos : (0 : Int) < (cs.length : Int) := by
    cases cs with
    | nil => exact absurd rfl hcs
    | cons x r => rw [List.length_cons]; omega
  refine for_ind (fun items m1 M2 => ∃ (ls ks : List Int) (x5 x6 x7 x8 : Option D), m1 = [some (.lst (ns.map D.int)), some (.int n), some (.ref c), some (.ref l), some (.ref d), x5, x6, x7, x8] ∧
    M2 c = some (.lst (cs.map D.int)) ∧ M2 l = some (.lst (ls.map D.int)) ∧ ls.length = cs.length ∧ M2 d = some (.lst (ks.map D.int)) ∧ ks.length + items.length ≤ 4000 ∧ MLe M M2 ∧ ∀ z ∈ items, ∃ k : Int, z = .int k ∧ 0 ≤ k ∧ k < 4000) ?_ ?_ _ _ _ ?_
  · rintro m1 M2 ⟨ls, ks, x5, x6, x7, x8, rfl, e1, e2, e3, e4, e5, e6, _⟩
    refine ⟨srcV_none, ?_⟩
    walk_at "rd"
    rw [e4]
    refine ⟨⟨_, rfl⟩, _, rfl, ?_⟩
    rw [← List.map_reverse]
    exact ret_le (MLe.with (MLe.put e6 hMd) mput_same) (h d _ hMd ⟨_, rfl⟩)
  · rintro z items m1 M2 Cn hC ⟨ls, ks, x5, x6, x7, x8, rfl, e1, e2, e3, e4, e5, e6, e7⟩
    refine ⟨srcV_none, ?_⟩
    obtain ⟨k, rfl, k0, k1⟩ := e7 z (by simp)
    rw [List.length_cons] at e5
    have hksz : ks.length < 16777216 := by omega
    have e7' : ∀ z ∈ items, ∃ k : Int, z = .int k ∧ 0 ≤ k ∧ k < 4000 := fun z hz => e7 z (by simp [hz])
    walk_at "st"
    rw [e1]
    refine ⟨_, rfl, by rw [List.length_map]; exact hpos, ?_⟩
    rw [List.length_map]
    have p0 : 0 ≤ k % (cs.length : Int) := Int.emod_nonneg _ (by omega)
    have p1 : k % (cs.length : Int) < cs.length := Int.emod_lt_of_pos _ hpos
    generalize k % (cs.length : Int) = pl at p0 p1
    obtain ⟨cv, _, hcv⟩ := atI_lt p0 p1
    obtain ⟨lv, _, hlv⟩ := atI_lt (xs := ls) p0 (by rw [e3]; exact p1)
    walk_at "s1"
    refine ⟨_, by rw [atI_map, hcv]; rfl, _, rfl, ?_⟩
    split
    · walk_at "st"
      rw [e2, e4]
      refine ⟨⟨_, rfl⟩, _, rfl, _, by rw [atI_map, hlv]; rfl, _, rfl, _, rfl, by rw [List.length_map]; exact hksz, ?_⟩
      have e2' : mput M2 d (.lst (ks.map D.int ++ [.int (lv % 1000)])) l = some (.lst (ls.map D.int)) := by rw [mput_ne hld]; exact e2
      rw [e2']
      refine ⟨_, rfl, _, by rw [atI_map, hlv]; rfl, _, rfl, _, rfl, _, ixN_lt p0 (by rw [List.length_map, e3]; exact p1), ?_⟩
      refine fg_of (hC _ _ ⟨ls.set pl.toNat (lv / 1000), ks ++ [lv % 1000], _, _, _, _, rfl, ?_, ?_, by rw [List.length_set]; exact e3, ?_, by rw [List.length_append, List.length_singleton]; omega, MLe.put (MLe.put e6 hMd) hMl, e7'⟩)
      · rw [mput_ne hcl, mput_ne hcd]
        exact e1
      · rw [mput_same, List.map_set]
      · rw [mput_ne hld.symm, mput_same, List.map_append]
        rfl
    · walk_at "st"
      rw [e1]
      refine ⟨_, rfl, _, by rw [atI_map, hcv]; rfl, _, rfl, ?_⟩
      have m0 : 0 ≤ (cv * 48271 + k * 69621 + 11) % 2147483647 := Int.emod_nonneg _ (by omega)
      have m1 : (cv * 48271 + k * 69621 + 11) % 2147483647 < 2147483647 := Int.emod_lt_of_pos _ (by omega)
      generalize (cv * 48271 + k * 69621 + 11) % 2147483647 = mx at m0 m1
      rw [e4]
      refine ⟨⟨_, rfl⟩, .inl ⟨by omega, by omega⟩, _, rfl, by rw [List.length_map]; exact hksz, ?_⟩
      refine fg_of (hC _ _ ⟨ls, ks ++ [(mx * mx + 3 * mx + k) % 1000003], _, _, _, _, rfl, ?_, ?_, e3, ?_, by rw [List.length_append, List.length_singleton]; omega, MLe.put e6 hMd, e7'⟩)
      · rw [mput_ne hcd]
        exact e1
      · rw [mput_ne hld]
        exact e2
      · rw [mput_same, List.map_append]
        rfl
  · refine ⟨cs, [], _, _, _, _, rfl, ?_, ?_, rfl, mput_same, ?_, MLe.put (MLe.put le1 hMl) hMd, fun z hz => ?_⟩
    · rw [mput_ne hcd]
      exact hM2
    · rw [mput_ne hld]
      exact mput_same
    · simp [rangeD]
      omega
    · simp only [rangeD, List.mem_map, List.mem_range] at hz
      obtain ⟨i, hi, rfl⟩ := hz
      exact ⟨_, rfl, by omega, by omega⟩
/-- the next draw -/
abbrev sp_l_take : DSp := ar2 fun a b M Q => ∃ (p : Addr) (n : Int), a = .ref p ∧ b = .int n ∧ Dr M p ∧ 0 < n ∧ ∀ (o : DO) (r : Int), DrO o → 0 ≤ r → r < n → Q (.int r) (mput M p o)
theorem ok_l_take (F : Def K mg "_law_take" s_l_take ["draws", "many"]) (B : Bi K mg) (I : Im mg)  : Cal P w K mg base 1 "_law_take" ["draws", "many"] sp_l_take := by
  have sc := sc_l_take
  refine F.cal sc (fun ds M Q h => len2 h) (fun f cdv A outer s H E hr => (ds_cons (ds_if (dt_cmp (o_eq (hu_eq hr)) (d_cb c_len rfl B.b_len boot_len (da_cons (d_v 0) da_nil)) d_int (nomark _))
    (ds_one (ds_ret d_int))
    ds_nil)
    (ds_one (ds_ret (d_op o_mod (d_ct c_int rfl B.b_int boot_int (da_cons (d_mt0 PySem.F.slot_list_pop PySem.F.type_list_pop m_pop (d_v 0)) da_nil)) (d_v 1)))))) (fun ds M Q h => ?_)
  obtain ⟨a, b, rfl, p, n, rfl, rfl, ⟨_, e, ks, rfl⟩, hn, h⟩ := h
  walk_at "rd"
  rw [e]
  refine ⟨_, rfl, ?_⟩
  split
  · have z := h _ 0 ⟨ks, rfl⟩ (by omega) hn
    rw [mput_self e] at z
    exact ret_of z
  · next ne =>
    cases q : ks.getLast? with
    | none =>
      rw [List.getLast?_eq_none_iff] at q
      subst q
      exact absurd rfl ne
    | some k =>
      refine ⟨⟨_, rfl⟩, _, rfl, _, by rw [List.getLast?_map, q]; rfl, _, rfl, hn, ?_⟩
      rw [← List.map_dropLast]
      exact ret_of (h _ _ ⟨_, rfl⟩ (Int.emod_nonneg _ (by omega)) (Int.emod_lt_of_pos _ hn))
/-- equal values of the same kinds -/
def spS (n : Nat) : DSp := ar2 fun a b M Q => a = b ∧ dOk n b = true ∧ Q (.bl true) M
def spS' : Nat → DSp
  | 0 => fun _ _ _ => False
  | n + 1 => spS n
abbrev sp_l_same : DSp := ar2 fun a b M Q => a = b ∧ dOk 12 b = true ∧ Q (.bl true) M
theorem l_same_list {n : Nat} {b : D} {xs : List D} (hb : ∀ M, dItems b M = some xs) (hd : dOk (n + 1) b = true) (hx : xs.all (dOk n) = true) {j : Nat} {M : DM} {C1 : D → DM → Prop} (hj : j < xs.length) (q : C1 (.bl true) M) (m : DSt) (h0 : m[0]? = some (some b)) (h1 : m[1]? = some (some b)) (h2 : m[2]? = some (some (.int j))) :
    dCall (spS n) (dCons (dOp dIx (dVar 0) (dVar 2)) (dCons (dOp dIx (dVar 1) (dVar 2)) dNil)) m M C1 := by
  have ho : dOk n xs[j] = true := List.all_eq_true.mp hx _ (List.getElem_mem hj)
  have hi : atI xs (j : Int) = some xs[j] := by rw [atI_n, List.getElem?_eq_getElem hj]
  refine ⟨b, h0, .int j, h2, xs, j, xs[j], hb M, rfl, hi, b, h1, .int j, h2, xs, j, xs[j], hb M, rfl, hi, xs[j], xs[j], rfl, rfl, ho, q⟩
theorem ok_l_same_step (F : Def K mg "_law_same" s_l_same ["actual", "due"]) (B : Bi K mg) (I : Im mg) (n : Nat) (c_l_same : Cal P w K mg base n "_law_same" ["actual", "due"] (spS' n)) : Cal P w K mg base (n + 1) "_law_same" ["actual", "due"] (spS n) := by
  have sc := sc_l_same
  refine F.cal sc (fun ds M Q h => len2 h) (fun f cdv A outer s H E hr => (ds_cons (ds_if (dt_val (d_cb c_isT rfl B.b_isinstance boot_isinstance (da_cons (d_v 1) (da_cons (d_tup (da_cons (d_ty rfl B.b_tuple boot_tuple) (da_cons (d_ty rfl B.b_list boot_list) da_nil))) da_nil))))
    (ds_cons (ds_if (dt_w (dw_or (dt_cmp (o_ne (hu_eq hr)) (d_cb c_is rfl B.b_isinstance boot_isinstance (da_cons (d_v 0) (da_cons (d_ty rfl B.b_tuple boot_tuple) da_nil))) (d_cb c_is rfl B.b_isinstance boot_isinstance (da_cons (d_v 1) (da_cons (d_ty rfl B.b_tuple boot_tuple) da_nil))) (nomark _)) (dw_or1 (dt_cmp (o_ne (hu_eq hr)) (d_cb c_is rfl B.b_isinstance boot_isinstance (da_cons (d_v 0) (da_cons (d_ty rfl B.b_list boot_list) da_nil))) (d_cb c_is rfl B.b_isinstance boot_isinstance (da_cons (d_v 1) (da_cons (d_ty rfl B.b_list boot_list) da_nil))) (nomark _)))))
    (ds_one (ds_ret d_bl))
    ds_nil)
    (ds_cons (ds_if (dt_cmp (o_ne (hu_eq hr)) (d_cb c_len rfl B.b_len boot_len (da_cons (d_v 0) da_nil)) (d_cb c_len rfl B.b_len boot_len (da_cons (d_v 1) da_nil)) (nomark _))
    (ds_one (ds_ret d_bl))
    ds_nil)
    (ds_one (ds_ret (d_cmp (o_notin (hu_in hr)) d_bl (d_lcF rfl sc.nd (own := [("k", 2)]) (di_range1 rfl B.b_range (da_cons (d_cb c_lenB rfl B.b_len boot_len (da_cons (d_v 1) da_nil)) da_nil)) (blkOk_by (N := N_l_same) (sc := defScope s_l_same) (by decide +kernel)) (by decide) (fun _ _ _ _ _ => (dg_name (i := 2) sc.nd rfl (Or.inl rfl))) (fun _ _ _ _ _ => dts_nil) (fun _ _ _ _ _ => (d_call c_l_same (hr.mono (by first | decide | omega)) rfl (da_cons (d_ix x_ix (d_v 0) (d_v 2) (fun _ _ => rfl)) (da_cons (d_ix x_ix (d_v 1) (d_v 2) (fun _ _ => rfl)) da_nil))))) rfl)))))
    ds_nil)
    (ds_cons (ds_if (dt_w (dw_or (dt_cmp (o_ne (hu_eq hr)) (d_cb c_is rfl B.b_isinstance boot_isinstance (da_cons (d_v 0) (da_cons (d_ty rfl B.b_bool boot_bool) da_nil))) (d_cb c_is rfl B.b_isinstance boot_isinstance (da_cons (d_v 1) (da_cons (d_ty rfl B.b_bool boot_bool) da_nil))) (nomark _)) (dw_or1 (dt_cmp (o_ne (hu_eq hr)) (d_cb c_is rfl B.b_isinstance boot_isinstance (da_cons (d_v 0) (da_cons (d_ty rfl B.b_int boot_int) da_nil))) (d_cb c_is rfl B.b_isinstance boot_isinstance (da_cons (d_v 1) (da_cons (d_ty rfl B.b_int boot_int) da_nil))) (nomark _)))))
    (ds_one (ds_ret d_bl))
    ds_nil)
    (ds_cons (ds_if (dt_w (dw_or (dt_cmp (o_ne (hu_eq hr)) (d_cb c_is rfl B.b_isinstance boot_isinstance (da_cons (d_v 0) (da_cons (d_ty rfl B.b_str boot_str) da_nil))) (d_cb c_is rfl B.b_isinstance boot_isinstance (da_cons (d_v 1) (da_cons (d_ty rfl B.b_str boot_str) da_nil))) (nomark _)) (dw_or1 (dt_cmp (o_ne (hu_eq hr)) (d_cmp o_is (d_v 0) d_non (nomark _)) (d_cmp o_is (d_v 1) d_non (nomark _)) (nomark _)))))
    (ds_one (ds_ret d_bl))
    ds_nil)
    (ds_one (ds_ret (d_cmp (o_eq (hu_eq hr)) (d_v 0) (d_v 1) (nomark _)))))))) (fun ds M Q h => ?_)
  obtain ⟨b, _, rfl, rfl, hb, h⟩ := h
  cases b with
  | non =>
    walk_at "rd"
    exact ret_of h
  | bl i =>
    walk_at "rd"
    exact ret_of h
  | int i =>
    walk_at "rd"
    exact ret_of h
  | str x =>
    have hx : PyData.strOk x = true := by
      rw [dOk_str] at hb
      exact hb
    walk_at "rd"
    exact ⟨hx, hx, ret_of h⟩
  | tup xs =>
    cases n with
    | zero => cases hb
    | succ n =>
      have hx : xs.all (dOk n) = true := hb
      walk_at "rd"
      intro hz
      refine ⟨by omega, by omega, fun _ => ?_⟩
      refine lc_map (List.range xs.length) (fun i => D.int (0 + (i : Nat))) (fun _ => .bl true) (by simp [rangeD]) srcV_none (fun x hx' M l C1 h1 => ?_) fun p hp => ?_
      · exact l_same_list (fun _ => rfl) hb hx (List.mem_range.mp hx') h1 _ rfl rfl (by simp)
      · simp only [mdel_mput hp]
        refine ⟨by simp, ?_⟩
        have e : (List.map (fun _ : Nat => D.bl true) (List.range xs.length)).any (fun z => z.eqv (D.bl false)) = false := by
          rw [List.any_map]
          simp [eqv_bl]
        rw [e]
        exact ret_of h
  | lst xs =>
    cases n with
    | zero => cases hb
    | succ n =>
      have hx : xs.all (dOk n) = true := hb
      walk_at "rd"
      intro hz
      refine ⟨by omega, by omega, fun _ => ?_⟩
      refine lc_map (List.range xs.length) (fun i => D.int (0 + (i : Nat))) (fun _ => .bl true) (by simp [rangeD]) srcV_none (fun x hx' M l C1 h1 => ?_) fun p hp => ?_
      · exact l_same_list (fun _ => rfl) hb hx (List.mem_range.mp hx') h1 _ rfl rfl (by simp)
      · simp only [mdel_mput hp]
        refine ⟨by simp, ?_⟩
        have e : (List.map (fun _ : Nat => D.bl true) (List.range xs.length)).any (fun z => z.eqv (D.bl false)) = false := by
          rw [List.any_map]
          simp [eqv_bl]
        rw [e]
        exact ret_of h
  | dct _ => cases n <;> cases hb
  | ref _ => cases n <;> cases hb
  | ty _ => cases n <;> cases hb
theorem ok_l_same (F : Def K mg "_law_same" s_l_same ["actual", "due"]) (B : Bi K mg) (I : Im mg) : Cal P w K mg base 13 "_law_same" ["actual", "due"] sp_l_same := by
  have z : ∀ n : Nat, Cal P w K mg base (n + 1) "_law_same" ["actual", "due"] (spS n) := by
    intro n
    induction n with
    | zero => exact ok_l_same_step F B I 0 F.nil
    | succ n ih => exact ok_l_same_step F B I (n + 1) ih
  exact z 12

/-! ### a permutation of a mapped list -/
theorem perm_map {α β : Type} (f : α → β) : ∀ {xs : List α} {l : List β}, l.Perm (xs.map f) → ∃ ys : List α, l = ys.map f ∧ ys.Perm xs
  | [], l, h => ⟨[], List.Perm.eq_nil h, .nil⟩
  | x :: xs, l, h => by
    have hm : f x ∈ l := h.mem_iff.mpr (by simp)
    obtain ⟨l1, l2, rfl⟩ := List.append_of_mem hm
    have h2 : (l1 ++ l2).Perm (xs.map f) := by
      have := (List.perm_middle (a := f x) (l₁ := l1) (l₂ := l2)).symm.trans h
      exact List.Perm.cons_inv this
    obtain ⟨ys, e, hp⟩ := perm_map f h2
    obtain ⟨y1, y2, rfl, rfl, rfl⟩ := List.map_eq_append_iff.mp e.symm
    exact ⟨y1 ++ x :: y2, by simp, List.perm_middle.trans (hp.cons x)⟩
/-! ### masks, plain -/
abbrev bitsL (L n : Nat) : List Nat := (List.range L).filter fun i => n.testBit i
theorem low_of : ∀ n : Nat, 0 < n → ∃ k a, n = 2 ^ k * (2 * a + 1) := by
  intro n
  induction n using Nat.strongRecOn with
  | ind n ih =>
    intro h
    by_cases ho : n % 2 = 1
    · exact ⟨0, n / 2, by omega⟩
    · obtain ⟨k, a, e⟩ := ih (n / 2) (by omega) (by omega)
      refine ⟨k + 1, a, ?_⟩
      rw [Nat.pow_succ, Nat.mul_comm (2 ^ k) 2, Nat.mul_assoc, ← e]
      omega
theorem bit_mul (k x i : Nat) : (2 ^ k * x).testBit i = (decide (k ≤ i) && x.testBit (i - k)) := by
  rw [Nat.testBit_two_pow_mul]
theorem range_filter_ge {p : Nat → Bool} {a b : Nat} (h : ∀ i, a ≤ i → p i = false) : (List.range (a + b)).filter p = (List.range a).filter p := by
  induction b with
  | zero => rfl
  | succ b ih =>
    rw [show a + (b + 1) = (a + b) + 1 by omega, List.range_succ, List.filter_append, ih]
    simp [h (a + b) (by omega)]
theorem bits_any {n a b : Nat} (ha : n < 2 ^ a) (hb : n < 2 ^ b) : bitsL a n = bitsL b n := by
  have key : ∀ {a b : Nat}, n < 2 ^ a → a ≤ b → bitsL b n = bitsL a n := fun {a b} ha hab => by
    obtain ⟨c, rfl⟩ := Nat.exists_eq_add_of_le hab
    exact range_filter_ge fun i hi => Nat.testBit_lt_two_pow (Nat.lt_of_lt_of_le ha (Nat.pow_le_pow_right (by decide) hi))
  rcases Nat.le_total a b with h | h
  · exact (key ha h).symm
  · exact key hb h
/-- the bits below the next one -/
theorem bits_step {n c k a : Nat} (h : n / 2 ^ c = 2 ^ k * (2 * a + 1)) : bitsL (c + k + 1) n = bitsL c n ++ [c + k] ∧ n / 2 ^ (c + k + 1) = a := by
  have ht : ∀ i, n.testBit (c + i) = (2 ^ k * (2 * a + 1)).testBit i := fun i => by
    rw [← h, Nat.testBit_div_two_pow]
    congr 1
    omega
  have h0 : ∀ i, i < k → n.testBit (c + i) = false := fun i hi => by
    rw [ht, bit_mul]
    simp
    omega
  have h1 : n.testBit (c + k) = true := by
    rw [ht, bit_mul, Nat.sub_self]
    simp
  constructor
  · have e : bitsL (c + k) n = bitsL c n := by
      clear h1
      induction k with
      | zero => rfl
      | succ k ih =>
        show (List.range (c + (k + 1))).filter _ = _
        rw [show c + (k + 1) = (c + k) + 1 by omega, List.range_succ, List.filter_append]
        have e1 : (List.range (c + k)).filter (fun i => n.testBit i) = (List.range c).filter fun i => n.testBit i := by
          clear ih h ht
          have : ∀ j, j ≤ k → (List.range (c + j)).filter (fun i => n.testBit i) = (List.range c).filter fun i => n.testBit i := by
            intro j
            induction j with
            | zero => intro _; rfl
            | succ j ihj =>
              intro hj
              rw [show c + (j + 1) = (c + j) + 1 by omega, List.range_succ, List.filter_append, ihj (by omega)]
              simp [h0 j (by omega)]
          exact this k (Nat.le_refl _)
        rw [e1]
        simp [h0 k (by omega)]
    show (List.range (c + k + 1)).filter _ = _
    rw [List.range_succ, List.filter_append]
    have e2 : (List.range (c + k)).filter (fun i => n.testBit i) = bitsL c n := e
    rw [e2]
    simp [h1]
  · rw [show c + k + 1 = c + (k + 1) by omega, Nat.pow_add, ← Nat.div_div_eq_div_mul, h, Nat.pow_succ, ← Nat.div_div_eq_div_mul, Nat.mul_div_cancel_left _ (Nat.two_pow_pos k)]
    omega
theorem xor_low {k a : Nat} {m : Int} (h : m = 2 ^ k * (2 * (a : Int) + 1)) : Builtin.bitXor m (2 ^ k) = ((2 ^ (k + 1) * a : Nat) : Int) := by
  have e : m = ((2 ^ k * (2 * a + 1) : Nat) : Int) := by rw [h]; push_cast; rfl
  have e2 : ((2 : Int) ^ k) = ((2 ^ k : Nat) : Int) := by push_cast; rfl
  have hb : (2 ^ k * (2 * a + 1)).testBit k = true := by
    rw [bit_mul, Nat.sub_self]
    simp
  show Builtin.bitOr m (2 ^ k) - Builtin.bitAnd m (2 ^ k) = _
  rw [e, e2, bitOr_nn (Int.natCast_nonneg _) (Int.natCast_nonneg _), PyProof.Rows.bitAnd_pp (Int.natCast_nonneg _) (Int.natCast_nonneg _), Int.toNat_natCast, Int.toNat_natCast]
  have o : 2 ^ k * (2 * a + 1) ||| 2 ^ k = 2 ^ k * (2 * a + 1) := by
    refine Nat.eq_of_testBit_eq fun i => ?_
    rw [Nat.testBit_or, Nat.testBit_two_pow]
    by_cases hi : k = i
    · subst hi
      rw [hb]
      rfl
    · simp [hi]
  have n2 : (2 ^ k * (2 * a + 1)) &&& 2 ^ k = 2 ^ k := by
    refine Nat.eq_of_testBit_eq fun i => ?_
    rw [Nat.testBit_and, Nat.testBit_two_pow]
    by_cases hi : k = i
    · subst hi
      rw [hb]
      rfl
    · simp [hi]
  rw [o, n2, Nat.pow_succ]
  have : 2 ^ k * (2 * a + 1) = 2 ^ k * 2 * a + 2 ^ k := by rw [Nat.mul_add, Nat.mul_one, Nat.mul_assoc]
  rw [this]
  push_cast
  omega
theorem bits_pow (k : Nat) : Builtin.Int.intBits ((2 : Int) ^ k) = k + 1 := by
  have e2 : ((2 : Int) ^ k) = ((2 ^ k : Nat) : Int) := by push_cast; rfl
  have hp := Nat.two_pow_pos k
  unfold Builtin.Int.intBits
  rw [e2, if_neg (by simp; omega), Int.natAbs_natCast, Nat.log2_two_pow]
/-- how many bits -/
theorem pc_bits : ∀ {L n : Nat}, n < 2 ^ L → pc n = (bitsL L n).length := by
  intro L
  induction L with
  | zero =>
    intro n h
    have : n = 0 := by simpa using h
    subst this
    rw [pc]
    rfl
  | succ L ih =>
    intro n h
    have h2 : n / 2 < 2 ^ L := by
      rw [Nat.pow_succ] at h
      omega
    have e : pc n = pc (n / 2) + n % 2 := by
      rw [pc]
      split
      · next hn =>
        have : n / 2 = 0 := by omega
        rw [this, pc]
        simp
        omega
      · rfl
    have e3 : (bitsL (L + 1) n).length = (if n.testBit 0 then 1 else 0) + (bitsL L (n / 2)).length := by
      show ((List.range (L + 1)).filter _).length = _
      rw [List.range_succ_eq_map, List.filter_cons, List.filter_map]
      have e4 : (List.range L).filter ((fun i => n.testBit i) ∘ Nat.succ) = bitsL L (n / 2) := by
        refine List.filter_congr fun i _ => ?_
        show n.testBit (i + 1) = _
        rw [Nat.testBit_succ]
      rw [e4]
      split <;> simp <;> omega
    rw [e, ih h2, e3, Nat.testBit_zero]
    have : n % 2 = 0 ∨ n % 2 = 1 := by omega
    rcases this with z | z <;> rw [z] <;> simp <;> omega

/-! ### sums of powers of two -/
abbrev pw (is : List Nat) : Nat := (is.map fun i => 2 ^ i).sum
theorem pw_mul : ∀ {is : List Nat} {c : Nat}, (∀ i ∈ is, c ≤ i) → ∃ y, pw is = 2 ^ c * y
  | [], c, _ => ⟨0, rfl⟩
  | i :: is, c, h => by
    obtain ⟨y, e⟩ := pw_mul (is := is) (c := c) fun j hj => h j (by simp [hj])
    obtain ⟨d, hd⟩ := Nat.exists_eq_add_of_le (h i (by simp))
    refine ⟨2 ^ d + y, ?_⟩
    show (2 ^ i + pw is) = _
    rw [e, hd, Nat.pow_add, Nat.mul_add]
theorem pw_bit : ∀ {is : List Nat}, is.Pairwise (· < ·) → ∀ i, (pw is).testBit i = decide (i ∈ is)
  | [], _, i => by simp [pw]
  | k :: is, h, i => by
    rw [List.pairwise_cons] at h
    have ih := pw_bit h.2 i
    obtain ⟨y, e⟩ := pw_mul (is := is) (c := k + 1) fun j hj => h.1 j hj
    have e2 : pw (k :: is) = 2 ^ k * (2 * y + 1) := by
      show 2 ^ k + pw is = _
      rw [e, Nat.pow_succ, Nat.mul_add, Nat.mul_one, Nat.mul_assoc, Nat.add_comm]
    rw [e2, bit_mul]
    rw [e, bit_mul] at ih
    rcases Nat.lt_trichotomy i k with hl | rfl | hg
    · have h1 : ¬ k ≤ i := by omega
      have h2 : ¬ (k + 1 ≤ i) := by omega
      rw [decide_eq_false h2, Bool.false_and] at ih
      rw [decide_eq_false h1, Bool.false_and]
      refine ih.trans (decide_eq_decide.mpr ?_)
      rw [List.mem_cons]
      exact ⟨.inr, fun z => z.elim (fun e => absurd e (by omega)) id⟩
    · rw [Nat.sub_self]
      simp
    · obtain ⟨d, rfl⟩ := Nat.exists_eq_add_of_lt hg
      rw [show k + d + 1 - (k + 1) = d by omega, decide_eq_true (show k + 1 ≤ k + d + 1 by omega), Bool.true_and] at ih
      rw [show k + d + 1 - k = d + 1 by omega, decide_eq_true (show k ≤ k + d + 1 by omega), Bool.true_and, Nat.testBit_succ, show (2 * y + 1) / 2 = y by omega]
      refine ih.trans (decide_eq_decide.mpr ?_)
      rw [List.mem_cons]
      exact ⟨.inr, fun z => z.elim (fun e => absurd e (by omega)) id⟩

theorem mem_bits {L n i : Nat} (h : n < 2 ^ L) : i ∈ bitsL L n ↔ n.testBit i = true := by
  rw [List.mem_filter, List.mem_range]
  refine ⟨fun z => z.2, fun z => ⟨?_, z⟩⟩
  refine Nat.lt_of_not_le fun l => ?_
  rw [Nat.testBit_lt_two_pow (Nat.lt_of_lt_of_le h (Nat.pow_le_pow_right (by decide) l))] at z
  cases z
theorem bits_asc (L n : Nat) : (bitsL L n).Pairwise (· < ·) := List.pairwise_lt_range.sublist List.filter_sublist
theorem n_pw {L n : Nat} (h : n < 2 ^ L) : pw (bitsL L n) = n := by
  refine Nat.eq_of_testBit_eq fun i => ?_
  rw [pw_bit (bits_asc L n)]
  cases e : n.testBit i with
  | true => exact decide_eq_true ((mem_bits h).mpr e)
  | false => exact decide_eq_false fun z => by rw [(mem_bits h).mp z] at e; cases e
theorem bit_ext {a b : Nat} (h : ∀ i, a.testBit i = true ↔ b.testBit i = true) : a = b := Nat.eq_of_testBit_eq fun i => Bool.eq_iff_iff.mpr (h i)
theorem or_bit (a p i : Nat) : (a ||| 2 ^ p).testBit i = true ↔ a.testBit i = true ∨ i = p := by
  rw [Nat.testBit_or, Nat.testBit_two_pow, Bool.or_eq_true, decide_eq_true_iff]
  exact or_congr Iff.rfl eq_comm
theorem xor_bit {a p : Nat} (i : Nat) (h : a.testBit p = true) : (a ^^^ 2 ^ p).testBit i = true ↔ a.testBit i = true ∧ i ≠ p := by
  rw [Nat.testBit_xor, Nat.testBit_two_pow]
  by_cases c : p = i
  · subst c
    simp [h]
  · have : ¬ i = p := fun z => c z.symm
    simp [c, this]
theorem xor_lt {a p L : Nat} (h : a < 2 ^ L) (hp : a.testBit p = true) : a ^^^ 2 ^ p < 2 ^ L := by
  refine Nat.lt_pow_two_of_testBit _ fun i hi => ?_
  cases e : (a ^^^ 2 ^ p).testBit i with
  | false => rfl
  | true =>
    have := ((xor_bit i hp).mp e).1
    rw [Nat.testBit_lt_two_pow (Nat.lt_of_lt_of_le h (Nat.pow_le_pow_right (by decide) hi))] at this
    cases this
theorem bits_xor {a p L : Nat} (h : a < 2 ^ L) (hp : a.testBit p = true) : (bitsL L a).Perm (p :: bitsL L (a ^^^ 2 ^ p)) := by
  have hl := xor_lt h hp
  refine (List.perm_ext_iff_of_nodup ((bits_asc L a).imp Nat.ne_of_lt) (List.nodup_cons.mpr ⟨fun z => ?_, (bits_asc L _).imp Nat.ne_of_lt⟩)).mpr fun i => ?_
  · exact ((xor_bit p hp).mp ((mem_bits hl).mp z)).2 rfl
  · rw [List.mem_cons, mem_bits h, mem_bits hl, xor_bit i hp]
    by_cases c : i = p
    · rw [c]
      simp [hp]
    · simp [c]
theorem xor_add {a p L : Nat} (h : a < 2 ^ L) (hp : a.testBit p = true) : 2 ^ p + (a ^^^ 2 ^ p) = a := by
  have e := ((bits_xor h hp).map fun i => 2 ^ i).sum_nat
  have e1 : pw (bitsL L a) = 2 ^ p + pw (bitsL L (a ^^^ 2 ^ p)) := e
  rw [n_pw h, n_pw (xor_lt h hp)] at e1
  exact e1.symm
theorem and_zero {s c : Nat} : s &&& c = 0 ↔ ∀ i, s.testBit i = true → c.testBit i = true → False := by
  constructor
  · intro e i h1 h2
    have : (s &&& c).testBit i = true := by rw [Nat.testBit_and, h1, h2]; rfl
    rw [e, Nat.zero_testBit] at this
    cases this
  · intro h
    refine bit_ext fun i => ?_
    rw [Nat.testBit_and, Nat.zero_testBit, Bool.and_eq_true]
    exact ⟨fun z => (h i z.1 z.2).elim, nofun⟩
theorem and_pow {s c i : Nat} : s &&& c = 2 ^ i ↔ (s.testBit i = true ∧ c.testBit i = true) ∧ ∀ j, s.testBit j = true → c.testBit j = true → j = i := by
  have t : ∀ j, (2 ^ i).testBit j = true ↔ j = i := fun j => by
    rw [Nat.testBit_two_pow, decide_eq_true_iff]
    exact eq_comm
  constructor
  · intro e
    have u : ∀ j, (s.testBit j = true ∧ c.testBit j = true) ↔ j = i := fun j => by
      rw [← t j, ← e, Nat.testBit_and, Bool.and_eq_true]
    exact ⟨(u i).mpr rfl, fun j h1 h2 => (u j).mp ⟨h1, h2⟩⟩
  · intro ⟨h, k⟩
    refine bit_ext fun j => ?_
    rw [t j, Nat.testBit_and, Bool.and_eq_true]
    exact ⟨fun z => k j z.1 z.2, fun z => z ▸ h⟩
/-! ### least masks that meet all, plain -/
def HitM (ks : List Nat) (T : Nat) : Prop := ∀ s ∈ ks, ∃ i, s.testBit i = true ∧ T.testBit i = true
def PrivM (ks : List Nat) (T : Nat) : Prop := ∀ i, T.testBit i = true → ∃ s ∈ ks, s.testBit i = true ∧ ∀ j, s.testBit j = true → T.testBit j = true → j = i
def MinM (ks : List Nat) (T : Nat) : Prop := HitM ks T ∧ PrivM ks T
/-- between chosen and chosen or allowed -/
def Reg (x : Nat × Nat) (T : Nat) : Prop := (∀ i, x.1.testBit i = true → T.testBit i = true) ∧ ∀ i, T.testBit i = true → x.1.testBit i = true ∨ x.2.testBit i = true
abbrev nb (a : Nat) : Nat := (bitsL 20 a).length
abbrev wt (x : Nat × Nat) : Nat := 2 ^ nb x.2
theorem nb_xor {a p : Nat} (h : a < 2 ^ 20) (hp : a.testBit p = true) : nb a = nb (a ^^^ 2 ^ p) + 1 := by
  have := (bits_xor h hp).length_eq
  rwa [List.length_cons] at this
theorem nb_le (a : Nat) : nb a ≤ 20 := by
  have := List.length_filter_le (fun i => a.testBit i) (List.range 20)
  rwa [List.length_range] at this
theorem wt_pos (x : Nat × Nat) : 1 ≤ wt x := Nat.one_le_two_pow
theorem wt_len : ∀ cs : List (Nat × Nat), cs.length ≤ (cs.map wt).sum
  | [] => Nat.le_refl _
  | x :: cs => by
    have := wt_len cs
    have := wt_pos x
    rw [List.length_cons, List.map_cons, List.sum_cons]
    omega
/-- a well-formed choice -/
structure ChOk (x : Nat × Nat) : Prop where
  c : x.1 < 2 ^ 20
  a : x.2 < 2 ^ 20
  d : ∀ i, x.1.testBit i = true → x.2.testBit i = true → False
/-- what the stack and the found ones are, between two turns -/
structure CutInv (ks : List Nat) (cs : List (Nat × Nat)) (fs : List Nat) : Prop where
  ok : ∀ x ∈ cs, ChOk x
  nd : fs.Nodup
  min : ∀ T ∈ fs, MinM ks T
  all : ∀ T, MinM ks T → T ∈ fs ∨ ∃ x ∈ cs, Reg x T
  off : ∀ x ∈ cs, ∀ T ∈ fs, ¬ Reg x T
  dis : cs.Pairwise fun x y => ∀ T, Reg x T → ¬ Reg y T
  sum : fs.length + (cs.map wt).sum ≤ 2 ^ 20
theorem idle_none {ks : List Nat} {c a T : Nat} (h : ¬ PrivM ks c) (r : Reg (c, a) T) : ¬ PrivM ks T := fun p => h fun i hi => by
  obtain ⟨s, h1, h2, h3⟩ := p i (r.1 i hi)
  exact ⟨s, h1, h2, fun j k1 k2 => h3 j k1 (r.1 j k2)⟩
/-- a turn that drops a choice -/
theorem CutInv.drop {ks : List Nat} {cs : List (Nat × Nat)} {fs : List Nat} {x : Nat × Nat} (h : CutInv ks (cs ++ [x]) fs) (n : ∀ T, MinM ks T → ¬ Reg x T) : CutInv ks cs fs := by
  refine ⟨fun y hy => h.ok y (by simp [hy]), h.nd, h.min, fun T hT => ?_, fun y hy => h.off y (by simp [hy]), (List.pairwise_append.mp h.dis).1, ?_⟩
  · rcases h.all T hT with z | ⟨y, hy, r⟩
    · exact .inl z
    · rcases List.mem_append.mp hy with hy | hy
      · exact .inr ⟨y, hy, r⟩
      · rw [List.mem_singleton.mp hy] at r
        exact absurd r (n T hT)
  · have := h.sum
    rw [List.map_append, List.sum_append] at this
    omega
/-- a turn that finds the chosen one -/
theorem CutInv.find {ks : List Nat} {cs : List (Nat × Nat)} {fs : List Nat} {c a : Nat} (h : CutInv ks (cs ++ [(c, a)]) fs) (hp : PrivM ks c) (hh : HitM ks c) : CutInv ks cs (fs ++ [c]) := by
  have rc : Reg (c, a) c := ⟨fun i z => z, fun i z => .inl z⟩
  have only : ∀ T, MinM ks T → Reg (c, a) T → T = c := fun T hT r => bit_ext fun i => ⟨fun z => by
    obtain ⟨s, h1, h2, h3⟩ := hT.2 i z
    obtain ⟨j, k1, k2⟩ := hh s h1
    have := h3 j k1 (r.1 j k2)
    exact this ▸ k2, fun z => r.1 i z⟩
  have dd := List.pairwise_append.mp h.dis
  refine ⟨fun y hy => h.ok y (by simp [hy]), ?_, fun T hT => ?_, fun T hT => ?_, fun y hy T hT => ?_, dd.1, ?_⟩
  · rw [List.nodup_append]
    exact ⟨h.nd, by simp, fun x hx y hy e => h.off (c, a) (by simp) x hx (by rw [e, List.mem_singleton.mp hy]; exact rc)⟩
  · rcases List.mem_append.mp hT with hT | hT
    · exact h.min T hT
    · rw [List.mem_singleton.mp hT]
      exact ⟨hh, hp⟩
  · rcases h.all T hT with z | ⟨y, hy, r⟩
    · exact .inl (by simp [z])
    · rcases List.mem_append.mp hy with hy | hy
      · exact .inr ⟨y, hy, r⟩
      · rw [List.mem_singleton.mp hy] at r
        exact .inl (by simp [only T hT r])
  · rcases List.mem_append.mp hT with hT | hT
    · exact h.off y (by simp [hy]) T hT
    · rw [List.mem_singleton.mp hT]
      exact fun r => dd.2.2 y hy (c, a) (by simp) c r rc
  · have := h.sum
    have w := wt_pos (c, a)
    rw [List.map_append, List.sum_append, List.map_singleton, List.sum_singleton] at this
    rw [List.length_append, List.length_singleton]
    omega
/-- the children so far: ps the places that are done, b what is still allowed -/
structure KidInv (c a : Nat) (ps : List Nat) (b : Nat) (ch : List (Nat × Nat)) : Prop where
  bit : ∀ i, b.testBit i = true ↔ a.testBit i = true ∧ i ∉ ps
  lt : b < 2 ^ 20
  ok : ∀ x ∈ ch, ChOk x
  cov : ∀ T, Reg (c, a) T → (∃ x ∈ ch, Reg x T) ∨ Reg (c, b) T
  inn : ∀ x ∈ ch, ∀ T, Reg x T → Reg (c, a) T ∧ ¬ Reg (c, b) T
  dis : ch.Pairwise fun x y => ∀ T, Reg x T → ¬ Reg y T
  sum : (ch.map wt).sum + 2 ^ nb b ≤ 2 ^ nb a
theorem KidInv.start {c a : Nat} (ha : a < 2 ^ 20) : KidInv c a [] a [] :=
  ⟨fun i => by simp, ha, nofun, fun T r => .inr r, nofun, .nil, by simp⟩
theorem KidInv.step {c a b p : Nat} {ps : List Nat} {ch : List (Nat × Nat)} (h : KidInv c a ps b ch) (k : ChOk (c, a)) (hp : a.testBit p = true) (hn : p ∉ ps) :
    KidInv c a (ps ++ [p]) (b ^^^ 2 ^ p) (ch ++ [(c ||| 2 ^ p, b ^^^ 2 ^ p)]) := by
  have hb : b.testBit p = true := (h.bit p).mpr ⟨hp, hn⟩
  have hlp : p < 20 := by
    refine Nat.lt_of_not_le fun l => ?_
    rw [Nat.testBit_lt_two_pow (Nat.lt_of_lt_of_le h.lt (Nat.pow_le_pow_right (by decide) l))] at hb
    cases hb
  have sub : ∀ T, Reg (c ||| 2 ^ p, b ^^^ 2 ^ p) T → Reg (c, b) T ∧ T.testBit p = true := fun T r => by
    refine ⟨⟨fun i hi => r.1 i ((or_bit c p i).mpr (.inl hi)), fun i hi => ?_⟩, r.1 p ((or_bit c p p).mpr (.inr rfl))⟩
    rcases r.2 i hi with z | z
    · rcases (or_bit c p i).mp z with z | z
      · exact .inl z
      · exact .inr (z ▸ hb)
    · exact .inr ((xor_bit i hb).mp z).1
  have inA : ∀ T, Reg (c, b) T → Reg (c, a) T := fun T r => ⟨r.1, fun i hi => (r.2 i hi).imp id fun z => ((h.bit i).mp z).1⟩
  have notp : ∀ T, Reg (c, b ^^^ 2 ^ p) T → T.testBit p = false := fun T r => by
    cases e : T.testBit p with
    | false => rfl
    | true =>
      rcases r.2 p e with z | z
      · exact (k.d p z hp).elim
      · exact absurd rfl ((xor_bit p hb).mp z).2
  have fromX : ∀ T, Reg (c, b ^^^ 2 ^ p) T → Reg (c, b) T := fun T r => ⟨r.1, fun i hi => (r.2 i hi).imp id fun z => ((xor_bit i hb).mp z).1⟩
  refine ⟨fun i => ?_, xor_lt h.lt hb, fun x hx => ?_, fun T r => ?_, fun x hx T r => ?_, ?_, ?_⟩
  · rw [xor_bit i hb, h.bit i, List.mem_append, List.mem_singleton, not_or, and_assoc]
  · rcases List.mem_append.mp hx with hx | hx
    · exact h.ok x hx
    · rw [List.mem_singleton.mp hx]
      refine ⟨Nat.or_lt_two_pow k.c (Nat.pow_lt_pow_right (by decide) hlp), xor_lt h.lt hb, fun i h1 h2 => ?_⟩
      obtain ⟨z1, z2⟩ := (xor_bit i hb).mp h2
      rcases (or_bit c p i).mp h1 with z | z
      · exact k.d i z ((h.bit i).mp z1).1
      · exact z2 z
  · rcases h.cov T r with ⟨x, hx, z⟩ | z
    · exact .inl ⟨x, by simp [hx], z⟩
    · cases e : T.testBit p with
      | true =>
        refine .inl ⟨(c ||| 2 ^ p, b ^^^ 2 ^ p), by simp, fun i hi => ?_, fun i hi => ?_⟩
        · rcases (or_bit c p i).mp hi with y | y
          · exact z.1 i y
          · exact y ▸ e
        · by_cases ip : i = p
          · exact .inl ((or_bit c p i).mpr (.inr ip))
          · rcases z.2 i hi with y | y
            · exact .inl ((or_bit c p i).mpr (.inl y))
            · exact .inr ((xor_bit i hb).mpr ⟨y, ip⟩)
      | false =>
        refine .inr ⟨z.1, fun i hi => (z.2 i hi).imp id fun y => (xor_bit i hb).mpr ⟨y, fun q => ?_⟩⟩
        rw [q, e] at hi
        cases hi
  · rcases List.mem_append.mp hx with hx | hx
    · exact ⟨(h.inn x hx T r).1, fun z => (h.inn x hx T r).2 (fromX T z)⟩
    · rw [List.mem_singleton.mp hx] at r
      obtain ⟨r1, r2⟩ := sub T r
      exact ⟨inA T r1, fun z => by rw [notp T z] at r2; cases r2⟩
  · refine List.pairwise_append.mpr ⟨h.dis, List.pairwise_singleton _ _, fun x hx y hy T r1 r2 => ?_⟩
    rw [List.mem_singleton.mp hy] at r2
    exact (h.inn x hx T r1).2 (sub T r2).1
  · have e := nb_xor h.lt hb
    have s := h.sum
    rw [e, Nat.pow_succ] at s
    rw [List.map_append, List.sum_append, List.map_singleton, List.sum_singleton]
    show _ + 2 ^ nb (b ^^^ 2 ^ p) + _ ≤ _
    omega
/-- a turn that tries the places of a support that is missed -/
theorem CutInv.kids {ks : List Nat} {cs ch : List (Nat × Nat)} {fs ps : List Nat} {c a b s : Nat} (h : CutInv ks (cs ++ [(c, a)]) fs) (k : KidInv c a ps b ch) (hs : s ∈ ks) (hz : s &&& c = 0) (hps : ∀ i, i ∈ ps ↔ s.testBit i = true ∧ a.testBit i = true) :
    CutInv ks (cs ++ ch) fs ∧ ((cs ++ ch).map wt).sum < ((cs ++ [(c, a)]).map wt).sum := by
  have dd := List.pairwise_append.mp h.dis
  have sw : ((cs ++ ch).map wt).sum < ((cs ++ [(c, a)]).map wt).sum := by
    rw [List.map_append, List.sum_append, List.map_append, List.sum_append, List.map_singleton, List.sum_singleton]
    have := k.sum
    have := Nat.two_pow_pos (nb b)
    show _ < _ + 2 ^ nb a
    omega
  refine ⟨⟨fun y hy => ?_, h.nd, h.min, fun T hT => ?_, fun y hy T hT => ?_, ?_, ?_⟩, sw⟩
  · rcases List.mem_append.mp hy with hy | hy
    · exact h.ok y (by simp [hy])
    · exact k.ok y hy
  · rcases h.all T hT with z | ⟨y, hy, r⟩
    · exact .inl z
    · rcases List.mem_append.mp hy with hy | hy
      · exact .inr ⟨y, by simp [hy], r⟩
      · rw [List.mem_singleton.mp hy] at r
        rcases k.cov T r with ⟨x, hx, z⟩ | z
        · exact .inr ⟨x, by simp [hx], z⟩
        · obtain ⟨i, h1, h2⟩ := hT.1 s hs
          rcases z.2 i h2 with y | y
          · exact (and_zero.mp hz i h1 y).elim
          · obtain ⟨y1, y2⟩ := (k.bit i).mp y
            exact absurd ((hps i).mpr ⟨h1, y1⟩) y2
  · rcases List.mem_append.mp hy with hy | hy
    · exact h.off y (by simp [hy]) T hT
    · exact fun r => h.off (c, a) (by simp) T hT (k.inn y hy T r).1
  · refine List.pairwise_append.mpr ⟨dd.1, k.dis, fun x hx y hy T r1 r2 => ?_⟩
    exact dd.2.2 x hx (c, a) (by simp) T r1 (k.inn y hy T r2).1
  · have := h.sum
    omega
theorem CutInv.done {ks fs : List Nat} (h : CutInv ks [] fs) : fs.Nodup ∧ (∀ T, T ∈ fs ↔ MinM ks T) ∧ fs.length ≤ 2 ^ 20 :=
  ⟨h.nd, fun T => ⟨h.min T, fun z => (h.all T z).elim id fun ⟨_, hx, _⟩ => nomatch hx⟩, by have := h.sum; simp at this; omega⟩
theorem CutInv.start {ks : List Nat} {ev : Nat} (hev : ∀ i, ev.testBit i = true ↔ ∃ s ∈ ks, s.testBit i = true) (hl : ev < 2 ^ 20) : CutInv ks [(0, ev)] [] := by
  refine ⟨fun x hx => ?_, .nil, nofun, fun T hT => .inr ⟨(0, ev), by simp, fun i hi => ?_, fun i hi => .inr ?_⟩, fun x hx T hT => (nomatch hT), List.pairwise_singleton _ _, ?_⟩
  · rw [List.mem_singleton.mp hx]
    exact ⟨Nat.two_pow_pos 20, hl, fun i hi => by rw [Nat.zero_testBit] at hi; cases hi⟩
  · rw [Nat.zero_testBit] at hi
    cases hi
  · obtain ⟨s, h1, h2, _⟩ := hT.2 i hi
    exact (hev i).mpr ⟨s, h1, h2⟩
  · show 0 + (2 ^ nb ev + 0) ≤ _
    have := Nat.pow_le_pow_right (n := 2) (by decide) (nb_le ev)
    omega
theorem one_bit {h : Nat} : h &&& (h - 1) = 0 ↔ h = 0 ∨ ∃ i, h = 2 ^ i := by
  by_cases c : h = 0
  · simp [c]
  · rw [Nat.and_sub_one_eq_zero_iff_isPowerOfTwo c]
    simp [c, Nat.isPowerOfTwo]
/-! ### least sets of whole numbers that meet all, plain -/
abbrev ascI (m : List Int) : Prop := m.Pairwise (· < ·)
/-- the first difference decides -/
def lxI : List Int → List Int → Bool
  | _, [] => false
  | [], _ :: _ => true
  | x :: a, y :: b => if x = y then lxI a b else decide (x < y)
theorem lxI_tri : ∀ {a b : List Int}, lxI a b = false → lxI b a = false → a = b
  | [], [], _, _ => rfl
  | [], _ :: _, h, _ => by simp [lxI] at h
  | _ :: _, [], _, h => by simp [lxI] at h
  | x :: a, y :: b, h, k => by
    rw [lxI] at h k
    by_cases c : x = y
    · rw [if_pos c] at h
      rw [if_pos c.symm] at k
      rw [c, lxI_tri h k]
    · rw [if_neg c, decide_eq_false_iff_not] at h
      rw [if_neg (fun z => c z.symm), decide_eq_false_iff_not] at k
      omega
theorem lxI_irr : ∀ a : List Int, lxI a a = false
  | [] => rfl
  | x :: a => by
    rw [lxI, if_pos rfl]
    exact lxI_irr a
theorem lxI_asym : ∀ {a b : List Int}, lxI a b = true → lxI b a = false
  | [], [], h => by simp [lxI] at h
  | [], _ :: _, _ => rfl
  | _ :: _, [], h => by simp [lxI] at h
  | x :: a, y :: b, h => by
    rw [lxI] at h ⊢
    by_cases c : x = y
    · rw [if_pos c] at h
      rw [if_pos c.symm]
      exact lxI_asym h
    · rw [if_neg c, decide_eq_true_eq] at h
      rw [if_neg (fun z => c z.symm), decide_eq_false_iff_not]
      omega
theorem lx_nd {C : List (List Int)} (h : C.Pairwise fun a b => lxI a b = true) : C.Nodup := h.imp fun {a b} z e => by
  rw [e, lxI_irr] at z
  cases z
theorem lx_uniq {C E : List (List Int)} (h : C.Pairwise fun a b => lxI a b = true) (k : E.Pairwise fun a b => lxI a b = true) (m : ∀ t, t ∈ C ↔ t ∈ E) : C = E :=
  ((List.perm_ext_iff_of_nodup (lx_nd h) (lx_nd k)).mpr m).eq_of_pairwise (fun a b _ _ h1 h2 => by rw [lxI_asym h1] at h2; cases h2) h k
theorem asc_uniq {a b : List Int} (h : ascI a) (k : ascI b) (m : ∀ t, t ∈ a ↔ t ∈ b) : a = b :=
  ((List.perm_ext_iff_of_nodup (h.imp fun z => Int.ne_of_lt z) (k.imp fun z => Int.ne_of_lt z)).mpr m).eq_of_pairwise (fun a b _ _ h1 h2 => absurd (Int.lt_trans h1 h2) (Int.lt_irrefl _)) h k
def HitH (W : List (List Int)) (t : List Int) : Prop := ∀ s ∈ W, ∃ x ∈ s, x ∈ t
def PrivH (W : List (List Int)) (t : List Int) : Prop := ∀ x ∈ t, ∃ s ∈ W, x ∈ s ∧ ∀ y ∈ s, y ∈ t → y = x
structure MinH (W : List (List Int)) (t : List Int) : Prop where
  asc : ascI t
  hit : HitH W t
  priv : PrivH W t
/-- the cuts of a why, in order -/
structure CutsOk (W C : List (List Int)) : Prop where
  mem : ∀ t, t ∈ C ↔ MinH W t
  ord : C.Pairwise fun a b => lxI a b = true
theorem cuts_uniq {W C E : List (List Int)} (h : CutsOk W C) (k : CutsOk W E) : C = E := lx_uniq h.ord k.ord fun t => (h.mem t).trans (k.mem t).symm
/-- within a set that meets all there is a least one -/
theorem min_within {W : List (List Int)} : ∀ (n : Nat) {u : List Int}, u.length ≤ n → ascI u → HitH W u → ∃ t, MinH W t ∧ ∀ x ∈ t, x ∈ u := by
  intro n
  induction n with
  | zero =>
    intro u hl ha hh
    have : u = [] := List.eq_nil_of_length_eq_zero (by omega)
    subst this
    exact ⟨[], ⟨ha, hh, nofun⟩, nofun⟩
  | succ n ih =>
    intro u hl ha hh
    by_cases p : PrivH W u
    · exact ⟨u, ⟨ha, hh, p⟩, fun x h => h⟩
    · have ⟨x, hx, hn⟩ : ∃ x, x ∈ u ∧ ∀ s ∈ W, x ∈ s → ∃ y, y ∈ s ∧ y ∈ u ∧ y ≠ x := by
        refine Classical.byContradiction fun z => p fun x hx => Classical.byContradiction fun y => z ⟨x, hx, fun s hs hxs => Classical.byContradiction fun w => y ⟨s, hs, hxs, fun v hv hvu => Classical.byContradiction fun q => w ⟨v, hv, hvu, q⟩⟩⟩
      have hlen : (u.filter fun y => decide (y ≠ x)).length ≤ n := by
        have e : (u.filter fun y => decide (y ≠ x)).length < u.length := by
          refine Nat.lt_of_le_of_ne (List.length_filter_le _ _) fun e => ?_
          have := List.length_filter_eq_length_iff.mp e x hx
          simp at this
        omega
      obtain ⟨t, h1, h2⟩ := ih hlen (ha.sublist List.filter_sublist) fun s hs => by
        obtain ⟨v, hv, hvu⟩ := hh s hs
        by_cases c : v = x
        · obtain ⟨y, y1, y2, y3⟩ := hn s hs (c ▸ hv)
          exact ⟨y, y1, List.mem_filter.mpr ⟨y2, decide_eq_true y3⟩⟩
        · exact ⟨v, hv, List.mem_filter.mpr ⟨hvu, decide_eq_true c⟩⟩
      exact ⟨t, h1, fun y hy => (List.mem_filter.mp (h2 y hy)).1⟩
/-- the cuts of the cuts -/
theorem cuts_back {N : List Int} {W C : List (List Int)} (hN : ascI N) (hin : ∀ s ∈ W, ∀ x ∈ s, x ∈ N) (hasc : ∀ s ∈ W, ascI s) (anti : ∀ s ∈ W, ∀ g ∈ W, (∀ x ∈ g, x ∈ s) → g = s) (ord : W.Pairwise fun a b => lxI a b = true) (h : CutsOk W C) : CutsOk C W := by
  refine ⟨fun t => ⟨fun ht => ⟨hasc t ht, fun c hc => ?_, fun x hx => ?_⟩, fun m => ?_⟩, ord⟩
  · obtain ⟨x, h1, h2⟩ := ((h.mem c).mp hc).hit t ht
    exact ⟨x, h2, h1⟩
  · obtain ⟨c, hc, hcu⟩ := min_within (W := W) _ (Nat.le_refl _) (u := N.filter fun y => decide (y ∉ t ∨ y = x)) (hN.sublist List.filter_sublist) fun g hg => by
      refine Classical.byContradiction fun z => ?_
      have e : g = t := anti t ht g hg fun y hy => Classical.byContradiction fun q => z ⟨y, hy, List.mem_filter.mpr ⟨hin g hg y hy, decide_eq_true (.inl q)⟩⟩
      exact z ⟨x, e ▸ hx, List.mem_filter.mpr ⟨hin t ht x hx, decide_eq_true (.inr rfl)⟩⟩
    have only : ∀ y ∈ c, y ∈ t → y = x := fun y hy hyt => by
      have := of_decide_eq_true (List.mem_filter.mp (hcu y hy)).2
      exact this.elim (fun z => absurd hyt z) id
    obtain ⟨y, y1, y2⟩ := hc.hit t ht
    have := only y y2 y1
    exact ⟨c, (h.mem c).mpr hc, this ▸ y2, only⟩
  · have ⟨s, hs, hst⟩ : ∃ s, s ∈ W ∧ ∀ x ∈ s, x ∈ t := by
      refine Classical.byContradiction fun z => ?_
      obtain ⟨c, hc, hcu⟩ := min_within (W := W) _ (Nat.le_refl _) (u := N.filter fun y => decide (y ∉ t)) (hN.sublist List.filter_sublist) fun g hg => by
        refine Classical.byContradiction fun q => z ⟨g, hg, fun y hy => Classical.byContradiction fun r => q ⟨y, hy, List.mem_filter.mpr ⟨hin g hg y hy, decide_eq_true r⟩⟩⟩
      obtain ⟨y, y1, y2⟩ := m.hit c ((h.mem c).mpr hc)
      exact (of_decide_eq_true (List.mem_filter.mp (hcu y y1)).2) y2
    have hts : ∀ x ∈ t, x ∈ s := fun x hx => by
      obtain ⟨c, hc, hxc, only⟩ := m.priv x hx
      obtain ⟨y, y1, y2⟩ := ((h.mem c).mp hc).hit s hs
      have := only y y2 (hst y y1)
      exact this ▸ y1
    have : t = s := asc_uniq m.asc (hasc s hs) fun x => ⟨hts x, hst x⟩
    exact this ▸ hs
/-! ### masks and sets -/
/-- the members at the places of a mask -/
abbrev unm (P : List Int) (T : Nat) : List Int := (bitsL 60 T).map fun i => P.getD i 0
/-- the mask of a set -/
abbrev mskN (P : List Int) (m : List Int) : Nat := pw (m.map fun x => P.findIdx fun y => decide (y = x))
theorem fidx {P : List Int} {x : Int} (h : x ∈ P) : P[P.findIdx fun y => decide (y = x)]? = some x := by
  have hl : (P.findIdx fun y => decide (y = x)) < P.length := List.findIdx_lt_length_of_exists ⟨x, h, by simp⟩
  have e := List.findIdx_getElem (w := hl)
  rw [List.getElem?_eq_getElem hl]
  exact congrArg some (of_decide_eq_true e)
theorem fidx_at {P : List Int} (hP : ascI P) {i : Nat} {x : Int} (h : P[i]? = some x) : (P.findIdx fun y => decide (y = x)) = i := by
  obtain ⟨h1, e1⟩ := List.getElem?_eq_some_iff.mp h
  have e2 := fidx (List.mem_of_getElem? h)
  obtain ⟨h3, e3⟩ := List.getElem?_eq_some_iff.mp e2
  rcases Nat.lt_trichotomy (P.findIdx fun y => decide (y = x)) i with l | l | l
  · have := List.pairwise_iff_getElem.mp hP _ _ h3 h1 l
    omega
  · exact l
  · have := List.pairwise_iff_getElem.mp hP _ _ h1 h3 l
    omega
theorem fidx_mono {P : List Int} (hP : ascI P) {x y : Int} (hx : x ∈ P) (hy : y ∈ P) (h : x < y) : (P.findIdx fun z => decide (z = x)) < P.findIdx fun z => decide (z = y) := by
  refine Nat.lt_of_not_le fun l => ?_
  obtain ⟨h1, e1⟩ := List.getElem?_eq_some_iff.mp (fidx hx)
  obtain ⟨h2, e2⟩ := List.getElem?_eq_some_iff.mp (fidx hy)
  rcases Nat.lt_or_eq_of_le l with l | l
  · have := List.pairwise_iff_getElem.mp hP _ _ h2 h1 l
    omega
  · have e3 := fidx hx
    rw [← l, fidx hy] at e3
    have := Option.some.inj e3
    omega
theorem msk_bit {P m : List Int} (hP : ascI P) (hm : ascI m) (hin : ∀ x ∈ m, x ∈ P) (i : Nat) : (mskN P m).testBit i = true ↔ ∃ x, P[i]? = some x ∧ x ∈ m := by
  have ha : (m.map fun x => P.findIdx fun y => decide (y = x)).Pairwise (· < ·) := by
    rw [List.pairwise_map]
    exact List.Pairwise.imp_of_mem (fun {a b} h1 h2 h => fidx_mono hP (hin a h1) (hin b h2) h) hm
  rw [pw_bit ha, decide_eq_true_iff, List.mem_map]
  constructor
  · rintro ⟨x, hx, rfl⟩
    exact ⟨x, fidx (hin x hx), hx⟩
  · rintro ⟨x, h1, h2⟩
    exact ⟨x, h2, fidx_at hP h1⟩
theorem msk_lt {P m : List Int} {L : Nat} (hP : ascI P) (hm : ascI m) (hin : ∀ x ∈ m, x ∈ P) (hl : P.length ≤ L) : mskN P m < 2 ^ L := by
  refine Nat.lt_pow_two_of_testBit _ fun i hi => ?_
  cases e : (mskN P m).testBit i with
  | false => rfl
  | true =>
    obtain ⟨x, h1, _⟩ := (msk_bit hP hm hin i).mp e
    have := (List.getElem?_eq_some_iff.mp h1).1
    omega
/-- the bits are places of P -/
abbrev InP (P : List Int) (T : Nat) : Prop := ∀ i, T.testBit i = true → i < P.length
theorem inP_lt {P : List Int} {T : Nat} (h : InP P T) (hl : P.length ≤ 60) : T < 2 ^ 60 := by
  refine Nat.lt_pow_two_of_testBit _ fun i hi => ?_
  cases e : T.testBit i with
  | false => rfl
  | true =>
    have := h i e
    omega
theorem unm_mem {P : List Int} (hP : ascI P) (hl : P.length ≤ 60) {T : Nat} (hT : InP P T) (x : Int) : x ∈ unm P T ↔ ∃ i, P[i]? = some x ∧ T.testBit i = true := by
  rw [List.mem_map]
  constructor
  · rintro ⟨i, h1, rfl⟩
    have h2 := (mem_bits (inP_lt hT hl)).mp h1
    refine ⟨i, ?_, h2⟩
    rw [List.getD_eq_getElem?_getD, List.getElem?_eq_getElem (hT i h2)]
    rfl
  · rintro ⟨i, h1, h2⟩
    refine ⟨i, (mem_bits (inP_lt hT hl)).mpr h2, ?_⟩
    rw [List.getD_eq_getElem?_getD, h1]
    rfl
theorem unm_asc {P : List Int} (hP : ascI P) (hl : P.length ≤ 60) {T : Nat} (hT : InP P T) : ascI (unm P T) := by
  rw [ascI, List.pairwise_map]
  refine List.Pairwise.imp_of_mem (fun {a b} h1 h2 h => ?_) (bits_asc 60 T)
  have a1 := hT a ((mem_bits (inP_lt hT hl)).mp h1)
  have b1 := hT b ((mem_bits (inP_lt hT hl)).mp h2)
  have := List.pairwise_iff_getElem.mp hP _ _ a1 b1 h
  rw [List.getD_eq_getElem?_getD, List.getD_eq_getElem?_getD, List.getElem?_eq_getElem a1, List.getElem?_eq_getElem b1]
  exact this
theorem unm_msk {P m : List Int} (hP : ascI P) (hl : P.length ≤ 60) (hm : ascI m) (hin : ∀ x ∈ m, x ∈ P) : InP P (mskN P m) ∧ unm P (mskN P m) = m := by
  have hI : InP P (mskN P m) := fun i hi => by
    obtain ⟨x, h1, _⟩ := (msk_bit hP hm hin i).mp hi
    exact (List.getElem?_eq_some_iff.mp h1).1
  refine ⟨hI, asc_uniq (unm_asc hP hl hI) hm fun x => ?_⟩
  rw [unm_mem hP hl hI]
  constructor
  · rintro ⟨i, h1, h2⟩
    obtain ⟨y, h3, h4⟩ := (msk_bit hP hm hin i).mp h2
    rw [h1] at h3
    exact Option.some.inj h3 ▸ h4
  · intro hx
    exact ⟨_, fidx (hin x hx), (msk_bit hP hm hin _).mpr ⟨x, fidx (hin x hx), hx⟩⟩
theorem unm_inj {P : List Int} (hP : ascI P) (hl : P.length ≤ 60) {S T : Nat} (hS : InP P S) (hT : InP P T) (e : unm P S = unm P T) : S = T := by
  have one : ∀ {S T : Nat}, InP P S → InP P T → unm P S = unm P T → ∀ i, S.testBit i = true → T.testBit i = true := fun {S T} hS hT e i hi => by
    have hil : i < P.length := hS i hi
    have h1 : P[i]? = some P[i] := List.getElem?_eq_getElem hil
    have : P[i] ∈ unm P S := (unm_mem hP hl hS _).mpr ⟨i, h1, hi⟩
    rw [e, unm_mem hP hl hT] at this
    obtain ⟨j, h2, h3⟩ := this
    have e1 := fidx_at hP h1
    have e2 := fidx_at hP h2
    rw [e1] at e2
    exact e2 ▸ h3
  exact bit_ext fun i => ⟨one hS hT e i, one hT hS e.symm i⟩
/-- the least masks are the least sets -/
theorem min_iff {P : List Int} {W : List (List Int)} (hP : ascI P) (hl : P.length ≤ 60) (hW : ∀ s ∈ W, ascI s ∧ ∀ x ∈ s, x ∈ P) {T : Nat} (hT : InP P T) : MinM (W.map (mskN P)) T ↔ MinH W (unm P T) := by
  have bm : ∀ s ∈ W, ∀ i, (mskN P s).testBit i = true ↔ ∃ x, P[i]? = some x ∧ x ∈ s := fun s hs i => msk_bit hP (hW s hs).1 (hW s hs).2 i
  have um := unm_mem hP hl hT
  constructor
  · rintro ⟨h1, h2⟩
    refine ⟨unm_asc hP hl hT, fun s hs => ?_, fun x hx => ?_⟩
    · obtain ⟨i, k1, k2⟩ := h1 _ (List.mem_map.mpr ⟨s, hs, rfl⟩)
      obtain ⟨x, k3, k4⟩ := (bm s hs i).mp k1
      exact ⟨x, k4, (um x).mpr ⟨i, k3, k2⟩⟩
    · obtain ⟨i, k1, k2⟩ := (um x).mp hx
      obtain ⟨_, hm, k3, k4⟩ := h2 i k2
      obtain ⟨s, hs, rfl⟩ := List.mem_map.mp hm
      obtain ⟨y, k5, k6⟩ := (bm s hs i).mp k3
      rw [k1] at k5
      have hxy := Option.some.inj k5
      refine ⟨s, hs, hxy ▸ k6, fun z hz hzt => ?_⟩
      obtain ⟨j, k7, k8⟩ := (um z).mp hzt
      have e := k4 j ((bm s hs j).mpr ⟨z, k7, hz⟩) k8
      rw [e, k1] at k7
      exact (Option.some.inj k7).symm
  · intro h
    refine ⟨fun m hm => ?_, fun i hi => ?_⟩
    · obtain ⟨s, hs, rfl⟩ := List.mem_map.mp hm
      obtain ⟨x, k1, k2⟩ := h.hit s hs
      obtain ⟨i, k3, k4⟩ := (um x).mp k2
      exact ⟨i, (bm s hs i).mpr ⟨x, k3, k1⟩, k4⟩
    · have hil : i < P.length := hT i hi
      have hg : P[i]? = some P[i] := List.getElem?_eq_getElem hil
      obtain ⟨s, hs, k1, k2⟩ := h.priv P[i] ((um _).mpr ⟨i, hg, hi⟩)
      refine ⟨_, List.mem_map.mpr ⟨s, hs, rfl⟩, (bm s hs i).mpr ⟨_, hg, k1⟩, fun j hj hjt => ?_⟩
      obtain ⟨y, k3, k4⟩ := (bm s hs j).mp hj
      have e := k2 y k4 ((um y).mpr ⟨j, k3, hjt⟩)
      rw [e] at k3
      have e1 := fidx_at hP hg
      have e2 := fidx_at hP k3
      omega
theorem minM_in {P : List Int} {W : List (List Int)} (hP : ascI P) (hW : ∀ s ∈ W, ascI s ∧ ∀ x ∈ s, x ∈ P) {T : Nat} (h : MinM (W.map (mskN P)) T) : InP P T := fun i hi => by
  obtain ⟨_, hm, k3, _⟩ := h.2 i hi
  obtain ⟨s, hs, rfl⟩ := List.mem_map.mp hm
  obtain ⟨x, k, _⟩ := (msk_bit hP (hW s hs).1 (hW s hs).2 i).mp k3
  exact (List.getElem?_eq_some_iff.mp k).1
/-- sets in order from masks: they are the cuts -/
theorem cuts_of {P : List Int} {W C : List (List Int)} {fs : List Nat} (hP : ascI P) (hl : P.length ≤ 60) (hW : ∀ s ∈ W, ascI s ∧ ∀ x ∈ s, x ∈ P) (hf : ∀ T, T ∈ fs ↔ MinM (W.map (mskN P)) T) (hC : ∀ t, t ∈ C ↔ ∃ T ∈ fs, t = unm P T) (ord : C.Pairwise fun a b => lxI a b = true) : CutsOk W C := by
  refine ⟨fun t => (hC t).trans ⟨?_, fun h => ?_⟩, ord⟩
  · rintro ⟨T, hT, rfl⟩
    have := (hf T).mp hT
    exact (min_iff hP hl hW (minM_in hP hW this)).mp this
  · have hin : ∀ x ∈ t, x ∈ P := fun x hx => by
      obtain ⟨s, hs, k, _⟩ := h.priv x hx
      exact (hW s hs).2 x k
    obtain ⟨u1, u2⟩ := unm_msk hP hl h.asc hin
    refine ⟨mskN P t, (hf _).mpr ((min_iff hP hl hW u1).mpr (by rw [u2]; exact h)), u2.symm⟩
/-- places in order: sets in order -/
theorem lx_places {P : List Int} (hP : ascI P) : ∀ {a b : List Nat}, (∀ i ∈ a, i < P.length) → (∀ i ∈ b, i < P.length) → lxI (a.map fun i => P.getD i 0) (b.map fun i => P.getD i 0) = lxI (a.map fun i : Nat => (i : Int)) (b.map fun i : Nat => (i : Int))
  | _, [], _, _ => by simp [lxI]
  | [], _ :: _, _, _ => rfl
  | i :: a, j :: b, ha, hb => by
    have hi := ha i (by simp)
    have hj := hb j (by simp)
    have ih := lx_places hP (a := a) (b := b) (fun k hk => ha k (by simp [hk])) fun k hk => hb k (by simp [hk])
    have ei : P.getD i 0 = P[i] := by
      rw [List.getD_eq_getElem?_getD, List.getElem?_eq_getElem hi]
      rfl
    have ej : P.getD j 0 = P[j] := by
      rw [List.getD_eq_getElem?_getD, List.getElem?_eq_getElem hj]
      rfl
    rw [List.map_cons, List.map_cons, List.map_cons, List.map_cons, lxI, lxI, ih, ei, ej]
    rcases Nat.lt_trichotomy i j with l | l | l
    · have := List.pairwise_iff_getElem.mp hP _ _ hi hj l
      rw [if_neg (by omega), if_neg (by omega), decide_eq_true this, decide_eq_true (by omega)]
    · subst l
      rw [if_pos rfl, if_pos rfl]
    · have := List.pairwise_iff_getElem.mp hP _ _ hj hi l
      rw [if_neg (by omega), if_neg (by omega), decide_eq_false (by omega), decide_eq_false (by omega)]
/-! ### the first one of the shortest -/
def flo : Option (List Int) → List (List Int) → Option (List Int)
  | b, [] => b
  | none, c :: r => flo (some c) r
  | some b, c :: r => if c.length < b.length then flo (some c) r else flo (some b) r
theorem flo_some : ∀ (r : List (List Int)) (b : List Int), ∃ l1 t l2, b :: r = l1 ++ t :: l2 ∧ flo (some b) r = some t ∧ (∀ x ∈ l1, t.length < x.length) ∧ ∀ x ∈ l2, t.length ≤ x.length
  | [], b => ⟨[], b, [], rfl, rfl, nofun, nofun⟩
  | c :: r, b => by
    rw [flo]
    by_cases h : c.length < b.length
    · rw [if_pos h]
      obtain ⟨l1, t, l2, e, e2, h1, h2⟩ := flo_some r c
      refine ⟨b :: l1, t, l2, by rw [e]; rfl, e2, fun x hx => ?_, h2⟩
      rcases List.mem_cons.mp hx with rfl | hx
      · have : t.length ≤ c.length := by
          cases l1 with
          | nil =>
            injection e with e3 _
            rw [e3]
            exact Nat.le_refl _
          | cons y l1 =>
            injection e with e3 _
            have := h1 y (by simp)
            rw [e3]
            omega
        omega
      · exact h1 x hx
    · rw [if_neg h]
      obtain ⟨l1, t, l2, e, e2, h1, h2⟩ := flo_some r b
      cases l1 with
      | nil =>
        injection e with e3 e4
        refine ⟨[], t, c :: l2, by rw [e3, ← e4]; rfl, e2, nofun, fun x hx => ?_⟩
        rcases List.mem_cons.mp hx with rfl | hx
        · rw [← e3]
          omega
        · exact h2 x hx
      | cons y l1 =>
        injection e with e3 e4
        subst e3
        refine ⟨b :: c :: l1, t, l2, by rw [e4]; rfl, e2, fun x hx => ?_, h2⟩
        have hb := h1 b (by simp)
        rcases List.mem_cons.mp hx with rfl | hx
        · exact hb
        · rcases List.mem_cons.mp hx with rfl | hx
          · omega
          · exact h1 x (by simp [hx])
/-! ### the law's own cuts, plain -/
theorem minM_within {ks : List Nat} : ∀ (k : Nat), k < 2 ^ 60 → HitM ks k → ∃ T, MinM ks T ∧ ∀ i, T.testBit i = true → k.testBit i = true := by
  intro k
  induction k using Nat.strongRecOn with
  | ind k ih =>
    intro hk hh
    by_cases p : PrivM ks k
    · exact ⟨k, ⟨hh, p⟩, fun i h => h⟩
    · have ⟨i, hi, hn⟩ : ∃ i, k.testBit i = true ∧ ∀ s ∈ ks, s.testBit i = true → ∃ j, s.testBit j = true ∧ k.testBit j = true ∧ j ≠ i :=
        Classical.byContradiction fun z => p fun i hi => Classical.byContradiction fun y => z ⟨i, hi, fun s hs hsi => Classical.byContradiction fun w => y ⟨s, hs, hsi, fun j h1 h2 => Classical.byContradiction fun q => w ⟨j, h1, h2, q⟩⟩⟩
      have hlt : k ^^^ 2 ^ i < k := by
        have := xor_add hk hi
        have := Nat.two_pow_pos i
        omega
      obtain ⟨T, h1, h2⟩ := ih _ hlt (xor_lt hk hi) fun s hs => by
        obtain ⟨j, j1, j2⟩ := hh s hs
        by_cases c : j = i
        · obtain ⟨m, m1, m2, m3⟩ := hn s hs (c ▸ j1)
          exact ⟨m, m1, (xor_bit m hi).mpr ⟨m2, m3⟩⟩
        · exact ⟨j, j1, (xor_bit j hi).mpr ⟨j2, c⟩⟩
      exact ⟨T, h1, fun j hj => ((xor_bit j hi).mp (h2 j hj)).1⟩
theorem sub_bit {a b : Nat} : b &&& a = a ↔ ∀ i, a.testBit i = true → b.testBit i = true := by
  constructor
  · intro e i hi
    rw [← e, Nat.testBit_and, Bool.and_eq_true] at hi
    exact hi.1
  · intro h
    refine bit_ext fun i => ?_
    rw [Nat.testBit_and, Bool.and_eq_true]
    exact ⟨fun z => z.2, fun z => ⟨h i z, z⟩⟩
/-- minimal ones below k -/
def LmOk (ks : List Nat) (k : Nat) (ms : List Nat) : Prop := (∀ m, m ∈ ms ↔ m < k ∧ MinM ks m) ∧ ms.Nodup ∧ ms.length ≤ k
theorem LmOk.add {ks ms : List Nat} {k : Nat} (h : LmOk ks k ms) (hk : k < 2 ^ 60) (no : ∀ m ∈ ms, ¬ k &&& m = m) (hh : HitM ks k) : LmOk ks (k + 1) (ms ++ [k]) := by
  have hm : MinM ks k := by
    obtain ⟨T, h1, h2⟩ := minM_within k hk hh
    have hs := sub_bit.mpr h2
    rcases Nat.lt_or_ge T k with l | l
    · exact absurd hs (no T ((h.1 T).mpr ⟨l, h1⟩))
    · have : T ≤ k := by
        rw [← hs]
        exact Nat.and_le_left
      have e : T = k := by omega
      exact e ▸ h1
  refine ⟨fun m => ?_, ?_, ?_⟩
  · rw [List.mem_append, List.mem_singleton, h.1 m]
    constructor
    · rintro (⟨h1, h2⟩ | rfl)
      · exact ⟨by omega, h2⟩
      · exact ⟨by omega, hm⟩
    · rintro ⟨h1, h2⟩
      by_cases c : m = k
      · exact .inr c
      · exact .inl ⟨by omega, h2⟩
  · rw [List.nodup_append]
    exact ⟨h.2.1, by simp, fun x hx y hy e => by
      have := ((h.1 x).mp hx).1
      rw [List.mem_singleton.mp hy] at e
      omega⟩
  · rw [List.length_append, List.length_singleton]
    have := h.2.2
    omega
theorem LmOk.skip {ks ms : List Nat} {k : Nat} (h : LmOk ks k ms) (no : (∃ m ∈ ms, k &&& m = m) ∨ ¬ HitM ks k) : LmOk ks (k + 1) ms := by
  have hn : ¬ MinM ks k := fun z => by
    rcases no with ⟨m, hm, e⟩ | no
    · obtain ⟨m1, m2⟩ := (h.1 m).mp hm
      have hs := sub_bit.mp e
      have : m = k := bit_ext fun i => ⟨hs i, fun hi => by
        obtain ⟨s, k1, k2, k3⟩ := z.2 i hi
        obtain ⟨j, j1, j2⟩ := m2.1 s k1
        have := k3 j j1 (hs j j2)
        exact this ▸ j2⟩
      omega
    · exact no z.1
  refine ⟨fun m => ?_, h.2.1, by have := h.2.2; omega⟩
  rw [h.1 m]
  constructor
  · rintro ⟨h1, h2⟩
    exact ⟨by omega, h2⟩
  · rintro ⟨h1, h2⟩
    have : m ≠ k := fun e => hn (e ▸ h2)
    exact ⟨by omega, h2⟩
/-! ### pairs, plain -/
def insI (c : List Int) (x : Int) : List Int := (c.filter fun y => decide (y < x)) ++ x :: c.filter fun y => decide (x < y)
theorem insI_asc {c : List Int} (h : ascI c) (x : Int) : ascI (insI c x) := by
  refine List.pairwise_append.mpr ⟨h.sublist List.filter_sublist, List.pairwise_cons.mpr ⟨fun y hy => of_decide_eq_true (List.mem_filter.mp hy).2, h.sublist List.filter_sublist⟩, fun a ha b hb => ?_⟩
  have h1 := of_decide_eq_true (List.mem_filter.mp ha).2
  rcases List.mem_cons.mp hb with rfl | hb
  · exact h1
  · have := of_decide_eq_true (List.mem_filter.mp hb).2
    omega
theorem insI_mem {c : List Int} {x y : Int} : y ∈ insI c x ↔ y = x ∨ y ∈ c := by
  unfold insI
  rw [List.mem_append, List.mem_cons, List.mem_filter, List.mem_filter, decide_eq_true_iff, decide_eq_true_iff]
  constructor
  · rintro (h | h | h)
    · exact .inr h.1
    · exact .inl h
    · exact .inr h.1
  · rintro (h | h)
    · exact .inr (.inl h)
    · rcases Int.lt_trichotomy y x with l | l | l
      · exact .inl ⟨h, l⟩
      · exact .inr (.inl l)
      · exact .inr (.inr ⟨h, l⟩)
/-- one more pair, of new numbers -/
theorem min_pair {ps : List (List Int)} {a b : Int} (hab : a ≠ b) (hn : ∀ s ∈ ps, a ∉ s ∧ b ∉ s) (t' : List Int) : MinH (ps ++ [[a, b]]) t' ↔ ∃ t, MinH ps t ∧ (t' = insI t a ∨ t' = insI t b) := by
  have inps : ∀ {s : List Int}, s ∈ ps ++ [[a, b]] ↔ s ∈ ps ∨ s = [a, b] := fun {s} => by rw [List.mem_append, List.mem_singleton]
  constructor
  · intro m
    have key : ∀ x y : Int, x ∈ t' → (x = a ∧ y = b ∨ x = b ∧ y = a) → y ∉ t' := fun x y hx hxy hy => by
      obtain ⟨s, hs, h1, h2⟩ := m.priv x hx
      have hs2 : s = [a, b] := by
        rcases inps.mp hs with z | z
        · rcases hxy with ⟨rfl, rfl⟩ | ⟨rfl, rfl⟩
          · exact absurd h1 (hn s z).1
          · exact absurd h1 (hn s z).2
        · exact z
      have hys : y ∈ s := by
        rw [hs2]
        rcases hxy with ⟨rfl, rfl⟩ | ⟨rfl, rfl⟩ <;> simp
      have := h2 y hys hy
      rcases hxy with ⟨rfl, rfl⟩ | ⟨rfl, rfl⟩
      · exact hab this.symm
      · exact hab this
    have ft : ∀ x, x ∈ (t'.filter fun x => decide (x ≠ a ∧ x ≠ b)) ↔ x ∈ t' ∧ x ≠ a ∧ x ≠ b := fun x => by rw [List.mem_filter, decide_eq_true_iff]
    have hmin : MinH ps (t'.filter fun x => decide (x ≠ a ∧ x ≠ b)) := by
      refine ⟨m.asc.sublist List.filter_sublist, fun s hs => ?_, fun x hx => ?_⟩
      · obtain ⟨x, h1, h2⟩ := m.hit s (inps.mpr (.inl hs))
        exact ⟨x, h1, (ft x).mpr ⟨h2, fun e => (hn s hs).1 (e ▸ h1), fun e => (hn s hs).2 (e ▸ h1)⟩⟩
      · obtain ⟨h1, h2, h3⟩ := (ft x).mp hx
        obtain ⟨s, hs, k1, k2⟩ := m.priv x h1
        rcases inps.mp hs with z | z
        · exact ⟨s, z, k1, fun y hy hyt => k2 y hy ((ft y).mp hyt).1⟩
        · rw [z] at k1
          simp at k1
          exact absurd k1 (by rintro (e | e); exact h2 e; exact h3 e)
    have hin := m.hit [a, b] (inps.mpr (.inr rfl))
    have fin : ∀ x y : Int, x ∈ t' → (x = a ∧ y = b ∨ x = b ∧ y = a) → t' = insI (t'.filter fun x => decide (x ≠ a ∧ x ≠ b)) x := fun x y hx hxy => asc_uniq m.asc (insI_asc hmin.asc x) fun z => by
      rw [insI_mem, ft]
      have hy := key x y hx hxy
      constructor
      · intro hz
        by_cases c : z = x
        · exact .inl c
        · refine .inr ⟨hz, fun e => ?_, fun e => ?_⟩
          · rcases hxy with ⟨h1, h2⟩ | ⟨h1, h2⟩
            · exact c (e.trans h1.symm)
            · exact hy (by rw [h2, ← e]; exact hz)
          · rcases hxy with ⟨h1, h2⟩ | ⟨h1, h2⟩
            · exact hy (by rw [h2, ← e]; exact hz)
            · exact c (e.trans h1.symm)
      · rintro (rfl | h)
        · exact hx
        · exact h.1
    obtain ⟨x, h1, h2⟩ := hin
    refine ⟨_, hmin, ?_⟩
    simp at h1
    rcases h1 with rfl | rfl
    · exact .inl (fin x b h2 (.inl ⟨rfl, rfl⟩))
    · exact .inr (fin x a h2 (.inr ⟨rfl, rfl⟩))
  · rintro ⟨t, m, ht⟩
    have off : ∀ x ∈ t, x ≠ a ∧ x ≠ b := fun x hx => by
      obtain ⟨s, hs, k1, _⟩ := m.priv x hx
      exact ⟨fun e => (hn s hs).1 (e ▸ k1), fun e => (hn s hs).2 (e ▸ k1)⟩
    have fin : ∀ x y : Int, (x = a ∧ y = b ∨ x = b ∧ y = a) → MinH (ps ++ [[a, b]]) (insI t x) := fun x y hxy => by
      have hxab : x ∈ [a, b] := by rcases hxy with ⟨rfl, rfl⟩ | ⟨rfl, rfl⟩ <;> simp
      refine ⟨insI_asc m.asc x, fun s hs => ?_, fun z hz => ?_⟩
      · rcases inps.mp hs with h | rfl
        · obtain ⟨v, h1, h2⟩ := m.hit s h
          exact ⟨v, h1, insI_mem.mpr (.inr h2)⟩
        · exact ⟨x, hxab, insI_mem.mpr (.inl rfl)⟩
      · rcases insI_mem.mp hz with rfl | hz
        · refine ⟨[a, b], inps.mpr (.inr rfl), hxab, fun v hv hvt => ?_⟩
          rcases insI_mem.mp hvt with h | h
          · exact h
          · have := off v h
            simp at hv
            rcases hv with e | e
            · exact absurd e this.1
            · exact absurd e this.2
        · obtain ⟨s, hs, k1, k2⟩ := m.priv z hz
          refine ⟨s, inps.mpr (.inl hs), k1, fun v hv hvt => ?_⟩
          rcases insI_mem.mp hvt with h | h
          · rcases hxy with ⟨h1, _⟩ | ⟨h1, _⟩
            · exact absurd (h.trans h1 ▸ hv) (hn s hs).1
            · exact absurd (h.trans h1 ▸ hv) (hn s hs).2
          · exact k2 v hv h
    rcases ht with rfl | rfl
    · exact fin a b (.inl ⟨rfl, rfl⟩)
    · exact fin b a (.inr ⟨rfl, rfl⟩)
theorem insI_inj {c c' : List Int} {x y : Int} (hc : ascI c) (hc' : ascI c') (h1 : x ∉ c ∧ y ∉ c) (h2 : x ∉ c' ∧ y ∉ c') (e : insI c x = insI c' y) : c = c' ∧ x = y := by
  have m : ∀ z, z ∈ insI c x ↔ z ∈ insI c' y := fun z => by rw [e]
  have hxy : x = y := by
    rcases insI_mem.mp ((m x).mp (insI_mem.mpr (.inl rfl))) with z | z
    · exact z
    · exact absurd z h2.1
  subst hxy
  refine ⟨asc_uniq hc hc' fun z => ?_, rfl⟩
  have := m z
  rw [insI_mem, insI_mem] at this
  constructor
  · intro hz
    rcases this.mp (.inr hz) with q | q
    · exact absurd (q ▸ hz) h1.1
    · exact q
  · intro hz
    rcases this.mpr (.inr hz) with q | q
    · exact absurd (q ▸ hz) h2.1
    · exact q
/-- pairs, and all cuts of them so far -/
structure PairInv (ps F : List (List Int)) : Prop where
  asc : ∀ s ∈ ps, ascI s
  nd : F.Nodup
  mem : ∀ t, t ∈ F ↔ MinH ps t
theorem PairInv.start : PairInv [] [[]] := ⟨nofun, by simp, fun t => by
  rw [List.mem_singleton]
  constructor
  · rintro rfl
    exact ⟨.nil, nofun, nofun⟩
  · intro m
    cases t with
    | nil => rfl
    | cons x t =>
      obtain ⟨_, hs, _⟩ := m.priv x (by simp)
      cases hs⟩
theorem PairInv.off {ps F : List (List Int)} (h : PairInv ps F) {a b : Int} (hn : ∀ s ∈ ps, a ∉ s ∧ b ∉ s) : ∀ c ∈ F, a ∉ c ∧ b ∉ c := fun c hc => by
  have m := (h.mem c).mp hc
  refine ⟨fun z => ?_, fun z => ?_⟩
  · obtain ⟨s, hs, k, _⟩ := m.priv a z
    exact (hn s hs).1 k
  · obtain ⟨s, hs, k, _⟩ := m.priv b z
    exact (hn s hs).2 k
theorem PairInv.step {ps F : List (List Int)} (h : PairInv ps F) {a b : Int} (hab : a < b) (hn : ∀ s ∈ ps, a ∉ s ∧ b ∉ s) : PairInv (ps ++ [[a, b]]) (F.flatMap fun c => [insI c a, insI c b]) := by
  have off := h.off hn
  have asc : ∀ c ∈ F, ascI c := fun c hc => ((h.mem c).mp hc).asc
  refine ⟨fun s hs => ?_, ?_, fun t => ?_⟩
  · rcases List.mem_append.mp hs with hs | hs
    · exact h.asc s hs
    · rw [List.mem_singleton.mp hs]
      simp [ascI, hab]
  · unfold List.Nodup
    rw [List.pairwise_flatMap]
    refine ⟨fun c hc => ?_, ?_⟩
    · refine List.pairwise_cons.mpr ⟨fun z hz e => ?_, List.pairwise_singleton _ _⟩
      rw [List.mem_singleton.mp hz] at e
      have := (insI_inj (asc c hc) (asc c hc) (off c hc) (off c hc) e).2
      omega
    · refine List.Pairwise.imp_of_mem (fun {c d} hc hd hne => ?_) h.nd
      intro x hx y hy e
      simp at hx hy
      have oc := off c hc
      have od := off d hd
      rcases hx with rfl | rfl <;> rcases hy with rfl | rfl
      · exact hne (insI_inj (asc c hc) (asc d hd) ⟨oc.1, oc.1⟩ ⟨od.1, od.1⟩ e).1
      · exact hne (insI_inj (asc c hc) (asc d hd) oc od e).1
      · exact hne (insI_inj (asc c hc) (asc d hd) ⟨oc.2, oc.1⟩ ⟨od.2, od.1⟩ e).1
      · exact hne (insI_inj (asc c hc) (asc d hd) ⟨oc.2, oc.2⟩ ⟨od.2, od.2⟩ e).1
  · rw [min_pair (by omega) hn, List.mem_flatMap]
    constructor
    · rintro ⟨c, hc, hx⟩
      simp at hx
      exact ⟨c, (h.mem c).mp hc, hx⟩
    · rintro ⟨c, hc, hx⟩
      exact ⟨c, (h.mem c).mpr hc, by simp; exact hx⟩
theorem min_perm {W V : List (List Int)} (h : ∀ s, s ∈ W ↔ s ∈ V) {t : List Int} (m : MinH W t) : MinH V t :=
  ⟨m.asc, fun s hs => m.hit s ((h s).mpr hs), fun x hx => let ⟨s, hs, k⟩ := m.priv x hx; ⟨s, (h s).mp hs, k⟩⟩
abbrev inD (l : List Nat) : D := .lst (l.map fun i : Nat => D.int i)
/-! ### sets of whole numbers as tuples -/
abbrev tI (m : List Int) : D := .tup (m.map D.int)
abbrev tW (W : List (List Int)) : D := .tup (W.map tI)
abbrev lI (m : List Int) : D := .lst (m.map D.int)
theorem lx_core : ∀ a b : List Int, PyProof.Rows.lexLt PyProof.Rows.itemOrd (PySem.W.keyToksAll (D.pys (a.map D.int))) (PySem.W.keyToksAll (D.pys (b.map D.int))) = lxI a b
  | [], [] => rfl
  | [], _ :: _ => rfl
  | _ :: _, [] => rfl
  | x :: a, y :: b => by
    rw [List.map_cons, List.map_cons, D.pys, D.pys, D.py, D.py, PySem.W.dataLt_cons (by simp [PySem.W.alike]), lx_core a b, PySem.W.dataLt_int, lxI]
    have e : ((PyData.int x).eqv (.int y) = true) = (x = y) := by simp [PyData.eqv]
    simp only [e]
theorem dlt_tI (a b : List Int) : dlt (tI a) (tI b) = lxI a b := by
  show PySem.W.dataLt (D.py (.tup _)) (D.py (.tup _)) = _
  rw [D.py, D.py, PySem.W.dataLt_tuple]
  exact lx_core a b
theorem dlt_lI (a b : List Int) : dlt (lI a) (lI b) = lxI a b := by
  show PySem.W.dataLt (D.py (.lst _)) (D.py (.lst _)) = _
  rw [D.py, D.py, PySem.W.dataLt_list]
  exact lx_core a b
theorem ints_alike : ∀ a b : List Int, PySem.W.alikeAll (D.pys (a.map D.int)) (D.pys (b.map D.int)) = true
  | [], _ => by simp [D.pys, PySem.W.alikeAll]
  | _ :: _, [] => by simp [D.pys, PySem.W.alikeAll]
  | x :: a, y :: b => by
    simp only [List.map_cons, D.pys, PySem.W.alikeAll, Bool.and_eq_true]
    exact ⟨by simp [D.py, PySem.W.alike], ints_alike a b⟩
theorem tI_sortO (w : List (List Int)) : (w.map tI).all (dOk 32) = true ∧ PySem.W.AllAlike ((w.map tI).map D.py) ∧ SortOk ((w.map tI).map D.py) := by
  refine ⟨?_, fun d hd d' hd' => ?_, .inr fun d hd => ?_⟩
  · rw [List.all_map]
    refine List.all_eq_true.mpr fun l _ => ?_
    show dOk 32 (.tup _) = true
    simp [dOk_tup, List.all_map]
  · rw [List.map_map] at hd hd'
    obtain ⟨r, _, rfl⟩ := List.mem_map.mp hd
    obtain ⟨s, _, rfl⟩ := List.mem_map.mp hd'
    show PySem.W.alike (D.py (tI r)) (D.py (tI s)) = true
    rw [D.py, D.py, PySem.W.alike]
    exact ints_alike r s
  · rw [List.map_map] at hd
    obtain ⟨r, _, rfl⟩ := List.mem_map.mp hd
    exact ⟨_, by show D.py (tI r) = _; rw [D.py]⟩
theorem lI_sortO (w : List (List Int)) : (w.map lI).all (dOk 32) = true ∧ PySem.W.AllAlike ((w.map lI).map D.py) ∧ SortOk ((w.map lI).map D.py) := by
  refine ⟨?_, fun d hd d' hd' => ?_, .inl (.inr fun d hd => ?_)⟩
  · rw [List.all_map]
    refine List.all_eq_true.mpr fun l _ => ?_
    show dOk 32 (.lst _) = true
    simp [dOk_lst, List.all_map]
  · rw [List.map_map] at hd hd'
    obtain ⟨r, _, rfl⟩ := List.mem_map.mp hd
    obtain ⟨s, _, rfl⟩ := List.mem_map.mp hd'
    show PySem.W.alike (D.py (lI r)) (D.py (lI s)) = true
    rw [D.py, D.py, PySem.W.alike]
    exact ints_alike r s
  · rw [List.map_map] at hd
    obtain ⟨r, _, rfl⟩ := List.mem_map.mp hd
    show D.py (lI r) ≠ _ ∧ ∀ xs, D.py (lI r) ≠ _
    rw [D.py]
    exact ⟨nofun, fun xs => nofun⟩
theorem i_sortO (w : List Int) : (w.map D.int).all (dOk 32) = true ∧ PySem.W.AllAlike ((w.map D.int).map D.py) ∧ SortOk ((w.map D.int).map D.py) := by
  have each : ∀ d ∈ (w.map D.int).map D.py, ∃ i : Int, d = .int i := fun d hd => by
    rw [List.map_map] at hd
    obtain ⟨i, _, rfl⟩ := List.mem_map.mp hd
    exact ⟨i, rfl⟩
  refine ⟨?_, fun d hd d' hd' => ?_, .inl (.inr fun d hd => ?_)⟩
  · rw [List.all_map]
    exact List.all_eq_true.mpr fun i _ => by simp
  · obtain ⟨i, rfl⟩ := each d hd
    obtain ⟨j, rfl⟩ := each d' hd'
    simp [PySem.W.alike]
  · obtain ⟨i, rfl⟩ := each d hd
    exact ⟨(fun z => by cases z), fun xs z => by cases z⟩
theorem sort_i (ns : List Int) : ∃ ks : List Int, srtD (ns.map D.int) = ks.map D.int ∧ ks.Perm ns ∧ ks.Pairwise (· ≤ ·) := by
  obtain ⟨ks, e, p⟩ := perm_map D.int (xs := ns) (srtD_perm (ns.map D.int))
  refine ⟨ks, e, p, ?_⟩
  have z := sort_pair (fun x => x) (ns.map D.int)
  have e2 : ((ns.map D.int).mergeSort (PySem.W.dataLe false fun x => D.py x)) = ks.map D.int := e
  rw [e2, List.pairwise_map] at z
  refine z.imp fun {a b} h => ?_
  have e3 : dlt (.int b) (.int a) = decide (b < a) := PySem.W.dataLt_int _ _
  rw [e3, decide_eq_false_iff_not] at h
  omega
theorem sort_asc {ns : List Int} (hn : ns.Nodup) : ∃ ks : List Int, srtD (ns.map D.int) = ks.map D.int ∧ ks.Perm ns ∧ ascI ks := by
  obtain ⟨ks, e, p, s⟩ := sort_i ns
  refine ⟨ks, e, p, (s.and (p.nodup_iff.mpr hn)).imp fun {a b} ⟨h1, h2⟩ => ?_⟩
  omega
/-- sets in order, each once -/
theorem sort_tI {L : List (List Int)} (hn : L.Nodup) : ∃ C : List (List Int), srtD (L.map tI) = C.map tI ∧ C.Perm L ∧ C.Pairwise fun a b => lxI a b = true := by
  obtain ⟨C, e, p⟩ := perm_map tI (xs := L) (srtD_perm (L.map tI))
  refine ⟨C, e, p, ?_⟩
  have z := sort_pair (fun x => x) (L.map tI)
  have e2 : ((L.map tI).mergeSort (PySem.W.dataLe false fun x => D.py x)) = C.map tI := e
  rw [e2, List.pairwise_map] at z
  refine (z.and (p.nodup_iff.mpr hn)).imp fun {a b} ⟨h1, h2⟩ => ?_
  rw [dlt_tI] at h1
  cases c : lxI a b with
  | true => rfl
  | false => exact absurd (lxI_tri c h1) h2
theorem sort_lI {L : List (List Int)} (hn : L.Nodup) : ∃ C : List (List Int), srtD (L.map lI) = C.map lI ∧ C.Perm L ∧ C.Pairwise fun a b => lxI a b = true := by
  obtain ⟨C, e, p⟩ := perm_map lI (xs := L) (srtD_perm (L.map lI))
  refine ⟨C, e, p, ?_⟩
  have z := sort_pair (fun x => x) (L.map lI)
  have e2 : ((L.map lI).mergeSort (PySem.W.dataLe false fun x => D.py x)) = C.map lI := e
  rw [e2, List.pairwise_map] at z
  refine (z.and (p.nodup_iff.mpr hn)).imp fun {a b} ⟨h1, h2⟩ => ?_
  rw [dlt_lI] at h1
  cases c : lxI a b with
  | true => rfl
  | false => exact absurd (lxI_tri c h1) h2
theorem items_tI {m : List Int} {M : DM} : dItems (tI m) M = some (m.map D.int) := rfl
theorem items_tW {W : List (List Int)} {M : DM} : dItems (tW W) M = some (W.map tI) := rfl
/-- the keys of dicts of parts -/
abbrev kiD (K : List Int) : List (D × D) := K.map fun k => (D.int k, D.bl true)
theorem nk_int (a b : Int) : (nk (D.int a) = nk (D.int b)) ↔ a = b := by simp [nk]
theorem ki_has (K : List Int) (k : Int) : dhas (kiD K) (.int k) = decide (k ∈ K) := by
  unfold dhas
  induction K with
  | nil => rfl
  | cons x K ih =>
    rw [show kiD (x :: K) = (D.int x, D.bl true) :: kiD K from rfl, List.any_cons, ih, Bool.eq_iff_iff]
    simp only [nk_int, Bool.or_eq_true, decide_eq_true_eq, List.mem_cons]
    exact ⟨fun h => h.imp Eq.symm id, fun h => h.imp Eq.symm id⟩
theorem ki_put (K : List Int) (k : Int) (hn : K.Nodup) : ∃ K', dput (kiD K) (.int k) (.bl true) = kiD K' ∧ K'.Nodup ∧ ∀ x, x ∈ K' ↔ x ∈ K ∨ x = k := by
  by_cases h : k ∈ K
  · refine ⟨K, ?_, hn, fun x => ⟨.inl, fun z => z.elim id fun e => e ▸ h⟩⟩
    unfold dput
    rw [if_pos (by rw [ki_has]; exact decide_eq_true h), List.map_map]
    refine List.map_congr_left fun x _ => ?_
    show (if nk (D.int x) = nk (D.int k) then (D.int x, D.bl true) else (D.int x, D.bl true)) = _
    split <;> rfl
  · refine ⟨K ++ [k], ?_, ?_, fun x => by simp⟩
    · rw [dput_new (by rw [ki_has]; exact decide_eq_false h)]
      show _ = (K ++ [k]).map _
      rw [List.map_append]
      rfl
    · rw [List.nodup_append]
      exact ⟨hn, by simp, fun x hx y hy e => h (by rw [List.mem_singleton.mp hy] at e; exact e ▸ hx)⟩
abbrev sp_mask_size : DSp := ar1 fun a M Q => ∃ n : Nat, a = .int (n : Nat) ∧ n < 2 ^ 60 ∧ Q (.int (pc n : Nat)) M
theorem ok_mask_size (F : Def K mg "mask_size" s_mask_size ["mask"]) (B : Bi K mg) (I : Im mg)  : Cal P w K mg base 1 "mask_size" ["mask"] sp_mask_size := by
  have sc := sc_mask_size
  refine F.cal sc (fun ds M Q h => len1 h) (fun f cdv A outer s H E hr => (ds_cons (ds_set (i := 1) sc.nd rfl (Or.inl rfl) (d_fmtB (d_v 0)))
    (ds_one (ds_ret (d_count (d_v 1) (da_cons d_str da_nil)))))) (fun ds M Q h => ?_)
  obtain ⟨a, rfl, n, rfl, hn, h⟩ := h
  walk_at "st"
  refine ⟨n, rfl, ?_, ?_⟩
  · exact Nat.lt_of_lt_of_le hn (Nat.pow_le_pow_right (by decide) (by omega))
  have e : Txt.count (binS n) (Str.ofString "1") = (pc n : Int) := binS_count n
  rw [e]
  exact ret_of h
abbrev sp_places_of : DSp := ar1 fun a M Q => ∃ n : Nat, a = .int (n : Nat) ∧ n < 2 ^ 60 ∧ Q (inD (bitsL 60 n)) M
theorem ok_places_of (F : Def K mg "places_of" s_places_of ["mask"]) (B : Bi K mg) (I : Im mg)  : Cal P w K mg base 1 "places_of" ["mask"] sp_places_of := by
  have sc := sc_places_of
  refine F.cal sc (fun ds M Q h => len1 h) (fun f cdv A outer s H E hr => (ds_cons (ds_set (i := 1) sc.nd rfl (Or.inl rfl) (d_lst da_nil))
    (ds_cons (ds_while PassesOwn.never (dt_cmp o_gt (d_v 0) d_int (nomark _))
    (ds_cons (ds_set (i := 2) sc.nd rfl (Or.inl rfl) (d_op o_and (d_v 0) (d_neg (d_v 0))))
    (ds_cons (ds_expr (d_mt PySem.F.slot_list_append PySem.F.type_list_append m_append (d_v 1) (da_cons (d_op o_sub (d_bits (d_v 2)) d_int) da_nil)))
    (ds_one (ds_set (i := 0) sc.nd rfl (Or.inl rfl) (d_op o_xor (d_v 0) (d_v 2)))))))
    (ds_one (ds_ret (d_fz (d_v 1))))))) (fun ds M Q h => ?_)
  obtain ⟨a, rfl, n, rfl, hn, h⟩ := h
  walk_at "st"
  intro p hp
  walk_at "st"
  refine ⟨fun j m1 M1 => ∃ (c : Nat) (x2 : Option D), j = n / 2 ^ c ∧ M1 = mput M p (.lst ((bitsL c n).map fun i : Nat => D.int (i : Nat))) ∧ m1 = [some (.int ((2 ^ c * (n / 2 ^ c) : Nat) : Int)), some (.ref p), x2], ⟨n, 0, _, by simp, rfl, by simp; rfl⟩, ?_⟩
  rintro j m1 M1 ⟨c, x2, rfl, rfl, rfl⟩
  walk_at "rd"
  by_cases hq : n / 2 ^ c = 0
  · rw [if_neg (by rw [hq, Nat.mul_zero]; exact Int.lt_irrefl 0)]
    refine ⟨_, rfl, ?_⟩
    rw [mdel_mput hp]
    have hc : n < 2 ^ c := by
      rcases Nat.lt_or_ge n (2 ^ c) with z | z
      · exact z
      · have := Nat.div_pos z (Nat.two_pow_pos c)
        omega
    rw [bits_any hc hn]
    exact ret_of h
  · have hpos : 0 < 2 ^ c * (n / 2 ^ c) := Nat.mul_pos (Nat.two_pow_pos c) (Nat.pos_of_ne_zero hq)
    rw [if_pos (Int.natCast_pos.mpr hpos)]
    obtain ⟨k, a, hk⟩ := low_of (n / 2 ^ c) (Nat.pos_of_ne_zero hq)
    obtain ⟨hb, ha⟩ := bits_step hk
    have em : ((2 ^ c * (n / 2 ^ c) : Nat) : Int) = 2 ^ (c + k) * (2 * (a : Int) + 1) := by
      rw [hk, ← Nat.mul_assoc, ← Nat.pow_add]
      push_cast
      rfl
    have elow : Builtin.bitAnd ((2 ^ c * (n / 2 ^ c) : Nat) : Int) (-((2 ^ c * (n / 2 ^ c) : Nat) : Int)) = 2 ^ (c + k) := by
      rw [em]
      exact PySem.W.kbt_low _ _
    rw [elow, xor_low em, bits_pow]
    refine ⟨⟨_, rfl⟩, _, rfl, ?_, ?_⟩
    · rw [List.length_map]
      have h1 : (bitsL c n).length ≤ (bitsL 60 n).length := by
        rcases Nat.le_total c 60 with z | z
        · exact (List.Sublist.filter _ (List.range_sublist.mpr z)).length_le
        · obtain ⟨e, rfl⟩ := Nat.exists_eq_add_of_le z
          rw [show bitsL (60 + e) n = bitsL 60 n from range_filter_ge fun i hi => Nat.testBit_lt_two_pow (Nat.lt_of_lt_of_le hn (Nat.pow_le_pow_right (by decide) hi))]
          exact Nat.le_refl _
      have h2 : (bitsL 60 n).length ≤ 60 := by
        have := List.length_filter_le (fun i => n.testBit i) (List.range 60)
        rwa [List.length_range] at this
      omega
    · refine fg_of ⟨n / 2 ^ (c + k + 1), ?_, c + k + 1, rfl, ?_, some (.int (2 ^ (c + k))), ?_⟩
      · rw [ha, hk]
        have := Nat.two_pow_pos k
        have h3 : 1 * (2 * a + 1) ≤ 2 ^ k * (2 * a + 1) := Nat.mul_le_mul_right _ this
        omega
      · rw [hb, List.map_append]
        have : (((c + k + 1 : Nat) : Int) - 1) = ((c + k : Nat) : Int) := by omega
        rw [this]
        rfl
      · rw [ha]
theorem one_bitI (h : Nat) : Builtin.bitAnd (h : Int) ((h : Int) - 1) = 0 ↔ h = 0 ∨ ∃ i, h = 2 ^ i := by
  rw [← one_bit]
  rcases Nat.eq_zero_or_pos h with rfl | hp
  · simp [Builtin.bitAnd]
  · rw [show (h : Int) - 1 = ((h - 1 : Nat) : Int) by omega, PyProof.Rows.bitAnd_pp (Int.natCast_nonneg _) (Int.natCast_nonneg _), Int.toNat_natCast, Int.toNat_natCast]
    omega
theorem andI (a b : Nat) : Builtin.bitAnd (a : Int) (b : Int) = ((a &&& b : Nat) : Int) := by
  rw [PyProof.Rows.bitAnd_pp (Int.natCast_nonneg _) (Int.natCast_nonneg _), Int.toNat_natCast, Int.toNat_natCast]
theorem orI (a b : Nat) : Builtin.bitOr (a : Int) (b : Int) = ((a ||| b : Nat) : Int) := by
  rw [bitOr_nn (Int.natCast_nonneg _) (Int.natCast_nonneg _), Int.toNat_natCast, Int.toNat_natCast]
theorem orP (c p : Nat) : Builtin.bitOr (c : Int) (2 ^ p) = ((c ||| 2 ^ p : Nat) : Int) := by
  have e2 : ((2 : Int) ^ p) = ((2 ^ p : Nat) : Int) := by push_cast; rfl
  rw [e2, orI]
theorem xorI {a p L : Nat} (h : a < 2 ^ L) (hp : a.testBit p = true) : Builtin.bitXor (a : Int) (2 ^ p) = ((a ^^^ 2 ^ p : Nat) : Int) := by
  have e2 : ((2 : Int) ^ p) = ((2 ^ p : Nat) : Int) := by push_cast; rfl
  show Builtin.bitOr _ _ - Builtin.bitAnd _ _ = _
  rw [e2, orI, andI]
  have o : a ||| 2 ^ p = a := bit_ext fun i => by
    rw [or_bit]
    exact ⟨fun z => z.elim id fun e => e ▸ hp, .inl⟩
  have n : a &&& 2 ^ p = 2 ^ p := bit_ext fun i => by
    rw [Nat.testBit_and, Bool.and_eq_true, Nat.testBit_two_pow, decide_eq_true_iff]
    exact ⟨fun z => z.2, fun z => ⟨z ▸ hp, z⟩⟩
  rw [o, n]
  have := xor_add h hp
  omega
theorem pow_eq {i j : Nat} (h : 2 ^ i = 2 ^ j) : i = j := by
  have : (2 ^ j).testBit i = true := by rw [← h]; simp
  rw [Nat.testBit_two_pow, decide_eq_true_iff] at this
  exact this.symm
abbrev nI (i : Nat) : D := .int (i : Nat)
abbrev sp_has_idle : DSp := ar2 fun a b M Q => ∃ (ks : List Nat) (c : Nat), a = inD ks ∧ b = .int (c : Nat) ∧ ∀ r : Bool, (r = false ↔ PrivM ks c) → Q (.bl r) M
theorem ok_has_idle (F : Def K mg "has_idle" s_has_idle ["supports", "chosen"]) (B : Bi K mg) (I : Im mg)  : Cal P w K mg base 1 "has_idle" ["supports", "chosen"] sp_has_idle := by
  have sc := sc_has_idle
  refine F.cal sc (fun ds M Q h => len2 h) (fun f cdv A outer s H E hr => (ds_cons (ds_set (i := 2) sc.nd rfl (Or.inl rfl) d_int)
    (ds_cons (ds_for PassesOwn.never rfl (di_seq (d_v 0)) (dg_name (i := 3) sc.nd rfl (Or.inl rfl))
    (ds_cons (ds_set (i := 4) sc.nd rfl (Or.inl rfl) (d_op o_and (d_v 3) (d_v 1)))
    (ds_one (ds_if (dt_cmp (o_eq (hu_eq hr)) (d_op o_and (d_v 4) (d_op o_sub (d_v 4) d_int)) d_int (nomark _))
    (ds_one (ds_set (i := 2) sc.nd rfl (Or.inl rfl) (d_op o_or (d_v 2) (d_v 4))))
    ds_nil))))
    (ds_one (ds_ret (d_cmp (o_ne (hu_eq hr)) (d_v 2) (d_v 1) (nomark _))))))) (fun ds M Q h => ?_)
  obtain ⟨a, b, rfl, ks, c, rfl, rfl, h⟩ := h
  walk_at "st"
  walk_at "st"
  intro _
  refine for_ind (fun items m1 M1 => ∃ (rest dn : List Nat) (al : Nat) (x3 x4 : Option D), items = rest.map nI ∧ dn ++ rest = ks ∧ M1 = M ∧ (∀ i, al.testBit i = true ↔ ∃ s ∈ dn, s &&& c = 2 ^ i) ∧ m1 = [some (inD ks), some (.int (c : Nat)), some (.int (al : Nat)), x3, x4]) ?_ ?_ _ _ _ ⟨ks, [], 0, _, _, rfl, rfl, rfl, fun i => by simp, rfl⟩
  · rintro m1 M1 ⟨rest, dn, al, x3, x4, hi, hd, rfl, ha, rfl⟩
    refine ⟨srcV_none, ?_⟩
    cases rest with
    | cons x r => cases hi
    | nil =>
      rw [List.append_nil] at hd
      subst hd
      walk_at "rd"
      refine ret_of (h _ ?_)
      rw [Bool.not_eq_false', decide_eq_true_iff]
      constructor
      · intro e i hi
        have e3 : al = c := by omega
        obtain ⟨s, hs, e2⟩ := (ha i).mp (e3 ▸ hi)
        obtain ⟨⟨q1, _⟩, q2⟩ := and_pow.mp e2
        exact ⟨s, hs, q1, q2⟩
      · intro p
        have e3 : al = c := bit_ext fun i => (ha i).trans ⟨fun ⟨s, hs, e⟩ => (and_pow.mp e).1.2, fun hi => let ⟨s, hs, q1, q2⟩ := p i hi; ⟨s, hs, and_pow.mpr ⟨⟨q1, hi⟩, q2⟩⟩⟩
        rw [e3]
  · rintro z items m1 M1 Cn hC ⟨rest, dn, al, x3, x4, hi, hd, rfl, ha, rfl⟩
    refine ⟨srcV_none, ?_⟩
    cases rest with
    | nil => cases hi
    | cons s rest =>
      rw [List.map_cons] at hi
      injection hi with e1 e2
      subst e1
      subst e2
      walk_at "rd"
      rw [andI]
      have hd2 : (dn ++ [s]) ++ rest = ks := by rw [← hd]; simp
      split
      · next e =>
        rw [orI]
        refine fg_of (hC _ _ ⟨rest, dn ++ [s], al ||| (s &&& c), _, _, rfl, hd2, rfl, fun i => ?_, rfl⟩)
        have ho := (one_bitI (s &&& c)).mp e
        rw [Nat.testBit_or, Bool.or_eq_true, ha i]
        constructor
        · rintro (⟨t, h1, h2⟩ | h1)
          · exact ⟨t, by simp [h1], h2⟩
          · rcases ho with z | ⟨j, z⟩
            · rw [z, Nat.zero_testBit] at h1
              cases h1
            · rw [z, Nat.testBit_two_pow, decide_eq_true_iff] at h1
              exact ⟨s, by simp, by rw [z, h1]⟩
        · rintro ⟨t, h1, h2⟩
          rcases List.mem_append.mp h1 with h1 | h1
          · exact .inl ⟨t, h1, h2⟩
          · rw [List.mem_singleton.mp h1] at h2
            exact .inr (by rw [h2]; simp)
      · next e =>
        refine fg_of (hC _ _ ⟨rest, dn ++ [s], al, _, _, rfl, hd2, rfl, fun i => ?_, rfl⟩)
        rw [ha i]
        constructor
        · rintro ⟨t, h1, h2⟩
          exact ⟨t, by simp [h1], h2⟩
        · rintro ⟨t, h1, h2⟩
          rcases List.mem_append.mp h1 with h1 | h1
          · exact ⟨t, h1, h2⟩
          · rw [List.mem_singleton.mp h1] at h2
            exact absurd ((one_bitI (s &&& c)).mpr (.inr ⟨i, h2⟩)) e
theorem hit_of {ks : List Nat} {c : Nat} (h : ∀ s ∈ ks, s &&& c ≠ 0) : HitM ks c := fun s hs => Classical.byContradiction fun z => h s hs (and_zero.mpr fun i h1 h2 => z ⟨i, h1, h2⟩)
abbrev sp_missed : DSp := ar3 fun a b c M Q => ∃ (ks : List Nat) (ch al : Nat), a = inD ks ∧ b = .int (ch : Nat) ∧ c = .int (al : Nat) ∧ al < 2 ^ 60 ∧ (HitM ks ch → Q .non M) ∧ ∀ s ∈ ks, s &&& ch = 0 → Q (.int ((s &&& al : Nat) : Int)) M
theorem ok_missed (F : Def K mg "missed" s_missed ["supports", "chosen", "allowed"]) (B : Bi K mg) (I : Im mg) (c_mask_size : Cal P w K mg base 1 "mask_size" ["mask"] sp_mask_size) : Cal P w K mg base 2 "missed" ["supports", "chosen", "allowed"] sp_missed := by
  have sc := sc_missed
  refine F.cal sc (fun ds M Q h => len3 h) (fun f cdv A outer s H E hr => (ds_cons (ds_set (i := 3) sc.nd rfl (Or.inl rfl) d_non)
    (ds_cons (ds_set (i := 4) sc.nd rfl (Or.inl rfl) d_int)
    (ds_cons (ds_for PassesOwn.never rfl (di_seq (d_v 0)) (dg_name (i := 5) sc.nd rfl (Or.inl rfl))
    (ds_one (ds_if (dt_cmp (o_eq (hu_eq hr)) (d_op o_and (d_v 5) (d_v 1)) d_int (nomark _))
    (ds_cons (ds_set (i := 6) sc.nd rfl (Or.inl rfl) (d_call c_mask_size (hr.mono (by first | decide | omega)) rfl (da_cons (d_op o_and (d_v 5) (d_v 2)) da_nil)))
    (ds_one (ds_if (dt_w (dw_or (dt_cmp o_is (d_v 3) d_non (nomark _)) (dw_or1 (dt_cmp o_lt (d_v 6) (d_v 4) (nomark _)))))
    (ds_cons (ds_set (i := 3) sc.nd rfl (Or.inl rfl) (d_op o_and (d_v 5) (d_v 2)))
    (ds_one (ds_set (i := 4) sc.nd rfl (Or.inl rfl) (d_v 6))))
    ds_nil)))
    ds_nil)))
    (ds_one (ds_ret (d_v 3))))))) (fun ds M Q h => ?_)
  obtain ⟨a, b, c, rfl, ks, ch, al, rfl, rfl, rfl, hal, h1, h2⟩ := h
  walk_at "st"
  walk_at "st"
  walk_at "st"
  intro _
  refine for_ind (fun items m1 M1 => ∃ (rest dn : List Nat) (b : D) (fw : Int) (x5 x6 : Option D), items = rest.map nI ∧ dn ++ rest = ks ∧ M1 = M ∧ ((b = .non ∧ ∀ s ∈ dn, s &&& ch ≠ 0) ∨ ∃ s ∈ dn, s &&& ch = 0 ∧ b = .int ((s &&& al : Nat) : Int)) ∧ m1 = [some (inD ks), some (.int (ch : Nat)), some (.int (al : Nat)), some b, some (.int fw), x5, x6]) ?_ ?_ _ _ _ ⟨ks, [], _, 0, _, _, rfl, rfl, rfl, .inl ⟨rfl, nofun⟩, rfl⟩
  · rintro m1 M1 ⟨rest, dn, b, fw, x5, x6, hi, hd, rfl, hb, rfl⟩
    refine ⟨srcV_none, ?_⟩
    cases rest with
    | cons x r => cases hi
    | nil =>
      rw [List.append_nil] at hd
      subst hd
      walk_at "rd"
      rcases hb with ⟨rfl, hb⟩ | ⟨s, hs, e, rfl⟩
      · exact ret_of (h1 (hit_of hb))
      · exact ret_of (h2 s hs e)
  · rintro z items m1 M1 Cn hC ⟨rest, dn, b, fw, x5, x6, hi, hd, rfl, hb, rfl⟩
    refine ⟨srcV_none, ?_⟩
    cases rest with
    | nil => cases hi
    | cons s rest =>
      rw [List.map_cons] at hi
      injection hi with e1 e2
      subst e1
      subst e2
      have hd2 : (dn ++ [s]) ++ rest = ks := by rw [← hd]; simp
      walk_at "rd"
      rw [andI]
      split
      · next e =>
        have e0 : s &&& ch = 0 := by omega
        rw [andI]
        refine ⟨s &&& al, rfl, Nat.lt_of_le_of_lt Nat.and_le_right hal, ?_⟩
        have key : Cn [some (inD ks), some (.int (ch : Nat)), some (.int (al : Nat)), some (.int ((s &&& al : Nat) : Int)), some (.int (pc (s &&& al) : Nat)), some (.int (s : Nat)), some (.int (pc (s &&& al) : Nat))] M1 :=
          hC _ _ ⟨rest, dn ++ [s], _, _, _, _, rfl, hd2, rfl, .inr ⟨s, by simp, e0, rfl⟩, rfl⟩
        split
        · exact fg_of key
        · next n1 =>
          split
          · exact fg_of key
          · next n2 =>
            refine fg_of (hC _ _ ⟨rest, dn ++ [s], b, fw, _, _, rfl, hd2, rfl, ?_, rfl⟩)
            rcases hb with ⟨rfl, hb⟩ | ⟨t, ht, e4, rfl⟩
            · exact absurd rfl n1
            · exact .inr ⟨t, by simp [ht], e4, rfl⟩
      · next e =>
        refine fg_of (hC _ _ ⟨rest, dn ++ [s], b, fw, _, _, rfl, hd2, rfl, ?_, rfl⟩)
        rcases hb with ⟨rfl, hb⟩ | ⟨t, ht, e4, rfl⟩
        · refine .inl ⟨rfl, fun t ht => ?_⟩
          rcases List.mem_append.mp ht with ht | ht
          · exact hb t ht
          · rw [List.mem_singleton.mp ht]
            omega
        · exact .inr ⟨t, by simp [ht], e4, rfl⟩
abbrev cD (x : Nat × Nat) : D := .tup [.int (x.1 : Nat), .int (x.2 : Nat)]
abbrev sp_cut_masks : DSp := ar1 fun a M Q => ∃ ks : List Nat, a = inD ks ∧ (∀ k ∈ ks, k < 2 ^ 20) ∧ ∀ fs : List Nat, fs.Nodup → (∀ T, T ∈ fs ↔ MinM ks T) → fs.length ≤ 2 ^ 20 → Q (inD fs) M
theorem ok_cut_masks (F : Def K mg "cut_masks" s_cut_masks ["supports"]) (B : Bi K mg) (I : Im mg) (c_places_of : Cal P w K mg base 1 "places_of" ["mask"] sp_places_of) (c_missed : Cal P w K mg base 2 "missed" ["supports", "chosen", "allowed"] sp_missed) (c_has_idle : Cal P w K mg base 1 "has_idle" ["supports", "chosen"] sp_has_idle) : Cal P w K mg base 3 "cut_masks" ["supports"] sp_cut_masks := by
  have sc := sc_cut_masks
  refine F.cal sc (fun ds M Q h => len1 h) (fun f cdv A outer s H E hr => (ds_cons (ds_set (i := 1) sc.nd rfl (Or.inl rfl) d_int)
    (ds_cons (ds_for PassesOwn.never rfl (di_seq (d_v 0)) (dg_name (i := 2) sc.nd rfl (Or.inl rfl))
    (ds_one (ds_set (i := 1) sc.nd rfl (Or.inl rfl) (d_op o_or (d_v 1) (d_v 2)))))
    (ds_cons (ds_set (i := 3) sc.nd rfl (Or.inl rfl) (d_lst (da_cons (d_tup (da_cons d_int (da_cons (d_v 1) da_nil))) da_nil)))
    (ds_cons (ds_set (i := 4) sc.nd rfl (Or.inl rfl) (d_lst da_nil))
    (ds_cons (ds_while PassesOwn.never (dt_cmp o_gt (d_cb c_len rfl B.b_len boot_len (da_cons (d_v 3) da_nil)) d_int (nomark _))
    (ds_cons (ds_asg (d_mt0 PySem.F.slot_list_pop PySem.F.type_list_pop m_pop (d_v 3)) (dg_tup (n := 2) rfl (dgs_cons (dg_name (i := 5) sc.nd rfl (Or.inl rfl)) (dgs_cons (dg_name (i := 6) sc.nd rfl (Or.inl rfl)) dgs_nil))))
    (ds_cons (ds_if (dt_val (d_call c_has_idle (hr.mono (by first | decide | omega)) rfl (da_cons (d_v 0) (da_cons (d_v 5) da_nil))))
    (ds_one ds_cont)
    ds_nil)
    (ds_cons (ds_set (i := 2) sc.nd rfl (Or.inl rfl) (d_call c_missed (hr.mono (by first | decide | omega)) rfl (da_cons (d_v 0) (da_cons (d_v 5) (da_cons (d_v 6) da_nil)))))
    (ds_one (ds_if (dt_cmp o_is (d_v 2) d_non (nomark _))
    (ds_one (ds_expr (d_mt PySem.F.slot_list_append PySem.F.type_list_append m_append (d_v 4) (da_cons (d_v 5) da_nil))))
    (ds_one (ds_for PassesOwn.never rfl (di_seq (d_call c_places_of (hr.mono (by first | decide | omega)) rfl (da_cons (d_v 2) da_nil))) (dg_name (i := 7) sc.nd rfl (Or.inl rfl))
    (ds_cons (ds_set (i := 6) sc.nd rfl (Or.inl rfl) (d_op o_xor (d_v 6) (d_op o_shl1 d_int (d_v 7))))
    (ds_one (ds_expr (d_mt PySem.F.slot_list_append PySem.F.type_list_append m_append (d_v 3) (da_cons (d_tup (da_cons (d_op o_or (d_v 5) (d_op o_shl1 d_int (d_v 7))) (da_cons (d_v 6) da_nil))) da_nil)))))))))))))
    (ds_one (ds_ret (d_fz (d_v 4)))))))))) (fun ds M Q h => ?_)
  obtain ⟨a, rfl, ks, rfl, hk, h⟩ := h
  walk_at "st"
  walk_at "st"
  intro _
  refine for_ind (fun items m1 M1 => ∃ (rest dn : List Nat) (ev : Nat) (x2 : Option D), items = rest.map nI ∧ dn ++ rest = ks ∧ M1 = M ∧ (∀ i, ev.testBit i = true ↔ ∃ s ∈ dn, s.testBit i = true) ∧ m1 = [some (inD ks), some (.int (ev : Nat)), x2, none, none, none, none, none]) ?_ ?_ _ _ _ ⟨ks, [], 0, _, rfl, rfl, rfl, fun i => by simp, rfl⟩
  · rintro m1 M1 ⟨rest, dn, ev, x2, hi, hd, rfl, hev, rfl⟩
    refine ⟨srcV_none, ?_⟩
    cases rest with
    | cons x r => cases hi
    | nil =>
      rw [List.append_nil] at hd
      subst hd
      have hel : ev < 2 ^ 20 := by
        refine Nat.lt_pow_two_of_testBit _ fun i hi => ?_
        cases e : ev.testBit i with
        | false => rfl
        | true =>
          obtain ⟨s, h1, h2⟩ := (hev i).mp e
          rw [Nat.testBit_lt_two_pow (Nat.lt_of_lt_of_le (hk s h1) (Nat.pow_le_pow_right (by decide) hi))] at h2
          cases h2
      walk_at "st"
      walk_at "st"
      intro p hp
      walk_at "st"
      intro q hq
      have hpq : p ≠ q := ne_of_fresh mput_same hq
      have hqM : M1 q = none := by rw [mput_ne hpq.symm] at hq; exact hq
      walk_at "st"
      refine ⟨fun n m2 M2 => ∃ (cs : List (Nat × Nat)) (fs : List Nat) (x2 x5 x6 x7 : Option D), n = (cs.map wt).sum ∧ CutInv dn cs fs ∧ M2 = mput (mput M1 p (.lst (cs.map cD))) q (.lst (fs.map nI)) ∧ m2 = [some (inD dn), some (.int (ev : Nat)), x2, some (.ref p), some (.ref q), x5, x6, x7],
        ⟨_, [(0, ev)], [], _, _, _, _, rfl, .start hev hel, rfl, rfl⟩, ?_⟩
      rintro n m2 M2 ⟨cs, fs, x2, x5, x6, x7, rfl, hc, rfl, rfl⟩
      have hMp : ∀ (o o' : DO), mput (mput M1 p o) q o' p = some o := fun o o' => by rw [mput_ne hpq]; exact mput_same
      walk_at "rd"
      rw [hMp]
      refine ⟨_, rfl, ?_⟩
      rcases List.eq_nil_or_concat cs with rfl | ⟨cs, x, rfl⟩
      · rw [if_neg (by decide)]
        obtain ⟨d1, d2, d3⟩ := hc.done
        refine ⟨_, rfl, ?_⟩
        rw [mdel_mput (by rw [mput_ne hpq.symm]; exact hqM)]
        exact ret_le (.put (.refl M1) hp) (h fs d1 d2 d3)
      · obtain ⟨c, a⟩ := x
        rw [List.concat_eq_append] at hc ⊢
        have hgl : ((cs ++ [(c, a)]).map cD).getLast? = some (cD (c, a)) := by simp
        have hdl : ((cs ++ [(c, a)]).map cD).dropLast = cs.map cD := by simp
        rw [if_pos (by rw [List.length_map, List.length_append, List.length_singleton]; omega)]
        refine ⟨⟨_, rfl⟩, _, rfl, _, hgl, _, rfl, rfl, _, _, rfl, _, _, rfl, rfl, dn, rfl, c, rfl, fun r hr => ?_⟩
        rw [hdl, mput_swap hpq]
        have hch := hc.ok (c, a) (by simp)
        have hlen := hc.sum
        have hwl := wt_len (cs ++ [(c, a)])
        rw [List.length_append, List.length_singleton] at hwl
        have hwc := wt_pos (c, a)
        have hsum : ((cs ++ [(c, a)]).map wt).sum = (cs.map wt).sum + wt (c, a) := by simp
        cases r with
        | true =>
          rw [if_pos rfl]
          have hnp : ¬ PrivM dn c := fun z => by have := hr.mpr z; cases this
          exact fg_of ⟨(cs.map wt).sum, by rw [hsum]; omega, cs, rfl, fs, hc.drop fun T hT r => idle_none hnp r hT.2, rfl, _, _, _, _, rfl⟩
        | false =>
          rw [if_neg (by decide)]
          have hp2 := hr.mp rfl
          refine ⟨dn, rfl, c, rfl, a, rfl, Nat.lt_trans hch.a (by decide), fun hh => ?_, fun s hs hz => ?_⟩
          · rw [mput_same]
            refine ⟨⟨_, rfl⟩, _, rfl, ?_, ?_⟩
            · rw [List.length_map]
              omega
            · rw [mput_mput]
              refine fg_of ⟨(cs.map wt).sum, by rw [hsum]; omega, cs, rfl, fs ++ [c], hc.find hp2 hh, ?_, _, _, _, _, rfl⟩
              rw [List.map_append]
              rfl
          · have hsa : s &&& a < 2 ^ 60 := Nat.lt_of_le_of_lt Nat.and_le_right (Nat.lt_trans hch.a (by decide))
            have hps : ∀ i, i ∈ bitsL 60 (s &&& a) ↔ s.testBit i = true ∧ a.testBit i = true := fun i => by rw [mem_bits hsa, Nat.testBit_and, Bool.and_eq_true]
            refine ⟨s &&& a, rfl, hsa, fun _ => ?_⟩
            refine for_ind (fun items m3 M3 => ∃ (rest d2 : List Nat) (b : Nat) (ch : List (Nat × Nat)) (x7 : Option D), items = rest.map nI ∧ d2 ++ rest = bitsL 60 (s &&& a) ∧ KidInv c a d2 b ch ∧ M3 = mput (mput M1 p (.lst ((cs ++ ch).map cD))) q (.lst (fs.map nI)) ∧
              m3 = [some (inD dn), some (.int (ev : Nat)), some (.int ((s &&& a : Nat) : Int)), some (.ref p), some (.ref q), some (.int (c : Nat)), some (.int (b : Nat)), x7]) ?_ ?_ _ _ _ ⟨_, [], a, [], _, rfl, rfl, .start hch.a, by rw [List.append_nil], rfl⟩
            · rintro m3 M3 ⟨rest, d2, b, ch, x7, hi, hd, hki, rfl, rfl⟩
              refine ⟨srcV_none, ?_⟩
              cases rest with
              | cons x r => cases hi
              | nil =>
                rw [List.append_nil] at hd
                subst hd
                obtain ⟨k1, k2⟩ := hc.kids hki hs hz hps
                dsimp only
                exact fg_of ⟨((cs ++ ch).map wt).sum, k2, cs ++ ch, rfl, fs, k1, rfl, _, _, _, _, rfl⟩
            · rintro z items m3 M3 Cn hC ⟨rest, d2, b, ch, x7, hi, hd, hki, rfl, rfl⟩
              refine ⟨srcV_none, ?_⟩
              cases rest with
              | nil => cases hi
              | cons pl rest =>
                rw [List.map_cons] at hi
                injection hi with e1 e2
                subst e1
                subst e2
                have hpl : pl ∈ bitsL 60 (s &&& a) := by rw [← hd]; simp
                have hap := ((hps pl).mp hpl).2
                have hnd : (bitsL 60 (s &&& a)).Nodup := (bits_asc _ _).imp Nat.ne_of_lt
                have hpn : pl ∉ d2 := fun z => by
                  rw [← hd, List.nodup_append] at hnd
                  exact hnd.2.2 pl z pl (by simp) rfl
                have hbp : b.testBit pl = true := (hki.bit pl).mpr ⟨hap, hpn⟩
                have hp60 : pl < 60 := List.mem_range.mp (List.mem_filter.mp hpl).1
                have hkc := wt_len ch
                have hks := hki.sum
                have hst := hki.step hch hap hpn
                walk_at "rd"
                refine ⟨pl, rfl, by omega, ?_⟩
                rw [xorI hki.lt hbp, hMp]
                refine ⟨⟨_, rfl⟩, pl, rfl, by omega, _, rfl, ?_, ?_⟩
                · rw [List.length_map, List.length_append]
                  have := wt_len cs
                  have hwa : wt (c, a) = 2 ^ nb a := rfl
                  have := Nat.two_pow_pos (nb b)
                  have : ch.length ≤ 2 ^ nb a := by omega
                  omega
                rw [orP, mput_swap hpq]
                refine fg_of (hC _ _ ⟨rest, d2 ++ [pl], b ^^^ 2 ^ pl, ch ++ [(c ||| 2 ^ pl, b ^^^ 2 ^ pl)], _, rfl, by rw [← hd]; simp, hst, ?_, rfl⟩)
                rw [← List.append_assoc, List.map_append (l₁ := cs ++ ch)]
                rfl
  · rintro z items m1 M1 Cn hC ⟨rest, dn, ev, x2, hi, hd, rfl, hev, rfl⟩
    refine ⟨srcV_none, ?_⟩
    cases rest with
    | nil => cases hi
    | cons s rest =>
      rw [List.map_cons] at hi
      injection hi with e1 e2
      subst e1
      subst e2
      walk_at "s1"
      rw [orI]
      refine fg_of (hC _ _ ⟨rest, dn ++ [s], ev ||| s, _, rfl, by rw [← hd]; simp, rfl, fun i => ?_, rfl⟩)
      rw [Nat.testBit_or, Bool.or_eq_true, hev i]
      constructor
      · rintro (⟨t, h1, h2⟩ | h1)
        · exact ⟨t, by simp [h1], h2⟩
        · exact ⟨s, by simp, h1⟩
      · rintro ⟨t, h1, h2⟩
        rcases List.mem_append.mp h1 with h1 | h1
        · exact .inl ⟨t, h1, h2⟩
        · rw [List.mem_singleton.mp h1] at h2
          exact .inr h2
abbrev sp_value_key : DSp := ar1 fun _ _ _ => False
theorem ok_value_key (F : Def K mg "value_key" s_value_key ["value"]) (B : Bi K mg) (I : Im mg)  : Cal P w K mg base 1 "value_key" ["value"] sp_value_key := by
  have sc := sc_value_key
  refine F.cal sc (fun ds M Q h => len1 h) (fun f cdv A outer s H E hr => (ds_cons (ds_if (dt_val (d_cb c_is rfl B.b_isinstance boot_isinstance (da_cons (d_v 0) (da_cons (d_ty rfl B.b_str boot_str) da_nil))))
    (ds_one (ds_ret (d_tup (da_cons d_int (da_cons d_int (da_cons (d_v 0) da_nil))))))
    ds_nil)
    (ds_one (ds_ret (d_tup (da_cons d_int (da_cons (d_v 0) (da_cons d_str da_nil)))))))) (fun ds M Q h => ?_)
  obtain ⟨_, _, h⟩ := h
  exact h.elim
abbrev sp_row_key : DSp := ar1 fun _ _ _ => False
theorem ok_row_key (F : Def K mg "row_key" s_row_key ["row"]) (B : Bi K mg) (I : Im mg) (c_value_key : Cal P w K mg base 1 "value_key" ["value"] sp_value_key) : Cal P w K mg base 2 "row_key" ["row"] sp_row_key := by
  have sc := sc_row_key
  refine F.cal sc (fun ds M Q h => len1 h) (fun f cdv A outer s H E hr => (ds_one (ds_ret (d_ct c_tuple rfl B.b_tuple boot_tuple (da_cons (d_lcF rfl sc.nd (own := [("value", 1)]) (di_seq (d_v 0)) (blkOk_by (N := N_row_key) (sc := defScope s_row_key) (by decide +kernel)) (by decide) (fun _ _ _ _ _ => (dg_name (i := 1) sc.nd rfl (Or.inl rfl))) (fun _ _ _ _ _ => dts_nil) (fun _ _ _ _ _ => (d_call c_value_key (hr.mono (by first | decide | omega)) rfl (da_cons (d_v 1) da_nil)))) da_nil))))) (fun ds M Q h => ?_)
  obtain ⟨_, _, h⟩ := h
  exact h.elim
abbrev sp_mark_key : DSp := ar1 fun _ _ _ => False
theorem ok_mark_key (F : Def K mg "mark_key" s_mark_key ["mark"]) (B : Bi K mg) (I : Im mg) (c_row_key : Cal P w K mg base 2 "row_key" ["row"] sp_row_key) : Cal P w K mg base 3 "mark_key" ["mark"] sp_mark_key := by
  have sc := sc_mark_key
  refine F.cal sc (fun ds M Q h => len1 h) (fun f cdv A outer s H E hr => (ds_cons (ds_if (dt_cmp (o_eq (hu_eq hr)) (d_v 0) (d_tup da_nil) (nomark _))
    (ds_one (ds_ret (d_tup da_nil)))
    ds_nil)
    (ds_one (ds_ret (d_tup (da_cons (d_ix x_ix (d_v 0) d_int (fun _ _ => rfl)) (da_cons (d_call c_row_key (hr.mono (by first | decide | omega)) rfl (da_cons (d_ix x_ix (d_v 0) d_int (fun _ _ => rfl)) da_nil)) (da_cons (d_ix x_ix (d_v 0) d_int (fun _ _ => rfl)) da_nil)))))))) (fun ds M Q h => ?_)
  obtain ⟨_, _, h⟩ := h
  exact h.elim
abbrev sp_pair_key : DSp := ar1 fun _ _ _ => False
theorem ok_pair_key (F : Def K mg "pair_key" s_pair_key ["pair"]) (B : Bi K mg) (I : Im mg) (c_row_key : Cal P w K mg base 2 "row_key" ["row"] sp_row_key) (c_mark_key : Cal P w K mg base 3 "mark_key" ["mark"] sp_mark_key) : Cal P w K mg base 4 "pair_key" ["pair"] sp_pair_key := by
  have sc := sc_pair_key
  refine F.cal sc (fun ds M Q h => len1 h) (fun f cdv A outer s H E hr => (ds_one (ds_ret (d_tup (da_cons (d_call c_mark_key (hr.mono (by first | decide | omega)) rfl (da_cons (d_ix x_ix (d_v 0) d_int (fun _ _ => rfl)) da_nil)) (da_cons (d_call c_row_key (hr.mono (by first | decide | omega)) rfl (da_cons (d_ix x_ix (d_v 0) d_int (fun _ _ => rfl)) da_nil)) da_nil)))))) (fun ds M Q h => ?_)
  obtain ⟨_, _, h⟩ := h
  exact h.elim
/-- all numbers of some sets, ascending -/
structure PrI (W : List (List Int)) (P : List Int) : Prop where
  mem : ∀ x, x ∈ P ↔ ∃ m ∈ W, x ∈ m
  asc : ascI P
abbrev sp_ordered_parts : DSp := ar2 fun a b M Q => ∃ (W : List (List Int)) (N : List Int), a = .tup [.str "whys"] ∧ b = tW W ∧ (∀ m ∈ W, ∀ x ∈ m, x ∈ N) ∧ N.length ≤ 1000 ∧ ∀ P, PrI W P → P.length ≤ N.length → Q (.lst (P.map D.int)) M
theorem ok_ordered_parts (F : Def K mg "ordered_parts" s_ordered_parts ["house", "members"]) (B : Bi K mg) (I : Im mg) (c_pair_key : Cal P w K mg base 4 "pair_key" ["pair"] sp_pair_key) : Cal P w K mg base 7 "ordered_parts" ["house", "members"] sp_ordered_parts := by
  have sc := sc_ordered_parts
  refine F.cal sc (fun ds M Q h => len2 h) (fun f cdv A outer s H E hr => (ds_cons (ds_setKc2 (i := 2) rfl sc.nd rfl rfl (sw_trueD rfl rfl rfl (by decide +kernel)) (own := [("member", 3), ("part", 4)]) (di_seq (d_v 1)) (blkOk_by (N := N_ordered_parts) (sc := defScope s_ordered_parts) (by decide +kernel)) (by decide) (by decide) (fun _ _ _ _ _ => (dg_name (i := 3) sc.nd rfl (Or.inl rfl))) (fun _ _ _ _ _ => dts_nil) (fun _ _ _ _ _ => (di_seq (d_v 3))) (fun _ _ _ _ _ => (dg_name (i := 4) sc.nd rfl (Or.inl rfl))) (fun _ _ _ _ _ => dts_nil) (fun _ _ _ _ _ => (d_v 4)) (fun _ _ _ _ _ => d_bl))
    (ds_cons (ds_if (dt_cmp (o_eq (hu_eq hr)) (d_ix x_ix (d_v 0) d_int (fun _ _ => rfl)) d_str (nomark _))
    (ds_one (ds_ret (d_fz (d_sortK c_pair_key (hr.mono (by first | decide | omega)).in1.in1 rfl rfl B.b_sorted (da_cons (d_fz (d_ct (c_listKK rfl) rfl B.b_list boot_list (da_cons (d_v 2) da_nil))) da_nil)))))
    ds_nil)
    (ds_one (ds_ret (d_fz (d_cb (c_sortO (hu_40 hr)) rfl B.b_sorted boot_sorted (da_cons (d_fz (d_ct (c_listKK rfl) rfl B.b_list boot_list (da_cons (d_v 2) da_nil))) da_nil)))))))) (fun ds M Q h => ?_)
  obtain ⟨a, b, rfl, W, N, rfl, rfl, hN, hNl, h⟩ := h
  walk_at "st"
  intro _ p hp
  refine kcOut_ind (fun ds acc M1 => ∃ (todo don : List (List Int)) (K : List Int), ds = todo.map tI ∧ don ++ todo = W ∧ acc = kiD K ∧ K.Nodup ∧ (∀ q, q ∈ K ↔ ∃ m ∈ don, q ∈ m) ∧ M1 = mput M p (.dk acc)) ?_ ?_ _ _ _ ⟨W, [], [], rfl, rfl, rfl, .nil, fun q => by simp, rfl⟩
  · rintro acc M1 ⟨todo, don, K, hti, htd, rfl, hKn, hK, rfl⟩
    refine ⟨srcV_none, mput_same, ?_⟩
    cases todo with
    | cons x r => cases hti
    | nil =>
      rw [List.append_nil] at htd
      subst htd
      have ek : (kiD K).map (fun x => x.1) = K.map D.int := by rw [List.map_map]; rfl
      have es : PyData.strOk (Str.ofString "reasons") = true := by decide +kernel
      have ew : PyData.strOk (Str.ofString "whys") = true := by decide +kernel
      walk_at "rd"
      refine ⟨ew, es, ?_⟩
      rw [if_neg (by decide +kernel)]
      intro p1 hp1
      refine ⟨_, rfl, ?_⟩
      rw [mdel_mput hp1, ek]
      obtain ⟨k1, k2, k3⟩ := i_sortO K
      refine ⟨k1, k2, k3, fun p2 hp2 => ⟨_, rfl, ?_⟩⟩
      rw [mdel_mput hp2]
      obtain ⟨P, e1, e2, e3⟩ := sort_asc hKn
      rw [e1]
      refine ret_le (.put (.refl M) hp) (h P ⟨fun q => e2.mem_iff.trans (hK q), e3⟩ ?_)
      rw [e2.length_eq]
      refine List.Nodup.length_le_of_subset hKn fun x hx => ?_
      obtain ⟨m, h1, h2⟩ := (hK x).mp hx
      exact hN m h1 x h2
  · rintro d ds acc M1 Cn hC ⟨todo, don, K, hti, htd, rfl, hKn, hK, rfl⟩
    refine ⟨srcV_none, ?_⟩
    cases todo with
    | nil => cases hti
    | cons r todo =>
      rw [List.map_cons] at hti
      injection hti with h1 h2
      subst h1
      subst h2
      have hrm : r ∈ W := by rw [← htd]; simp
      walk_at "s1"
      intro _
      refine kcIn_ind (fun ds acc M1 => ∃ (tt dd K : List Int), ds = tt.map D.int ∧ dd ++ tt = r ∧ acc = kiD K ∧ K.Nodup ∧ (∀ q, q ∈ K ↔ (∃ m ∈ don, q ∈ m) ∨ q ∈ dd) ∧ M1 = mput M p (.dk acc)) ?_ ?_ _ _ _ ⟨r, [], K, rfl, rfl, rfl, hKn, fun q => by rw [hK q]; simp, rfl⟩
      · rintro acc M1 ⟨tt, dd, K, hi2, hd2, rfl, hKn, hK, rfl⟩
        refine ⟨srcV_none, mput_same, ?_⟩
        cases tt with
        | cons x r => cases hi2
        | nil =>
          rw [List.append_nil] at hd2
          subst hd2
          refine hC _ _ ⟨todo, don ++ [dd], K, rfl, by rw [← htd]; simp, rfl, hKn, fun q => ?_, rfl⟩
          rw [hK q]
          constructor
          · rintro (⟨m, h1, h2⟩ | h1)
            · exact ⟨m, by simp [h1], h2⟩
            · exact ⟨dd, by simp, h1⟩
          · rintro ⟨m, h1, h2⟩
            rcases List.mem_append.mp h1 with h1 | h1
            · exact .inl ⟨m, h1, h2⟩
            · rw [List.mem_singleton.mp h1] at h2
              exact .inr h2
      · rintro d2 ds2 acc M1 Cn2 hC2 ⟨tt, dd, K, hi2, hd2, rfl, hKn, hK, rfl⟩
        refine ⟨srcV_none, ?_⟩
        cases tt with
        | nil => cases hi2
        | cons q tt =>
          rw [List.map_cons] at hi2
          injection hi2 with h1 h2
          subst h1
          subst h2
          have hKl : K.length ≤ N.length := List.Nodup.length_le_of_subset hKn fun x hx => by
            rcases (hK x).mp hx with ⟨m, h1, h2⟩ | h1
            · exact hN m (by rw [← htd]; exact List.mem_append_left _ h1) x h2
            · exact hN r hrm x (by rw [← hd2]; exact List.mem_append_left _ h1)
          walk_at "s1"
          refine ⟨by rw [List.length_map]; omega, ?_⟩
          obtain ⟨K', e1, e2, e3⟩ := ki_put K q hKn
          rw [e1]
          refine hC2 _ _ ⟨tt, dd ++ [q], K', rfl, by rw [← hd2]; simp, rfl, e2, fun x => ?_, rfl⟩
          rw [e3 x, hK x, List.mem_append, List.mem_singleton, or_assoc]
theorem dget_putI (kvs : List (D × D)) (k x : Int) (v : D) : dget (dput kvs (.int k) v) (.int x) = if k = x then some v else dget kvs (.int x) := by
  rw [dget_put]
  simp only [nk_int]
abbrev sp_masks_of : DSp := ar2 fun a b M Q => ∃ (W : List (List Int)) (P : List Int), a = tW W ∧ b = .lst (P.map D.int) ∧ ascI P ∧ P.length ≤ 60 ∧ (∀ s ∈ W, ascI s ∧ ∀ x ∈ s, x ∈ P) ∧ Q (inD (W.map (mskN P))) M
theorem ok_masks_of (F : Def K mg "masks_of" s_masks_of ["members", "parts"]) (B : Bi K mg) (I : Im mg)  : Cal P w K mg base 1 "masks_of" ["members", "parts"] sp_masks_of := by
  have sc := sc_masks_of
  refine F.cal sc (fun ds M Q h => len2 h) (fun f cdv A outer s H E hr => (ds_cons (ds_set (i := 2) sc.nd rfl (Or.inr rfl) (d_fzK (d_kc rfl sc.nd (own := [("place", 3), ("part", 4)]) (di_enum rfl B.b_enumerate (da_cons (d_v 1) da_nil)) (blkOk_by (N := N_masks_of) (sc := defScope s_masks_of) (by decide +kernel)) (by decide) (fun _ _ _ _ _ => (dg_tup (n := 2) rfl (dgs_cons (dg_name (i := 3) sc.nd rfl (Or.inl rfl)) (dgs_cons (dg_name (i := 4) sc.nd rfl (Or.inl rfl)) dgs_nil)))) (fun _ _ _ _ _ => dts_nil) (fun _ _ _ _ _ => (d_v 4)) (fun _ _ _ _ _ => (d_op o_shl1 d_int (d_v 3))))))
    (ds_one (ds_ret (d_lcF rfl sc.nd (own := [("member", 5)]) (di_seq (d_v 0)) (blkOk_by (N := N_masks_of) (sc := defScope s_masks_of) (by decide +kernel)) (by decide) (fun _ _ _ _ _ => (dg_name (i := 5) sc.nd rfl (Or.inl rfl))) (fun _ _ _ _ _ => dts_nil) (fun _ _ _ _ _ => (d_cb (c_sum rfl) rfl B.b_sum boot_sum (da_cons (d_lcF rfl sc.nd (own := [("part", 4)]) (di_seq (d_v 5)) (blkOk_by (N := N_masks_of) (sc := ({ kind := PySem.ScopeKind.function, names := [(PySem.Str.ofString ".0", PySem.NameKind.local), (PySem.Str.ofString "member", PySem.NameKind.local), (PySem.Str.ofString "sum", PySem.NameKind.globalImplicit), (PySem.Str.ofString "bits", PySem.NameKind.cell)], isGenerator := false, isCoroutine := false } : PySem.Scope)) (by decide +kernel)) (by decide) (fun _ _ _ _ _ => (dg_name (i := 4) sc.nd rfl (Or.inl rfl))) (fun _ _ _ _ _ => dts_nil) (fun _ _ _ _ _ => (d_kix (hu_1 hr) (d_v 2) (d_v 4) (fun _ _ => rfl)))) da_nil)))))))) (fun ds M Q h => ?_)
  obtain ⟨a, b, rfl, W, P, rfl, rfl, hP, hPl, hW, h⟩ := h
  walk_at "st"
  intro _
  refine fun p hp => ?_
  refine kc_ind (fun ds acc M1 => ∃ (todo don : List Int), ds = enumD don.length (todo.map D.int) ∧ don ++ todo = P ∧ (∀ i q, don[i]? = some q → dget acc (.int q) = some (.int ((2 ^ i : Nat) : Int))) ∧ M1 = mput M p (.dk acc)) ?_ ?_ _ _ _ ⟨P, [], rfl, rfl, (fun i q e => by simp at e), rfl⟩
  · rintro acc M1 ⟨todo, don, hti, htd, hg, rfl⟩
    refine ⟨srcV_none, ?_⟩
    cases todo with
    | cons x r => cases hti
    | nil =>
      rw [List.append_nil] at htd
      subst htd
      walk_at "rd"
      refine ⟨_, rfl, fun _ => ?_⟩
      rw [mdel_mput hp]
      refine lc_map W tI (fun m => D.int (mskN don m : Nat)) rfl srcV_none (fun m hm M5 l5 C1 h1 => ?_) fun p5 hp5 => ?_
      · walk_at "rd"
        intro _
        refine lc_map m D.int (fun q => D.int ((2 ^ (don.findIdx fun y => decide (y = q)) : Nat) : Int)) rfl srcV_none (fun q hq M7 l7 C7 h7 => ?_) fun p7 hp7 => ?_
        · walk_at "rd"
          exact ⟨_, hg _ q (fidx ((hW m hm).2 q hq)), h7⟩
        rw [mdel_mput hp7]
        refine ⟨(m.map fun q => 2 ^ (don.findIdx fun y => decide (y = q))).map fun i : Nat => (i : Int), ?_, ?_⟩
        · rw [List.map_map, List.map_map]
          rfl
        rw [cast_sum0]
        have e : (m.map fun q => 2 ^ (don.findIdx fun y => decide (y = q))).sum = mskN don m := by
          show _ = ((m.map _).map fun i => 2 ^ i).sum
          rw [List.map_map]
          rfl
        rw [e]
        exact h1
      rw [mdel_mput hp5]
      rw [show (W.map fun m => D.int (mskN don m : Nat)) = (W.map (mskN don)).map fun i : Nat => D.int (i : Nat) from by rw [List.map_map]; rfl]
      exact ret_of h
  · rintro d ds acc M1 Cn hC ⟨todo, don, hti, htd, hg, rfl⟩
    refine ⟨srcV_none, ?_⟩
    cases todo with
    | nil => cases hti
    | cons q todo =>
      rw [List.map_cons, enumD] at hti
      injection hti with h1 h2
      subst h1
      subst h2
      have hPn : P.Nodup := hP.imp Int.ne_of_lt
      have hdl : don.length < 60 := by
        have := congrArg List.length htd
        rw [List.length_append, List.length_cons] at this
        omega
      walk_at "s1"
      refine ⟨don.length, rfl, by omega, ?_⟩
      refine hC _ _ ⟨todo, don ++ [q], by rw [List.length_append]; rfl, by rw [← htd]; simp, fun i x hx => ?_, rfl⟩
      rw [dget_putI]
      by_cases c : i < don.length
      · rw [List.getElem?_append_left c] at hx
        have hxd : x ∈ don := List.mem_of_getElem? hx
        rw [if_neg (fun z => ?_)]
        · exact hg i x hx
        · rw [← htd, List.nodup_append] at hPn
          exact hPn.2.2 x hxd q (by simp) z.symm
      · have hil : i = don.length := by
          obtain ⟨h3, _⟩ := List.getElem?_eq_some_iff.mp hx
          rw [List.length_append, List.length_singleton] at h3
          omega
        rw [hil, List.getElem?_append_right (Nat.le_refl _), Nat.sub_self] at hx
        have hxq : q = x := by simpa using hx
        rw [hxq, if_pos rfl, hil]
        push_cast
        rfl
abbrev sp_members_of : DSp := ar2 fun a b M Q => ∃ (P : List Int) (fs : List Nat), a = inD fs ∧ b = .lst (P.map D.int) ∧ ascI P ∧ P.length ≤ 60 ∧ fs.Nodup ∧ (∀ T ∈ fs, InP P T) ∧ ∀ C : List (List Int), (∀ t, t ∈ C ↔ ∃ T ∈ fs, t = unm P T) → (C.Pairwise fun a b => lxI a b = true) → C.length = fs.length → Q (tW C) M
theorem ok_members_of (F : Def K mg "members_of" s_members_of ["masks", "parts"]) (B : Bi K mg) (I : Im mg) (c_places_of : Cal P w K mg base 1 "places_of" ["mask"] sp_places_of) : Cal P w K mg base 2 "members_of" ["masks", "parts"] sp_members_of := by
  have sc := sc_members_of
  refine F.cal sc (fun ds M Q h => len2 h) (fun f cdv A outer s H E hr => (ds_cons (ds_set (i := 2) sc.nd rfl (Or.inl rfl) (d_fz (d_cb (c_sortO (hu_40 hr)) rfl B.b_sorted boot_sorted (da_cons (d_lcF rfl sc.nd (own := [("mask", 3)]) (di_seq (d_v 0)) (blkOk_by (N := N_members_of) (sc := defScope s_members_of) (by decide +kernel)) (by decide) (fun _ _ _ _ _ => (dg_name (i := 3) sc.nd rfl (Or.inl rfl))) (fun _ _ _ _ _ => dts_nil) (fun _ _ _ _ _ => (d_call c_places_of (hr.mono (by first | decide | omega)) rfl (da_cons (d_v 3) da_nil)))) da_nil))))
    (ds_one (ds_ret (d_ct c_tuple rfl B.b_tuple boot_tuple (da_cons (d_lcF rfl sc.nd (own := [("places", 4)]) (di_seq (d_v 2)) (blkOk_by (N := N_members_of) (sc := defScope s_members_of) (by decide +kernel)) (by decide) (fun _ _ _ _ _ => (dg_name (i := 4) sc.nd rfl (Or.inl rfl))) (fun _ _ _ _ _ => dts_nil) (fun _ _ _ _ _ => (d_ct c_tuple rfl B.b_tuple boot_tuple (da_cons (d_lcF rfl sc.nd (own := [("place", 5)]) (di_seq (d_v 4)) (blkOk_by (N := N_members_of) (sc := ({ kind := PySem.ScopeKind.function, names := [(PySem.Str.ofString ".0", PySem.NameKind.local), (PySem.Str.ofString "places", PySem.NameKind.local), (PySem.Str.ofString "tuple", PySem.NameKind.globalImplicit), (PySem.Str.ofString "parts", PySem.NameKind.cell)], isGenerator := false, isCoroutine := false } : PySem.Scope)) (by decide +kernel)) (by decide) (fun _ _ _ _ _ => (dg_name (i := 5) sc.nd rfl (Or.inl rfl))) (fun _ _ _ _ _ => dts_nil) (fun _ _ _ _ _ => (d_ix x_ix (d_v 1) (d_v 5) (fun _ _ => rfl)))) da_nil)))) da_nil)))))) (fun ds M Q h => ?_)
  obtain ⟨a, b, rfl, P, fs, rfl, rfl, hP, hPl, hn, hin, h⟩ := h
  walk_at "st"
  intro _
  refine lc_map fs nI (fun T => inD (bitsL 60 T)) rfl srcV_none (fun T hT M5 l5 C1 h1 => ?_) fun p5 hp5 => ?_
  · walk_at "rd"
    exact ⟨T, rfl, inP_lt (hin T hT) hPl, h1⟩
  rw [mdel_mput hp5]
  have e0 : (fs.map fun T => inD (bitsL 60 T)) = (fs.map fun T => (bitsL 60 T).map fun i : Nat => (i : Int)).map lI := by
    rw [List.map_map]
    refine List.map_congr_left fun T _ => ?_
    show D.lst _ = D.lst _
    rw [List.map_map]
    rfl
  rw [e0]
  obtain ⟨k1, k2, k3⟩ := lI_sortO (fs.map fun T => (bitsL 60 T).map fun i : Nat => (i : Int))
  refine ⟨k1, k2, k3, fun p6 hp6 => ⟨_, rfl, ?_⟩⟩
  have hinj : ∀ {S T : Nat}, S ∈ fs → T ∈ fs → bitsL 60 S = bitsL 60 T → S = T := fun {S T} hS hT e => by
    have := n_pw (inP_lt (hin S hS) hPl)
    rw [e, n_pw (inP_lt (hin T hT) hPl)] at this
    exact this.symm
  have hcast : ∀ {a b : List Nat}, (a.map fun i : Nat => (i : Int)) = (b.map fun i : Nat => (i : Int)) → a = b := fun {a b} e => (List.map_inj_right fun x y z => Int.ofNat.inj z).mp e
  have hnd : (fs.map fun T => (bitsL 60 T).map fun i : Nat => (i : Int)).Nodup := by
    unfold List.Nodup
    rw [List.pairwise_map]
    exact List.Pairwise.imp_of_mem (fun {S T} hS hT hne e => hne (hinj hS hT (hcast e))) hn
  obtain ⟨C0, e1, e2, e3⟩ := sort_lI hnd
  rw [mdel_mput hp6, e1]
  obtain ⟨us, rfl, hus⟩ := perm_map (fun T => (bitsL 60 T).map fun i : Nat => (i : Int)) e2
  intro _
  refine lc_map us (fun T => lI ((bitsL 60 T).map fun i : Nat => (i : Int))) (fun T => tI (unm P T)) (by rw [List.map_map]; rfl) srcV_none (fun T hT M5 l5 C1 h1 => ?_) fun p7 hp7 => ?_
  · walk_at "rd"
    intro _
    have hTp := hin T (hus.mem_iff.mp hT)
    refine lc_map (bitsL 60 T) nI (fun i => D.int (P.getD i 0)) (by rw [List.map_map]; rfl) srcV_none (fun i hi M7 l7 C7 h7 => ?_) fun p8 hp8 => ?_
    · walk_at "rd"
      have hil := hTp i ((mem_bits (inP_lt hTp hPl)).mp hi)
      refine ⟨_, ?_, h7⟩
      rw [atI_n, List.getElem?_map, List.getD_eq_getElem?_getD, List.getElem?_eq_getElem hil]
      rfl
    rw [mdel_mput hp8]
    rw [show ((bitsL 60 T).map fun i => D.int (P.getD i 0)) = (unm P T).map D.int from by rw [List.map_map]; rfl]
    exact h1
  rw [mdel_mput hp7]
  rw [show (us.map fun T => tI (unm P T)) = (us.map (unm P)).map tI from by rw [List.map_map]; rfl]
  refine ret_of (h (us.map (unm P)) (fun t => ?_) ?_ ?_)
  · rw [List.mem_map]
    exact ⟨fun ⟨T, h1, h2⟩ => ⟨T, hus.mem_iff.mp h1, h2.symm⟩, fun ⟨T, h1, h2⟩ => ⟨T, hus.mem_iff.mpr h1, h2.symm⟩⟩
  · rw [List.pairwise_map] at e3 ⊢
    refine List.Pairwise.imp_of_mem (fun {S T} hS hT z => ?_) e3
    have hSp := hin S (hus.mem_iff.mp hS)
    have hTp := hin T (hus.mem_iff.mp hT)
    rw [lx_places hP (fun i hi => hSp i ((mem_bits (inP_lt hSp hPl)).mp hi)) fun i hi => hTp i ((mem_bits (inP_lt hTp hPl)).mp hi)]
    exact z
  · rw [List.length_map, hus.length_eq]
abbrev sp_cuts : DSp := ar1 fun a M Q => ∃ (W : List (List Int)) (N : List Int), a = tW W ∧ (∀ m ∈ W, ascI m) ∧ (∀ m ∈ W, ∀ x ∈ m, x ∈ N) ∧ N.length ≤ 20 ∧ ∀ C, CutsOk W C → Q (tW C) M
theorem ok_cuts (F : Def K mg "cuts" s_cuts ["why"]) (B : Bi K mg) (I : Im mg) (c_ordered_parts : Cal P w K mg base 7 "ordered_parts" ["house", "members"] sp_ordered_parts) (c_masks_of : Cal P w K mg base 1 "masks_of" ["members", "parts"] sp_masks_of) (c_members_of : Cal P w K mg base 2 "members_of" ["masks", "parts"] sp_members_of) (c_cut_masks : Cal P w K mg base 3 "cut_masks" ["supports"] sp_cut_masks) : Cal P w K mg base 8 "cuts" ["why"] sp_cuts := by
  have sc := sc_cuts
  refine F.cal sc (fun ds M Q h => len1 h) (fun f cdv A outer s H E hr => (ds_cons (ds_set (i := 1) sc.nd rfl (Or.inl rfl) (d_call c_ordered_parts (hr.mono (by first | decide | omega)) rfl (da_cons (d_glT rfl B.g_WHYS) (da_cons (d_v 0) da_nil))))
    (ds_one (ds_ret (d_call c_members_of (hr.mono (by first | decide | omega)) rfl (da_cons (d_call c_cut_masks (hr.mono (by first | decide | omega)) rfl (da_cons (d_call c_masks_of (hr.mono (by first | decide | omega)) rfl (da_cons (d_v 0) (da_cons (d_v 1) da_nil))) da_nil)) (da_cons (d_v 1) da_nil))))))) (fun ds M Q h => ?_)
  obtain ⟨a, rfl, W, N, rfl, hW, hN, hNl, h⟩ := h
  walk_at "st"
  refine ⟨W, rfl, N, hN, by omega, fun P hP hPl => ?_⟩
  have hWP : ∀ s ∈ W, ascI s ∧ ∀ x ∈ s, x ∈ P := fun s hs => ⟨hW s hs, fun x hx => (hP.mem x).mpr ⟨s, hs, hx⟩⟩
  refine ⟨W, rfl, P, rfl, hP.asc, by omega, hWP, _, rfl, fun k hk => ?_, fun fs f1 f2 f3 => ⟨P, fs, rfl, rfl, hP.asc, by omega, f1, fun T hT => minM_in hP.asc hWP ((f2 T).mp hT), fun C c1 c2 c3 => ret_of (h C (cuts_of hP.asc (by omega) hWP f2 c1 c2))⟩⟩
  obtain ⟨s, hs, rfl⟩ := List.mem_map.mp hk
  exact msk_lt (L := 20) hP.asc (hW s hs) (hWP s hs).2 (by omega)
abbrev floD : Option (List Int) → D
  | none => .non
  | some t => tI t
abbrev sp_least_cut : DSp := ar1 fun a M Q => ∃ (W : List (List Int)) (N : List Int), a = tW W ∧ (∀ m ∈ W, ascI m) ∧ (∀ m ∈ W, ∀ x ∈ m, x ∈ N) ∧ N.length ≤ 20 ∧ ∀ C, CutsOk W C → Q (floD (flo none C)) M
theorem ok_least_cut (F : Def K mg "least_cut" s_least_cut ["why"]) (B : Bi K mg) (I : Im mg) (c_cuts : Cal P w K mg base 8 "cuts" ["why"] sp_cuts) : Cal P w K mg base 9 "least_cut" ["why"] sp_least_cut := by
  have sc := sc_least_cut
  refine F.cal sc (fun ds M Q h => len1 h) (fun f cdv A outer s H E hr => (ds_cons (ds_set (i := 1) sc.nd rfl (Or.inl rfl) d_non)
    (ds_cons (ds_for PassesOwn.never rfl (di_seq (d_call c_cuts (hr.mono (by first | decide | omega)) rfl (da_cons (d_v 0) da_nil))) (dg_name (i := 2) sc.nd rfl (Or.inl rfl))
    (ds_one (ds_if (dt_w (dw_or (dt_cmp o_is (d_v 1) d_non (nomark _)) (dw_or1 (dt_cmp o_lt (d_cb c_len rfl B.b_len boot_len (da_cons (d_v 2) da_nil)) (d_cb c_len rfl B.b_len boot_len (da_cons (d_v 1) da_nil)) (nomark _)))))
    (ds_one (ds_set (i := 1) sc.nd rfl (Or.inl rfl) (d_v 2)))
    ds_nil)))
    (ds_one (ds_ret (d_v 1)))))) (fun ds M Q h => ?_)
  obtain ⟨a, rfl, W, N, rfl, hW, hN, hNl, h⟩ := h
  walk_at "st"
  walk_at "st"
  refine ⟨W, rfl, hW, N, hN, hNl, fun C hC => ?_⟩
  have hq := h C hC
  intro _
  refine for_ind (fun items m1 M1 => ∃ (rest : List (List Int)) (b : Option (List Int)) (x2 : Option D), items = rest.map tI ∧ flo b rest = flo none C ∧ M1 = M ∧ m1 = [some (tW W), some (floD b), x2]) ?_ ?_ _ _ _ ⟨C, none, _, rfl, rfl, rfl, rfl⟩
  · rintro m1 M1 ⟨rest, b, x2, hi, hf, rfl, rfl⟩
    refine ⟨srcV_none, ?_⟩
    cases rest with
    | cons x r => cases hi
    | nil =>
      have hb : b = flo none C := by
        rw [← hf]
        cases b <;> rfl
      walk_at "rd"
      rw [hb]
      exact ret_of hq
  · rintro z items m1 M1 Cn hC2 ⟨rest, b, x2, hi, hf, rfl, rfl⟩
    refine ⟨srcV_none, ?_⟩
    cases rest with
    | nil => cases hi
    | cons c rest =>
      rw [List.map_cons] at hi
      injection hi with e1 e2
      subst e1
      subst e2
      cases b with
      | none =>
        walk_at "rd"
        exact fg_of (hC2 _ _ ⟨rest, some c, _, rfl, hf, rfl, rfl⟩)
      | some b =>
        rw [flo] at hf
        walk_at "rd"
        rw [List.length_map, List.length_map]
        by_cases c9 : c.length < b.length
        · rw [if_pos (by omega)]
          rw [if_pos c9] at hf
          exact fg_of (hC2 _ _ ⟨rest, some c, _, rfl, hf, rfl, rfl⟩)
        · rw [if_neg (by omega)]
          rw [if_neg c9] at hf
          exact fg_of (hC2 _ _ ⟨rest, some b, _, rfl, hf, rfl, rfl⟩)
abbrev sp_l_value_key : DSp := ar1 fun _ _ _ => False
theorem ok_l_value_key (F : Def K mg "_law_value_key" s_l_value_key ["value"]) (B : Bi K mg) (I : Im mg)  : Cal P w K mg base 1 "_law_value_key" ["value"] sp_l_value_key := by
  have sc := sc_l_value_key
  refine F.cal sc (fun ds M Q h => len1 h) (fun f cdv A outer s H E hr => (ds_cons (ds_if (dt_val (d_cb c_is rfl B.b_isinstance boot_isinstance (da_cons (d_v 0) (da_cons (d_ty rfl B.b_str boot_str) da_nil))))
    (ds_one (ds_ret (d_tup (da_cons d_int (da_cons d_int (da_cons (d_v 0) da_nil))))))
    ds_nil)
    (ds_one (ds_ret (d_tup (da_cons d_int (da_cons (d_v 0) (da_cons d_str da_nil)))))))) (fun ds M Q h => ?_)
  obtain ⟨_, _, h⟩ := h
  exact h.elim
abbrev sp_l_row_key : DSp := ar1 fun _ _ _ => False
theorem ok_l_row_key (F : Def K mg "_law_row_key" s_l_row_key ["row"]) (B : Bi K mg) (I : Im mg) (c_l_value_key : Cal P w K mg base 1 "_law_value_key" ["value"] sp_l_value_key) : Cal P w K mg base 2 "_law_row_key" ["row"] sp_l_row_key := by
  have sc := sc_l_row_key
  refine F.cal sc (fun ds M Q h => len1 h) (fun f cdv A outer s H E hr => (ds_one (ds_ret (d_ct c_tuple rfl B.b_tuple boot_tuple (da_cons (d_lcF rfl sc.nd (own := [("value", 1)]) (di_seq (d_v 0)) (blkOk_by (N := N_l_row_key) (sc := defScope s_l_row_key) (by decide +kernel)) (by decide) (fun _ _ _ _ _ => (dg_name (i := 1) sc.nd rfl (Or.inl rfl))) (fun _ _ _ _ _ => dts_nil) (fun _ _ _ _ _ => (d_call c_l_value_key (hr.mono (by first | decide | omega)) rfl (da_cons (d_v 1) da_nil)))) da_nil))))) (fun ds M Q h => ?_)
  obtain ⟨_, _, h⟩ := h
  exact h.elim
abbrev sp_l_mark_key : DSp := ar1 fun _ _ _ => False
theorem ok_l_mark_key (F : Def K mg "_law_mark_key" s_l_mark_key ["mark"]) (B : Bi K mg) (I : Im mg) (c_l_row_key : Cal P w K mg base 2 "_law_row_key" ["row"] sp_l_row_key) : Cal P w K mg base 3 "_law_mark_key" ["mark"] sp_l_mark_key := by
  have sc := sc_l_mark_key
  refine F.cal sc (fun ds M Q h => len1 h) (fun f cdv A outer s H E hr => (ds_one (ds_ret (d_tup (da_cons (d_ix x_ix (d_v 0) d_int (fun _ _ => rfl)) (da_cons (d_call c_l_row_key (hr.mono (by first | decide | omega)) rfl (da_cons (d_ix x_ix (d_v 0) d_int (fun _ _ => rfl)) da_nil)) (da_cons (d_ix x_ix (d_v 0) d_int (fun _ _ => rfl)) da_nil))))))) (fun ds M Q h => ?_)
  obtain ⟨_, _, h⟩ := h
  exact h.elim
abbrev sp_l_pair_key : DSp := ar1 fun _ _ _ => False
theorem ok_l_pair_key (F : Def K mg "_law_pair_key" s_l_pair_key ["pair"]) (B : Bi K mg) (I : Im mg) (c_l_row_key : Cal P w K mg base 2 "_law_row_key" ["row"] sp_l_row_key) (c_l_mark_key : Cal P w K mg base 3 "_law_mark_key" ["mark"] sp_l_mark_key) : Cal P w K mg base 4 "_law_pair_key" ["pair"] sp_l_pair_key := by
  have sc := sc_l_pair_key
  refine F.cal sc (fun ds M Q h => len1 h) (fun f cdv A outer s H E hr => (ds_one (ds_ret (d_tup (da_cons (d_call c_l_mark_key (hr.mono (by first | decide | omega)) rfl (da_cons (d_ix x_ix (d_v 0) d_int (fun _ _ => rfl)) da_nil)) (da_cons (d_call c_l_row_key (hr.mono (by first | decide | omega)) rfl (da_cons (d_ix x_ix (d_v 0) d_int (fun _ _ => rfl)) da_nil)) da_nil)))))) (fun ds M Q h => ?_)
  obtain ⟨_, _, h⟩ := h
  exact h.elim
abbrev sp_l_reason_key : DSp := ar1 fun _ _ _ => False
theorem ok_l_reason_key (F : Def K mg "_law_reason_key" s_l_reason_key ["reason"]) (B : Bi K mg) (I : Im mg) (c_l_pair_key : Cal P w K mg base 4 "_law_pair_key" ["pair"] sp_l_pair_key) : Cal P w K mg base 5 "_law_reason_key" ["reason"] sp_l_reason_key := by
  have sc := sc_l_reason_key
  refine F.cal sc (fun ds M Q h => len1 h) (fun f cdv A outer s H E hr => (ds_one (ds_ret (d_ct c_tuple rfl B.b_tuple boot_tuple (da_cons (d_lcF rfl sc.nd (own := [("pair", 1)]) (di_seq (d_v 0)) (blkOk_by (N := N_l_reason_key) (sc := defScope s_l_reason_key) (by decide +kernel)) (by decide) (fun _ _ _ _ _ => (dg_name (i := 1) sc.nd rfl (Or.inl rfl))) (fun _ _ _ _ _ => dts_nil) (fun _ _ _ _ _ => (d_call c_l_pair_key (hr.mono (by first | decide | omega)) rfl (da_cons (d_v 1) da_nil)))) da_nil))))) (fun ds M Q h => ?_)
  obtain ⟨_, _, h⟩ := h
  exact h.elim
abbrev subI (a b : List Int) : Bool := a.all fun x => decide (x ∈ b)
theorem subI_iff {a b : List Int} : subI a b = true ↔ ∀ x ∈ a, x ∈ b := by
  rw [List.all_eq_true]
  exact forall₂_congr fun x _ => decide_eq_true_iff
theorem any_int (x : Int) (ys : List Int) : ((ys.map D.int).any fun z => D.eqv z (.int x)) = decide (x ∈ ys) := by
  induction ys with
  | nil => rfl
  | cons y ys ih =>
    rw [List.map_cons, List.any_cons, ih, eqv_int]
    by_cases h : y = x
    · simp [h]
    · simp [h, Ne.symm h]
theorem any_bl (bs : List Bool) (b : Bool) : ((bs.map D.bl).any fun z => D.eqv z (.bl b)) = decide (b ∈ bs) := by
  induction bs with
  | nil => rfl
  | cons y ys ih =>
    rw [List.map_cons, List.any_cons, ih, eqv_bl]
    cases y <;> cases b <;> simp
theorem bls_all (n : Nat) (bs : List Bool) : (bs.map D.bl).all (dOk n) = true := by
  rw [List.all_map]
  exact List.all_eq_true.mpr fun i _ => by simp
theorem dOk_ints (n : Nat) (m : List Int) : (m.map D.int).all (dOk n) = true := by
  rw [List.all_map]
  exact List.all_eq_true.mpr fun i _ => by simp
abbrev sp_l_is_part : DSp := ar2 fun a b M Q => ∃ xs ys : List Int, a = tI xs ∧ b = tI ys ∧ Q (.bl (subI xs ys)) M
theorem ok_l_is_part (F : Def K mg "_law_is_part" s_l_is_part ["small", "large"]) (B : Bi K mg) (I : Im mg)  : Cal P w K mg base 1 "_law_is_part" ["small", "large"] sp_l_is_part := by
  have sc := sc_l_is_part
  refine F.cal sc (fun ds M Q h => len2 h) (fun f cdv A outer s H E hr => (ds_one (ds_ret (d_cmp (o_notin (hu_in hr)) d_bl (d_lcF rfl sc.nd (own := [("part", 2)]) (di_seq (d_v 0)) (blkOk_by (N := N_l_is_part) (sc := defScope s_l_is_part) (by decide +kernel)) (by decide) (fun _ _ _ _ _ => (dg_name (i := 2) sc.nd rfl (Or.inl rfl))) (fun _ _ _ _ _ => dts_nil) (fun _ _ _ _ _ => (d_cmp (o_in (hu_in hr)) (d_v 2) (d_v 1) rfl))) rfl)))) (fun ds M Q h => ?_)
  obtain ⟨a, b, rfl, xs, ys, rfl, rfl, h⟩ := h
  walk_at "rd"
  intro _
  refine lc_map xs D.int (fun x => D.bl (decide (x ∈ ys))) rfl srcV_none (fun x hx M5 l5 C1 h1 => ?_) fun p5 hp5 => ?_
  · walk_at "rd"
    refine ⟨dOk_ints _ _, ?_⟩
    rw [any_int]
    exact h1
  rw [mdel_mput hp5, show (xs.map fun x => D.bl (decide (x ∈ ys))) = (xs.map fun x => decide (x ∈ ys)).map D.bl from by rw [List.map_map]; rfl, any_bl]
  refine ⟨bls_all _ _, ?_⟩
  have e : (!decide (false ∈ xs.map fun x => decide (x ∈ ys))) = subI xs ys := by
    rw [Bool.eq_iff_iff, Bool.not_eq_true', decide_eq_false_iff_not, subI_iff, List.mem_map]
    constructor
    · intro z x hx
      exact Classical.byContradiction fun y => z ⟨x, hx, decide_eq_false y⟩
    · rintro z ⟨x, hx, e⟩
      exact of_decide_eq_false e (z x hx)
  rw [e]
  exact ret_of h
abbrev sp_l_member_key : DSp := ar1 fun a M Q => ∃ xs : List Int, a = tI xs ∧ Q a M
theorem ok_l_member_key (F : Def K mg "_law_member_key" s_l_member_key ["member"]) (B : Bi K mg) (I : Im mg) (c_l_reason_key : Cal P w K mg base 5 "_law_reason_key" ["reason"] sp_l_reason_key) : Cal P w K mg base 6 "_law_member_key" ["member"] sp_l_member_key := by
  have sc := sc_l_member_key
  refine F.cal sc (fun ds M Q h => len1 h) (fun f cdv A outer s H E hr => (ds_cons (ds_if (dt_w (dw_and (dt_cmp o_gt (d_cb c_len rfl B.b_len boot_len (da_cons (d_v 0) da_nil)) d_int (nomark _)) (dw_and1 (dt_val (d_cb c_is rfl B.b_isinstance boot_isinstance (da_cons (d_ix x_ix (d_v 0) d_int (fun _ _ => rfl)) (da_cons (d_ty rfl B.b_tuple boot_tuple) da_nil)))))))
    (ds_one (ds_ret (d_call c_l_reason_key (hr.mono (by first | decide | omega)) rfl (da_cons (d_v 0) da_nil))))
    ds_nil)
    (ds_one (ds_ret (d_v 0))))) (fun ds M Q h => ?_)
  obtain ⟨a, rfl, xs, rfl, h⟩ := h
  walk_at "rd"
  cases xs with
  | nil => exact ret_of h
  | cons x xs =>
    rw [if_pos (by rw [List.length_map, List.length_cons]; omega), List.map_cons, atI_0]
    refine ⟨_, rfl, "int", dTyN_int _ _, ?_⟩
    rw [if_neg (by decide)]
    exact ret_of h
theorem pw_sym {α : Type} {R : α → α → Prop} (sym : ∀ {a b}, R a b → R b a) : ∀ {l : List α}, l.Pairwise R → ∀ {a b : α}, a ∈ l → b ∈ l → a ≠ b → R a b
  | x :: l, h, a, b, ha, hb, ne => by
    rw [List.pairwise_cons] at h
    rcases List.mem_cons.mp ha with e | ha <;> rcases List.mem_cons.mp hb with e2 | hb
    · exact absurd (e.trans e2.symm) ne
    · exact e ▸ h.1 b hb
    · exact e2 ▸ sym (h.1 a ha)
    · exact pw_sym sym h.2 ha hb ne
/-- least members, in order -/
structure WhyOk (N : List Int) (W : List (List Int)) : Prop where
  asc : ∀ s ∈ W, ascI s
  inn : ∀ s ∈ W, ∀ x ∈ s, x ∈ N
  anti : ∀ s ∈ W, ∀ g ∈ W, (∀ x ∈ g, x ∈ s) → g = s
  ord : W.Pairwise fun a b => lxI a b = true
abbrev sp_l_thin : DSp := ar1 fun a M Q => ∃ (ms : List (List Int)) (N : List Int), a = .lst (ms.map tI) ∧ ms.length ≤ 1000 ∧ (∀ m ∈ ms, ascI m ∧ ∀ x ∈ m, x ∈ N) ∧ ∀ W, WhyOk N W → Q (tW W) M
theorem ok_l_thin (F : Def K mg "_law_thin" s_l_thin ["members"]) (B : Bi K mg) (I : Im mg) (c_l_is_part : Cal P w K mg base 1 "_law_is_part" ["small", "large"] sp_l_is_part) (c_l_member_key : Cal P w K mg base 6 "_law_member_key" ["member"] sp_l_member_key) : Cal P w K mg base 9 "_law_thin" ["members"] sp_l_thin := by
  have sc := sc_l_thin
  refine F.cal sc (fun ds M Q h => len1 h) (fun f cdv A outer s H E hr => (ds_cons (ds_set (i := 1) sc.nd rfl (Or.inl rfl) (d_lst da_nil))
    (ds_cons (ds_for PassesOwn.never rfl (di_seq (d_fz (d_sortLen (k := 0) (hr.mono (by first | decide | omega)).in1.in1 rfl B.b_len rfl B.b_sorted (d_v 0)))) (dg_name (i := 2) sc.nd rfl (Or.inr rfl))
    (ds_one (ds_if (dt_cmp (o_notin (hu_in hr)) d_bl (d_lcF rfl sc.nd (own := [("other", 3)]) (di_seq (d_v 1)) (blkOk_by (N := N_l_thin) (sc := defScope s_l_thin) (by decide +kernel)) (by decide) (fun _ _ _ _ _ => (dg_name (i := 3) sc.nd rfl (Or.inl rfl))) (fun _ _ _ _ _ => dts_nil) (fun _ _ _ _ _ => (d_call c_l_is_part (hr.mono (by first | decide | omega)) rfl (da_cons (d_v 3) (da_cons (d_v 2) da_nil))))) rfl)
    (ds_one (ds_expr (d_mt PySem.F.slot_list_append PySem.F.type_list_append m_append (d_v 1) (da_cons (d_v 2) da_nil))))
    ds_nil)))
    (ds_one (ds_ret (d_ct c_tuple rfl B.b_tuple boot_tuple (da_cons (d_fz (d_sortK c_l_member_key (hr.mono (by first | decide | omega)).in1.in1 rfl rfl B.b_sorted (da_cons (d_v 1) da_nil))) da_nil))))))) (fun ds M Q h => ?_)
  obtain ⟨a, rfl, ms, N, rfl, hml, hms, h⟩ := h
  walk_at "st"
  intro q hq
  have emm : ms.map tI = (ms.map fun m => m.map D.int).map D.tup := by rw [List.map_map]; rfl
  walk_at "st"
  refine ⟨ms.map fun m => m.map D.int, emm, fun p1 hp1 => ?_⟩
  rw [← emm]
  obtain ⟨us, hus, hperm⟩ := perm_map tI (xs := ms) (List.mergeSort_perm (ms.map tI) (PySem.W.dataLe false fun x => D.py (gLen x)))
  have hord := sort_pair (fun x => gLen x) (ms.map tI)
  rw [hus, List.pairwise_map] at hord
  have hlen : us.Pairwise fun a b => a.length ≤ b.length := hord.imp fun {a b} h => by
    have e : dlt (gLen (tI b)) (gLen (tI a)) = decide ((((b.map D.int).length : Nat) : Int) < (((a.map D.int).length : Nat) : Int)) := PySem.W.dataLt_int _ _
    rw [e, decide_eq_false_iff_not, List.length_map, List.length_map] at h
    omega
  have hul := hperm.length_eq
  have hum : ∀ m ∈ us, ascI m ∧ ∀ x ∈ m, x ∈ N := fun m hm2 => hms m (hperm.mem_iff.mp hm2)
  refine ⟨_, rfl, fun _ => ?_⟩
  rw [mdel_mput hp1, hus]
  refine for_ind (fun items m1 M1 => ∃ (rest dn fs : List (List Int)) (x2 : Option D), items = rest.map tI ∧ dn ++ rest = us ∧ M1 = mput M q (.lst (fs.map tI)) ∧ fs.Sublist dn ∧ (fs.Pairwise fun a b => ¬ (∀ x ∈ a, x ∈ b) ∧ ¬ ∀ x ∈ b, x ∈ a) ∧ m1 = [some (.lst (ms.map tI)), some (.ref q), x2, none]) ?_ ?_ _ _ _ ⟨us, [], [], _, rfl, rfl, rfl, .refl _, .nil, rfl⟩
  · rintro m1 M1 ⟨rest, dn, fs, x2, hi, hd, rfl, hs, han, rfl⟩
    refine ⟨srcV_none, ?_⟩
    cases rest with
    | cons x r => cases hi
    | nil =>
      rw [List.append_nil] at hd
      subst hd
      obtain ⟨k1, k2, k3⟩ := tI_sortO fs
      walk_at "rd"
      refine ⟨fun x => x, fun x hx Q' hq' => ?_, by rw [List.map_id']; exact k1, by rw [List.map_id']; exact k2, by rw [List.map_id']; exact k3, fun p2 hp2 => ?_⟩
      · obtain ⟨r, hr, rfl⟩ := List.mem_map.mp hx
        exact ⟨⟨r, rfl⟩, hq'⟩
      have hfn : fs.Nodup := han.imp fun {a b} z (e : a = b) => z.1 fun x hx => e ▸ hx
      obtain ⟨C, e1, e2, e3⟩ := sort_tI hfn
      have e4 : ((fs.map tI).mergeSort (PySem.W.dataLe false fun x => D.py x)) = C.map tI := e1
      refine ⟨_, rfl, ?_⟩
      rw [mdel_mput hp2, e4]
      have hfu : ∀ s ∈ C, s ∈ dn := fun s hs2 => hs.mem (e2.mem_iff.mp hs2)
      refine ret_le (.put (.refl M) hq) (h C ⟨fun s hs2 => (hum s (hfu s hs2)).1, fun s hs2 => (hum s (hfu s hs2)).2, fun s hs2 g hg hsub => Classical.byContradiction fun ne => ?_, e3⟩)
      exact (pw_sym (fun {a b} z => ⟨z.2, z.1⟩) han (e2.mem_iff.mp hg) (e2.mem_iff.mp hs2) ne).1 hsub
  · rintro z items m1 M1 Cn hC ⟨rest, dn, fs, x2, hi, hd, rfl, hs, han, rfl⟩
    refine ⟨srcV_none, ?_⟩
    cases rest with
    | nil => cases hi
    | cons r rest =>
      rw [List.map_cons] at hi
      injection hi with h1 h2
      subst h1
      subst h2
      have hro := hum r (by rw [← hd]; simp)
      have hfm : ∀ t ∈ fs, t ∈ us := fun t ht => by rw [← hd]; exact List.mem_append_left _ (hs.mem ht)
      have hfl : fs.length ≤ 1000 := by
        have h8 := hs.length_le
        have h9 := congrArg List.length hd
        rw [List.length_append] at h9
        omega
      walk_at "s1"
      intro _
      refine lc_map fs tI (fun t => D.bl (subI t r)) rfl (srcV_it (a := .ref q) (by rw [dItems_rf, mput_same])) (fun t ht M5 l5 C1 h5 => ?_) fun p5 hp5 => ?_
      · walk_at "rd"
        exact ⟨t, rfl, r, rfl, h5⟩
      rw [mdel_mput hp5]
      have eb : (fs.map fun t => D.bl (subI t r)) = (fs.map fun t => subI t r).map D.bl := by rw [List.map_map]; rfl
      rw [eb, any_bl]
      refine ⟨bls_all _ _, ?_⟩
      have hd2 : (dn ++ [r]) ++ rest = us := by rw [← hd]; simp
      by_cases c : ∃ t ∈ fs, subI t r = true
      · obtain ⟨t, ht, c⟩ := c
        rw [if_neg (fun z => by
          rw [decide_eq_false_iff_not] at z
          exact z (List.mem_map.mpr ⟨t, ht, c⟩))]
        exact fg_of (hC _ _ ⟨rest, dn ++ [r], fs, _, rfl, hd2, rfl, hs.trans (List.sublist_append_left ..), han, rfl⟩)
      · rw [if_pos (by
          rw [decide_eq_false_iff_not, List.mem_map]
          exact fun ⟨t, ht, e⟩ => c ⟨t, ht, e⟩)]
        refine ⟨⟨_, by rw [mput_same]⟩, _, mput_same, by rw [List.length_map]; omega, ?_⟩
        rw [mput_mput]
        refine fg_of (hC _ _ ⟨rest, dn ++ [r], fs ++ [r], _, rfl, hd2, by rw [List.map_append]; rfl, hs.append (.refl _), ?_, rfl⟩)
        refine List.pairwise_append.mpr ⟨han, List.pairwise_singleton _ _, fun t ht u hu => ?_⟩
        rw [List.mem_singleton.mp hu]
        have hno : ¬ ∀ x ∈ t, x ∈ r := fun z => c ⟨t, ht, subI_iff.mpr z⟩
        refine ⟨hno, fun z => hno ?_⟩
        have hlt : t.length ≤ r.length := by
          rw [← hd, List.pairwise_append] at hlen
          exact hlen.2.2 t (hs.mem ht) r (by simp)
        have hrn : r.Nodup := hro.1.imp Int.ne_of_lt
        intro x hx
        refine Classical.byContradiction fun c2 => ?_
        have z2 := List.Nodup.length_le_of_subset (l₁ := x :: r) (l₂ := t) (List.nodup_cons.mpr ⟨c2, hrn⟩) fun y hy => by
          rcases List.mem_cons.mp hy with rfl | hy
          · exact hx
          · exact z y hy
        rw [List.length_cons] at z2
        omega
theorem asc_last {ns : List Int} {l : Int} (h : ascI ns) (e : ns.getLast? = some l) : ∀ a ∈ ns, a ≤ l := by
  obtain ⟨ys, rfl⟩ := List.getLast?_eq_some_iff.mp e
  intro a ha
  rcases List.mem_append.mp ha with ha | ha
  · have := (List.pairwise_append.mp h).2.2 a ha l (by simp)
    omega
  · rw [List.mem_singleton.mp ha]
    exact Int.le_refl _
theorem mput_in {M : DM} {p q r : Addr} {o o' S A : DO} (hq : p ≠ q) (hr : p ≠ r) : mput (mput (mput (mput M p o) q S) r A) p o' = mput (mput (mput M p o') q S) r A := by
  rw [mput_comm hr.symm, mput_swap hq]
abbrev sp_l_some_numbers : DSp := ar1 fun a M Q => ∃ p : Addr, a = .ref p ∧ Dr M p ∧ ∀ (o : DO) (N : List Int), DrO o → ascI N → N.length = 7 → Q (.lst (N.map D.int)) (mput M p o)
theorem ok_l_some_numbers (F : Def K mg "_law_some_numbers" s_l_some_numbers ["draws"]) (B : Bi K mg) (I : Im mg) (c_l_take : Cal P w K mg base 1 "_law_take" ["draws", "many"] sp_l_take) : Cal P w K mg base 2 "_law_some_numbers" ["draws"] sp_l_some_numbers := by
  have sc := sc_l_some_numbers
  refine F.cal sc (fun ds M Q h => len1 h) (fun f cdv A outer s H E hr => (ds_cons (ds_set (i := 1) sc.nd rfl (Or.inl rfl) (d_lst (da_cons (d_op o_add d_int (d_call c_l_take (hr.mono (by first | decide | omega)) rfl (da_cons (d_v 0) (da_cons d_int da_nil)))) da_nil)))
    (ds_cons (ds_for PassesOwn.never rfl (di_range1 rfl B.b_range (da_cons d_int da_nil)) (dg_name (i := 2) sc.nd rfl (Or.inl rfl))
    (ds_one (ds_expr (d_mt PySem.F.slot_list_append PySem.F.type_list_append m_append (d_v 1) (da_cons (d_op o_add (d_op o_add (d_op o_add (d_ix x_ix (d_v 1) (d_neg d_int) (fun _ _ => rfl)) d_int) (d_call c_l_take (hr.mono (by first | decide | omega)) rfl (da_cons (d_v 0) (da_cons d_int da_nil)))) (d_op o_mul (d_ct c_int rfl B.b_int boot_int (da_cons (d_cmp (o_eq (hu_eq hr)) (d_call c_l_take (hr.mono (by first | decide | omega)) rfl (da_cons (d_v 0) (da_cons d_int da_nil))) d_int (nomark _)) da_nil)) (d_op o_pow d_int d_int))) da_nil)))))
    (ds_one (ds_ret (d_fz (d_v 1))))))) (fun ds M Q h => ?_)
  obtain ⟨a, rfl, p, rfl, hdr, h⟩ := h
  walk_at "st"
  refine ⟨hdr, fun o r ho r0 r1 q hq => ?_⟩
  have hpq : p ≠ q := ne_of_fresh mput_same hq
  have hqM : M q = none := by rw [mput_ne hpq.symm] at hq; exact hq
  walk_at "st"
  intro _
  refine for_ind (fun items m1 M1 => ∃ (o : DO) (ns : List Int) (x2 : Option D), DrO o ∧ ascI ns ∧ ns ≠ [] ∧ ns.length + items.length = 7 ∧ M1 = mput (mput M p o) q (.lst (ns.map D.int)) ∧ m1 = [some (.ref p), some (.ref q), x2]) ?_ ?_ _ _ _ ⟨o, [1 + r], _, ho, List.pairwise_singleton _ _, by simp, rfl, rfl, rfl⟩
  · rintro m1 M1 ⟨o, ns, x2, ho, ha, hne, hl, rfl, rfl⟩
    refine ⟨srcV_none, ?_⟩
    walk_at "rd"
    refine ⟨_, rfl, ?_⟩
    rw [mdel_mput (mput_fresh hpq hqM)]
    exact ret_of (h o ns ho ha (by simpa using hl))
  · rintro z items m1 M1 Cn hC ⟨o, ns, x2, ho, ha, hne, hl, rfl, rfl⟩
    refine ⟨srcV_none, ?_⟩
    rw [List.length_cons] at hl
    obtain ⟨lx, hlx⟩ : ∃ lx, ns.getLast? = some lx := by
      cases e : ns.getLast? with
      | none => exact absurd (List.getLast?_eq_none_iff.mp e) hne
      | some x => exact ⟨x, rfl⟩
    walk_at "s1"
    refine ⟨⟨_, rfl⟩, .int lx, by rw [List.getLast?_map, hlx]; rfl, lx, rfl, dr_ne (dr_put ho) hpq, fun o2 r2 ho2 r20 r21 => ⟨dr_put ho2, fun o3 r3 ho3 r30 r31 => ?_⟩⟩
    rw [mput_ne hpq.symm, mput_same]
    refine ⟨_, rfl, by rw [List.length_map]; omega, ?_⟩
    rw [mput_swap hpq, mput_mput]
    have hpos : 0 ≤ (if r3 = 1 then (1 : Int) else 0) * 10000000000000000000 := by split <;> omega
    generalize (if r3 = 1 then (1 : Int) else 0) * 10000000000000000000 = big at hpos
    refine fg_of (hC _ _ ⟨o3, ns ++ [lx + 1 + r2 + big], _, ho3, List.pairwise_append.mpr ⟨ha, List.pairwise_singleton _ _, fun a ha2 b hb => ?_⟩, by simp, by rw [List.length_append, List.length_singleton]; omega, by rw [List.map_append]; rfl, rfl⟩)
    rw [List.mem_singleton.mp hb]
    have := asc_last ha hlx a ha2
    omega
abbrev sp_l_drawn_why : DSp := ar2 fun a b M Q => ∃ (p : Addr) (N : List Int), a = .ref p ∧ b = .lst (N.map D.int) ∧ ascI N ∧ N.length = 7 ∧ Dr M p ∧ ∀ (o : DO) (W : List (List Int)), DrO o → WhyOk N W → Q (tW W) (mput M p o)
theorem ok_l_drawn_why (F : Def K mg "_law_drawn_why" s_l_drawn_why ["draws", "numbers"]) (B : Bi K mg) (I : Im mg) (c_l_take : Cal P w K mg base 1 "_law_take" ["draws", "many"] sp_l_take) (c_l_thin : Cal P w K mg base 9 "_law_thin" ["members"] sp_l_thin) : Cal P w K mg base 10 "_law_drawn_why" ["draws", "numbers"] sp_l_drawn_why := by
  have sc := sc_l_drawn_why
  refine F.cal sc (fun ds M Q h => len2 h) (fun f cdv A outer s H E hr => (ds_cons (ds_set (i := 2) sc.nd rfl (Or.inl rfl) (d_call c_l_take (hr.mono (by first | decide | omega)) rfl (da_cons (d_v 0) (da_cons d_int da_nil))))
    (ds_cons (ds_if (dt_cmp (o_eq (hu_eq hr)) (d_v 2) d_int (nomark _))
    (ds_one (ds_ret (d_tup da_nil)))
    ds_nil)
    (ds_cons (ds_if (dt_cmp (o_eq (hu_eq hr)) (d_v 2) d_int (nomark _))
    (ds_one (ds_ret (d_tup (da_cons (d_tup da_nil) da_nil))))
    ds_nil)
    (ds_cons (ds_set (i := 3) sc.nd rfl (Or.inl rfl) (d_lst da_nil))
    (ds_cons (ds_for PassesOwn.never rfl (di_range1 rfl B.b_range (da_cons (d_op o_add d_int (d_call c_l_take (hr.mono (by first | decide | omega)) rfl (da_cons (d_v 0) (da_cons d_int da_nil)))) da_nil)) (dg_name (i := 4) sc.nd rfl (Or.inl rfl))
    (ds_one (ds_expr (d_mt PySem.F.slot_list_append PySem.F.type_list_append m_append (d_v 3) (da_cons (d_ct c_tuple rfl B.b_tuple boot_tuple (da_cons (d_lcF rfl sc.nd (own := [("number", 6)]) (di_seq (d_v 1)) (blkOk_by (N := N_l_drawn_why) (sc := defScope s_l_drawn_why) (by decide +kernel)) (by decide) (fun _ _ _ _ _ => (dg_name (i := 6) sc.nd rfl (Or.inl rfl))) (fun _ _ _ _ _ => (dts_one (dt_cmp o_lt (d_call c_l_take (hr.mono (by first | decide | omega)) rfl (da_cons (d_v 0) (da_cons d_int da_nil))) d_int (nomark _)))) (fun _ _ _ _ _ => (d_v 6))) da_nil)) da_nil)))))
    (ds_one (ds_ret (d_call c_l_thin (hr.mono (by first | decide | omega)) rfl (da_cons (d_lcF rfl sc.nd (own := [("support", 5)]) (di_seq (d_v 3)) (blkOk_by (N := N_l_drawn_why) (sc := defScope s_l_drawn_why) (by decide +kernel)) (by decide) (fun _ _ _ _ _ => (dg_name (i := 5) sc.nd rfl (Or.inl rfl))) (fun _ _ _ _ _ => (dts_one (dt_cmp o_gt (d_cb c_len rfl B.b_len boot_len (da_cons (d_v 5) da_nil)) d_int (nomark _)))) (fun _ _ _ _ _ => (d_v 5))) da_nil)))))))))) (fun ds M Q h => ?_)
  obtain ⟨a, b, rfl, p, N, rfl, rfl, hN, hNl, hdr, h⟩ := h
  walk_at "st"
  refine ⟨hdr, fun o r ho r0 r1 => ?_⟩
  have w0 : WhyOk N [] := ⟨nofun, nofun, nofun, .nil⟩
  have w1 : WhyOk N [[]] := by
    refine ⟨fun s hs => ?_, fun s hs x hx => ?_, fun s hs g hg _ => ?_, List.pairwise_singleton _ _⟩
    · rw [List.mem_singleton.mp hs]
      exact .nil
    · rw [List.mem_singleton.mp hs] at hx
      cases hx
    · rw [List.mem_singleton.mp hs, List.mem_singleton.mp hg]
  walk_at "st"
  split
  · exact ret_of (h o [] ho w0)
  walk_at "st"
  split
  · exact ret_of (h o [[]] ho w1)
  walk_at "st"
  intro q hq
  have hpq : p ≠ q := ne_of_fresh mput_same hq
  have hqM : M q = none := by rw [mput_ne hpq.symm] at hq; exact hq
  walk_at "st"
  refine ⟨dr_ne (dr_put ho) hpq, fun o1 r1' ho1 r10 r11 => ⟨by omega, by omega, fun _ => ?_⟩⟩
  rw [mput_swap hpq]
  refine for_ind (fun items m1 M1 => ∃ (o : DO) (ss : List (List Int)) (x4 : Option D), DrO o ∧ (∀ m ∈ ss, ascI m ∧ ∀ x ∈ m, x ∈ N) ∧ ss.length + items.length ≤ 20 ∧ M1 = mput (mput M p o) q (.lst (ss.map tI)) ∧ m1 = [some (.ref p), some (.lst (N.map D.int)), some (.int r), some (.ref q), x4, none, none]) ?_ ?_ _ _ _ ⟨o1, [], _, ho1, nofun, ?_, rfl, rfl⟩
  · rintro m1 M1 ⟨o, ss, x4, ho, hss, hl, rfl, rfl⟩
    refine ⟨srcV_none, ?_⟩
    walk_at "rd"
    intro _
    refine lc_pure ss tI (fun m => decide (0 < m.length)) tI rfl (srcV_it (a := .ref q) (by rw [dItems_rf, mput_same])) (fun m hm M5 l5 C1 C2 h1 h2 => ?_) fun p5 hp5 => ?_
    · walk_at "rd"
      rw [List.length_map]
      by_cases c : 0 < m.length
      · rw [if_pos (by omega)]
        exact h1 (decide_eq_true c)
      · rw [if_neg (by omega)]
        exact h2 (decide_eq_false c)
    · rw [mdel_mput hp5]
      refine ⟨_, rfl, ?_, N, fun m hm => hss m (List.mem_filter.mp hm).1, fun W hW => ret_le (.put (.refl _) (mput_fresh hpq hqM)) (h o W ho hW)⟩
      have := List.length_filter_le (fun m : List Int => decide (0 < m.length)) ss
      omega
  · rintro z items m1 M1 Cn hC ⟨o, ss, x4, ho, hss, hl, rfl, rfl⟩
    refine ⟨srcV_none, ?_⟩
    rw [List.length_cons] at hl
    walk_at "s1"
    refine ⟨⟨_, rfl⟩, fun _ r hr => ?_⟩
    have hpr : p ≠ r := ne_of_fresh (o := o) (by rw [mput_ne hpq]; exact mput_same) hr
    have hqr : q ≠ r := ne_of_fresh mput_same hr
    refine lc_ind (fun ds acc M1 => ∃ (rest dn xs : List Int) (o : DO), ds = rest.map D.int ∧ dn ++ rest = N ∧ acc = xs.map D.int ∧ xs.Sublist dn ∧ DrO o ∧ M1 = mput (mput (mput M p o) q (.lst (ss.map tI))) r (.lst acc)) ?_ ?_ _ _ _ ⟨N, [], [], o, rfl, rfl, rfl, .slnil, ho, rfl⟩
    · rintro acc M1 ⟨rest, dn, xs, o, hi, hd, rfl, hs, ho, rfl⟩
      refine ⟨srcV_none, ?_⟩
      cases rest with
      | cons x r => cases hi
      | nil =>
        rw [List.append_nil] at hd
        subst hd
        have hrM : M r = none := by
          rw [mput_ne hqr.symm, mput_ne hpr.symm] at hr
          exact hr
        rw [mdel_mput (by rw [mput_ne hqr.symm, mput_ne hpr.symm]; exact hrM), mput_same]
        refine ⟨_, rfl, by rw [List.length_map]; omega, ?_⟩
        rw [mput_mput]
        refine fg_of (hC _ _ ⟨o, ss ++ [xs], _, ho, fun m hm => ?_, by rw [List.length_append, List.length_singleton]; omega, by rw [List.map_append]; rfl, rfl⟩)
        rcases List.mem_append.mp hm with hm | hm
        · exact hss m hm
        · rw [List.mem_singleton.mp hm]
          exact ⟨hN.sublist hs, fun x hx => hs.mem hx⟩
    · rintro d ds acc M1 Cn2 hC2 ⟨rest, dn, xs, o, hi, hd, rfl, hs, ho, rfl⟩
      refine ⟨srcV_none, ?_⟩
      cases rest with
      | nil => cases hi
      | cons x rest =>
        rw [List.map_cons] at hi
        injection hi with e1 e2
        subst e1
        subst e2
        have hd2 : (dn ++ [x]) ++ rest = N := by rw [← hd]; simp
        walk_at "rd"
        refine ⟨dr_ne (dr_ne (dr_put ho) hpq) hpr, fun o2 r2 ho2 r20 r21 => ?_⟩
        rw [mput_in hpq hpr, mput_same, mput_mput]
        split
        · refine ⟨rfl, hC2 _ _ ⟨rest, dn ++ [x], xs ++ [x], o2, rfl, hd2, by rw [List.map_append]; rfl, hs.append (.refl _), ho2, rfl⟩⟩
        · exact ⟨rfl, hC2 _ _ ⟨rest, dn ++ [x], xs, o2, rfl, hd2, rfl, hs.trans (List.sublist_append_left ..), ho2, rfl⟩⟩
  · simp [rangeD]
    omega
theorem hit_iff {P : List Int} {W : List (List Int)} (hP : ascI P) (hl : P.length ≤ 60) (hW : ∀ s ∈ W, ascI s ∧ ∀ x ∈ s, x ∈ P) {T : Nat} (hT : InP P T) : HitM (W.map (mskN P)) T ↔ HitH W (unm P T) := by
  have bm : ∀ s ∈ W, ∀ i, (mskN P s).testBit i = true ↔ ∃ x, P[i]? = some x ∧ x ∈ s := fun s hs i => msk_bit hP (hW s hs).1 (hW s hs).2 i
  have um := unm_mem hP hl hT
  constructor
  · intro h1 s hs
    obtain ⟨i, k1, k2⟩ := h1 _ (List.mem_map.mpr ⟨s, hs, rfl⟩)
    obtain ⟨x, k3, k4⟩ := (bm s hs i).mp k1
    exact ⟨x, k4, (um x).mpr ⟨i, k3, k2⟩⟩
  · intro h m hm
    obtain ⟨s, hs, rfl⟩ := List.mem_map.mp hm
    obtain ⟨x, k1, k2⟩ := h s hs
    obtain ⟨i, k3, k4⟩ := (um x).mp k2
    exact ⟨i, (bm s hs i).mpr ⟨x, k3, k1⟩, k4⟩
theorem bit_div (k j : Nat) : Builtin.bitAnd ((k : Int) / 2 ^ j) 1 = if k.testBit j = true then 1 else 0 := by
  have e : ((k : Int) / 2 ^ j) = ((k / 2 ^ j : Nat) : Int) := by push_cast; rfl
  rw [e, show (1 : Int) = ((1 : Nat) : Int) from rfl, andI, Nat.and_one_is_mod, Nat.testBit_eq_decide_div_mod_eq]
  have : k / 2 ^ j % 2 = 0 ∨ k / 2 ^ j % 2 = 1 := by omega
  rcases this with h | h <;> rw [h] <;> simp
theorem mine_eq (N : List Int) {k : Nat} (hk : k < 2 ^ N.length) (hl : N.length ≤ 60) : ((List.range N.length).filter fun j => k.testBit j).map (fun j => N.getD j 0) = unm N k := by
  show (bitsL N.length k).map _ = (bitsL 60 k).map _
  rw [bits_any hk (Nat.lt_of_lt_of_le hk (Nat.pow_le_pow_right (by decide) hl))]
abbrev sp_l_cuts : DSp := ar2 fun a b M Q => ∃ (W : List (List Int)) (N : List Int), a = tW W ∧ b = .lst (N.map D.int) ∧ ascI N ∧ N.length ≤ 16 ∧ (∀ s ∈ W, ascI s ∧ ∀ x ∈ s, x ∈ N) ∧ ∀ C, CutsOk W C → Q (tW C) M
theorem ok_l_cuts (F : Def K mg "_law_cuts" s_l_cuts ["why", "numbers"]) (B : Bi K mg) (I : Im mg)  : Cal P w K mg base 1 "_law_cuts" ["why", "numbers"] sp_l_cuts := by
  have sc := sc_l_cuts
  refine F.cal sc (fun ds M Q h => len2 h) (fun f cdv A outer s H E hr => (ds_cons (ds_set (i := 2) sc.nd rfl (Or.inl rfl) (d_lst da_nil))
    (ds_cons (ds_for PassesOwn.never rfl (di_range1 rfl B.b_range (da_cons (d_op o_shl1 d_int (d_cb c_lenB rfl B.b_len boot_len (da_cons (d_v 1) da_nil))) da_nil)) (dg_name (i := 3) sc.nd rfl (Or.inr rfl))
    (ds_cons (ds_set (i := 4) sc.nd rfl (Or.inr rfl) (d_lcF rfl sc.nd (own := [("j", 6)]) (di_range1 rfl B.b_range (da_cons (d_cb c_lenB rfl B.b_len boot_len (da_cons (d_v 1) da_nil)) da_nil)) (blkOk_by (N := N_l_cuts) (sc := defScope s_l_cuts) (by decide +kernel)) (by decide) (fun _ _ _ _ _ => (dg_name (i := 6) sc.nd rfl (Or.inl rfl))) (fun _ _ _ _ _ => (dts_one (dt_cmp (o_eq (hu_eq hr)) (d_op o_and (d_op o_shr (d_v 3) (d_v 6)) d_int) d_int (nomark _)))) (fun _ _ _ _ _ => (d_ix x_ix (d_v 1) (d_v 6) (fun _ _ => rfl)))))
    (ds_one (ds_if (dt_cmp (o_notin (hu_in hr)) d_bl (d_lcF rfl sc.nd (own := [("other", 7)]) (di_seq (d_v 2)) (blkOk_by (N := N_l_cuts) (sc := defScope s_l_cuts) (by decide +kernel)) (by decide) (fun _ _ _ _ _ => (dg_name (i := 7) sc.nd rfl (Or.inl rfl))) (fun _ _ _ _ _ => dts_nil) (fun _ _ _ _ _ => (d_cmp (o_eq (hu_eq hr)) (d_op o_and (d_v 3) (d_v 7)) (d_v 7) (nomark _)))) rfl)
    (ds_one (ds_if (dt_cmp (o_notin (hu_in hr)) d_bl (d_lcF rfl sc.nd (own := [("support", 8)]) (di_seq (d_v 0)) (blkOk_by (N := N_l_cuts) (sc := defScope s_l_cuts) (by decide +kernel)) (by decide) (fun _ _ _ _ _ => (dg_name (i := 8) sc.nd rfl (Or.inr rfl))) (fun _ _ _ _ _ => dts_nil) (fun _ _ _ _ _ => (d_cmp (o_in (hu_in hr)) d_bl (d_lcF rfl sc.nd (own := [("number", 9)]) (di_seq (d_v 4)) (blkOk_by (N := N_l_cuts) (sc := ({ kind := PySem.ScopeKind.function, names := [(PySem.Str.ofString ".0", PySem.NameKind.local), (PySem.Str.ofString "support", PySem.NameKind.cell), (PySem.Str.ofString "mine", PySem.NameKind.cell)], isGenerator := false, isCoroutine := false } : PySem.Scope)) (by decide +kernel)) (by decide) (fun _ _ _ _ _ => (dg_name (i := 9) sc.nd rfl (Or.inl rfl))) (fun _ _ _ _ _ => dts_nil) (fun _ _ _ _ _ => (d_cmp (o_in (hu_in hr)) (d_v 9) (d_v 8) rfl))) rfl))) rfl)
    (ds_one (ds_expr (d_mt PySem.F.slot_list_append PySem.F.type_list_append m_append (d_v 2) (da_cons (d_v 3) da_nil))))
    ds_nil))
    ds_nil))))
    (ds_cons (ds_set (i := 5) sc.nd rfl (Or.inl rfl) (d_lst da_nil))
    (ds_cons (ds_for PassesOwn.never rfl (di_seq (d_v 2)) (dg_name (i := 3) sc.nd rfl (Or.inr rfl))
    (ds_one (ds_expr (d_mt PySem.F.slot_list_append PySem.F.type_list_append m_append (d_v 5) (da_cons (d_ct c_tuple rfl B.b_tuple boot_tuple (da_cons (d_lcF rfl sc.nd (own := [("j", 6)]) (di_range1 rfl B.b_range (da_cons (d_cb c_lenB rfl B.b_len boot_len (da_cons (d_v 1) da_nil)) da_nil)) (blkOk_by (N := N_l_cuts) (sc := defScope s_l_cuts) (by decide +kernel)) (by decide) (fun _ _ _ _ _ => (dg_name (i := 6) sc.nd rfl (Or.inl rfl))) (fun _ _ _ _ _ => (dts_one (dt_cmp (o_eq (hu_eq hr)) (d_op o_and (d_op o_shr (d_v 3) (d_v 6)) d_int) d_int (nomark _)))) (fun _ _ _ _ _ => (d_ix x_ix (d_v 1) (d_v 6) (fun _ _ => rfl)))) da_nil)) da_nil)))))
    (ds_one (ds_ret (d_ct c_tuple rfl B.b_tuple boot_tuple (da_cons (d_fz (d_cb (c_sortO (hu_40 hr)) rfl B.b_sorted boot_sorted (da_cons (d_v 5) da_nil))) da_nil))))))))) (fun ds M Q h => ?_)
  obtain ⟨a, b, rfl, W, N, rfl, rfl, hN, hNl, hW, h⟩ := h
  walk_at "st"
  intro p hp
  have hpw : 2 ^ N.length ≤ 2 ^ 16 := Nat.pow_le_pow_right (by decide) hNl
  have hpp := Nat.two_pow_pos N.length
  have ep : ((2 : Int) ^ N.length) = ((2 ^ N.length : Nat) : Int) := by push_cast; rfl
  have h60 : ∀ {k : Nat}, k < 2 ^ N.length → k < 2 ^ 60 := fun {k} hk => Nat.lt_of_lt_of_le hk (Nat.pow_le_pow_right (by decide) (by omega))
  have hIn : ∀ {k : Nat}, k < 2 ^ N.length → InP N k := fun {k} hk i hi => Nat.lt_of_not_le fun l => by
    rw [Nat.testBit_lt_two_pow (Nat.lt_of_lt_of_le hk (Nat.pow_le_pow_right (by decide) l))] at hi
    cases hi
  walk_at "st"
  refine fun _ => ⟨N.length, by simp, by omega, ?_⟩
  rw [ep, Int.toNat_natCast]
  refine ⟨by omega, by omega, fun _ => ?_⟩
  refine for_ind (fun items m1 M1 => ∃ (k : Nat) (ms : List Nat) (x3 x4 : Option D), items = rangeD (k : Int) (2 ^ N.length - k) ∧ k ≤ 2 ^ N.length ∧ LmOk (W.map (mskN N)) k ms ∧ M1 = mput M p (.lst (ms.map nI)) ∧ m1 = [some (tW W), some (.lst (N.map D.int)), some (.ref p), x3, x4, none, none, none, none, none]) ?_ ?_ _ _ _ ⟨0, [], _, _, rfl, by omega, ⟨fun m => by simp, .nil, by simp⟩, rfl, rfl⟩
  · rintro m1 M1 ⟨k, ms, x3, x4, hi, hk, hm, rfl, rfl⟩
    refine ⟨srcV_none, ?_⟩
    have hkn : k = 2 ^ N.length := by
      rcases Nat.lt_or_ge k (2 ^ N.length) with z | z
      · rw [show 2 ^ N.length - k = (2 ^ N.length - (k + 1)) + 1 by omega, rangeD_cons] at hi
        cases hi
      · omega
    subst hkn
    walk_at "st"
    walk_at "st"
    intro q hq
    have hpq : p ≠ q := ne_of_fresh mput_same hq
    have hqM : M q = none := by rw [mput_ne hpq.symm] at hq; exact hq
    walk_at "st"
    rw [mput_ne hpq, mput_same]
    refine ⟨_, rfl, fun _ => ?_⟩
    refine for_ind (fun items m1 M1 => ∃ (rest dn : List Nat) (x3 : Option D), items = rest.map nI ∧ dn ++ rest = ms ∧ M1 = mput (mput M p (.lst (ms.map nI))) q (.lst ((dn.map (unm N)).map tI)) ∧ m1 = [some (tW W), some (.lst (N.map D.int)), some (.ref p), x3, x4, some (.ref q), none, none, none, none]) ?_ ?_ _ _ _ ⟨ms, [], _, rfl, rfl, rfl, rfl⟩
    · rintro m1 M1 ⟨rest, dn, x3, hi, hd, rfl, rfl⟩
      refine ⟨srcV_it (a := .ref p) (by rw [dItems_rf, mput_ne hpq, mput_same]), ?_⟩
      cases rest with
      | cons x r => cases hi
      | nil =>
        rw [List.append_nil] at hd
        subst hd
        walk_at "rd"
        obtain ⟨k1, k2, k3⟩ := tI_sortO (dn.map (unm N))
        refine ⟨k1, k2, k3, fun p6 hp6 => ⟨_, rfl, ?_⟩⟩
        have hdi : ∀ T ∈ dn, InP N T := fun T hT => hIn ((hm.1 T).mp hT).1
        have hnd : (dn.map (unm N)).Nodup := by
          unfold List.Nodup
          rw [List.pairwise_map]
          exact List.Pairwise.imp_of_mem (fun {S T} hS hT hne e => hne (unm_inj hN (by omega) (hdi S hS) (hdi T hT) e)) hm.2.1
        obtain ⟨C, e1, e2, e3⟩ := sort_tI hnd
        rw [mdel_mput hp6, e1]
        refine ret_le ((MLe.put (.refl M) hp).put hqM) (h C (cuts_of (fs := dn) hN (by omega) hW (fun T => (hm.1 T).trans ⟨fun z => z.2, fun z => ⟨?_, z⟩⟩) (fun t => ?_) e3))
        · have hI := minM_in hN hW z
          refine Nat.lt_pow_two_of_testBit _ fun i hi => ?_
          cases e : T.testBit i with
          | false => rfl
          | true =>
            have := hI i e
            omega
        · rw [e2.mem_iff, List.mem_map]
          exact ⟨fun ⟨T, h1, h2⟩ => ⟨T, h1, h2.symm⟩, fun ⟨T, h1, h2⟩ => ⟨T, h1, h2.symm⟩⟩
    · rintro z items m1 M1 Cn hC ⟨rest, dn, x3, hi, hd, rfl, rfl⟩
      refine ⟨srcV_it (a := .ref p) (by rw [dItems_rf, mput_ne hpq, mput_same]), ?_⟩
      cases rest with
      | nil => cases hi
      | cons k rest =>
        rw [List.map_cons] at hi
        injection hi with e1 e2
        subst e1
        subst e2
        walk_at "s1"
        refine ⟨⟨_, rfl⟩, fun _ => ?_⟩
        simp only [List.length_map, Int.toNat_natCast]
        have hkl : k < 2 ^ N.length := ((hm.1 k).mp (by rw [← hd]; simp)).1
        refine ⟨by omega, by omega, fun _ => ?_⟩
        refine lc_pure (List.range N.length) (fun j => D.int (0 + (j : Nat))) (fun j => k.testBit j) (fun j => D.int (N.getD j 0)) (by simp [rangeD]) srcV_none (fun j hj M5 l5 C1 C2 h1 h2 => ?_) fun p5 hp5 => ?_
        · walk_at "rd"
          rw [Int.zero_add]
          refine ⟨j, rfl, ?_⟩
          have hjl : j < N.length := List.mem_range.mp hj
          rw [bit_div]
          have hat : atI (N.map D.int) (j : Int) = some (D.int (N.getD j 0)) := by
            rw [atI_n, List.getElem?_map, List.getD_eq_getElem?_getD, List.getElem?_eq_getElem hjl]
            rfl
          cases e : k.testBit j with
          | true =>
            rw [if_pos (by rfl)]
            exact ⟨_, hat, h1 e⟩
          | false =>
            rw [if_neg (by decide)]
            exact h2 e
        rw [show (((List.range N.length).filter fun j => k.testBit j).map fun j => D.int (N.getD j 0)) = (unm N k).map D.int from by rw [← mine_eq N hkl (by omega), List.map_map]; rfl]
        rw [mdel_mput hp5, mput_same]
        refine ⟨_, rfl, ?_, ?_⟩
        · rw [List.length_map, List.length_map]
          have h1 := hm.2.2
          have h2 := congrArg List.length hd
          rw [List.length_append, List.length_cons] at h2
          omega
        rw [mput_mput]
        exact fg_of (hC _ _ ⟨rest, dn ++ [k], _, rfl, by rw [← hd]; simp, by rw [List.map_append, List.map_append]; rfl, rfl⟩)
  · rintro z items m1 M1 Cn hC ⟨k, ms, x3, x4, hi, hk, hm, rfl, rfl⟩
    refine ⟨srcV_none, ?_⟩
    have hkl : k < 2 ^ N.length := by
      rcases Nat.lt_or_ge k (2 ^ N.length) with z | z
      · exact z
      · rw [show 2 ^ N.length - k = 0 by omega] at hi
        cases hi
    rw [show 2 ^ N.length - k = (2 ^ N.length - (k + 1)) + 1 by omega, rangeD_cons] at hi
    injection hi with e1 e2
    subst e1
    subst e2
    walk_at "st"
    intro _
    simp only [List.length_map, Int.toNat_natCast]
    refine ⟨by omega, by omega, fun _ => ?_⟩
    refine lc_pure (List.range N.length) (fun j => D.int (0 + (j : Nat))) (fun j => k.testBit j) (fun j => D.int (N.getD j 0)) (by simp [rangeD]) srcV_none (fun j hj M5 l5 C1 C2 h1 h2 => ?_) fun p5 hp5 => ?_
    · walk_at "rd"
      rw [Int.zero_add]
      refine ⟨j, rfl, ?_⟩
      have hjl : j < N.length := List.mem_range.mp hj
      rw [bit_div]
      have hat : atI (N.map D.int) (j : Int) = some (D.int (N.getD j 0)) := by
        rw [atI_n, List.getElem?_map, List.getD_eq_getElem?_getD, List.getElem?_eq_getElem hjl]
        rfl
      cases e : k.testBit j with
      | true =>
        rw [if_pos (by rfl)]
        exact ⟨_, hat, h1 e⟩
      | false =>
        rw [if_neg (by decide)]
        exact h2 e
    rw [show (((List.range N.length).filter fun j => k.testBit j).map fun j => D.int (N.getD j 0)) = (unm N k).map D.int from by rw [← mine_eq N hkl (by omega), List.map_map]; rfl]
    rw [mdel_mput hp5, mput_same]
    refine ⟨_, rfl, fun _ => ?_⟩
    refine lc_map ms nI (fun o => D.bl (decide (k &&& o = o))) rfl (srcV_it (a := .ref p) (by rw [dItems_rf, mput_same])) (fun o ho M5 l5 C1 h1 => ?_) fun p6 hp6 => ?_
    · walk_at "rd"
      rw [andI]
      have e : decide (((k &&& o : Nat) : Int) = (o : Int)) = decide (k &&& o = o) := decide_eq_decide.mpr (by omega)
      rw [e]
      exact h1
    rw [mdel_mput hp6, show (ms.map fun o => D.bl (decide (k &&& o = o))) = (ms.map fun o => decide (k &&& o = o)).map D.bl from by rw [List.map_map]; rfl, any_bl]
    refine ⟨bls_all _ _, ?_⟩
    have hci : rangeD ((k : Int) + 1) (2 ^ N.length - (k + 1)) = rangeD (((k + 1 : Nat)) : Int) (2 ^ N.length - (k + 1)) := rfl
    by_cases c : ∃ o ∈ ms, k &&& o = o
    · obtain ⟨o, ho, c⟩ := c
      rw [if_neg (fun z => by
        rw [decide_eq_false_iff_not] at z
        exact z (List.mem_map.mpr ⟨o, ho, decide_eq_true c⟩))]
      exact fg_of (hC _ _ ⟨k + 1, ms, _, _, hci, hkl, hm.skip (.inl ⟨o, ho, c⟩), rfl, rfl⟩)
    · rw [if_pos (by
        rw [decide_eq_false_iff_not, List.mem_map]
        exact fun ⟨o, ho, e⟩ => c ⟨o, ho, of_decide_eq_true e⟩)]
      intro _
      refine lc_map W tI (fun s => D.bl ((unm N k).any fun x => decide (x ∈ s))) rfl srcV_none (fun s hs M5 l5 C1 h1 => ?_) fun p7 hp7 => ?_
      · walk_at "rd"
        intro _
        refine lc_map (unm N k) D.int (fun x => D.bl (decide (x ∈ s))) rfl srcV_none (fun x hx M7 l7 C7 h7 => ?_) fun p8 hp8 => ?_
        · walk_at "rd"
          refine ⟨dOk_ints _ _, ?_⟩
          rw [any_int]
          exact h7
        rw [mdel_mput hp8, show ((unm N k).map fun x => D.bl (decide (x ∈ s))) = ((unm N k).map fun x => decide (x ∈ s)).map D.bl from (List.map_map ..).symm, any_bl]
        refine ⟨bls_all _ _, ?_⟩
        have e : decide (true ∈ (unm N k).map fun x => decide (x ∈ s)) = (unm N k).any fun x => decide (x ∈ s) := by
          rw [Bool.eq_iff_iff, decide_eq_true_iff, List.mem_map, List.any_eq_true]
        rw [e]
        exact h1
      rw [mdel_mput hp7, show (W.map fun s => D.bl ((unm N k).any fun x => decide (x ∈ s))) = (W.map fun s => (unm N k).any fun x => decide (x ∈ s)).map D.bl from by rw [List.map_map]; rfl, any_bl, mput_same]
      refine ⟨bls_all _ _, ?_⟩
      have hh : HitM (W.map (mskN N)) k ↔ ∀ s ∈ W, ((unm N k).any fun x => decide (x ∈ s)) = true := by
        rw [hit_iff hN (by omega) hW (hIn hkl)]
        refine forall₂_congr fun s _ => ?_
        rw [List.any_eq_true]
        exact ⟨fun ⟨x, h1, h2⟩ => ⟨x, h2, decide_eq_true h1⟩, fun ⟨x, h1, h2⟩ => ⟨x, of_decide_eq_true h2, h1⟩⟩
      by_cases c2 : HitM (W.map (mskN N)) k
      · rw [if_pos (by
          rw [decide_eq_false_iff_not, List.mem_map]
          rintro ⟨s, hs, e⟩
          rw [hh.mp c2 s hs] at e
          cases e)]
        refine ⟨⟨_, rfl⟩, _, rfl, ?_, ?_⟩
        · rw [List.length_map]
          have := hm.2.2
          omega
        rw [mput_mput]
        exact fg_of (hC _ _ ⟨k + 1, ms ++ [k], _, _, hci, hkl, hm.add (h60 hkl) (fun o ho e => c ⟨o, ho, e⟩) c2, by rw [List.map_append]; rfl, rfl⟩)
      · rw [if_neg (fun z => by
          rw [decide_eq_false_iff_not, List.mem_map] at z
          refine c2 (hh.mpr fun s hs => ?_)
          cases e : (unm N k).any fun x => decide (x ∈ s) with
          | true => rfl
          | false => exact absurd ⟨s, hs, e⟩ z)]
        exact fg_of (hC _ _ ⟨k + 1, ms, _, _, hci, hkl, hm.skip (.inr c2), rfl, rfl⟩)
abbrev sp_l_least : DSp := ar1 fun a M Q => ∃ C : List (List Int), a = tW C ∧ Q (floD (flo none C)) M
theorem ok_l_least (F : Def K mg "_law_least" s_l_least ["due"]) (B : Bi K mg) (I : Im mg)  : Cal P w K mg base 1 "_law_least" ["due"] sp_l_least := by
  have sc := sc_l_least
  refine F.cal sc (fun ds M Q h => len1 h) (fun f cdv A outer s H E hr => (ds_cons (ds_set (i := 2) sc.nd rfl (Or.inl rfl) (d_minD (hu_9 hr) rfl rfl B.b_min (d_lcF rfl sc.nd (own := [("cut", 1)]) (di_seq (d_v 0)) (blkOk_by (N := N_l_least) (sc := defScope s_l_least) (by decide +kernel)) (by decide) (fun _ _ _ _ _ => (dg_name (i := 1) sc.nd rfl (Or.inl rfl))) (fun _ _ _ _ _ => dts_nil) (fun _ _ _ _ _ => (d_cb c_len rfl B.b_len boot_len (da_cons (d_v 1) da_nil)))) d_int))
    (ds_cons (ds_for PassesOwn.never rfl (di_seq (d_v 0)) (dg_name (i := 1) sc.nd rfl (Or.inl rfl))
    (ds_one (ds_if (dt_cmp (o_eq (hu_eq hr)) (d_cb c_len rfl B.b_len boot_len (da_cons (d_v 1) da_nil)) (d_v 2) (nomark _))
    (ds_one (ds_ret (d_v 1)))
    ds_nil)))
    (ds_one (ds_ret d_non))))) (fun ds M Q h => ?_)
  obtain ⟨a, rfl, C, rfl, h⟩ := h
  walk_at "st"
  intro _
  refine lc_map C tI (fun c => D.int (c.length : Nat)) rfl srcV_none (fun c hc M5 l5 C1 h1 => ?_) fun p5 hp5 => ?_
  · walk_at "rd"
    rw [List.length_map]
    exact h1
  rw [mdel_mput hp5]
  refine ⟨C.map fun c => (c.length : Int), by rw [List.map_map]; rfl, fun e => ?_, fun n hn hle => ?_⟩
  · have : C = [] := List.map_eq_nil_iff.mp e
    subst this
    walk_at "rd"
    refine ⟨srcV_none, ?_⟩
    exact ret_of h
  · have ⟨c0, hc0, e0⟩ := List.mem_map.mp hn
    obtain ⟨b, r, rfl⟩ : ∃ b r, C = b :: r := by
      cases C with
      | nil => cases hc0
      | cons b r => exact ⟨b, r, rfl⟩
    obtain ⟨l1, t, l2, e, e2, h1, h2⟩ := flo_some r b
    have hflo : flo none (b :: r) = some t := e2
    rw [hflo] at h
    have hmin : (t.length : Int) = n := by
      have a1 := hle t.length (List.mem_map.mpr ⟨t, by rw [e]; simp, rfl⟩)
      have a2 : t.length ≤ c0.length := by
        rw [e] at hc0
        rcases List.mem_append.mp hc0 with z | z
        · exact Nat.le_of_lt (h1 c0 z)
        · rcases List.mem_cons.mp z with rfl | z
          · exact Nat.le_refl _
          · exact h2 c0 z
      omega
    walk_at "st"
    intro _
    rw [e]
    refine for_ind (fun items m1 M1 => ∃ (l : List (List Int)) (x1 : Option D), items = (l ++ t :: l2).map tI ∧ (∀ x ∈ l, t.length < x.length) ∧ M1 = M ∧ m1 = [some (tW (l1 ++ t :: l2)), x1, some (.int n)]) ?_ ?_ _ _ _ ⟨l1, _, by rw [← e]; rfl, h1, rfl, rfl⟩
    · rintro m1 M1 ⟨l, x1, hi, hl, rfl, rfl⟩
      cases l <;> cases hi
    · rintro z items m1 M1 Cn hC ⟨l, x1, hi, hl, rfl, rfl⟩
      refine ⟨srcV_none, ?_⟩
      cases l with
      | nil =>
        rw [List.nil_append, List.map_cons] at hi
        injection hi with e3 e4
        subst e3
        walk_at "rd"
        rw [List.length_map, if_pos (by rw [hmin])]
        exact ret_of h
      | cons y l =>
        rw [List.cons_append, List.map_cons] at hi
        injection hi with e3 e4
        subst e3
        have := hl y (by simp)
        walk_at "rd"
        rw [List.length_map, if_neg (by omega)]
        exact fg_of (hC _ _ ⟨l, _, e4, fun x hx => hl x (by simp [hx]), rfl, rfl⟩)
theorem erase_map {α β : Type} (f : α → β) : ∀ (l : List α) (i : Nat), (l.map f).eraseIdx i = (l.eraseIdx i).map f
  | [], _ => rfl
  | _ :: _, 0 => rfl
  | x :: l, i + 1 => congrArg (f x :: ·) (erase_map f l i)
theorem erase_perm {α : Type} : ∀ (l : List α) (i : Nat) (h : i < l.length), (l.eraseIdx i ++ [l[i]]).Perm l
  | x :: l, 0, _ => List.perm_append_comm
  | x :: l, i + 1, h => (erase_perm l i (by simpa using h)).cons x
abbrev sp_l_pairs : DSp := ar1 fun a M Q => ∃ p : Addr, a = .ref p ∧ Dr M p ∧ ∀ (o : DO) (W C : List (List Int)), DrO o → (∀ s ∈ W, ascI s) → (∃ N : List Int, N.length ≤ 16 ∧ ∀ s ∈ W, ∀ x ∈ s, x ∈ N) → CutsOk W C → Q (.lst [tW W, tW C]) (mput M p o)
theorem ok_l_pairs (F : Def K mg "_law_pairs" s_l_pairs ["draws"]) (B : Bi K mg) (I : Im mg) (c_l_take : Cal P w K mg base 1 "_law_take" ["draws", "many"] sp_l_take) : Cal P w K mg base 2 "_law_pairs" ["draws"] sp_l_pairs := by
  have sc := sc_l_pairs
  refine F.cal sc (fun ds M Q h => len1 h) (fun f cdv A outer s H E hr => (ds_cons (ds_setLc (i := 2) rfl sc.nd rfl rfl (sw_true rfl rfl rfl (by decide +kernel)) (own := [("k", 1)]) (di_range1 rfl B.b_range (da_cons d_int da_nil)) (blkOk_by (N := N_l_pairs) (sc := defScope s_l_pairs) (by decide +kernel)) (by decide) (fun _ _ _ _ _ => (dg_name (i := 1) sc.nd rfl (Or.inl rfl))) (fun _ _ _ _ _ => dts_nil) (fun _ _ _ _ _ => (d_op o_add (d_v 1) d_int)))
    (ds_cons (ds_set (i := 3) sc.nd rfl (Or.inl rfl) (d_lst da_nil))
    (ds_cons (ds_set (i := 4) sc.nd rfl (Or.inl rfl) (d_lstF (da_cons (d_tup da_nil) da_nil)))
    (ds_cons (ds_for PassesOwn.never rfl (di_range1 rfl B.b_range (da_cons (d_op o_add d_int (d_call c_l_take (hr.mono (by first | decide | omega)) rfl (da_cons (d_v 0) (da_cons d_int da_nil)))) da_nil)) (dg_name (i := 1) sc.nd rfl (Or.inl rfl))
    (ds_cons (ds_set (i := 5) sc.nd rfl (Or.inl rfl) (d_fz (d_cb (c_sortO (hu_40 hr)) rfl B.b_sorted boot_sorted (da_cons (d_lstF (da_cons (d_mt PySem.F.slot_list_pop PySem.F.type_list_pop m_popAt (d_v 2) (da_cons (d_call c_l_take (hr.mono (by first | decide | omega)) rfl (da_cons (d_v 0) (da_cons (d_cb c_len rfl B.b_len boot_len (da_cons (d_v 2) da_nil)) da_nil))) da_nil)) (da_cons (d_mt PySem.F.slot_list_pop PySem.F.type_list_pop m_popAt (d_v 2) (da_cons (d_call c_l_take (hr.mono (by first | decide | omega)) rfl (da_cons (d_v 0) (da_cons (d_cb c_len rfl B.b_len boot_len (da_cons (d_v 2) da_nil)) da_nil))) da_nil)) da_nil))) da_nil))))
    (ds_cons (ds_expr (d_mt PySem.F.slot_list_append PySem.F.type_list_append m_append (d_v 3) (da_cons (d_ct c_tuple rfl B.b_tuple boot_tuple (da_cons (d_v 5) da_nil)) da_nil)))
    (ds_cons (ds_set (i := 6) sc.nd rfl (Or.inl rfl) (d_lstF da_nil))
    (ds_cons (ds_for PassesOwn.never rfl (di_seq (d_v 4)) (dg_name (i := 7) sc.nd rfl (Or.inr rfl))
    (ds_one (ds_set (i := 6) sc.nd rfl (Or.inl rfl) (d_catF (d_v 6) (d_lcF rfl sc.nd (own := [("number", 8)]) (di_seq (d_v 5)) (blkOk_by (N := N_l_pairs) (sc := defScope s_l_pairs) (by decide +kernel)) (by decide) (fun _ _ _ _ _ => (dg_name (i := 8) sc.nd rfl (Or.inl rfl))) (fun _ _ _ _ _ => dts_nil) (fun _ _ _ _ _ => (d_ct c_tuple rfl B.b_tuple boot_tuple (da_cons (d_fz (d_cb (c_sortOT (hu_40 hr)) rfl B.b_sorted boot_sorted (da_cons (d_op o_addA (d_v 7) (d_tup (da_cons (d_v 8) da_nil))) da_nil))) da_nil))))))))
    (ds_one (ds_set (i := 4) sc.nd rfl (Or.inl rfl) (d_v 6))))))))
    (ds_one (ds_ret (d_lstF (da_cons (d_ct c_tuple rfl B.b_tuple boot_tuple (da_cons (d_fz (d_cb (c_sortO (hu_40 hr)) rfl B.b_sorted boot_sorted (da_cons (d_v 3) da_nil))) da_nil)) (da_cons (d_ct c_tuple rfl B.b_tuple boot_tuple (da_cons (d_fz (d_cb (c_sortO (hu_40 hr)) rfl B.b_sorted boot_sorted (da_cons (d_v 4) da_nil))) da_nil)) da_nil)))))))))) (fun ds M Q h => ?_)
  obtain ⟨a, rfl, p, rfl, hdr, h⟩ := h
  walk_at "st"
  intro _
  refine lc_map (List.range 16) (fun i => D.int (0 + (i : Nat))) (fun i => D.int ((0 + (i : Nat)) + 1)) rfl srcV_none (fun i hi M5 l5 C1 h1 => ?_) fun q hq => ?_
  · walk_at "rd"
    exact h1
  walk_at "st"
  intro r hr
  have hpq : p ≠ q := hdr.some hq
  walk_at "st"
  walk_at "st"
  have hqr : q ≠ r := ne_of_fresh mput_same hr
  have hpr : p ≠ r := by
    refine hdr.some ?_
    rw [mput_ne hqr.symm] at hr
    exact hr
  have hrM : M r = none := by rw [mput_ne hqr.symm] at hr; exact hr
  refine ⟨dr_ne (dr_ne hdr hpq) hpr, fun o r0 ho r00 r01 => ⟨by omega, by omega, fun _ => ?_⟩⟩
  rw [mput_comm hpr.symm, mput_comm hpq.symm]
  obtain ⟨N16, hN16⟩ : ∃ N : List Int, N = (List.range 16).map fun i : Nat => (0 + (i : Int) + 1) := ⟨_, rfl⟩
  have e16 : ((List.range 16).map fun i => D.int ((0 + (i : Nat)) + 1)) = N16.map D.int := by rw [hN16, List.map_map]; rfl
  have n16 : N16.Nodup := by rw [hN16]; decide
  have l16 : N16.length = 16 := by rw [hN16]; rfl
  rw [e16]
  refine for_ind (fun items m1 M1 => ∃ (ls : List Int) (ps F : List (List Int)) (o : DO) (x1 x5 x6 x7 : Option D), ls.Nodup ∧ (∀ x ∈ ls, x ∈ N16) ∧ ls.length + 2 * ps.length = 16 ∧ ps.length + items.length ≤ 8 ∧ PairInv ps F ∧ (∀ s ∈ ps, ∀ x ∈ s, x ∈ N16 ∧ x ∉ ls) ∧ F.length ≤ 2 ^ ps.length ∧ DrO o ∧
    M1 = mput (mput (mput M p o) q (.lst (ls.map D.int))) r (.lst (ps.map tI)) ∧ m1 = [some (.ref p), x1, some (.ref q), some (.ref r), some (.lst (F.map tI)), x5, x6, x7, none]) ?_ ?_ _ _ _ ⟨N16, [], [[]], o, _, _, _, _, n16, fun x h => h, by simp [l16], ?_, .start, nofun, by simp, ho, rfl, rfl⟩
  · rintro m1 M1 ⟨ls, ps, F, o, x1, x5, x6, x7, hls, hln, hll, hpl, hpi, hps, hFl, ho, rfl, rfl⟩
    refine ⟨srcV_none, ?_⟩
    walk_at "rd"
    obtain ⟨k1, k2, k3⟩ := tI_sortO ps
    obtain ⟨j1, j2, j3⟩ := tI_sortO F
    refine ⟨k1, k2, k3, fun p1 hp1 => ⟨_, rfl, j1, j2, j3, fun p2 hp2 => ⟨_, rfl, ?_⟩⟩⟩
    obtain ⟨Ws, e1, e2⟩ := perm_map tI (xs := ps) (srtD_perm (ps.map tI))
    obtain ⟨C, e3, e4, e5⟩ := sort_tI hpi.nd
    rw [mdel_mput hp2, mdel_mput hp1, e1, e3]
    refine ret_le ((MLe.put (.refl _) (mput_fresh hpq hq)).put (mput_fresh hpr hrM)) (h o Ws C ho (fun s hs => hpi.asc s (e2.mem_iff.mp hs)) ⟨N16, by omega, fun s hs x hx => (hps s (e2.mem_iff.mp hs) x hx).1⟩ ⟨fun t => ?_, e5⟩)
    rw [e4.mem_iff, hpi.mem t]
    exact ⟨min_perm fun s => e2.mem_iff.symm, min_perm fun s => e2.mem_iff⟩
  · rintro z items m1 M1 Cn hC ⟨ls, ps, F, o, x1, x5, x6, x7, hls, hln, hll, hpl, hpi, hps, hFl, ho, rfl, rfl⟩
    refine ⟨srcV_none, ?_⟩
    rw [List.length_cons] at hpl
    have hMq : ∀ o L P : DO, mput (mput (mput M p o) q L) r P q = some L := fun o L P => by rw [mput_ne hqr, mput_same]
    have hMs : ∀ o L P L' : DO, mput (mput (mput (mput M p o) q L) r P) q L' = mput (mput (mput M p o) q L') r P := fun o L P L' => by rw [mput_comm hqr.symm, mput_mput]
    walk_at "st"
    rw [hMq]
    refine ⟨⟨_, rfl⟩, _, rfl, dr_ne (dr_ne (dr_put ho) hpq) hpr, by rw [List.length_map]; omega, fun o2 r2 ho2 r20 r21 => ?_⟩
    rw [mput_in hpq hpr, hMq]
    rw [List.length_map] at r21
    obtain ⟨i, rfl⟩ := Int.eq_ofNat_of_zero_le r20
    have hil : i < ls.length := by omega
    refine ⟨_, i, rfl, rfl, D.int ls[i], by rw [List.getElem?_map, List.getElem?_eq_getElem hil]; rfl, ⟨_, rfl⟩, ?_⟩
    have ee : (ls.map D.int).eraseIdx i = (ls.eraseIdx i).map D.int := erase_map D.int _ _
    rw [hMs, ee]
    have pe1 := List.perm_append_singleton .. |>.symm.trans (erase_perm ls i hil)
    have hl1 : (ls.eraseIdx i).length + 1 = ls.length := by
      have := pe1.length_eq
      rwa [List.length_cons] at this
    refine ⟨dr_ne (dr_ne (dr_put ho2) hpq) hpr, by rw [List.length_map]; omega, fun o3 r3 ho3 r30 r31 => ?_⟩
    rw [mput_in hpq hpr, hMq]
    rw [List.length_map] at r31
    obtain ⟨j, rfl⟩ := Int.eq_ofNat_of_zero_le r30
    have hjl : j < (ls.eraseIdx i).length := by omega
    have ee2 : ((ls.eraseIdx i).map D.int).eraseIdx j = ((ls.eraseIdx i).eraseIdx j).map D.int := erase_map D.int _ _
    have pe2 := List.perm_append_singleton .. |>.symm.trans (erase_perm (ls.eraseIdx i) j hjl)
    refine ⟨_, j, rfl, rfl, D.int (ls.eraseIdx i)[j], by rw [List.getElem?_map, List.getElem?_eq_getElem hjl]; rfl, ?_⟩
    rw [hMs, ee2]
    have hl2 : ((ls.eraseIdx i).eraseIdx j).length + 1 = (ls.eraseIdx i).length := by
      have := pe2.length_eq
      rwa [List.length_cons] at this
    generalize ls[i] = x at pe1
    generalize (ls.eraseIdx i)[j] = y at pe2
    generalize ls.eraseIdx i = l1 at pe1 pe2 hl1 hl2
    generalize l1.eraseIdx j = l2 at pe2 hl2
    have hpe : (x :: y :: l2).Perm ls := (pe2.cons x).trans pe1
    have hnd3 : (x :: y :: l2).Nodup := hpe.nodup_iff.mpr hls
    obtain ⟨k1, k2, k3⟩ := i_sortO [x, y]
    refine ⟨by simp, k2, k3, fun p1 hp1 => ⟨_, rfl, ?_⟩⟩
    have hxy : [x, y].Nodup := by
      have := (List.nodup_cons.mp hnd3).1
      simp at this ⊢
      exact this.1
    obtain ⟨ks, e1, e2, e3⟩ := sort_asc hxy
    have e1' : srtD [D.int x, D.int y] = ks.map D.int := e1
    obtain ⟨a, b, rfl⟩ : ∃ a b, ks = [a, b] := by
      match ks, e2.length_eq with
      | [a, b], _ => exact ⟨a, b, rfl⟩
    have hab : a < b := by simpa [ascI] using e3
    have hmem : ∀ z : Int, z ∈ [a, b] ↔ z = x ∨ z = y := fun z => by rw [e2.mem_iff]; simp
    rw [mdel_mput hp1, e1']
    have hnew : ∀ z ∈ [a, b], z ∈ ls ∧ z ∉ l2 := fun z hz => by
      rw [List.nodup_cons, List.nodup_cons] at hnd3
      rcases (hmem z).mp hz with rfl | rfl
      · exact ⟨hpe.mem_iff.mp (by simp), fun q => hnd3.1 (by simp [q])⟩
      · exact ⟨hpe.mem_iff.mp (by simp), fun q => hnd3.2.1 q⟩
    have hoff : ∀ s ∈ ps, a ∉ s ∧ b ∉ s := fun s hs => ⟨fun q => (hps s hs a q).2 (hnew a (by simp)).1, fun q => (hps s hs b q).2 (hnew b (by simp)).1⟩
    have hcoff := hpi.off hoff
    have hF2 : 2 ^ ps.length ≤ 2 ^ 8 := Nat.pow_le_pow_right (by decide) (by omega)
    walk_at "st"
    refine ⟨⟨_, rfl⟩, _, rfl, by rw [List.length_map]; omega, ?_⟩
    rw [show ps.map tI ++ [D.tup [D.int a, D.int b]] = (ps ++ [[a, b]]).map tI from by rw [List.map_append]; rfl]
    walk_at "st"
    walk_at "st"
    intro _
    refine for_ind (fun items m1 M1 => ∃ (rest dn : List (List Int)) (x7 : Option D), items = rest.map tI ∧ dn ++ rest = F ∧ M1 = mput (mput (mput M p o3) q (.lst (l2.map D.int))) r (.lst ((ps ++ [[a, b]]).map tI)) ∧
      m1 = [some (.ref p), some z, some (.ref q), some (.ref r), some (.lst (F.map tI)), some (.lst [.int a, .int b]), some (.lst ((dn.flatMap fun c => [insI c a, insI c b]).map tI)), x7, none]) ?_ ?_ _ _ _ ⟨F, [], _, rfl, rfl, rfl, rfl⟩
    · rintro m1 M1 ⟨rest, dn, x7, hi, hd, rfl, rfl⟩
      refine ⟨srcV_none, ?_⟩
      cases rest with
      | cons x r => cases hi
      | nil =>
        rw [List.append_nil] at hd
        subst hd
        walk_at "s1"
        refine fg_of (hC _ _ ⟨l2, ps ++ [[a, b]], _, o3, _, _, _, _, ?_, fun x hx => hln x (hpe.mem_iff.mp (by simp [hx])), ?_, ?_, hpi.step hab hoff, fun s hs x hx => ?_, ?_, ho3, rfl, rfl⟩)
        · exact (List.nodup_cons.mp (List.nodup_cons.mp hnd3).2).2
        · rw [List.length_append, List.length_singleton]
          omega
        · rw [List.length_append, List.length_singleton]
          omega
        · rcases List.mem_append.mp hs with hs | hs
          · exact ⟨(hps s hs x hx).1, fun q => (hps s hs x hx).2 (hpe.mem_iff.mp (by simp [q]))⟩
          · rw [List.mem_singleton.mp hs] at hx
            exact ⟨hln x (hnew x hx).1, (hnew x hx).2⟩
        · have := flat_len (fun c => [insI c a, insI c b]) 2 dn fun c _ => by simp
          rw [List.length_append, List.length_singleton, Nat.pow_succ]
          omega
    · rintro z2 items2 m1 M1 Cn2 hC2 ⟨rest, dn, x7, hi, hd, rfl, rfl⟩
      refine ⟨srcV_none, ?_⟩
      cases rest with
      | nil => cases hi
      | cons c rest =>
        rw [List.map_cons] at hi
        injection hi with h1 h2
        subst h1
        subst h2
        have hcF : c ∈ F := by rw [← hd]; simp
        have hca := ((hpi.mem c).mp hcF).asc
        walk_at "s1"
        refine lc_map [a, b] D.int (fun n => tI (insI c n)) rfl srcV_none (fun n hn M5 l5 C1 h1 => ?_) fun p5 hp5 => ?_
        · have hnc : n ∉ c := by
            have := hcoff c hcF
            simp at hn
            rcases hn with rfl | rfl
            · exact this.1
            · exact this.2
          have hnd : (c ++ [n]).Nodup := by
            rw [List.nodup_append]
            exact ⟨hca.imp Int.ne_of_lt, by simp, fun u hu v hv e => hnc (by rw [List.mem_singleton.mp hv] at e; exact e ▸ hu)⟩
          obtain ⟨ks, s1, s2, s3⟩ := sort_asc hnd
          have hks : ks = insI c n := asc_uniq s3 (insI_asc hca n) fun u => by
            rw [s2.mem_iff, insI_mem, List.mem_append, List.mem_singleton, or_comm]
          have eap : c.map D.int ++ [D.int n] = (c ++ [n]).map D.int := by rw [List.map_append]; rfl
          obtain ⟨i1, i2, i3⟩ := i_sortO (c ++ [n])
          walk_at "rd"
          rw [eap]
          have hcl : c.length ≤ N16.length := List.Nodup.length_le_of_subset (hca.imp Int.ne_of_lt) fun u hu => by
            obtain ⟨s, hs, hus, _⟩ := ((hpi.mem c).mp hcF).priv u hu
            exact (hps s hs u hus).1
          refine ⟨by rw [List.length_map]; omega, i1, i2, i3, fun p6 hp6 => ⟨_, rfl, ?_⟩⟩
          rw [mdel_mput hp6, s1, hks]
          exact h1
        rw [mdel_mput hp5]
        refine ⟨?_, fg_of (hC2 _ _ ⟨rest, dn ++ [c], some (tI c), rfl, by rw [← hd]; simp, rfl, ?_⟩)⟩
        · have h5 := flat_len (fun c => [insI c a, insI c b]) 2 dn fun c _ => by simp
          have h6 := congrArg List.length hd
          rw [List.length_append, List.length_cons] at h6
          rw [List.length_map]
          simp only [List.map_cons, List.map_nil, List.length_cons, List.length_nil]
          omega
        · rw [List.flatMap_append, List.map_append]
          rfl
  · simp [rangeD]
    omega
abbrev scD (s : List (List Int) × List (List Int)) : D := .lst [tW s.1, tW s.2]
structure ScOk (s : List (List Int) × List (List Int)) : Prop where
  asc : ∀ m ∈ s.1, ascI m
  inn : ∃ N : List Int, N.length ≤ 16 ∧ ∀ m ∈ s.1, ∀ x ∈ m, x ∈ N
  cut : CutsOk s.1 s.2
structure ScOk2 (s : List (List Int) × List (List Int)) : Prop where
  one : ScOk s
  two : ScOk (s.2, s.1)
theorem why_two {N : List Int} {W C : List (List Int)} (hN : ascI N) (hl : N.length = 7) (h : WhyOk N W) (k : CutsOk W C) : ScOk2 (W, C) :=
  ⟨⟨h.asc, ⟨N, by omega, h.inn⟩, k⟩, ⟨fun m hm => ((k.mem m).mp hm).asc, ⟨N, by omega, fun m hm x hx => by
    obtain ⟨s, hs, hxs, _⟩ := ((k.mem m).mp hm).priv x hx
    exact h.inn s hs x hxs⟩, cuts_back hN h.inn h.asc h.anti h.ord k⟩⟩
theorem dOk_tW (W : List (List Int)) : dOk 12 (tW W) = true := by simp [dOk_tup, List.all_map]
theorem dOk_flo (b : Option (List Int)) : dOk 12 (floD b) = true := by
  cases b with
  | none => rfl
  | some t => simp [dOk_tup, List.all_map]
theorem ok_law {f0 : Addr} {fd0 : FuncData} (F : Fun K "law" "law" s_law f0 fd0) (B : Bi K mg) (I : Im mg) (c_cuts : Cal P w K mg base 8 "cuts" ["why"] sp_cuts) (c_least_cut : Cal P w K mg base 9 "least_cut" ["why"] sp_least_cut) (c_l_draws : Cal P w K mg base 1 "_law_draws" ["script", "many"] sp_l_draws) (c_l_same : Cal P w K mg base 13 "_law_same" ["actual", "due"] sp_l_same) (c_l_drawn_why : Cal P w K mg base 10 "_law_drawn_why" ["draws", "numbers"] sp_l_drawn_why) (c_l_some_numbers : Cal P w K mg base 2 "_law_some_numbers" ["draws"] sp_l_some_numbers) (c_l_cuts : Cal P w K mg base 1 "_law_cuts" ["why", "numbers"] sp_l_cuts) (c_l_least : Cal P w K mg base 1 "_law_least" ["due"] sp_l_least) (c_l_pairs : Cal P w K mg base 2 "_law_pairs" ["draws"] sp_l_pairs) : FnOk P w K mg base CX0 14 f0 fd0 ["script"] (upSp K sp_law) := by
  have sc := sc_law
  refine fn_ok F sc (fun ds M Q h => len1 h) (fun f cdv A outer s H E hr => (ds_cons (ds_set (i := 1) sc.nd rfl (Or.inl rfl) (d_call c_l_draws (hr.mono (by first | decide | omega)) rfl (da_cons (d_v 0) (da_cons d_int da_nil))))
    (ds_cons (ds_set (i := 2) sc.nd rfl (Or.inl rfl) (d_lst da_nil))
    (ds_cons (ds_for PassesOwn.never rfl (di_range1 rfl B.b_range (da_cons d_int da_nil)) (dg_name (i := 3) sc.nd rfl (Or.inl rfl))
    (ds_cons (ds_set (i := 4) sc.nd rfl (Or.inl rfl) (d_call c_l_some_numbers (hr.mono (by first | decide | omega)) rfl (da_cons (d_v 1) da_nil)))
    (ds_cons (ds_set (i := 5) sc.nd rfl (Or.inl rfl) (d_call c_l_drawn_why (hr.mono (by first | decide | omega)) rfl (da_cons (d_v 1) (da_cons (d_v 4) da_nil))))
    (ds_one (ds_expr (d_mt PySem.F.slot_list_append PySem.F.type_list_append m_append (d_v 2) (da_cons (d_lstF (da_cons (d_v 5) (da_cons (d_call c_l_cuts (hr.mono (by first | decide | omega)) rfl (da_cons (d_v 5) (da_cons (d_v 4) da_nil))) da_nil))) da_nil)))))))
    (ds_cons (ds_set (i := 6) sc.nd rfl (Or.inl rfl) (d_call c_l_pairs (hr.mono (by first | decide | omega)) rfl (da_cons (d_v 1) da_nil)))
    (ds_cons (ds_for PassesOwn.never rfl (di_seq (d_lstF (da_cons (d_ix x_ix (d_v 2) d_int (fun _ _ => rfl)) (da_cons (d_ix x_ix (d_v 2) d_int (fun _ _ => rfl)) (da_cons (d_v 6) (da_cons (d_ix x_ix (d_v 2) d_int (fun _ _ => rfl)) da_nil)))))) (dg_name (i := 7) sc.nd rfl (Or.inl rfl))
    (ds_one (ds_if (dt_w (dw_or (dt_not (dt_val (d_call c_l_same (hr.mono (by first | decide | omega)) rfl (da_cons (d_call c_cuts (hr.mono (by first | decide | omega)) rfl (da_cons (d_ix x_ix (d_v 7) d_int (fun _ _ => rfl)) da_nil)) (da_cons (d_ix x_ix (d_v 7) d_int (fun _ _ => rfl)) da_nil))))) (dw_or1 (dt_not (dt_val (d_call c_l_same (hr.mono (by first | decide | omega)) rfl (da_cons (d_call c_least_cut (hr.mono (by first | decide | omega)) rfl (da_cons (d_ix x_ix (d_v 7) d_int (fun _ _ => rfl)) da_nil)) (da_cons (d_call c_l_least (hr.mono (by first | decide | omega)) rfl (da_cons (d_ix x_ix (d_v 7) d_int (fun _ _ => rfl)) da_nil)) da_nil))))))))
    (ds_one (ds_ret d_bl))
    ds_nil)))
    (ds_cons (ds_for PassesOwn.never rfl (di_seq (d_v 2)) (dg_name (i := 7) sc.nd rfl (Or.inl rfl))
    (ds_one (ds_if (dt_not (dt_val (d_call c_l_same (hr.mono (by first | decide | omega)) rfl (da_cons (d_call c_cuts (hr.mono (by first | decide | omega)) rfl (da_cons (d_ix x_ix (d_v 7) d_int (fun _ _ => rfl)) da_nil)) (da_cons (d_ix x_ix (d_v 7) d_int (fun _ _ => rfl)) da_nil)))))
    (ds_one (ds_ret d_bl))
    ds_nil)))
    (ds_one (ds_ret d_bl))))))))) (fun ds M Q h => ?_)
  obtain ⟨a, rfl, ns, hl, rfl, h⟩ := h
  walk_at "st"
  refine ⟨⟨ns, rfl⟩, fun p o hp ho => ?_⟩
  walk_at "st"
  intro q hq
  have hpq : p ≠ q := ne_of_fresh mput_same hq
  have hqM : M q = none := by rw [mput_ne hpq.symm] at hq; exact hq
  walk_at "st"
  intro _
  refine for_ind (fun items m1 M1 => ∃ (sc : List (List (List Int) × List (List Int))) (o : DO) (x3 x4 x5 : Option D), DrO o ∧ (∀ s ∈ sc, ScOk2 s) ∧ sc.length + items.length = 2 ∧ M1 = mput (mput M p o) q (.lst (sc.map scD)) ∧ m1 = [some (.lst (ns.map D.int)), some (.ref p), some (.ref q), x3, x4, x5, none, none]) ?_ ?_ _ _ _ ⟨[], o, _, _, _, ho, nofun, rfl, rfl, rfl⟩
  · rintro m1 M1 ⟨sc, o, x3, x4, x5, ho, hsc, hsl, rfl, rfl⟩
    refine ⟨srcV_none, ?_⟩
    obtain ⟨s0, s1, rfl⟩ : ∃ s0 s1, sc = [s0, s1] := by
      match sc, hsl with
      | [s0, s1], _ => exact ⟨s0, s1, rfl⟩
    have h0 := hsc s0 (by simp)
    have h1 := hsc s1 (by simp)
    walk_at "st"
    walk_at "st"
    refine ⟨dr_ne (dr_put ho) hpq, fun o2 W C ho2 hWa hWi hWC => ?_⟩
    rw [mput_swap hpq]
    have hWs : ScOk (W, C) := ⟨hWa, hWi, hWC⟩
    have hMq : mput (mput M p o2) q (.lst ([s0, s1].map scD)) q = some (.lst [scD s0, scD s1]) := mput_same
    walk_at "st"
    refine for_ind (fun items m1 M1 => ∃ (ss : List (List (List Int) × List (List Int))) (x7 : Option D), items = ss.map scD ∧ (∀ s ∈ ss, ScOk s) ∧ M1 = mput (mput M p o2) q (.lst [scD s0, scD s1]) ∧ m1 = [some (.lst (ns.map D.int)), some (.ref p), some (.ref q), x3, x4, x5, some (.lst [tW W, tW C]), x7]) ?_ ?_ _ _ _ ⟨[s0, s1, (W, C), s0], _, rfl, fun s hs => ?_, rfl, rfl⟩
    · rintro m1 M1 ⟨ss, x7, hi, hss, rfl, rfl⟩
      refine ⟨srcV_none, ?_⟩
      walk_at "st"
      walk_at "st"
      refine for_ind (fun items m1 M1 => ∃ (ss : List (List (List Int) × List (List Int))) (x7 : Option D), items = ss.map scD ∧ (∀ s ∈ ss, ScOk2 s) ∧ M1 = mput (mput M p o2) q (.lst [scD s0, scD s1]) ∧ m1 = [some (.lst (ns.map D.int)), some (.ref p), some (.ref q), x3, x4, x5, some (.lst [tW W, tW C]), x7]) ?_ ?_ _ _ _ ⟨[s0, s1], _, rfl, hsc, rfl, rfl⟩
      · rintro m1 M1 ⟨ss, x7, hi, hss, rfl, rfl⟩
        refine ⟨srcV_it (a := .ref q) (by rw [dItems_rf, mput_same]), ?_⟩
        walk_at "rd"
        exact ret_of (h _)
      · rintro z items m1 M1 Cn hC ⟨ss, x7, hi, hss, rfl, rfl⟩
        refine ⟨srcV_it (a := .ref q) (by rw [dItems_rf, mput_same]), ?_⟩
        cases ss with
        | nil => cases hi
        | cons s ss =>
          rw [List.map_cons] at hi
          injection hi with e1 e2
          subst e1
          subst e2
          have hs := hss s (by simp)
          obtain ⟨N, hNl, hNi⟩ := hs.two.inn
          walk_at "rd"
          refine ⟨s.2, rfl, hs.two.asc, N, hNi, by omega, fun E hE => ?_⟩
          have e : E = s.1 := cuts_uniq hE hs.two.cut
          rw [e]
          exact ⟨rfl, dOk_tW s.1, fg_of (hC _ _ ⟨ss, _, rfl, fun s hs => hss s (by simp [hs]), rfl, rfl⟩)⟩
    · rintro z items m1 M1 Cn hC ⟨ss, x7, hi, hss, rfl, rfl⟩
      refine ⟨srcV_none, ?_⟩
      cases ss with
      | nil => cases hi
      | cons s ss =>
        rw [List.map_cons] at hi
        injection hi with e1 e2
        subst e1
        subst e2
        have hs := hss s (by simp)
        obtain ⟨N, hNl, hNi⟩ := hs.inn
        walk_at "rd"
        refine ⟨s.1, rfl, hs.asc, N, hNi, by omega, fun E hE => ?_⟩
        have e : E = s.2 := cuts_uniq hE hs.cut
        rw [e]
        refine ⟨rfl, dOk_tW s.2, s.1, rfl, hs.asc, N, hNi, by omega, fun E2 hE2 => ?_⟩
        have e2 : E2 = s.2 := cuts_uniq hE2 hs.cut
        rw [e2]
        exact ⟨s.2, rfl, rfl, dOk_flo _, fg_of (hC _ _ ⟨ss, _, rfl, fun s hs => hss s (by simp [hs]), rfl, rfl⟩)⟩
    · simp at hs
      rcases hs with rfl | rfl | rfl | rfl
      · exact h0.one
      · exact h1.one
      · exact hWs
      · exact h0.one
  · rintro z items m1 M1 Cn hC ⟨sc, o, x3, x4, x5, ho, hsc, hsl, rfl, rfl⟩
    refine ⟨srcV_none, ?_⟩
    rw [List.length_cons] at hsl
    walk_at "rd"
    refine ⟨dr_ne (dr_put ho) hpq, fun o2 N ho2 hN hNl => ⟨N, rfl, hN, hNl, dr_put ho2, fun o3 W ho3 hW => ?_⟩⟩
    rw [mput_ne hpq.symm, mput_same]
    refine ⟨⟨_, rfl⟩, W, rfl, N, rfl, hN, by omega, fun s hs => ⟨hW.asc s hs, hW.inn s hs⟩, fun C hWC => ⟨_, rfl, by rw [List.length_map]; omega, ?_⟩⟩
    rw [mput_swap hpq, mput_mput]
    refine fg_of (hC _ _ ⟨sc ++ [(W, C)], o3, _, _, _, ho3, fun s hs => ?_, by rw [List.length_append, List.length_singleton]; omega, by rw [List.map_append]; rfl, rfl⟩)
    rcases List.mem_append.mp hs with hs | hs
    · exact hsc s hs
    · rw [List.mem_singleton.mp hs]
      exact why_two hN hNl hW hWC
end
theorem dm_value_key {K : PySem.W.Frag} {h : Heap} {mg : Str → Option Value} (X : K.In h) (G : h.Ns mainGlobals mg) {f : Addr} {oc : Value} {od an : Option Addr} {sl : Array (Option Value)} {kV dc pm cd ct : Value} (a : PySem.W.nsIn K mainGlobals "value_key" = some (some (.ref f))) (l : K.lookup f = some ⟨oc, od, .func (PySem.W.fnOf "value_key" "value_key" (defArgs s_value_key) (defBody s_value_key) (defScope s_value_key) .none kV dc pm an cd ct), sl⟩) (c : PySem.W.codeIn K cd "value_key" = true) (k : PySem.W.keepIn K (.ref f) = true) : Def K mg "value_key" s_value_key ["value"] := ⟨_, _, fun_mk (st := s_value_key) l c k, PySem.W.mg_of X G a, (fun_mk (st := s_value_key) l c k).binds (ps := ["value"]) fun _ _ _ _ _ _ us hl => match us, hl with | [_], _ => rfl⟩
theorem dm_row_key {K : PySem.W.Frag} {h : Heap} {mg : Str → Option Value} (X : K.In h) (G : h.Ns mainGlobals mg) {f : Addr} {oc : Value} {od an : Option Addr} {sl : Array (Option Value)} {kV dc pm cd ct : Value} (a : PySem.W.nsIn K mainGlobals "row_key" = some (some (.ref f))) (l : K.lookup f = some ⟨oc, od, .func (PySem.W.fnOf "row_key" "row_key" (defArgs s_row_key) (defBody s_row_key) (defScope s_row_key) .none kV dc pm an cd ct), sl⟩) (c : PySem.W.codeIn K cd "row_key" = true) (k : PySem.W.keepIn K (.ref f) = true) : Def K mg "row_key" s_row_key ["row"] := ⟨_, _, fun_mk (st := s_row_key) l c k, PySem.W.mg_of X G a, (fun_mk (st := s_row_key) l c k).binds (ps := ["row"]) fun _ _ _ _ _ _ us hl => match us, hl with | [_], _ => rfl⟩
theorem dm_mark_key {K : PySem.W.Frag} {h : Heap} {mg : Str → Option Value} (X : K.In h) (G : h.Ns mainGlobals mg) {f : Addr} {oc : Value} {od an : Option Addr} {sl : Array (Option Value)} {kV dc pm cd ct : Value} (a : PySem.W.nsIn K mainGlobals "mark_key" = some (some (.ref f))) (l : K.lookup f = some ⟨oc, od, .func (PySem.W.fnOf "mark_key" "mark_key" (defArgs s_mark_key) (defBody s_mark_key) (defScope s_mark_key) .none kV dc pm an cd ct), sl⟩) (c : PySem.W.codeIn K cd "mark_key" = true) (k : PySem.W.keepIn K (.ref f) = true) : Def K mg "mark_key" s_mark_key ["mark"] := ⟨_, _, fun_mk (st := s_mark_key) l c k, PySem.W.mg_of X G a, (fun_mk (st := s_mark_key) l c k).binds (ps := ["mark"]) fun _ _ _ _ _ _ us hl => match us, hl with | [_], _ => rfl⟩
theorem dm_pair_key {K : PySem.W.Frag} {h : Heap} {mg : Str → Option Value} (X : K.In h) (G : h.Ns mainGlobals mg) {f : Addr} {oc : Value} {od an : Option Addr} {sl : Array (Option Value)} {kV dc pm cd ct : Value} (a : PySem.W.nsIn K mainGlobals "pair_key" = some (some (.ref f))) (l : K.lookup f = some ⟨oc, od, .func (PySem.W.fnOf "pair_key" "pair_key" (defArgs s_pair_key) (defBody s_pair_key) (defScope s_pair_key) .none kV dc pm an cd ct), sl⟩) (c : PySem.W.codeIn K cd "pair_key" = true) (k : PySem.W.keepIn K (.ref f) = true) : Def K mg "pair_key" s_pair_key ["pair"] := ⟨_, _, fun_mk (st := s_pair_key) l c k, PySem.W.mg_of X G a, (fun_mk (st := s_pair_key) l c k).binds (ps := ["pair"]) fun _ _ _ _ _ _ us hl => match us, hl with | [_], _ => rfl⟩
theorem dm_mask_size {K : PySem.W.Frag} {h : Heap} {mg : Str → Option Value} (X : K.In h) (G : h.Ns mainGlobals mg) {f : Addr} {oc : Value} {od an : Option Addr} {sl : Array (Option Value)} {kV dc pm cd ct : Value} (a : PySem.W.nsIn K mainGlobals "mask_size" = some (some (.ref f))) (l : K.lookup f = some ⟨oc, od, .func (PySem.W.fnOf "mask_size" "mask_size" (defArgs s_mask_size) (defBody s_mask_size) (defScope s_mask_size) .none kV dc pm an cd ct), sl⟩) (c : PySem.W.codeIn K cd "mask_size" = true) (k : PySem.W.keepIn K (.ref f) = true) : Def K mg "mask_size" s_mask_size ["mask"] := ⟨_, _, fun_mk (st := s_mask_size) l c k, PySem.W.mg_of X G a, (fun_mk (st := s_mask_size) l c k).binds (ps := ["mask"]) fun _ _ _ _ _ _ us hl => match us, hl with | [_], _ => rfl⟩
theorem dm_places_of {K : PySem.W.Frag} {h : Heap} {mg : Str → Option Value} (X : K.In h) (G : h.Ns mainGlobals mg) {f : Addr} {oc : Value} {od an : Option Addr} {sl : Array (Option Value)} {kV dc pm cd ct : Value} (a : PySem.W.nsIn K mainGlobals "places_of" = some (some (.ref f))) (l : K.lookup f = some ⟨oc, od, .func (PySem.W.fnOf "places_of" "places_of" (defArgs s_places_of) (defBody s_places_of) (defScope s_places_of) .none kV dc pm an cd ct), sl⟩) (c : PySem.W.codeIn K cd "places_of" = true) (k : PySem.W.keepIn K (.ref f) = true) : Def K mg "places_of" s_places_of ["mask"] := ⟨_, _, fun_mk (st := s_places_of) l c k, PySem.W.mg_of X G a, (fun_mk (st := s_places_of) l c k).binds (ps := ["mask"]) fun _ _ _ _ _ _ us hl => match us, hl with | [_], _ => rfl⟩
theorem dm_ordered_parts {K : PySem.W.Frag} {h : Heap} {mg : Str → Option Value} (X : K.In h) (G : h.Ns mainGlobals mg) {f : Addr} {oc : Value} {od an : Option Addr} {sl : Array (Option Value)} {kV dc pm cd ct : Value} (a : PySem.W.nsIn K mainGlobals "ordered_parts" = some (some (.ref f))) (l : K.lookup f = some ⟨oc, od, .func (PySem.W.fnOf "ordered_parts" "ordered_parts" (defArgs s_ordered_parts) (defBody s_ordered_parts) (defScope s_ordered_parts) .none kV dc pm an cd ct), sl⟩) (c : PySem.W.codeIn K cd "ordered_parts" = true) (k : PySem.W.keepIn K (.ref f) = true) : Def K mg "ordered_parts" s_ordered_parts ["house", "members"] := ⟨_, _, fun_mk (st := s_ordered_parts) l c k, PySem.W.mg_of X G a, (fun_mk (st := s_ordered_parts) l c k).binds (ps := ["house", "members"]) fun _ _ _ _ _ _ us hl => match us, hl with | [_, _], _ => rfl⟩
theorem dm_masks_of {K : PySem.W.Frag} {h : Heap} {mg : Str → Option Value} (X : K.In h) (G : h.Ns mainGlobals mg) {f : Addr} {oc : Value} {od an : Option Addr} {sl : Array (Option Value)} {kV dc pm cd ct : Value} (a : PySem.W.nsIn K mainGlobals "masks_of" = some (some (.ref f))) (l : K.lookup f = some ⟨oc, od, .func (PySem.W.fnOf "masks_of" "masks_of" (defArgs s_masks_of) (defBody s_masks_of) (defScope s_masks_of) .none kV dc pm an cd ct), sl⟩) (c : PySem.W.codeIn K cd "masks_of" = true) (k : PySem.W.keepIn K (.ref f) = true) : Def K mg "masks_of" s_masks_of ["members", "parts"] := ⟨_, _, fun_mk (st := s_masks_of) l c k, PySem.W.mg_of X G a, (fun_mk (st := s_masks_of) l c k).binds (ps := ["members", "parts"]) fun _ _ _ _ _ _ us hl => match us, hl with | [_, _], _ => rfl⟩
theorem dm_members_of {K : PySem.W.Frag} {h : Heap} {mg : Str → Option Value} (X : K.In h) (G : h.Ns mainGlobals mg) {f : Addr} {oc : Value} {od an : Option Addr} {sl : Array (Option Value)} {kV dc pm cd ct : Value} (a : PySem.W.nsIn K mainGlobals "members_of" = some (some (.ref f))) (l : K.lookup f = some ⟨oc, od, .func (PySem.W.fnOf "members_of" "members_of" (defArgs s_members_of) (defBody s_members_of) (defScope s_members_of) .none kV dc pm an cd ct), sl⟩) (c : PySem.W.codeIn K cd "members_of" = true) (k : PySem.W.keepIn K (.ref f) = true) : Def K mg "members_of" s_members_of ["masks", "parts"] := ⟨_, _, fun_mk (st := s_members_of) l c k, PySem.W.mg_of X G a, (fun_mk (st := s_members_of) l c k).binds (ps := ["masks", "parts"]) fun _ _ _ _ _ _ us hl => match us, hl with | [_, _], _ => rfl⟩
theorem dm_missed {K : PySem.W.Frag} {h : Heap} {mg : Str → Option Value} (X : K.In h) (G : h.Ns mainGlobals mg) {f : Addr} {oc : Value} {od an : Option Addr} {sl : Array (Option Value)} {kV dc pm cd ct : Value} (a : PySem.W.nsIn K mainGlobals "missed" = some (some (.ref f))) (l : K.lookup f = some ⟨oc, od, .func (PySem.W.fnOf "missed" "missed" (defArgs s_missed) (defBody s_missed) (defScope s_missed) .none kV dc pm an cd ct), sl⟩) (c : PySem.W.codeIn K cd "missed" = true) (k : PySem.W.keepIn K (.ref f) = true) : Def K mg "missed" s_missed ["supports", "chosen", "allowed"] := ⟨_, _, fun_mk (st := s_missed) l c k, PySem.W.mg_of X G a, (fun_mk (st := s_missed) l c k).binds (ps := ["supports", "chosen", "allowed"]) fun _ _ _ _ _ _ us hl => match us, hl with | [_, _, _], _ => rfl⟩
theorem dm_has_idle {K : PySem.W.Frag} {h : Heap} {mg : Str → Option Value} (X : K.In h) (G : h.Ns mainGlobals mg) {f : Addr} {oc : Value} {od an : Option Addr} {sl : Array (Option Value)} {kV dc pm cd ct : Value} (a : PySem.W.nsIn K mainGlobals "has_idle" = some (some (.ref f))) (l : K.lookup f = some ⟨oc, od, .func (PySem.W.fnOf "has_idle" "has_idle" (defArgs s_has_idle) (defBody s_has_idle) (defScope s_has_idle) .none kV dc pm an cd ct), sl⟩) (c : PySem.W.codeIn K cd "has_idle" = true) (k : PySem.W.keepIn K (.ref f) = true) : Def K mg "has_idle" s_has_idle ["supports", "chosen"] := ⟨_, _, fun_mk (st := s_has_idle) l c k, PySem.W.mg_of X G a, (fun_mk (st := s_has_idle) l c k).binds (ps := ["supports", "chosen"]) fun _ _ _ _ _ _ us hl => match us, hl with | [_, _], _ => rfl⟩
theorem dm_cut_masks {K : PySem.W.Frag} {h : Heap} {mg : Str → Option Value} (X : K.In h) (G : h.Ns mainGlobals mg) {f : Addr} {oc : Value} {od an : Option Addr} {sl : Array (Option Value)} {kV dc pm cd ct : Value} (a : PySem.W.nsIn K mainGlobals "cut_masks" = some (some (.ref f))) (l : K.lookup f = some ⟨oc, od, .func (PySem.W.fnOf "cut_masks" "cut_masks" (defArgs s_cut_masks) (defBody s_cut_masks) (defScope s_cut_masks) .none kV dc pm an cd ct), sl⟩) (c : PySem.W.codeIn K cd "cut_masks" = true) (k : PySem.W.keepIn K (.ref f) = true) : Def K mg "cut_masks" s_cut_masks ["supports"] := ⟨_, _, fun_mk (st := s_cut_masks) l c k, PySem.W.mg_of X G a, (fun_mk (st := s_cut_masks) l c k).binds (ps := ["supports"]) fun _ _ _ _ _ _ us hl => match us, hl with | [_], _ => rfl⟩
theorem dm_cuts {K : PySem.W.Frag} {h : Heap} {mg : Str → Option Value} (X : K.In h) (G : h.Ns mainGlobals mg) {f : Addr} {oc : Value} {od an : Option Addr} {sl : Array (Option Value)} {kV dc pm cd ct : Value} (a : PySem.W.nsIn K mainGlobals "cuts" = some (some (.ref f))) (l : K.lookup f = some ⟨oc, od, .func (PySem.W.fnOf "cuts" "cuts" (defArgs s_cuts) (defBody s_cuts) (defScope s_cuts) .none kV dc pm an cd ct), sl⟩) (c : PySem.W.codeIn K cd "cuts" = true) (k : PySem.W.keepIn K (.ref f) = true) : Def K mg "cuts" s_cuts ["why"] := ⟨_, _, fun_mk (st := s_cuts) l c k, PySem.W.mg_of X G a, (fun_mk (st := s_cuts) l c k).binds (ps := ["why"]) fun _ _ _ _ _ _ us hl => match us, hl with | [_], _ => rfl⟩
theorem dm_least_cut {K : PySem.W.Frag} {h : Heap} {mg : Str → Option Value} (X : K.In h) (G : h.Ns mainGlobals mg) {f : Addr} {oc : Value} {od an : Option Addr} {sl : Array (Option Value)} {kV dc pm cd ct : Value} (a : PySem.W.nsIn K mainGlobals "least_cut" = some (some (.ref f))) (l : K.lookup f = some ⟨oc, od, .func (PySem.W.fnOf "least_cut" "least_cut" (defArgs s_least_cut) (defBody s_least_cut) (defScope s_least_cut) .none kV dc pm an cd ct), sl⟩) (c : PySem.W.codeIn K cd "least_cut" = true) (k : PySem.W.keepIn K (.ref f) = true) : Def K mg "least_cut" s_least_cut ["why"] := ⟨_, _, fun_mk (st := s_least_cut) l c k, PySem.W.mg_of X G a, (fun_mk (st := s_least_cut) l c k).binds (ps := ["why"]) fun _ _ _ _ _ _ us hl => match us, hl with | [_], _ => rfl⟩
theorem dm_l_draws {K : PySem.W.Frag} {h : Heap} {mg : Str → Option Value} (X : K.In h) (G : h.Ns mainGlobals mg) {f : Addr} {oc : Value} {od an : Option Addr} {sl : Array (Option Value)} {kV dc pm cd ct : Value} (a : PySem.W.nsIn K mainGlobals "_law_draws" = some (some (.ref f))) (l : K.lookup f = some ⟨oc, od, .func (PySem.W.fnOf "_law_draws" "_law_draws" (defArgs s_l_draws) (defBody s_l_draws) (defScope s_l_draws) .none kV dc pm an cd ct), sl⟩) (c : PySem.W.codeIn K cd "_law_draws" = true) (k : PySem.W.keepIn K (.ref f) = true) : Def K mg "_law_draws" s_l_draws ["script", "many"] := ⟨_, _, fun_mk (st := s_l_draws) l c k, PySem.W.mg_of X G a, (fun_mk (st := s_l_draws) l c k).binds (ps := ["script", "many"]) fun _ _ _ _ _ _ us hl => match us, hl with | [_, _], _ => rfl⟩
theorem dm_l_take {K : PySem.W.Frag} {h : Heap} {mg : Str → Option Value} (X : K.In h) (G : h.Ns mainGlobals mg) {f : Addr} {oc : Value} {od an : Option Addr} {sl : Array (Option Value)} {kV dc pm cd ct : Value} (a : PySem.W.nsIn K mainGlobals "_law_take" = some (some (.ref f))) (l : K.lookup f = some ⟨oc, od, .func (PySem.W.fnOf "_law_take" "_law_take" (defArgs s_l_take) (defBody s_l_take) (defScope s_l_take) .none kV dc pm an cd ct), sl⟩) (c : PySem.W.codeIn K cd "_law_take" = true) (k : PySem.W.keepIn K (.ref f) = true) : Def K mg "_law_take" s_l_take ["draws", "many"] := ⟨_, _, fun_mk (st := s_l_take) l c k, PySem.W.mg_of X G a, (fun_mk (st := s_l_take) l c k).binds (ps := ["draws", "many"]) fun _ _ _ _ _ _ us hl => match us, hl with | [_, _], _ => rfl⟩
theorem dm_l_same {K : PySem.W.Frag} {h : Heap} {mg : Str → Option Value} (X : K.In h) (G : h.Ns mainGlobals mg) {f : Addr} {oc : Value} {od an : Option Addr} {sl : Array (Option Value)} {kV dc pm cd ct : Value} (a : PySem.W.nsIn K mainGlobals "_law_same" = some (some (.ref f))) (l : K.lookup f = some ⟨oc, od, .func (PySem.W.fnOf "_law_same" "_law_same" (defArgs s_l_same) (defBody s_l_same) (defScope s_l_same) .none kV dc pm an cd ct), sl⟩) (c : PySem.W.codeIn K cd "_law_same" = true) (k : PySem.W.keepIn K (.ref f) = true) : Def K mg "_law_same" s_l_same ["actual", "due"] := ⟨_, _, fun_mk (st := s_l_same) l c k, PySem.W.mg_of X G a, (fun_mk (st := s_l_same) l c k).binds (ps := ["actual", "due"]) fun _ _ _ _ _ _ us hl => match us, hl with | [_, _], _ => rfl⟩
theorem dm_l_value_key {K : PySem.W.Frag} {h : Heap} {mg : Str → Option Value} (X : K.In h) (G : h.Ns mainGlobals mg) {f : Addr} {oc : Value} {od an : Option Addr} {sl : Array (Option Value)} {kV dc pm cd ct : Value} (a : PySem.W.nsIn K mainGlobals "_law_value_key" = some (some (.ref f))) (l : K.lookup f = some ⟨oc, od, .func (PySem.W.fnOf "_law_value_key" "_law_value_key" (defArgs s_l_value_key) (defBody s_l_value_key) (defScope s_l_value_key) .none kV dc pm an cd ct), sl⟩) (c : PySem.W.codeIn K cd "_law_value_key" = true) (k : PySem.W.keepIn K (.ref f) = true) : Def K mg "_law_value_key" s_l_value_key ["value"] := ⟨_, _, fun_mk (st := s_l_value_key) l c k, PySem.W.mg_of X G a, (fun_mk (st := s_l_value_key) l c k).binds (ps := ["value"]) fun _ _ _ _ _ _ us hl => match us, hl with | [_], _ => rfl⟩
theorem dm_l_row_key {K : PySem.W.Frag} {h : Heap} {mg : Str → Option Value} (X : K.In h) (G : h.Ns mainGlobals mg) {f : Addr} {oc : Value} {od an : Option Addr} {sl : Array (Option Value)} {kV dc pm cd ct : Value} (a : PySem.W.nsIn K mainGlobals "_law_row_key" = some (some (.ref f))) (l : K.lookup f = some ⟨oc, od, .func (PySem.W.fnOf "_law_row_key" "_law_row_key" (defArgs s_l_row_key) (defBody s_l_row_key) (defScope s_l_row_key) .none kV dc pm an cd ct), sl⟩) (c : PySem.W.codeIn K cd "_law_row_key" = true) (k : PySem.W.keepIn K (.ref f) = true) : Def K mg "_law_row_key" s_l_row_key ["row"] := ⟨_, _, fun_mk (st := s_l_row_key) l c k, PySem.W.mg_of X G a, (fun_mk (st := s_l_row_key) l c k).binds (ps := ["row"]) fun _ _ _ _ _ _ us hl => match us, hl with | [_], _ => rfl⟩
theorem dm_l_mark_key {K : PySem.W.Frag} {h : Heap} {mg : Str → Option Value} (X : K.In h) (G : h.Ns mainGlobals mg) {f : Addr} {oc : Value} {od an : Option Addr} {sl : Array (Option Value)} {kV dc pm cd ct : Value} (a : PySem.W.nsIn K mainGlobals "_law_mark_key" = some (some (.ref f))) (l : K.lookup f = some ⟨oc, od, .func (PySem.W.fnOf "_law_mark_key" "_law_mark_key" (defArgs s_l_mark_key) (defBody s_l_mark_key) (defScope s_l_mark_key) .none kV dc pm an cd ct), sl⟩) (c : PySem.W.codeIn K cd "_law_mark_key" = true) (k : PySem.W.keepIn K (.ref f) = true) : Def K mg "_law_mark_key" s_l_mark_key ["mark"] := ⟨_, _, fun_mk (st := s_l_mark_key) l c k, PySem.W.mg_of X G a, (fun_mk (st := s_l_mark_key) l c k).binds (ps := ["mark"]) fun _ _ _ _ _ _ us hl => match us, hl with | [_], _ => rfl⟩
theorem dm_l_is_part {K : PySem.W.Frag} {h : Heap} {mg : Str → Option Value} (X : K.In h) (G : h.Ns mainGlobals mg) {f : Addr} {oc : Value} {od an : Option Addr} {sl : Array (Option Value)} {kV dc pm cd ct : Value} (a : PySem.W.nsIn K mainGlobals "_law_is_part" = some (some (.ref f))) (l : K.lookup f = some ⟨oc, od, .func (PySem.W.fnOf "_law_is_part" "_law_is_part" (defArgs s_l_is_part) (defBody s_l_is_part) (defScope s_l_is_part) .none kV dc pm an cd ct), sl⟩) (c : PySem.W.codeIn K cd "_law_is_part" = true) (k : PySem.W.keepIn K (.ref f) = true) : Def K mg "_law_is_part" s_l_is_part ["small", "large"] := ⟨_, _, fun_mk (st := s_l_is_part) l c k, PySem.W.mg_of X G a, (fun_mk (st := s_l_is_part) l c k).binds (ps := ["small", "large"]) fun _ _ _ _ _ _ us hl => match us, hl with | [_, _], _ => rfl⟩
theorem dm_l_pair_key {K : PySem.W.Frag} {h : Heap} {mg : Str → Option Value} (X : K.In h) (G : h.Ns mainGlobals mg) {f : Addr} {oc : Value} {od an : Option Addr} {sl : Array (Option Value)} {kV dc pm cd ct : Value} (a : PySem.W.nsIn K mainGlobals "_law_pair_key" = some (some (.ref f))) (l : K.lookup f = some ⟨oc, od, .func (PySem.W.fnOf "_law_pair_key" "_law_pair_key" (defArgs s_l_pair_key) (defBody s_l_pair_key) (defScope s_l_pair_key) .none kV dc pm an cd ct), sl⟩) (c : PySem.W.codeIn K cd "_law_pair_key" = true) (k : PySem.W.keepIn K (.ref f) = true) : Def K mg "_law_pair_key" s_l_pair_key ["pair"] := ⟨_, _, fun_mk (st := s_l_pair_key) l c k, PySem.W.mg_of X G a, (fun_mk (st := s_l_pair_key) l c k).binds (ps := ["pair"]) fun _ _ _ _ _ _ us hl => match us, hl with | [_], _ => rfl⟩
theorem dm_l_reason_key {K : PySem.W.Frag} {h : Heap} {mg : Str → Option Value} (X : K.In h) (G : h.Ns mainGlobals mg) {f : Addr} {oc : Value} {od an : Option Addr} {sl : Array (Option Value)} {kV dc pm cd ct : Value} (a : PySem.W.nsIn K mainGlobals "_law_reason_key" = some (some (.ref f))) (l : K.lookup f = some ⟨oc, od, .func (PySem.W.fnOf "_law_reason_key" "_law_reason_key" (defArgs s_l_reason_key) (defBody s_l_reason_key) (defScope s_l_reason_key) .none kV dc pm an cd ct), sl⟩) (c : PySem.W.codeIn K cd "_law_reason_key" = true) (k : PySem.W.keepIn K (.ref f) = true) : Def K mg "_law_reason_key" s_l_reason_key ["reason"] := ⟨_, _, fun_mk (st := s_l_reason_key) l c k, PySem.W.mg_of X G a, (fun_mk (st := s_l_reason_key) l c k).binds (ps := ["reason"]) fun _ _ _ _ _ _ us hl => match us, hl with | [_], _ => rfl⟩
theorem dm_l_member_key {K : PySem.W.Frag} {h : Heap} {mg : Str → Option Value} (X : K.In h) (G : h.Ns mainGlobals mg) {f : Addr} {oc : Value} {od an : Option Addr} {sl : Array (Option Value)} {kV dc pm cd ct : Value} (a : PySem.W.nsIn K mainGlobals "_law_member_key" = some (some (.ref f))) (l : K.lookup f = some ⟨oc, od, .func (PySem.W.fnOf "_law_member_key" "_law_member_key" (defArgs s_l_member_key) (defBody s_l_member_key) (defScope s_l_member_key) .none kV dc pm an cd ct), sl⟩) (c : PySem.W.codeIn K cd "_law_member_key" = true) (k : PySem.W.keepIn K (.ref f) = true) : Def K mg "_law_member_key" s_l_member_key ["member"] := ⟨_, _, fun_mk (st := s_l_member_key) l c k, PySem.W.mg_of X G a, (fun_mk (st := s_l_member_key) l c k).binds (ps := ["member"]) fun _ _ _ _ _ _ us hl => match us, hl with | [_], _ => rfl⟩
theorem dm_l_thin {K : PySem.W.Frag} {h : Heap} {mg : Str → Option Value} (X : K.In h) (G : h.Ns mainGlobals mg) {f : Addr} {oc : Value} {od an : Option Addr} {sl : Array (Option Value)} {kV dc pm cd ct : Value} (a : PySem.W.nsIn K mainGlobals "_law_thin" = some (some (.ref f))) (l : K.lookup f = some ⟨oc, od, .func (PySem.W.fnOf "_law_thin" "_law_thin" (defArgs s_l_thin) (defBody s_l_thin) (defScope s_l_thin) .none kV dc pm an cd ct), sl⟩) (c : PySem.W.codeIn K cd "_law_thin" = true) (k : PySem.W.keepIn K (.ref f) = true) : Def K mg "_law_thin" s_l_thin ["members"] := ⟨_, _, fun_mk (st := s_l_thin) l c k, PySem.W.mg_of X G a, (fun_mk (st := s_l_thin) l c k).binds (ps := ["members"]) fun _ _ _ _ _ _ us hl => match us, hl with | [_], _ => rfl⟩
theorem dm_l_drawn_why {K : PySem.W.Frag} {h : Heap} {mg : Str → Option Value} (X : K.In h) (G : h.Ns mainGlobals mg) {f : Addr} {oc : Value} {od an : Option Addr} {sl : Array (Option Value)} {kV dc pm cd ct : Value} (a : PySem.W.nsIn K mainGlobals "_law_drawn_why" = some (some (.ref f))) (l : K.lookup f = some ⟨oc, od, .func (PySem.W.fnOf "_law_drawn_why" "_law_drawn_why" (defArgs s_l_drawn_why) (defBody s_l_drawn_why) (defScope s_l_drawn_why) .none kV dc pm an cd ct), sl⟩) (c : PySem.W.codeIn K cd "_law_drawn_why" = true) (k : PySem.W.keepIn K (.ref f) = true) : Def K mg "_law_drawn_why" s_l_drawn_why ["draws", "numbers"] := ⟨_, _, fun_mk (st := s_l_drawn_why) l c k, PySem.W.mg_of X G a, (fun_mk (st := s_l_drawn_why) l c k).binds (ps := ["draws", "numbers"]) fun _ _ _ _ _ _ us hl => match us, hl with | [_, _], _ => rfl⟩
theorem dm_l_some_numbers {K : PySem.W.Frag} {h : Heap} {mg : Str → Option Value} (X : K.In h) (G : h.Ns mainGlobals mg) {f : Addr} {oc : Value} {od an : Option Addr} {sl : Array (Option Value)} {kV dc pm cd ct : Value} (a : PySem.W.nsIn K mainGlobals "_law_some_numbers" = some (some (.ref f))) (l : K.lookup f = some ⟨oc, od, .func (PySem.W.fnOf "_law_some_numbers" "_law_some_numbers" (defArgs s_l_some_numbers) (defBody s_l_some_numbers) (defScope s_l_some_numbers) .none kV dc pm an cd ct), sl⟩) (c : PySem.W.codeIn K cd "_law_some_numbers" = true) (k : PySem.W.keepIn K (.ref f) = true) : Def K mg "_law_some_numbers" s_l_some_numbers ["draws"] := ⟨_, _, fun_mk (st := s_l_some_numbers) l c k, PySem.W.mg_of X G a, (fun_mk (st := s_l_some_numbers) l c k).binds (ps := ["draws"]) fun _ _ _ _ _ _ us hl => match us, hl with | [_], _ => rfl⟩
theorem dm_l_cuts {K : PySem.W.Frag} {h : Heap} {mg : Str → Option Value} (X : K.In h) (G : h.Ns mainGlobals mg) {f : Addr} {oc : Value} {od an : Option Addr} {sl : Array (Option Value)} {kV dc pm cd ct : Value} (a : PySem.W.nsIn K mainGlobals "_law_cuts" = some (some (.ref f))) (l : K.lookup f = some ⟨oc, od, .func (PySem.W.fnOf "_law_cuts" "_law_cuts" (defArgs s_l_cuts) (defBody s_l_cuts) (defScope s_l_cuts) .none kV dc pm an cd ct), sl⟩) (c : PySem.W.codeIn K cd "_law_cuts" = true) (k : PySem.W.keepIn K (.ref f) = true) : Def K mg "_law_cuts" s_l_cuts ["why", "numbers"] := ⟨_, _, fun_mk (st := s_l_cuts) l c k, PySem.W.mg_of X G a, (fun_mk (st := s_l_cuts) l c k).binds (ps := ["why", "numbers"]) fun _ _ _ _ _ _ us hl => match us, hl with | [_, _], _ => rfl⟩
theorem dm_l_least {K : PySem.W.Frag} {h : Heap} {mg : Str → Option Value} (X : K.In h) (G : h.Ns mainGlobals mg) {f : Addr} {oc : Value} {od an : Option Addr} {sl : Array (Option Value)} {kV dc pm cd ct : Value} (a : PySem.W.nsIn K mainGlobals "_law_least" = some (some (.ref f))) (l : K.lookup f = some ⟨oc, od, .func (PySem.W.fnOf "_law_least" "_law_least" (defArgs s_l_least) (defBody s_l_least) (defScope s_l_least) .none kV dc pm an cd ct), sl⟩) (c : PySem.W.codeIn K cd "_law_least" = true) (k : PySem.W.keepIn K (.ref f) = true) : Def K mg "_law_least" s_l_least ["due"] := ⟨_, _, fun_mk (st := s_l_least) l c k, PySem.W.mg_of X G a, (fun_mk (st := s_l_least) l c k).binds (ps := ["due"]) fun _ _ _ _ _ _ us hl => match us, hl with | [_], _ => rfl⟩
theorem dm_l_pairs {K : PySem.W.Frag} {h : Heap} {mg : Str → Option Value} (X : K.In h) (G : h.Ns mainGlobals mg) {f : Addr} {oc : Value} {od an : Option Addr} {sl : Array (Option Value)} {kV dc pm cd ct : Value} (a : PySem.W.nsIn K mainGlobals "_law_pairs" = some (some (.ref f))) (l : K.lookup f = some ⟨oc, od, .func (PySem.W.fnOf "_law_pairs" "_law_pairs" (defArgs s_l_pairs) (defBody s_l_pairs) (defScope s_l_pairs) .none kV dc pm an cd ct), sl⟩) (c : PySem.W.codeIn K cd "_law_pairs" = true) (k : PySem.W.keepIn K (.ref f) = true) : Def K mg "_law_pairs" s_l_pairs ["draws"] := ⟨_, _, fun_mk (st := s_l_pairs) l c k, PySem.W.mg_of X G a, (fun_mk (st := s_l_pairs) l c k).binds (ps := ["draws"]) fun _ _ _ _ _ _ us hl => match us, hl with | [_], _ => rfl⟩
theorem dm_law {K : PySem.W.Frag} {h : Heap} {mg : Str → Option Value} (X : K.In h) (G : h.Ns mainGlobals mg) {f : Addr} {oc : Value} {od an : Option Addr} {sl : Array (Option Value)} {kV dc pm cd ct : Value} (a : PySem.W.nsIn K mainGlobals "law" = some (some (.ref f))) (l : K.lookup f = some ⟨oc, od, .func (PySem.W.fnOf "law" "law" (defArgs s_law) (defBody s_law) (defScope s_law) .none kV dc pm an cd ct), sl⟩) (c : PySem.W.codeIn K cd "law" = true) (k : PySem.W.keepIn K (.ref f) = true) : Def K mg "law" s_law ["script"] := ⟨_, _, fun_mk (st := s_law) l c k, PySem.W.mg_of X G a, (fun_mk (st := s_law) l c k).binds (ps := ["script"]) fun _ _ _ _ _ _ us hl => match us, hl with | [_], _ => rfl⟩
set_option maxHeartbeats 0 in
theorem all_mk {P : Program} {w : World} {K : PySem.W.Frag} {h : Heap} {mg : Str → Option Value} {fa : Addr} (X : K.In h) (G : h.Ns mainGlobals mg) (hfa : mg "law" = some (.ref fa))
    {f0 : Addr} {oc0 : Value} {od0 an0 : Option Addr} {sl0 : Array (Option Value)} {kV0 dc0 pm0 cd0 ct0 : Value}
    (a0 : PySem.W.nsIn K mainGlobals "value_key" = some (some (.ref f0))) (l0 : K.lookup f0 = some ⟨oc0, od0, .func (PySem.W.fnOf "value_key" "value_key" (defArgs s_value_key) (defBody s_value_key) (defScope s_value_key) .none kV0 dc0 pm0 an0 cd0 ct0), sl0⟩) (c0 : PySem.W.codeIn K cd0 "value_key" = true) (k0 : PySem.W.keepIn K (.ref f0) = true)
    {f1 : Addr} {oc1 : Value} {od1 an1 : Option Addr} {sl1 : Array (Option Value)} {kV1 dc1 pm1 cd1 ct1 : Value}
    (a1 : PySem.W.nsIn K mainGlobals "row_key" = some (some (.ref f1))) (l1 : K.lookup f1 = some ⟨oc1, od1, .func (PySem.W.fnOf "row_key" "row_key" (defArgs s_row_key) (defBody s_row_key) (defScope s_row_key) .none kV1 dc1 pm1 an1 cd1 ct1), sl1⟩) (c1 : PySem.W.codeIn K cd1 "row_key" = true) (k1 : PySem.W.keepIn K (.ref f1) = true)
    {f2 : Addr} {oc2 : Value} {od2 an2 : Option Addr} {sl2 : Array (Option Value)} {kV2 dc2 pm2 cd2 ct2 : Value}
    (a2 : PySem.W.nsIn K mainGlobals "mark_key" = some (some (.ref f2))) (l2 : K.lookup f2 = some ⟨oc2, od2, .func (PySem.W.fnOf "mark_key" "mark_key" (defArgs s_mark_key) (defBody s_mark_key) (defScope s_mark_key) .none kV2 dc2 pm2 an2 cd2 ct2), sl2⟩) (c2 : PySem.W.codeIn K cd2 "mark_key" = true) (k2 : PySem.W.keepIn K (.ref f2) = true)
    {f3 : Addr} {oc3 : Value} {od3 an3 : Option Addr} {sl3 : Array (Option Value)} {kV3 dc3 pm3 cd3 ct3 : Value}
    (a3 : PySem.W.nsIn K mainGlobals "pair_key" = some (some (.ref f3))) (l3 : K.lookup f3 = some ⟨oc3, od3, .func (PySem.W.fnOf "pair_key" "pair_key" (defArgs s_pair_key) (defBody s_pair_key) (defScope s_pair_key) .none kV3 dc3 pm3 an3 cd3 ct3), sl3⟩) (c3 : PySem.W.codeIn K cd3 "pair_key" = true) (k3 : PySem.W.keepIn K (.ref f3) = true)
    {f4 : Addr} {oc4 : Value} {od4 an4 : Option Addr} {sl4 : Array (Option Value)} {kV4 dc4 pm4 cd4 ct4 : Value}
    (a4 : PySem.W.nsIn K mainGlobals "mask_size" = some (some (.ref f4))) (l4 : K.lookup f4 = some ⟨oc4, od4, .func (PySem.W.fnOf "mask_size" "mask_size" (defArgs s_mask_size) (defBody s_mask_size) (defScope s_mask_size) .none kV4 dc4 pm4 an4 cd4 ct4), sl4⟩) (c4 : PySem.W.codeIn K cd4 "mask_size" = true) (k4 : PySem.W.keepIn K (.ref f4) = true)
    {f5 : Addr} {oc5 : Value} {od5 an5 : Option Addr} {sl5 : Array (Option Value)} {kV5 dc5 pm5 cd5 ct5 : Value}
    (a5 : PySem.W.nsIn K mainGlobals "places_of" = some (some (.ref f5))) (l5 : K.lookup f5 = some ⟨oc5, od5, .func (PySem.W.fnOf "places_of" "places_of" (defArgs s_places_of) (defBody s_places_of) (defScope s_places_of) .none kV5 dc5 pm5 an5 cd5 ct5), sl5⟩) (c5 : PySem.W.codeIn K cd5 "places_of" = true) (k5 : PySem.W.keepIn K (.ref f5) = true)
    {f6 : Addr} {oc6 : Value} {od6 an6 : Option Addr} {sl6 : Array (Option Value)} {kV6 dc6 pm6 cd6 ct6 : Value}
    (a6 : PySem.W.nsIn K mainGlobals "ordered_parts" = some (some (.ref f6))) (l6 : K.lookup f6 = some ⟨oc6, od6, .func (PySem.W.fnOf "ordered_parts" "ordered_parts" (defArgs s_ordered_parts) (defBody s_ordered_parts) (defScope s_ordered_parts) .none kV6 dc6 pm6 an6 cd6 ct6), sl6⟩) (c6 : PySem.W.codeIn K cd6 "ordered_parts" = true) (k6 : PySem.W.keepIn K (.ref f6) = true)
    {f7 : Addr} {oc7 : Value} {od7 an7 : Option Addr} {sl7 : Array (Option Value)} {kV7 dc7 pm7 cd7 ct7 : Value}
    (a7 : PySem.W.nsIn K mainGlobals "masks_of" = some (some (.ref f7))) (l7 : K.lookup f7 = some ⟨oc7, od7, .func (PySem.W.fnOf "masks_of" "masks_of" (defArgs s_masks_of) (defBody s_masks_of) (defScope s_masks_of) .none kV7 dc7 pm7 an7 cd7 ct7), sl7⟩) (c7 : PySem.W.codeIn K cd7 "masks_of" = true) (k7 : PySem.W.keepIn K (.ref f7) = true)
    {f8 : Addr} {oc8 : Value} {od8 an8 : Option Addr} {sl8 : Array (Option Value)} {kV8 dc8 pm8 cd8 ct8 : Value}
    (a8 : PySem.W.nsIn K mainGlobals "members_of" = some (some (.ref f8))) (l8 : K.lookup f8 = some ⟨oc8, od8, .func (PySem.W.fnOf "members_of" "members_of" (defArgs s_members_of) (defBody s_members_of) (defScope s_members_of) .none kV8 dc8 pm8 an8 cd8 ct8), sl8⟩) (c8 : PySem.W.codeIn K cd8 "members_of" = true) (k8 : PySem.W.keepIn K (.ref f8) = true)
    {f9 : Addr} {oc9 : Value} {od9 an9 : Option Addr} {sl9 : Array (Option Value)} {kV9 dc9 pm9 cd9 ct9 : Value}
    (a9 : PySem.W.nsIn K mainGlobals "missed" = some (some (.ref f9))) (l9 : K.lookup f9 = some ⟨oc9, od9, .func (PySem.W.fnOf "missed" "missed" (defArgs s_missed) (defBody s_missed) (defScope s_missed) .none kV9 dc9 pm9 an9 cd9 ct9), sl9⟩) (c9 : PySem.W.codeIn K cd9 "missed" = true) (k9 : PySem.W.keepIn K (.ref f9) = true)
    {f10 : Addr} {oc10 : Value} {od10 an10 : Option Addr} {sl10 : Array (Option Value)} {kV10 dc10 pm10 cd10 ct10 : Value}
    (a10 : PySem.W.nsIn K mainGlobals "has_idle" = some (some (.ref f10))) (l10 : K.lookup f10 = some ⟨oc10, od10, .func (PySem.W.fnOf "has_idle" "has_idle" (defArgs s_has_idle) (defBody s_has_idle) (defScope s_has_idle) .none kV10 dc10 pm10 an10 cd10 ct10), sl10⟩) (c10 : PySem.W.codeIn K cd10 "has_idle" = true) (k10 : PySem.W.keepIn K (.ref f10) = true)
    {f11 : Addr} {oc11 : Value} {od11 an11 : Option Addr} {sl11 : Array (Option Value)} {kV11 dc11 pm11 cd11 ct11 : Value}
    (a11 : PySem.W.nsIn K mainGlobals "cut_masks" = some (some (.ref f11))) (l11 : K.lookup f11 = some ⟨oc11, od11, .func (PySem.W.fnOf "cut_masks" "cut_masks" (defArgs s_cut_masks) (defBody s_cut_masks) (defScope s_cut_masks) .none kV11 dc11 pm11 an11 cd11 ct11), sl11⟩) (c11 : PySem.W.codeIn K cd11 "cut_masks" = true) (k11 : PySem.W.keepIn K (.ref f11) = true)
    {f12 : Addr} {oc12 : Value} {od12 an12 : Option Addr} {sl12 : Array (Option Value)} {kV12 dc12 pm12 cd12 ct12 : Value}
    (a12 : PySem.W.nsIn K mainGlobals "cuts" = some (some (.ref f12))) (l12 : K.lookup f12 = some ⟨oc12, od12, .func (PySem.W.fnOf "cuts" "cuts" (defArgs s_cuts) (defBody s_cuts) (defScope s_cuts) .none kV12 dc12 pm12 an12 cd12 ct12), sl12⟩) (c12 : PySem.W.codeIn K cd12 "cuts" = true) (k12 : PySem.W.keepIn K (.ref f12) = true)
    {f13 : Addr} {oc13 : Value} {od13 an13 : Option Addr} {sl13 : Array (Option Value)} {kV13 dc13 pm13 cd13 ct13 : Value}
    (a13 : PySem.W.nsIn K mainGlobals "least_cut" = some (some (.ref f13))) (l13 : K.lookup f13 = some ⟨oc13, od13, .func (PySem.W.fnOf "least_cut" "least_cut" (defArgs s_least_cut) (defBody s_least_cut) (defScope s_least_cut) .none kV13 dc13 pm13 an13 cd13 ct13), sl13⟩) (c13 : PySem.W.codeIn K cd13 "least_cut" = true) (k13 : PySem.W.keepIn K (.ref f13) = true)
    {f14 : Addr} {oc14 : Value} {od14 an14 : Option Addr} {sl14 : Array (Option Value)} {kV14 dc14 pm14 cd14 ct14 : Value}
    (a14 : PySem.W.nsIn K mainGlobals "_law_draws" = some (some (.ref f14))) (l14 : K.lookup f14 = some ⟨oc14, od14, .func (PySem.W.fnOf "_law_draws" "_law_draws" (defArgs s_l_draws) (defBody s_l_draws) (defScope s_l_draws) .none kV14 dc14 pm14 an14 cd14 ct14), sl14⟩) (c14 : PySem.W.codeIn K cd14 "_law_draws" = true) (k14 : PySem.W.keepIn K (.ref f14) = true)
    {f15 : Addr} {oc15 : Value} {od15 an15 : Option Addr} {sl15 : Array (Option Value)} {kV15 dc15 pm15 cd15 ct15 : Value}
    (a15 : PySem.W.nsIn K mainGlobals "_law_take" = some (some (.ref f15))) (l15 : K.lookup f15 = some ⟨oc15, od15, .func (PySem.W.fnOf "_law_take" "_law_take" (defArgs s_l_take) (defBody s_l_take) (defScope s_l_take) .none kV15 dc15 pm15 an15 cd15 ct15), sl15⟩) (c15 : PySem.W.codeIn K cd15 "_law_take" = true) (k15 : PySem.W.keepIn K (.ref f15) = true)
    {f16 : Addr} {oc16 : Value} {od16 an16 : Option Addr} {sl16 : Array (Option Value)} {kV16 dc16 pm16 cd16 ct16 : Value}
    (a16 : PySem.W.nsIn K mainGlobals "_law_same" = some (some (.ref f16))) (l16 : K.lookup f16 = some ⟨oc16, od16, .func (PySem.W.fnOf "_law_same" "_law_same" (defArgs s_l_same) (defBody s_l_same) (defScope s_l_same) .none kV16 dc16 pm16 an16 cd16 ct16), sl16⟩) (c16 : PySem.W.codeIn K cd16 "_law_same" = true) (k16 : PySem.W.keepIn K (.ref f16) = true)
    {f17 : Addr} {oc17 : Value} {od17 an17 : Option Addr} {sl17 : Array (Option Value)} {kV17 dc17 pm17 cd17 ct17 : Value}
    (a17 : PySem.W.nsIn K mainGlobals "_law_value_key" = some (some (.ref f17))) (l17 : K.lookup f17 = some ⟨oc17, od17, .func (PySem.W.fnOf "_law_value_key" "_law_value_key" (defArgs s_l_value_key) (defBody s_l_value_key) (defScope s_l_value_key) .none kV17 dc17 pm17 an17 cd17 ct17), sl17⟩) (c17 : PySem.W.codeIn K cd17 "_law_value_key" = true) (k17 : PySem.W.keepIn K (.ref f17) = true)
    {f18 : Addr} {oc18 : Value} {od18 an18 : Option Addr} {sl18 : Array (Option Value)} {kV18 dc18 pm18 cd18 ct18 : Value}
    (a18 : PySem.W.nsIn K mainGlobals "_law_row_key" = some (some (.ref f18))) (l18 : K.lookup f18 = some ⟨oc18, od18, .func (PySem.W.fnOf "_law_row_key" "_law_row_key" (defArgs s_l_row_key) (defBody s_l_row_key) (defScope s_l_row_key) .none kV18 dc18 pm18 an18 cd18 ct18), sl18⟩) (c18 : PySem.W.codeIn K cd18 "_law_row_key" = true) (k18 : PySem.W.keepIn K (.ref f18) = true)
    {f19 : Addr} {oc19 : Value} {od19 an19 : Option Addr} {sl19 : Array (Option Value)} {kV19 dc19 pm19 cd19 ct19 : Value}
    (a19 : PySem.W.nsIn K mainGlobals "_law_mark_key" = some (some (.ref f19))) (l19 : K.lookup f19 = some ⟨oc19, od19, .func (PySem.W.fnOf "_law_mark_key" "_law_mark_key" (defArgs s_l_mark_key) (defBody s_l_mark_key) (defScope s_l_mark_key) .none kV19 dc19 pm19 an19 cd19 ct19), sl19⟩) (c19 : PySem.W.codeIn K cd19 "_law_mark_key" = true) (k19 : PySem.W.keepIn K (.ref f19) = true)
    {f20 : Addr} {oc20 : Value} {od20 an20 : Option Addr} {sl20 : Array (Option Value)} {kV20 dc20 pm20 cd20 ct20 : Value}
    (a20 : PySem.W.nsIn K mainGlobals "_law_is_part" = some (some (.ref f20))) (l20 : K.lookup f20 = some ⟨oc20, od20, .func (PySem.W.fnOf "_law_is_part" "_law_is_part" (defArgs s_l_is_part) (defBody s_l_is_part) (defScope s_l_is_part) .none kV20 dc20 pm20 an20 cd20 ct20), sl20⟩) (c20 : PySem.W.codeIn K cd20 "_law_is_part" = true) (k20 : PySem.W.keepIn K (.ref f20) = true)
    {f21 : Addr} {oc21 : Value} {od21 an21 : Option Addr} {sl21 : Array (Option Value)} {kV21 dc21 pm21 cd21 ct21 : Value}
    (a21 : PySem.W.nsIn K mainGlobals "_law_pair_key" = some (some (.ref f21))) (l21 : K.lookup f21 = some ⟨oc21, od21, .func (PySem.W.fnOf "_law_pair_key" "_law_pair_key" (defArgs s_l_pair_key) (defBody s_l_pair_key) (defScope s_l_pair_key) .none kV21 dc21 pm21 an21 cd21 ct21), sl21⟩) (c21 : PySem.W.codeIn K cd21 "_law_pair_key" = true) (k21 : PySem.W.keepIn K (.ref f21) = true)
    {f22 : Addr} {oc22 : Value} {od22 an22 : Option Addr} {sl22 : Array (Option Value)} {kV22 dc22 pm22 cd22 ct22 : Value}
    (a22 : PySem.W.nsIn K mainGlobals "_law_reason_key" = some (some (.ref f22))) (l22 : K.lookup f22 = some ⟨oc22, od22, .func (PySem.W.fnOf "_law_reason_key" "_law_reason_key" (defArgs s_l_reason_key) (defBody s_l_reason_key) (defScope s_l_reason_key) .none kV22 dc22 pm22 an22 cd22 ct22), sl22⟩) (c22 : PySem.W.codeIn K cd22 "_law_reason_key" = true) (k22 : PySem.W.keepIn K (.ref f22) = true)
    {f23 : Addr} {oc23 : Value} {od23 an23 : Option Addr} {sl23 : Array (Option Value)} {kV23 dc23 pm23 cd23 ct23 : Value}
    (a23 : PySem.W.nsIn K mainGlobals "_law_member_key" = some (some (.ref f23))) (l23 : K.lookup f23 = some ⟨oc23, od23, .func (PySem.W.fnOf "_law_member_key" "_law_member_key" (defArgs s_l_member_key) (defBody s_l_member_key) (defScope s_l_member_key) .none kV23 dc23 pm23 an23 cd23 ct23), sl23⟩) (c23 : PySem.W.codeIn K cd23 "_law_member_key" = true) (k23 : PySem.W.keepIn K (.ref f23) = true)
    {f24 : Addr} {oc24 : Value} {od24 an24 : Option Addr} {sl24 : Array (Option Value)} {kV24 dc24 pm24 cd24 ct24 : Value}
    (a24 : PySem.W.nsIn K mainGlobals "_law_thin" = some (some (.ref f24))) (l24 : K.lookup f24 = some ⟨oc24, od24, .func (PySem.W.fnOf "_law_thin" "_law_thin" (defArgs s_l_thin) (defBody s_l_thin) (defScope s_l_thin) .none kV24 dc24 pm24 an24 cd24 ct24), sl24⟩) (c24 : PySem.W.codeIn K cd24 "_law_thin" = true) (k24 : PySem.W.keepIn K (.ref f24) = true)
    {f25 : Addr} {oc25 : Value} {od25 an25 : Option Addr} {sl25 : Array (Option Value)} {kV25 dc25 pm25 cd25 ct25 : Value}
    (a25 : PySem.W.nsIn K mainGlobals "_law_drawn_why" = some (some (.ref f25))) (l25 : K.lookup f25 = some ⟨oc25, od25, .func (PySem.W.fnOf "_law_drawn_why" "_law_drawn_why" (defArgs s_l_drawn_why) (defBody s_l_drawn_why) (defScope s_l_drawn_why) .none kV25 dc25 pm25 an25 cd25 ct25), sl25⟩) (c25 : PySem.W.codeIn K cd25 "_law_drawn_why" = true) (k25 : PySem.W.keepIn K (.ref f25) = true)
    {f26 : Addr} {oc26 : Value} {od26 an26 : Option Addr} {sl26 : Array (Option Value)} {kV26 dc26 pm26 cd26 ct26 : Value}
    (a26 : PySem.W.nsIn K mainGlobals "_law_some_numbers" = some (some (.ref f26))) (l26 : K.lookup f26 = some ⟨oc26, od26, .func (PySem.W.fnOf "_law_some_numbers" "_law_some_numbers" (defArgs s_l_some_numbers) (defBody s_l_some_numbers) (defScope s_l_some_numbers) .none kV26 dc26 pm26 an26 cd26 ct26), sl26⟩) (c26 : PySem.W.codeIn K cd26 "_law_some_numbers" = true) (k26 : PySem.W.keepIn K (.ref f26) = true)
    {f27 : Addr} {oc27 : Value} {od27 an27 : Option Addr} {sl27 : Array (Option Value)} {kV27 dc27 pm27 cd27 ct27 : Value}
    (a27 : PySem.W.nsIn K mainGlobals "_law_cuts" = some (some (.ref f27))) (l27 : K.lookup f27 = some ⟨oc27, od27, .func (PySem.W.fnOf "_law_cuts" "_law_cuts" (defArgs s_l_cuts) (defBody s_l_cuts) (defScope s_l_cuts) .none kV27 dc27 pm27 an27 cd27 ct27), sl27⟩) (c27 : PySem.W.codeIn K cd27 "_law_cuts" = true) (k27 : PySem.W.keepIn K (.ref f27) = true)
    {f28 : Addr} {oc28 : Value} {od28 an28 : Option Addr} {sl28 : Array (Option Value)} {kV28 dc28 pm28 cd28 ct28 : Value}
    (a28 : PySem.W.nsIn K mainGlobals "_law_least" = some (some (.ref f28))) (l28 : K.lookup f28 = some ⟨oc28, od28, .func (PySem.W.fnOf "_law_least" "_law_least" (defArgs s_l_least) (defBody s_l_least) (defScope s_l_least) .none kV28 dc28 pm28 an28 cd28 ct28), sl28⟩) (c28 : PySem.W.codeIn K cd28 "_law_least" = true) (k28 : PySem.W.keepIn K (.ref f28) = true)
    {f29 : Addr} {oc29 : Value} {od29 an29 : Option Addr} {sl29 : Array (Option Value)} {kV29 dc29 pm29 cd29 ct29 : Value}
    (a29 : PySem.W.nsIn K mainGlobals "_law_pairs" = some (some (.ref f29))) (l29 : K.lookup f29 = some ⟨oc29, od29, .func (PySem.W.fnOf "_law_pairs" "_law_pairs" (defArgs s_l_pairs) (defBody s_l_pairs) (defScope s_l_pairs) .none kV29 dc29 pm29 an29 cd29 ct29), sl29⟩) (c29 : PySem.W.codeIn K cd29 "_law_pairs" = true) (k29 : PySem.W.keepIn K (.ref f29) = true)
    {f30 : Addr} {oc30 : Value} {od30 an30 : Option Addr} {sl30 : Array (Option Value)} {kV30 dc30 pm30 cd30 ct30 : Value}
    (a30 : PySem.W.nsIn K mainGlobals "law" = some (some (.ref f30))) (l30 : K.lookup f30 = some ⟨oc30, od30, .func (PySem.W.fnOf "law" "law" (defArgs s_law) (defBody s_law) (defScope s_law) .none kV30 dc30 pm30 an30 cd30 ct30), sl30⟩) (c30 : PySem.W.codeIn K cd30 "law" = true) (k30 : PySem.W.keepIn K (.ref f30) = true)
    (z_bool : PySem.W.nsIn K mainGlobals "bool" = some none)    (z_enumerate : PySem.W.nsIn K mainGlobals "enumerate" = some none)    (z_int : PySem.W.nsIn K mainGlobals "int" = some none)    (z_isinstance : PySem.W.nsIn K mainGlobals "isinstance" = some none)    (z_len : PySem.W.nsIn K mainGlobals "len" = some none)    (z_list : PySem.W.nsIn K mainGlobals "list" = some none)    (z_min : PySem.W.nsIn K mainGlobals "min" = some none)    (z_range : PySem.W.nsIn K mainGlobals "range" = some none)    (z_sorted : PySem.W.nsIn K mainGlobals "sorted" = some none)    (z_str : PySem.W.nsIn K mainGlobals "str" = some none)    (z_sum : PySem.W.nsIn K mainGlobals "sum" = some none)    (z_tuple : PySem.W.nsIn K mainGlobals "tuple" = some none)    {v_WHYS : Addr} {w_WHYS : Option Addr} {n_WHYS : Nat} {q_WHYS : Array (Option Value)} {tWHYS_0 : Tok} (g_WHYS : PySem.W.nsIn K mainGlobals "WHYS" = some (some (.ref v_WHYS))) (h_WHYS : K.lookup v_WHYS = some ⟨.type "tuple", w_WHYS, .seq #[.str "whys" tWHYS_0] n_WHYS, q_WHYS⟩)
 :
    ∃ fd : FuncData, (∀ (s : Shared) (v : Value), BindsTo s fd ⟨[v], []⟩ [("script", v)]) ∧ ∀ base : Heap, K.In base → base.Ns mainGlobals mg → FnOk P w K mg base CX0 14 fa fd ["script"] (upSp K sp_law) := by
  have e := hfa.symm.trans (PySem.W.mg_of X G a30)
  cases e
  have D_value_key : Def K mg "value_key" s_value_key ["value"] := dm_value_key X G a0 l0 c0 k0
  have D_row_key : Def K mg "row_key" s_row_key ["row"] := dm_row_key X G a1 l1 c1 k1
  have D_mark_key : Def K mg "mark_key" s_mark_key ["mark"] := dm_mark_key X G a2 l2 c2 k2
  have D_pair_key : Def K mg "pair_key" s_pair_key ["pair"] := dm_pair_key X G a3 l3 c3 k3
  have D_mask_size : Def K mg "mask_size" s_mask_size ["mask"] := dm_mask_size X G a4 l4 c4 k4
  have D_places_of : Def K mg "places_of" s_places_of ["mask"] := dm_places_of X G a5 l5 c5 k5
  have D_ordered_parts : Def K mg "ordered_parts" s_ordered_parts ["house", "members"] := dm_ordered_parts X G a6 l6 c6 k6
  have D_masks_of : Def K mg "masks_of" s_masks_of ["members", "parts"] := dm_masks_of X G a7 l7 c7 k7
  have D_members_of : Def K mg "members_of" s_members_of ["masks", "parts"] := dm_members_of X G a8 l8 c8 k8
  have D_missed : Def K mg "missed" s_missed ["supports", "chosen", "allowed"] := dm_missed X G a9 l9 c9 k9
  have D_has_idle : Def K mg "has_idle" s_has_idle ["supports", "chosen"] := dm_has_idle X G a10 l10 c10 k10
  have D_cut_masks : Def K mg "cut_masks" s_cut_masks ["supports"] := dm_cut_masks X G a11 l11 c11 k11
  have D_cuts : Def K mg "cuts" s_cuts ["why"] := dm_cuts X G a12 l12 c12 k12
  have D_least_cut : Def K mg "least_cut" s_least_cut ["why"] := dm_least_cut X G a13 l13 c13 k13
  have D_l_draws : Def K mg "_law_draws" s_l_draws ["script", "many"] := dm_l_draws X G a14 l14 c14 k14
  have D_l_take : Def K mg "_law_take" s_l_take ["draws", "many"] := dm_l_take X G a15 l15 c15 k15
  have D_l_same : Def K mg "_law_same" s_l_same ["actual", "due"] := dm_l_same X G a16 l16 c16 k16
  have D_l_value_key : Def K mg "_law_value_key" s_l_value_key ["value"] := dm_l_value_key X G a17 l17 c17 k17
  have D_l_row_key : Def K mg "_law_row_key" s_l_row_key ["row"] := dm_l_row_key X G a18 l18 c18 k18
  have D_l_mark_key : Def K mg "_law_mark_key" s_l_mark_key ["mark"] := dm_l_mark_key X G a19 l19 c19 k19
  have D_l_is_part : Def K mg "_law_is_part" s_l_is_part ["small", "large"] := dm_l_is_part X G a20 l20 c20 k20
  have D_l_pair_key : Def K mg "_law_pair_key" s_l_pair_key ["pair"] := dm_l_pair_key X G a21 l21 c21 k21
  have D_l_reason_key : Def K mg "_law_reason_key" s_l_reason_key ["reason"] := dm_l_reason_key X G a22 l22 c22 k22
  have D_l_member_key : Def K mg "_law_member_key" s_l_member_key ["member"] := dm_l_member_key X G a23 l23 c23 k23
  have D_l_thin : Def K mg "_law_thin" s_l_thin ["members"] := dm_l_thin X G a24 l24 c24 k24
  have D_l_drawn_why : Def K mg "_law_drawn_why" s_l_drawn_why ["draws", "numbers"] := dm_l_drawn_why X G a25 l25 c25 k25
  have D_l_some_numbers : Def K mg "_law_some_numbers" s_l_some_numbers ["draws"] := dm_l_some_numbers X G a26 l26 c26 k26
  have D_l_cuts : Def K mg "_law_cuts" s_l_cuts ["why", "numbers"] := dm_l_cuts X G a27 l27 c27 k27
  have D_l_least : Def K mg "_law_least" s_l_least ["due"] := dm_l_least X G a28 l28 c28 k28
  have D_l_pairs : Def K mg "_law_pairs" s_l_pairs ["draws"] := dm_l_pairs X G a29 l29 c29 k29
  have D_law : Def K mg "law" s_law ["script"] := dm_law X G a30 l30 c30 k30
  have B : Bi K mg := ⟨PySem.W.mg_none_of X G z_bool, PySem.W.mg_none_of X G z_enumerate, PySem.W.mg_none_of X G z_int, PySem.W.mg_none_of X G z_isinstance, PySem.W.mg_none_of X G z_len, PySem.W.mg_none_of X G z_list, PySem.W.mg_none_of X G z_min, PySem.W.mg_none_of X G z_range, PySem.W.mg_none_of X G z_sorted, PySem.W.mg_none_of X G z_str, PySem.W.mg_none_of X G z_sum, PySem.W.mg_none_of X G z_tuple, glT_strs (ys := ["whys"]) (PySem.W.mg_of X G g_WHYS) h_WHYS (by show 1 ≤ sizeLine; decide) (.cons ⟨_, rfl⟩ Paired.nil)⟩
  have I : Im mg := ⟨True.intro⟩
  refine ⟨PySem.W.fnOf "law" "law" (defArgs s_law) (defBody s_law) (defScope s_law) .none kV30 dc30 pm30 an30 cd30 ct30, fun s v => .of_eq rfl, fun base _ _ => ?_⟩
  have C_value_key := ok_value_key (P := P) (w := w) (base := base) D_value_key B I 
  have C_row_key := ok_row_key (P := P) (w := w) (base := base) D_row_key B I C_value_key
  have C_mark_key := ok_mark_key (P := P) (w := w) (base := base) D_mark_key B I C_row_key
  have C_pair_key := ok_pair_key (P := P) (w := w) (base := base) D_pair_key B I C_row_key C_mark_key
  have C_mask_size := ok_mask_size (P := P) (w := w) (base := base) D_mask_size B I 
  have C_places_of := ok_places_of (P := P) (w := w) (base := base) D_places_of B I 
  have C_ordered_parts := ok_ordered_parts (P := P) (w := w) (base := base) D_ordered_parts B I C_pair_key
  have C_masks_of := ok_masks_of (P := P) (w := w) (base := base) D_masks_of B I 
  have C_members_of := ok_members_of (P := P) (w := w) (base := base) D_members_of B I C_places_of
  have C_missed := ok_missed (P := P) (w := w) (base := base) D_missed B I C_mask_size
  have C_has_idle := ok_has_idle (P := P) (w := w) (base := base) D_has_idle B I 
  have C_cut_masks := ok_cut_masks (P := P) (w := w) (base := base) D_cut_masks B I C_places_of C_missed C_has_idle
  have C_cuts := ok_cuts (P := P) (w := w) (base := base) D_cuts B I C_ordered_parts C_masks_of C_members_of C_cut_masks
  have C_least_cut := ok_least_cut (P := P) (w := w) (base := base) D_least_cut B I C_cuts
  have C_l_draws := ok_l_draws (P := P) (w := w) (base := base) D_l_draws B I 
  have C_l_take := ok_l_take (P := P) (w := w) (base := base) D_l_take B I 
  have C_l_same := ok_l_same (P := P) (w := w) (base := base) D_l_same B I 
  have C_l_value_key := ok_l_value_key (P := P) (w := w) (base := base) D_l_value_key B I 
  have C_l_row_key := ok_l_row_key (P := P) (w := w) (base := base) D_l_row_key B I C_l_value_key
  have C_l_mark_key := ok_l_mark_key (P := P) (w := w) (base := base) D_l_mark_key B I C_l_row_key
  have C_l_is_part := ok_l_is_part (P := P) (w := w) (base := base) D_l_is_part B I 
  have C_l_pair_key := ok_l_pair_key (P := P) (w := w) (base := base) D_l_pair_key B I C_l_row_key C_l_mark_key
  have C_l_reason_key := ok_l_reason_key (P := P) (w := w) (base := base) D_l_reason_key B I C_l_pair_key
  have C_l_member_key := ok_l_member_key (P := P) (w := w) (base := base) D_l_member_key B I C_l_reason_key
  have C_l_thin := ok_l_thin (P := P) (w := w) (base := base) D_l_thin B I C_l_is_part C_l_member_key
  have C_l_drawn_why := ok_l_drawn_why (P := P) (w := w) (base := base) D_l_drawn_why B I C_l_take C_l_thin
  have C_l_some_numbers := ok_l_some_numbers (P := P) (w := w) (base := base) D_l_some_numbers B I C_l_take
  have C_l_cuts := ok_l_cuts (P := P) (w := w) (base := base) D_l_cuts B I 
  have C_l_least := ok_l_least (P := P) (w := w) (base := base) D_l_least B I 
  have C_l_pairs := ok_l_pairs (P := P) (w := w) (base := base) D_l_pairs B I C_l_take
  exact ok_law (fun_mk (st := s_law) l30 c30 k30) B I C_cuts C_least_cut C_l_draws C_l_same C_l_drawn_why C_l_some_numbers C_l_cuts C_l_least C_l_pairs
end Law
open PySem PySem.W PyProof.Rows
set_option maxHeartbeats 0 in
theorem PySem.Challenge.cw_doubtbook_k47_cuts_holds : PySem.Challenge.rw_doubtbook_k47_cuts.Holds := by
  w_on; o_law; k_head; (case hw => w_witness2)
  k_fill
  refine L2.walk_of (l := PySem.Challenge.rw_doubtbook_k47_cuts) (n := 63) (k := 14) (x := "script") (CX := fun _ => L2.CX0) (sp := fun w => DL.upSp _ DL.sp_law) rfl (by decide) rfl ⟨rfl, by decide, by decide⟩ (fun w h Y => PySem.W.kIn_of Y) ?F (fun w H a ns hl hO hS => DL.law_start hl hO hS) (fun _ _ _ _ _ h => h)
  case F =>
    intro w mg fa h KX G hmg
    refine' Law.all_mk KX G hmg ?a0 ?l0 ?c0 ?k0 ?a1 ?l1 ?c1 ?k1 ?a2 ?l2 ?c2 ?k2 ?a3 ?l3 ?c3 ?k3 ?a4 ?l4 ?c4 ?k4 ?a5 ?l5 ?c5 ?k5 ?a6 ?l6 ?c6 ?k6 ?a7 ?l7 ?c7 ?k7 ?a8 ?l8 ?c8 ?k8 ?a9 ?l9 ?c9 ?k9 ?a10 ?l10 ?c10 ?k10 ?a11 ?l11 ?c11 ?k11 ?a12 ?l12 ?c12 ?k12 ?a13 ?l13 ?c13 ?k13 ?a14 ?l14 ?c14 ?k14 ?a15 ?l15 ?c15 ?k15 ?a16 ?l16 ?c16 ?k16 ?a17 ?l17 ?c17 ?k17 ?a18 ?l18 ?c18 ?k18 ?a19 ?l19 ?c19 ?k19 ?a20 ?l20 ?c20 ?k20 ?a21 ?l21 ?c21 ?k21 ?a22 ?l22 ?c22 ?k22 ?a23 ?l23 ?c23 ?k23 ?a24 ?l24 ?c24 ?k24 ?a25 ?l25 ?c25 ?k25 ?a26 ?l26 ?c26 ?k26 ?a27 ?l27 ?c27 ?k27 ?a28 ?l28 ?c28 ?k28 ?a29 ?l29 ?c29 ?k29 ?a30 ?l30 ?c30 ?k30 ?z_bool ?z_enumerate ?z_int ?z_isinstance ?z_len ?z_list ?z_min ?z_range ?z_sorted ?z_str ?z_sum ?z_tuple ?g_WHYS ?h_WHYS
    (case a0 => k_is); (case l0 => k_is); (case c0 => k_is); (case k0 => k_is); (case a1 => k_is); (case l1 => k_is); (case c1 => k_is); (case k1 => k_is); (case a2 => k_is); (case l2 => k_is); (case c2 => k_is); (case k2 => k_is); (case a3 => k_is); (case l3 => k_is); (case c3 => k_is); (case k3 => k_is); (case a4 => k_is); (case l4 => k_is); (case c4 => k_is); (case k4 => k_is); (case a5 => k_is); (case l5 => k_is); (case c5 => k_is); (case k5 => k_is); (case a6 => k_is); (case l6 => k_is); (case c6 => k_is); (case k6 => k_is); (case a7 => k_is); (case l7 => k_is); (case c7 => k_is); (case k7 => k_is); (case a8 => k_is); (case l8 => k_is); (case c8 => k_is); (case k8 => k_is); (case a9 => k_is); (case l9 => k_is); (case c9 => k_is); (case k9 => k_is); (case a10 => k_is); (case l10 => k_is); (case c10 => k_is); (case k10 => k_is); (case a11 => k_is); (case l11 => k_is); (case c11 => k_is); (case k11 => k_is); (case a12 => k_is); (case l12 => k_is); (case c12 => k_is); (case k12 => k_is); (case a13 => k_is); (case l13 => k_is); (case c13 => k_is); (case k13 => k_is); (case a14 => k_is); (case l14 => k_is); (case c14 => k_is); (case k14 => k_is); (case a15 => k_is); (case l15 => k_is); (case c15 => k_is); (case k15 => k_is); (case a16 => k_is); (case l16 => k_is); (case c16 => k_is); (case k16 => k_is); (case a17 => k_is); (case l17 => k_is); (case c17 => k_is); (case k17 => k_is); (case a18 => k_is); (case l18 => k_is); (case c18 => k_is); (case k18 => k_is); (case a19 => k_is); (case l19 => k_is); (case c19 => k_is); (case k19 => k_is); (case a20 => k_is); (case l20 => k_is); (case c20 => k_is); (case k20 => k_is); (case a21 => k_is); (case l21 => k_is); (case c21 => k_is); (case k21 => k_is); (case a22 => k_is); (case l22 => k_is); (case c22 => k_is); (case k22 => k_is); (case a23 => k_is); (case l23 => k_is); (case c23 => k_is); (case k23 => k_is); (case a24 => k_is); (case l24 => k_is); (case c24 => k_is); (case k24 => k_is); (case a25 => k_is); (case l25 => k_is); (case c25 => k_is); (case k25 => k_is); (case a26 => k_is); (case l26 => k_is); (case c26 => k_is); (case k26 => k_is); (case a27 => k_is); (case l27 => k_is); (case c27 => k_is); (case k27 => k_is); (case a28 => k_is); (case l28 => k_is); (case c28 => k_is); (case k28 => k_is); (case a29 => k_is); (case l29 => k_is); (case c29 => k_is); (case k29 => k_is); (case a30 => k_is); (case l30 => k_is); (case c30 => k_is); (case k30 => k_is); (case z_bool => k_is); (case z_enumerate => k_is); (case z_int => k_is); (case z_isinstance => k_is); (case z_len => k_is); (case z_list => k_is); (case z_min => k_is); (case z_range => k_is); (case z_sorted => k_is); (case z_str => k_is); (case z_sum => k_is); (case z_tuple => k_is); (case g_WHYS => k_is); (case h_WHYS => k_is)
