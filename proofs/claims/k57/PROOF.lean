import PyProof.Rows.All
import Wide.All
import OpenK.AllK
import Wide.FinOn
import HandS.ForMost
import HandS.Wide
import HandS.WideBits
import HandS.Gcd
import HandS.Deep
import HandS.IsInst
import KE.KeyNested
import HandS.Lambda
import HandS.TupAny
import HandS.Zip
import HandS.Rev
import HandS.Comp
import HandS.Conv
import HandS.Iter
import HandS.Text
import KE.SortData
import PyProof.StrOps2
import PyProof.Draws
import PyProof.EnumMake
import KE.SortKeyHeap
import HandS.SortKw
import KE.KSortTup
import HandS.Exc
import HandS.TupMul
import HandS.DictComp
import KE.DataCmp
import HandS.JoinGen
import KE.KDictCopyH
import HandS.EndTab
import HandS.EndOwn
import HandS.SetFor
import HandS.Strs
import HandS.Star
import HandS.Dict
import HandS.TupLen
import KE.DatumOrd
import PyProof.Rows.Tup
import PySem.Challenge.RW_doubtbook_k57_likeliest_settlings
set_option Elab.async false
set_option linter.all false
set_option maxRecDepth 100000
/-! DL: readings over deep values (D): tuples and frozen lists are plain data, the heap holds only what is still being changed. -/
namespace DL
open PySem PySem.Spec PyProof.Rows L2

inductive D where
  | non
  | bl (b : Bool)
  | int (i : Int)
  | str (x : Str)
  | tup (xs : List D)
  | lst (xs : List D)
  | dct (kvs : List (D × D))
  | ref (a : Addr)
  | ty (n : String)
instance : Inhabited D := ⟨.non⟩
/-- what a mutable address holds -/
inductive DO where
  | lst (xs : List D)
  | dct (w : World) (kvs : List (D × D))
  /-- a table of code objects, all of the name q -/
  | tab (q : Str)
  /-- a dict whose keys are ints and texts -/
  | dk (kvs : List (D × D))
abbrev SL := L2.St
abbrev DSt := List (Option D)
abbrev DM := Addr → Option DO
def mput (M : DM) (a : Addr) (o : DO) : DM := fun b => if b = a then some o else M b
def mdel (M : DM) (a : Addr) : DM := fun b => if b = a then none else M b
theorem mput_same {M : DM} {a : Addr} {o : DO} : mput M a o a = some o := by
  unfold mput
  simp
theorem mput_ne {M : DM} {a b : Addr} {o : DO} (h : b ≠ a) : mput M a o b = M b := by
  unfold mput
  simp [h]
theorem mput_mput {M : DM} {a : Addr} {o o' : DO} : mput (mput M a o) a o' = mput M a o' := by
  funext b
  unfold mput
  split <;> rfl
theorem mdel_mput {M : DM} {a : Addr} {o : DO} (h : M a = none) : mdel (mput M a o) a = M := by
  funext b
  unfold mdel mput
  split
  · next e => rw [e, h]
  · rfl
theorem mput_comm {M : DM} {a b : Addr} {o o' : DO} (h : a ≠ b) : mput (mput M a o) b o' = mput (mput M b o') a o := by
  funext c
  unfold mput
  by_cases h1 : c = a
  · have h2 : ¬ c = b := fun z => h (h1.symm.trans z)
    simp only [if_pos h1, if_neg h2]
  · simp only [if_neg h1]
/-- M is part of N -/
def MLe (M N : DM) : Prop := ∀ a o, M a = some o → N a = some o
theorem MLe.refl (M : DM) : MLe M M := fun _ _ h => h
theorem MLe.put {M N : DM} {a : Addr} {o : DO} (l : MLe M N) (h : M a = none) : MLe M (mput N a o) := fun b p e => by
  have : b ≠ a := fun z => by
    rw [z, h] at e
    cases e
  rw [mput_ne this]
  exact l b p e
theorem MLe.both {M N : DM} {a : Addr} {o : DO} (l : MLe M N) : MLe (mput M a o) (mput N a o) := fun b p e => by
  by_cases h : b = a
  · subst h
    rw [mput_same] at e ⊢
    exact e
  · rw [mput_ne h] at e ⊢
    exact l b p e

/-- a list that nobody will change -/
def FrzL (K : PySem.W.Frag) (H : Hp) (a : Addr) (vs : List V) : Prop :=
  (∃ o, H a = some (.frz o (.lst vs))) ∨
  ∃ (o : Obj) (its : Array Value) (n : Nat), K.lookup a = some o ∧ o.cls = .type "list" ∧ o.dict = none ∧
    o.data = .seq its n ∧ its.size ≤ sizeLine ∧ Vals vs its.toList
theorem FrzL.seq {K : PySem.W.Frag} {H : Hp} {a : Addr} {vs : List V} (h : FrzL K H a vs) : SqL K H a vs := by
  rcases h with ⟨o, h⟩ | h
  · exact .inl (.inr ⟨o, h⟩)
  · exact .inr h

/-- tuples and frozen things stay -/
structure Grow (H H' : Hp) : Prop where
  tups : ∀ b xs, H b = some (.tup xs) → H' b = some (.tup xs)
  frzs : ∀ b o u, H b = some (.frz o u) → H' b = some (.frz o u)
  cods : ∀ b q, H b = some (LamX.CodeO b q) → H' b = some (LamX.CodeO b q)
theorem Grow.refl (H : Hp) : Grow H H := ⟨fun _ _ h => h, fun _ _ _ h => h, fun _ _ h => h⟩
theorem Grow.trans {H H1 H2 : Hp} (a : Grow H H1) (b : Grow H1 H2) : Grow H H2 :=
  ⟨fun c xs h => b.tups c xs (a.tups c xs h), fun c o u h => b.frzs c o u (a.frzs c o u h), fun c q h => b.cods c q (a.cods c q h)⟩
theorem Grow.new {H : Hp} {p : Addr} {o : HO} (h : H p = none) : Grow H (upd H p o) :=
  ⟨fun b xs e => by rw [upd_ne (ne_of_none e h)]; exact e, fun b q u e => by rw [upd_ne (ne_of_none e h)]; exact e, fun b q e => by rw [upd_ne (ne_of_none e h)]; exact e⟩
theorem Grow.put {H : Hp} {p : Addr} {vs : List V} {o : HO} (h : H p = some (.lst vs)) : Grow H (upd H p o) :=
  ⟨fun b xs e => by rw [upd_ne (ne_of e h (by intro z; cases z))]; exact e,
   fun b q u e => by rw [upd_ne (ne_of e h (by intro z; cases z))]; exact e, fun b q e => by rw [upd_ne (ne_of e h (by intro z; cases z))]; exact e⟩
theorem FrzL.grow {K : PySem.W.Frag} {H H' : Hp} {a : Addr} {vs : List V} (h : FrzL K H a vs) (g : Grow H H') : FrzL K H' a vs := by
  rcases h with ⟨o, h⟩ | h
  · exact .inl ⟨o, g.frzs _ _ _ h⟩
  · exact .inr h
theorem sqT_grow {K : PySem.W.Frag} {H H' : Hp} {a : Addr} {vs : List V} (h : SqT K H a vs) (g : Grow H H') : SqT K H' a vs := by
  rcases h with (h | ⟨o, h⟩) | h
  · exact .inl (.inl (g.tups _ _ h))
  · exact .inl (.inr ⟨o, g.frzs _ _ _ h⟩)
  · exact .inr h

def kD : Key → D
  | .inl i => .int i
  | .inr x => .str x
mutual
inductive Rep (K : PySem.W.Frag) (H : Hp) : D → V → Prop
  | non : Rep K H .non .non
  | bl (b : Bool) : Rep K H (.bl b) (.bl b)
  | int (i : Int) : Rep K H (.int i) (.int i)
  | str (x : Str) : Rep K H (.str x) (.str x)
  | tup {xs : List D} {a : Addr} {vs : List V} : SqT K H a vs → vs.length ≤ sizeLine → RepL K H xs vs → Rep K H (.tup xs) (.ref a)
  | lst {xs : List D} {a : Addr} {vs : List V} : FrzL K H a vs → vs.length ≤ sizeLine → RepL K H xs vs → Rep K H (.lst xs) (.ref a)
  | ref (a : Addr) : Rep K H (.ref a) (.ref a)
  | ty (n : String) : Rep K H (.ty n) (.ty n)
  | dct {kvs : List (D × D)} {a : Addr} {o : Obj} {es : List (Key × V)} : H a = some (.frz o (.dK es)) → es.length ≤ sizeLine → RepK K H kvs es → Rep K H (.dct kvs) (.ref a)
inductive RepL (K : PySem.W.Frag) (H : Hp) : List D → List V → Prop
  | nil : RepL K H [] []
  | cons {d : D} {v : V} {ds : List D} {vs : List V} : Rep K H d v → RepL K H ds vs → RepL K H (d :: ds) (v :: vs)
/-- the pairs of a dict whose keys are ints and texts -/
inductive RepK (K : PySem.W.Frag) (H : Hp) : List (D × D) → List (Key × V) → Prop
  | nil : RepK K H [] []
  | cons {k : Key} {d : D} {v : V} {kvs : List (D × D)} {es : List (Key × V)} : Rep K H d v → RepK K H kvs es → RepK K H ((kD k, d) :: kvs) ((k, v) :: es)
end
section
variable {K : PySem.W.Frag} {H H' : Hp}
mutual
theorem Rep.grow {d : D} {v : V} (r : Rep K H d v) (g : Grow H H') : Rep K H' d v := match r with
  | .non => .non
  | .bl b => .bl b
  | .int i => .int i
  | .str x => .str x
  | .tup h z l => .tup (sqT_grow h g) z (l.grow g)
  | .lst h z l => .lst (h.grow g) z (l.grow g)
  | .ref a => .ref a
  | .ty n => .ty n
  | .dct h z l => .dct (g.frzs _ _ _ h) z (l.grow g)
theorem RepL.grow {ds : List D} {vs : List V} (r : RepL K H ds vs) (g : Grow H H') : RepL K H' ds vs := match r with
  | .nil => .nil
  | .cons h l => .cons (h.grow g) (l.grow g)
theorem RepK.grow {kvs : List (D × D)} {es : List (Key × V)} (r : RepK K H kvs es) (g : Grow H H') : RepK K H' kvs es := match r with
  | .nil => .nil
  | .cons h l => .cons (h.grow g) (l.grow g)
end
theorem RepL.length : ∀ {ds : List D} {vs : List V}, RepL K H ds vs → ds.length = vs.length
  | _, _, .nil => rfl
  | _, _, .cons _ l => congrArg (· + 1) l.length
theorem RepL.get : ∀ {ds : List D} {vs : List V} {i : Nat} {d : D}, RepL K H ds vs → ds[i]? = some d → ∃ v, vs[i]? = some v ∧ Rep K H d v
  | _, _, _, _, .nil, e => by simp at e
  | _, _, 0, _, .cons h _, e => by
    simp at e
    subst e
    exact ⟨_, rfl, h⟩
  | _, _, i + 1, d, .cons _ l, e => by
    obtain ⟨v, h1, h2⟩ := RepL.get (i := i) (d := d) l (by simpa using e)
    exact ⟨v, by simpa using h1, h2⟩
theorem RepL.get' : ∀ {ds : List D} {vs : List V} {i : Nat} {v : V}, RepL K H ds vs → vs[i]? = some v → ∃ d, ds[i]? = some d ∧ Rep K H d v
  | _, _, _, _, .nil, e => by simp at e
  | _, _, 0, _, .cons h _, e => by
    simp at e
    subst e
    exact ⟨_, rfl, h⟩
  | _, _, i + 1, d, .cons _ l, e => by
    obtain ⟨v, h1, h2⟩ := RepL.get' (i := i) (v := d) l (by simpa using e)
    exact ⟨v, by simpa using h1, h2⟩
theorem RepL.append : ∀ {ds es : List D} {vs ws : List V}, RepL K H ds vs → RepL K H es ws → RepL K H (ds ++ es) (vs ++ ws)
  | _, _, _, _, .nil, m => m
  | _, _, _, _, .cons h l, m => .cons h (l.append m)
theorem RepL.one {d : D} {v : V} (h : Rep K H d v) : RepL K H [d] [v] := .cons h .nil
theorem RepL.take : ∀ (n : Nat) {ds : List D} {vs : List V}, RepL K H ds vs → RepL K H (ds.take n) (vs.take n)
  | 0, _, _, _ => .nil
  | _ + 1, _, _, .nil => .nil
  | n + 1, _, _, .cons h l => .cons h (RepL.take n l)
theorem RepL.drop : ∀ (n : Nat) {ds : List D} {vs : List V}, RepL K H ds vs → RepL K H (ds.drop n) (vs.drop n)
  | 0, _, _, r => r
  | _ + 1, _, _, .nil => .nil
  | n + 1, _, _, .cons _ l => RepL.drop n l
theorem RepL.reverse : ∀ {ds : List D} {vs : List V}, RepL K H ds vs → RepL K H ds.reverse vs.reverse
  | _, _, .nil => .nil
  | _, _, .cons h l => by
    rw [List.reverse_cons, List.reverse_cons]
    exact l.reverse.append (.one h)
theorem RepL.dropLast {ds : List D} {vs : List V} (r : RepL K H ds vs) : RepL K H ds.dropLast vs.dropLast := by
  rw [List.dropLast_eq_take, List.dropLast_eq_take, r.length]
  exact r.take _
theorem RepL.set : ∀ {ds : List D} {vs : List V} (i : Nat) {d : D} {v : V}, RepL K H ds vs → Rep K H d v → RepL K H (ds.set i d) (vs.set i v)
  | _, _, _, _, _, .nil, _ => .nil
  | _, _, 0, _, _, .cons _ l, r => .cons r l
  | _, _, i + 1, _, _, .cons h l, r => .cons h (RepL.set i l r)
theorem RepL.eraseIdx : ∀ {ds : List D} {vs : List V} (i : Nat), RepL K H ds vs → RepL K H (ds.eraseIdx i) (vs.eraseIdx i)
  | _, _, _, .nil => .nil
  | _, _, 0, .cons _ l => l
  | _, _, i + 1, .cons h l => .cons h (RepL.eraseIdx i l)
theorem repL_ints : ∀ ns : List Int, RepL K H (ns.map D.int) (ns.map V.int)
  | [] => .nil
  | n :: ns => .cons (.int n) (repL_ints ns)
end

/-! ### dicts: the keys are tuples of whole numbers, texts, None and such tuples -/
mutual
def nk : D → NestedKey
  | .int i => .num i
  | .str x => .text x
  | .tup xs => .tup (nks xs)
  | .non => .none
  | .bl _ => .none
  | .lst _ => .none
  | .dct _ => .none
  | .ref _ => .none
  | .ty _ => .none
def nks : List D → List NestedKey
  | [] => []
  | x :: xs => nk x :: nks xs
end
mutual
/-- a key, or a part of one -/
def kOk : D → Bool
  | .int _ => true
  | .str _ => true
  | .tup xs => kOks xs
  | .non => true
  | .bl _ => false
  | .lst _ => false
  | .dct _ => false
  | .ref _ => false
  | .ty _ => false
def kOks : List D → Bool
  | [] => true
  | x :: xs => kOk x && kOks xs
end
/-- the dict at a -/
def DictO (w : World) (a : Addr) (es : List (NestedKey × Addr × V)) : HO := .ext fun h => ∃ xs : List (NestedKey × Addr × Value), Paired (fun p q => p.1 = q.1 ∧ p.2.1 = q.2.1 ∧ RelV p.2.2 q.2.2) es xs ∧
  (∃ o ents ep, h.get? a = some o ∧ o.ExactDict ∧ o.data = .dict ents ep ∧ ents.toList = xs.map fun x => ⟨x.1.hash w, .ref x.2.1, x.2.2⟩) ∧ (xs.map (·.1)).Nodup ∧ (a == sysModules) = false
inductive RepKV (K : PySem.W.Frag) (H : Hp) : List (D × D) → List (NestedKey × Addr × V) → Prop
  | nil : RepKV K H [] []
  | cons {k v : D} {b : Addr} {y : V} {kvs : List (D × D)} {es : List (NestedKey × Addr × V)} : Rep K H k (.ref b) → kOk k = true → (nk k).depth ≤ 8 → Rep K H v y → RepKV K H kvs es → RepKV K H ((k, v) :: kvs) ((nk k, b, y) :: es)
theorem RepKV.grow {K : PySem.W.Frag} {H H' : Hp} (g : Grow H H') : ∀ {kvs : List (D × D)} {es : List (NestedKey × Addr × V)}, RepKV K H kvs es → RepKV K H' kvs es
  | _, _, .nil => .nil
  | _, _, .cons a b c d e => .cons (a.grow g) b c (d.grow g) (RepKV.grow g e)
def RepO (K : PySem.W.Frag) (H : Hp) (a : Addr) : DO → Prop
  | .lst ds => ∃ vs, H a = some (.lst vs) ∧ vs.length ≤ sizeLine ∧ RepL K H ds vs
  | .dct w kvs => ∃ es, H a = some (DictO w a es) ∧ es.length ≤ sizeLine ∧ RepKV K H kvs es
  | .tab q => LamX.TabS H a q
  | .dk kvs => ∃ es, H a = some (.dK es) ∧ es.length ≤ sizeLine ∧ RepK K H kvs es
theorem tab_stay {H H' : Hp} {a : Addr} {q : Str} (h : LamX.TabS H a q) (e : H' a = H a) (g : Grow H H') : LamX.TabS H' a q := by
  obtain ⟨ps, h1, h2, h3⟩ := h
  refine ⟨ps, e.trans h1, h2, fun pos cv hc => ?_⟩
  obtain ⟨c, e1, e2⟩ := h3 pos cv hc
  exact ⟨c, e1, g.cods _ _ e2⟩
theorem RepO.stay {K : PySem.W.Frag} {H H' : Hp} {a : Addr} {o : DO} (h : RepO K H a o) (e : H' a = H a) (g : Grow H H') : RepO K H' a o := by
  cases o with
  | lst ds =>
    obtain ⟨vs, h1, z, l⟩ := h
    exact ⟨vs, e.trans h1, z, l.grow g⟩
  | dct w kvs =>
    obtain ⟨es, h1, z, l⟩ := h
    exact ⟨es, e.trans h1, z, l.grow g⟩
  | tab q => exact tab_stay h e g
  | dk kvs =>
    obtain ⟨es, h1, z, l⟩ := h
    exact ⟨es, e.trans h1, z, l.grow g⟩
/-- the mutable part is borne -/
def RM (K : PySem.W.Frag) (H : Hp) (M : DM) : Prop := ∀ a o, M a = some o → RepO K H a o
structure R (K : PySem.W.Frag) (m : DSt) (M : DM) (σ : SL) (H : Hp) : Prop where
  len : m.length = σ.length
  slot : ∀ (i : Nat) (d : D), m[i]? = some (some d) → ∃ v, σ[i]? = some (some v) ∧ Rep K H d v
  mem : RM K H M
section
variable {K : PySem.W.Frag} {H H' : Hp} {M N : DM} {m : DSt} {σ : SL} {a : Addr}
theorem RM.le (h : RM K H N) (l : MLe M N) : RM K H M := fun a o e => h a o (l a o e)
theorem RepO.some {o : DO} (h : RepO K H a o) : H a ≠ none := by
  cases o with
  | lst ds =>
    obtain ⟨vs, e, _, _⟩ := h
    rw [e]
    intro z
    cases z
  | dct w kvs =>
    obtain ⟨es, e, _⟩ := h
    rw [e]
    intro z
    cases z
  | tab q =>
    obtain ⟨ps, e, _⟩ := h
    rw [e]
    intro z
    cases z
  | dk kvs =>
    obtain ⟨es, e, _⟩ := h
    rw [e]
    intro z
    cases z
theorem RM.free (h : RM K H M) (e : H a = none) : M a = none := by
  cases q : M a with
  | none => rfl
  | some o => exact absurd e (h a o q).some
theorem RM.lst (h : RM K H M) {ds : List D} (e : M a = some (.lst ds)) : ∃ vs, H a = some (.lst vs) ∧ vs.length ≤ sizeLine ∧ RepL K H ds vs := h a _ e
theorem R.grow (r : R K m M σ H) (g : Grow H H') (h : RM K H' N) : R K m N σ H' :=
  ⟨r.len, fun i d e => let ⟨v, h1, h2⟩ := r.slot i d e; ⟨v, h1, h2.grow g⟩, h⟩
/-- an untracked thing has come -/
theorem RM.new {p : Addr} {o : HO} (h : RM K H M) (hp : H p = none) : RM K (upd H p o) M := fun a q e => by
  have ha := h a q e
  have ne : a ≠ p := fun z => ha.some (z ▸ hp)
  cases q with
  | lst ds =>
    exact ha.stay (upd_ne ne) (.new hp)
  | dct w kvs => exact ha.stay (upd_ne ne) (.new hp)
  | tab q => exact ha.stay (upd_ne ne) (.new hp)
  | dk kvs => exact ha.stay (upd_ne ne) (.new hp)
theorem RM.newLst {p : Addr} {ds : List D} {vs : List V} (h : RM K H M) (hp : H p = none) (hz : vs.length ≤ sizeLine) (l : RepL K H ds vs) : RM K (upd H p (.lst vs)) (mput M p (.lst ds)) := fun a q e => by
  by_cases ha : a = p
  · subst ha
    rw [mput_same] at e
    cases e
    exact ⟨vs, upd_same, hz, l.grow (.new hp)⟩
  · rw [mput_ne ha] at e
    exact h.new hp a q e
theorem RM.putLst {p : Addr} {ds : List D} {vs vs0 : List V} (h : RM K H M) (hp : H p = some (.lst vs0)) (hz : vs.length ≤ sizeLine) (l : RepL K H ds vs) : RM K (upd H p (.lst vs)) (mput M p (.lst ds)) := fun a q e => by
  by_cases ha : a = p
  · subst ha
    rw [mput_same] at e
    cases e
    exact ⟨vs, upd_same, hz, l.grow (.put hp)⟩
  · rw [mput_ne ha] at e
    have z := h a q e
    cases q with
    | lst es => exact z.stay (upd_ne ha) (.put hp)
    | dct w kvs => exact z.stay (upd_ne ha) (.put hp)
    | tab q => exact z.stay (upd_ne ha) (.put hp)
    | dk kvs => exact z.stay (upd_ne ha) (.put hp)
/-- a list is frozen: it leaves the mutable part -/
theorem RM.frz {p : Addr} {vs : List V} {o : Obj} (h : RM K H M) (hp : H p = some (.lst vs)) : RM K (upd H p (.frz o (.lst vs))) (mdel M p) := fun a q e => by
  have ha : a ≠ p := fun z => by
    subst z
    unfold mdel at e
    simp at e
  have e' : M a = some q := by
    unfold mdel at e
    rw [if_neg ha] at e
    exact e
  have z := h a q e'
  cases q with
  | lst es => exact z.stay (upd_ne ha) (.put hp)
  | dct w kvs => exact z.stay (upd_ne ha) (.put hp)
  | tab q => exact z.stay (upd_ne ha) (.put hp)
  | dk kvs => exact z.stay (upd_ne ha) (.put hp)
theorem R.set {i : Nat} {d : D} {v : V} (r : R K m M σ H) (h : Rep K H d v) : R K (m.set i (some d)) M (σ.set i (some v)) H := by
  refine ⟨by rw [List.length_set, List.length_set]; exact r.len, fun j e q => ?_, r.mem⟩
  by_cases hj : i = j
  · subst hj
    by_cases hi : i < m.length
    · rw [List.getElem?_set_self hi] at q
      cases q
      exact ⟨v, List.getElem?_set_self (by rw [← r.len]; exact hi), h⟩
    · rw [List.getElem?_eq_none (by rw [List.length_set]; omega)] at q
      cases q
  · rw [List.getElem?_set_ne hj] at q ⊢
    exact r.slot j e q
end

/-! ### the judgements -/
abbrev DVK := D → DM → Prop
abbrev DTE := DSt → DM → DVK → Prop
abbrev DTT := DSt → DM → (Bool → DM → Prop) → Prop
abbrev DTA := DSt → DM → (List D → DM → Prop) → Prop
structure DEnds where
  nx : DSt → DM → Prop
  rt : DVK
  bk : DSt → DM → Prop := fun _ _ => False
  ct : DSt → DM → Prop := fun _ _ => False
abbrev DTS := DEnds → DSt → DM → Prop
abbrev DR2 := D → D → DM → DVK → Prop
def upE (K : PySem.W.Frag) (t : DTE) : TE := fun σ H Q => ∃ m M Q', R K m M σ H ∧ t m M Q' ∧
  ∀ d v M' H', Grow H H' → Rep K H' d v → RM K H' M' → Q' d M' → Q v H'
def upT (K : PySem.W.Frag) (t : DTT) : TT := fun σ H Q => ∃ m M Q', R K m M σ H ∧ t m M Q' ∧
  ∀ b M' H', Grow H H' → RM K H' M' → Q' b M' → Q b H'
def upA (K : PySem.W.Frag) (t : DTA) : TA := fun σ H Q => ∃ m M Q', R K m M σ H ∧ t m M Q' ∧
  ∀ ds vs M' H', Grow H H' → RepL K H' ds vs → RM K H' M' → Q' ds M' → Q vs H'
structure EndsOk (K : PySem.W.Frag) (H : Hp) (D' : DEnds) (D : Ends) : Prop where
  nx : ∀ m M σ H', Grow H H' → R K m M σ H' → D'.nx m M → D.nx σ H'
  bk : ∀ m M σ H', Grow H H' → R K m M σ H' → D'.bk m M → D.bk σ H'
  ct : ∀ m M σ H', Grow H H' → R K m M σ H' → D'.ct m M → D.ct σ H'
  rt : ∀ d v M H', Grow H H' → Rep K H' d v → RM K H' M → D'.rt d M → D.rt v H'
def upS (K : PySem.W.Frag) (t : DTS) : TS := fun D σ H => ∃ m M D', R K m M σ H ∧ t D' m M ∧ EndsOk K H D' D
def upR2 (K : PySem.W.Frag) (r : DR2) : R2 := fun x y H Q => ∃ d e M Q', Rep K H d x ∧ Rep K H e y ∧ RM K H M ∧ r d e M Q' ∧
  ∀ z v M' H', Grow H H' → Rep K H' z v → RM K H' M' → Q' z M' → Q v H'
theorem EndsOk.grow {K : PySem.W.Frag} {H H' : Hp} {D' : DEnds} {D : Ends} (h : EndsOk K H D' D) (g : Grow H H') : EndsOk K H' D' D :=
  ⟨fun m M σ H2 g2 => h.nx m M σ H2 (g.trans g2), fun m M σ H2 g2 => h.bk m M σ H2 (g.trans g2),
   fun m M σ H2 g2 => h.ct m M σ H2 (g.trans g2), fun d v M H2 g2 => h.rt d v M H2 (g.trans g2)⟩
section
variable {X : Cx} {e a b c : Expr} {es : List Expr} {pos : Pos}
abbrev DE (X : Cx) (e : Expr) (t : DTE) : Prop := PE X e (upE X.K t)
abbrev DT (X : Cx) (e : Expr) (t : DTT) : Prop := PT X e (upT X.K t)
abbrev DA (X : Cx) (es : List Expr) (t : DTA) : Prop := PA X es (upA X.K t)
abbrev DS (X : Cx) (s : Stmt) (t : DTS) : Prop := PS X s (upS X.K t)
abbrev DSs (X : Cx) (s : List Stmt) (t : DTS) : Prop := PSs X s (upS X.K t)
abbrev DOp (X : Cx) (f : Value → Value → Sem Value) (r : DR2) : Prop := OpR X f (upR2 X.K r)
theorem imE {t t' : TE} (h : PE X e t) (i : ∀ σ H Q, t' σ H Q → t σ H Q) : PE X e t' := ⟨fun pins s σ H Q I q => h.run pins s σ H Q I (i σ H Q q)⟩
theorem imT {t t' : TT} (h : PT X e t) (i : ∀ σ H Q, t' σ H Q → t σ H Q) : PT X e t' := ⟨fun pins s σ H Q I q => h.run pins s σ H Q I (i σ H Q q)⟩
theorem imW {t t' : TT} (h : PW X e t) (i : ∀ σ H Q, t' σ H Q → t σ H Q) : PW X e t' := ⟨fun wh pins s σ H Q I q => h.run wh pins s σ H Q I (i σ H Q q)⟩
theorem imA {t t' : TA} (h : PA X es t) (i : ∀ σ H Q, t' σ H Q → t σ H Q) : PA X es t' := ⟨fun p pins s σ H Q I q => h.run p pins s σ H Q I (i σ H Q q)⟩
theorem imS {s : Stmt} {t t' : TS} (h : PS X s t) (i : ∀ D σ H, t' D σ H → t D σ H) : PS X s t' := ⟨fun pins s σ H D I q => h.run pins s σ H D I (i D σ H q)⟩
theorem imSs {s : List Stmt} {t t' : TS} (h : PSs X s t) (i : ∀ D σ H, t' D σ H → t D σ H) : PSs X s t' := ⟨fun pins s σ H D I q => h.run pins s σ H D I (i D σ H q)⟩

/-! ### names, constants -/
def dVar (i : Nat) : DTE := fun m M Q => ∃ d, m[i]? = some (some d) ∧ Q d M
def dC (d : D) : DTE := fun _ M Q => Q d M
theorem d_v (i : Nat) {x : Str} (hN : X.N[i]? = some x := by rfl)
    (hv : Vis X.env.scope x := by first | exact Or.inl rfl | exact Or.inr (Or.inl rfl) | exact Or.inr (Or.inr rfl))
    (hd : (x == ("__debug__" : Str)) = false := by decide) (hc : (x == ("__classdict__" : Str)) = false := by decide) : DE X (.Name x pos) (dVar i) :=
  imE (pe_var hN hv hd hc) fun σ H Q ⟨m, M, Q', r, ⟨d, hd, q⟩, k⟩ => by
    obtain ⟨v, hv, rp⟩ := r.slot i d hd
    exact ⟨v, hv, k d v M H (.refl H) rp r.mem q⟩
theorem d_c {v : V} {d : D} (h : PE X e (tC v)) (hr : ∀ K H, Rep K H d v) : DE X e (dC d) :=
  imE h fun σ H Q ⟨m, M, Q', r, q, k⟩ => k d v M H (.refl H) (hr _ _) r.mem q
theorem d_int {i : Int} {j : Nat} : DE X (.Constant (.int i) j pos) (dC (.int i)) := d_c pe_int fun _ _ => .int i
theorem d_bl {i : Bool} {j : Nat} : DE X (.Constant (.bool i) j pos) (dC (.bl i)) := d_c pe_bl fun _ _ => .bl i
theorem d_non {j : Nat} : DE X (.Constant .none j pos) (dC .non) := d_c pe_non fun _ _ => .non
theorem d_str {x : Str} {j : Nat} : DE X (.Constant (.str x) j pos) (dC (.str x)) := d_c pe_str fun _ _ => .str x

/-! ### operators -/
def dOp (r : DR2) (ta tb : DTE) : DTE := fun m M Q => ta m M fun x M1 => tb m M1 fun y M2 => r x y M2 Q
variable {ta tb tc : DTE} {r : DR2}
theorem up_op {σ : SL} {H : Hp} {Q : VK} (h : upE X.K (dOp r ta tb) σ H Q) : tOp (upR2 X.K r) (upE X.K ta) (upE X.K tb) σ H Q := by
  obtain ⟨m, M, Q', rr, q, k⟩ := h
  refine ⟨m, M, _, rr, q, fun d v M1 H1 g1 r1 m1 q1 => ?_⟩
  refine ⟨m, M1, _, rr.grow g1 m1, q1, fun d2 v2 M2 H2 g2 r2 m2 q2 => ?_⟩
  exact ⟨d, d2, M2, Q', r1.grow g2, r2, m2, q2, fun z v3 M3 H3 g3 => k z v3 M3 H3 ((g1.trans g2).trans g3)⟩
theorem d_op {op : Operator} (ho : DOp X (binaryOp op) r) (ha : DE X a ta) (hb : DE X b tb) : DE X (.BinOp a op b pos) (dOp r ta tb) :=
  imE (pe_op ho ha hb) fun σ H Q h => up_op (σ := σ) (H := H) (Q := Q) h
theorem d_cmp {op : CmpOp} (ho : DOp X (compareOp op) r) (ha : DE X a ta) (hb : DE X b tb) (hm : behindInMarks op b = false) : DE X (.Compare a [op] [b] pos) (dOp r ta tb) :=
  imE (pe_cmpR ho ha hb hm) fun σ H Q h => up_op (σ := σ) (H := H) (Q := Q) h
/-- two ints -/
def dI (C : Int → Int → Prop) (g : Int → Int → D) : DR2 := fun x y M Q => ∃ i j, x = .int i ∧ y = .int j ∧ C i j ∧ Q (g i j) M
theorem dop_I {f : Value → Value → Sem Value} {C : Int → Int → Prop} {g : Int → Int → V} {g' : Int → Int → D} (h : OpR X f (rI C g)) (hg : ∀ i j K H, Rep K H (g' i j) (g i j)) : DOp X f (dI C g') := by
  intro pins s σ H x y v u Q I rx ry q
  obtain ⟨d, e, M, Q', r1, r2, m, ⟨i, j, e1, e2, hc, q⟩, k⟩ := q
  subst e1
  subst e2
  cases r1
  cases r2
  exact h pins s σ H _ _ v u Q I rx ry ⟨i, j, rfl, rfl, hc, k _ _ M H (.refl H) (hg i j _ _) m q⟩
def dI0 (g : Int → Int → D) : DR2 := fun x y M Q => ∃ i j, x = .int i ∧ y = .int j ∧ Q (g i j) M
theorem dop_I0 {f : Value → Value → Sem Value} {g : Int → Int → V} {g' : Int → Int → D} (h : OpR X f (rI0 g)) (hg : ∀ i j K H, Rep K H (g' i j) (g i j)) : DOp X f (dI0 g') := by
  intro pins s σ H x y v u Q I rx ry q
  obtain ⟨d, e, M, Q', r1, r2, m, ⟨i, j, e1, e2, q⟩, k⟩ := q
  subst e1
  subst e2
  cases r1
  cases r2
  exact h pins s σ H _ _ v u Q I rx ry ⟨i, j, rfl, rfl, k _ _ M H (.refl H) (hg i j _ _) m q⟩
theorem DOp.or {f : Value → Value → Sem Value} {r r' : DR2} (h : DOp X f r) (h' : DOp X f r') : DOp X f (fun x y M Q => r x y M Q ∨ r' x y M Q) := by
  intro pins s σ H x y v u Q I rx ry q
  obtain ⟨d, e, M, Q', r1, r2, m, q | q, k⟩ := q
  · exact h pins s σ H _ _ v u Q I rx ry ⟨d, e, M, Q', r1, r2, m, q, k⟩
  · exact h' pins s σ H _ _ v u Q I rx ry ⟨d, e, M, Q', r1, r2, m, q, k⟩
abbrev dAddI : DR2 := dI0 fun i j => .int (i + j)
abbrev dSubI : DR2 := dI0 fun i j => .int (i - j)
/-- one side below 2^64, or both of known sizes -/
def CMulA (i j : Int) : Prop := (-18446744073709551616 < i ∧ i < 18446744073709551616) ∨ (-18446744073709551616 < j ∧ j < 18446744073709551616) ∨ CMulW i j
def CDivA (i j : Int) : Prop := (0 < j ∧ j < 1073741824) ∨ CDivW i j
def CPowA (i j : Int) : Prop := (0 ≤ j ∧ j ≤ 1000000) ∧ -9223372036854775808 < i ∧ i < 9223372036854775808
abbrev dMulI : DR2 := dI CMulA fun i j => .int (i * j)
abbrev dDivI : DR2 := dI CDivA fun i j => .int (i / j)
abbrev dModI : DR2 := dI (fun _ j => 0 < j) fun i j => .int (i % j)
abbrev dPowI : DR2 := dI CPowA fun i j => .int (i ^ j.toNat)
abbrev dLtI : DR2 := dI0 fun i j => .bl (decide (i < j))
abbrev dLeI : DR2 := dI0 fun i j => .bl (decide (i ≤ j))
abbrev dGtI : DR2 := dI0 fun i j => .bl (decide (j < i))
abbrev dGeI : DR2 := dI0 fun i j => .bl (decide (j ≤ i))
theorem o_add : DOp X (binaryOp .Add) dAddI := dop_I0 op_add fun _ _ _ _ => .int _
theorem o_sub : DOp X (binaryOp .Sub) dSubI := dop_I0 op_sub fun _ _ _ _ => .int _
theorem opr_or {f : Value → Value → Sem Value} {C C' C2 : Int → Int → Prop} {g : Int → Int → V} (h : OpR X f (rI C g)) (h' : OpR X f (rI C' g)) (hc : ∀ i j, C2 i j → C i j ∨ C' i j) : OpR X f (rI C2 g) := by
  intro pins s σ H x y v u Q I rx ry ⟨i, j, e1, e2, c, q⟩
  rcases hc i j c with c | c
  · exact h pins s σ H x y v u Q I rx ry ⟨i, j, e1, e2, c, q⟩
  · exact h' pins s σ H x y v u Q I rx ry ⟨i, j, e1, e2, c, q⟩
theorem o_mul : DOp X (binaryOp .Mult) dMulI := dop_I (opr_or op_mul op_mulW fun i j c => by
  rcases c with c | c | c
  · exact .inl (.inl ⟨by omega, by omega⟩)
  · exact .inl (.inr ⟨by omega, by omega⟩)
  · exact .inr c) fun _ _ _ _ => .int _
theorem o_div : DOp X (binaryOp .FloorDiv) dDivI := dop_I (opr_or op_fdiv op_fdivW fun _ _ c => c) fun _ _ _ _ => .int _
theorem o_mod : DOp X (binaryOp .Mod) dModI := dop_I op_mod fun _ _ _ _ => .int _
theorem o_pow : DOp X (binaryOp .Pow) dPowI := dop_I (opr_or op_pow op_pow fun i j c => .inl ⟨c.1.1, c.1.2, by have := c.2; omega⟩) fun _ _ _ _ => .int _
theorem o_lt : DOp X (compareOp .Lt) dLtI := dop_I0 op_lt fun _ _ _ _ => .bl _
theorem o_le : DOp X (compareOp .LtE) dLeI := dop_I0 op_le fun _ _ _ _ => .bl _
theorem o_gt : DOp X (compareOp .Gt) dGtI := dop_I0 op_gt fun _ _ _ _ => .bl _
theorem o_ge : DOp X (compareOp .GtE) dGeI := dop_I0 op_ge fun _ _ _ _ => .bl _
end
end DL
namespace DL
open PySem PySem.Spec PyProof.Rows L2
section
variable {X : Cx} {e a b c : Expr} {es : List Expr} {pos : Pos} {te ta tb tc : DTE} {t : DTA}

/-! ### argument lists, displays -/
def dNil : DTA := fun _ M Q => Q [] M
def dCons (te : DTE) (tr : DTA) : DTA := fun m M Q => te m M fun d M1 => tr m M1 fun ds M2 => Q (d :: ds) M2
theorem da_nil : DA X [] dNil := imA pa_nil fun σ H Q ⟨m, M, Q', r, q, k⟩ => k [] [] M H (.refl H) .nil r.mem q
theorem da_cons (ha : DE X e te) (hr : DA X es t) (hs : starEach (e :: es) X.env = (false, eval e X.env) :: starEach es X.env := by rfl) : DA X (e :: es) (dCons te t) :=
  imA (pa_cons ha hr hs) fun σ H Q ⟨m, M, Q', r, q, k⟩ => by
    refine ⟨m, M, _, r, q, fun d v M1 H1 g1 r1 m1 q1 => ?_⟩
    refine ⟨m, M1, _, r.grow g1 m1, q1, fun ds vs M2 H2 g2 r2 m2 q2 => ?_⟩
    exact k _ _ M2 H2 (g1.trans g2) (.cons (r1.grow g2) r2) m2 q2
def dTup (t : DTA) : DTE := fun m M Q => t m M fun ds M1 => ds.length ≤ sizeLine ∧ Q (.tup ds) M1
/-- a list that will be changed -/
def dLst (t : DTA) : DTE := fun m M Q => t m M fun ds M1 => ds.length ≤ sizeLine ∧ ∀ p, M1 p = none → Q (.ref p) (mput M1 p (.lst ds))
/-- a list that stays as it is -/
def dLstF (t : DTA) : DTE := fun m M Q => t m M fun ds M1 => ds.length ≤ sizeLine ∧ Q (.lst ds) M1
theorem d_tup {x1} (h : DA X es t) : DE X (.Tuple es x1 pos) (dTup t) :=
  imE (pe_tup h) fun σ H Q ⟨m, M, Q', r, q, k⟩ => by
    refine ⟨m, M, _, r, q, fun ds vs M1 H1 g1 r1 m1 ⟨z, q1⟩ => ⟨by rw [← r1.length]; exact z, fun p np => ?_⟩⟩
    exact k _ _ M1 _ (g1.trans (.new np)) (.tup (.of upd_same) (by rw [← r1.length]; exact z) (r1.grow (.new np))) (m1.new np) q1
theorem d_lst (h : DA X es t) : DE X (.List es pos) (dLst t) :=
  imE (pe_lst h) fun σ H Q ⟨m, M, Q', r, q, k⟩ => by
    refine ⟨m, M, _, r, q, fun ds vs M1 H1 g1 r1 m1 ⟨z, q1⟩ => ⟨by rw [← r1.length]; exact z, fun p np => ?_⟩⟩
    exact k _ _ _ _ (g1.trans (.new np)) (.ref p) (m1.newLst np (by rw [← r1.length]; exact z) r1) (q1 p (m1.free np))

/-! ### a list is frozen -/
theorem inv_frz {pins : List (Addr × Obj)} {σ : SL} {H : Hp} {s : Shared} {p : Addr} {vs : List V} (I : Inv X pins σ H s) (h : H p = some (.lst vs)) : ∃ o, Inv X pins σ (upd H p (.frz o (.lst vs))) s := by
  obtain ⟨z, its, n, rv, ho⟩ := I.hok p _ h
  have nt : ∀ b o, H b = some o → (∀ ws, o ≠ .lst ws) → b ≠ p := fun b o e d => ne_of e h (d vs)
  refine ⟨{ cls := Value.type "list", data := Data.seq its.toArray n }, I.step (H' := upd H p (.frz { cls := Value.type "list", data := Data.seq its.toArray n } (.lst vs))) (g' := s.gens) (t' := s.toks) (d' := s.drawn) (h' := s.heap) (ch := []) (fun _ y => nomatch y) (fun _ _ _ _ _ q _ => q) (fun _ q _ _ _ y _ => ⟨q.slots, y⟩) (fun b _ _ _ n => ?_)
    (fun _ q _ y => ⟨q, y⟩) (fun b ws y => ?_) (fun b q u y => ?_) (fun b q y => ⟨#[], ?_⟩) (fun _ y => y) (fun b q y => ?_) I.bare⟩
  · rw [upd_ne (fun w => by rw [w, h] at n; cases n)]
    exact n
  · rw [upd_ne (nt b _ y fun _ w => nomatch w)]
    exact y
  · rw [upd_ne (nt b _ y fun _ w => nomatch w)]
    exact y
  · rw [upd_ne (nt b _ y fun _ w => nomatch w), y]
    simp
  · by_cases e : b = p
    · subst e
      rw [upd_same] at y
      cases y
      exact ⟨ho, z, its, n, rv, ho⟩
    · rw [upd_ne e] at y
      refine (I.hok b q y).stay (fun _ _ _ w => w) (fun c w => ?_) fun c ws w => ?_
      · rw [upd_ne (nt c _ w fun _ w => nomatch w)]
        exact w
      · rw [upd_ne (nt c _ w fun _ w => nomatch w)]
        exact w
def tFz (t : TE) : TE := fun σ H Q => t σ H fun v H1 => ∃ p vs, v = .ref p ∧ H1 p = some (.lst vs) ∧ ∀ o, Q v (upd H1 p (.frz o (.lst vs)))
theorem pe_fz {t : TE} (h : PE X e t) : PE X e (tFz t) := by
  refine ⟨fun pins s σ H Q I q => thn (h.run pins s σ H _ I q) fun u s1 ⟨v, H1, I1, r1, p, vs, e1, e2, q1⟩ => ?_⟩
  obtain ⟨o, I2⟩ := inv_frz I1 e2
  exact ⟨v, _, I2, r1, q1 o⟩
/-- the list that comes is frozen: it leaves the mutable part -/
def dFz (t : DTE) : DTE := fun m M Q => t m M fun d M1 => ∃ p ds, d = .ref p ∧ M1 p = some (.lst ds) ∧ Q (.lst ds) (mdel M1 p)
theorem d_fz (h : DE X e te) : DE X e (dFz te) :=
  imE (pe_fz h) fun σ H Q ⟨m, M, Q', r, q, k⟩ => by
    refine ⟨m, M, _, r, q, fun d v M1 H1 g1 r1 m1 ⟨p, ds, e1, e2, q1⟩ => ?_⟩
    subst e1
    cases r1
    obtain ⟨vs, h1, z, l⟩ := m1.lst e2
    refine ⟨p, vs, rfl, h1, fun o => k _ _ _ _ (g1.trans (.put h1)) (.lst (.inl ⟨o, upd_same⟩) z (l.grow (.put h1))) (m1.frz h1) q1⟩
theorem d_lstF (h : DA X es t) : DE X (.List es pos) (dLstF t) :=
  imE (pe_fz (pe_lst h)) fun σ H Q ⟨m, M, Q', r, q, k⟩ => by
    refine ⟨m, M, _, r, q, fun ds vs M1 H1 g1 r1 m1 ⟨z, q1⟩ => ⟨by rw [← r1.length]; exact z, fun p np => ⟨p, vs, rfl, upd_same, fun o => ?_⟩⟩⟩
    rw [upd_upd]
    exact k _ _ _ _ (g1.trans (.new np)) (.lst (.inl ⟨o, upd_same⟩) (by rw [← r1.length]; exact z) (r1.grow (.new np))) (m1.new np) q1

/-! ### tests -/
def dTst (t : DTE) : DTT := fun m M Q => t m M fun d M1 => ∃ k, d = .bl k ∧ Q k M1
theorem up_tst {σ : SL} {H : Hp} {Q : Bool → Hp → Prop} (h : upT X.K (dTst te) σ H Q) : tTest (upE X.K te) σ H Q := by
  obtain ⟨m, M, Q', r, q, k⟩ := h
  refine ⟨m, M, _, r, q, fun d v M1 H1 g1 r1 m1 ⟨y, e1, q1⟩ => ?_⟩
  subst e1
  cases r1
  exact ⟨y, rfl, k y M1 H1 g1 m1 q1⟩
theorem dt_cmp {op : CmpOp} {r : DR2} (ho : DOp X (compareOp op) r) (ha : DE X a ta) (hb : DE X b tb) (hm : behindInMarks op b = false) : DT X (.Compare a [op] [b] pos) (dTst (dOp r ta tb)) :=
  imT (pt_cmpR ho ha hb hm) fun σ H Q h => by
    obtain ⟨m, M, Q', r, q, k⟩ := h
    refine up_op (σ := σ) (H := H) ⟨m, M, _, r, q, fun d v M1 H1 g1 r1 m1 ⟨y, e1, q1⟩ => ?_⟩
    subst e1
    cases r1
    exact ⟨y, rfl, k y M1 H1 g1 m1 q1⟩
theorem dt_val (h : DE X e te) (he : ∀ whole, isTrue e X.env whole = (do let v ← whole; standAt e.pos; holding [v] (truthy v)) := by intro _; rfl) : DT X e (dTst te) :=
  imT (pt_val h he) fun σ H Q h => up_tst (σ := σ) (H := H) (Q := Q) h
variable {pa pb : DTT} {rest : List Expr}
abbrev DW (X : Cx) (e : Expr) (t : DTT) : Prop := PW X e (upT X.K t)
def dAnd (t u : DTT) : DTT := fun m M Q => t m M fun k M1 => if k = true then u m M1 Q else Q false M1
def dOr (t u : DTT) : DTT := fun m M Q => t m M fun k M1 => if k = true then Q true M1 else u m M1 Q
def dNot (t : DTT) : DTT := fun m M Q => t m M fun k M1 => Q (!k) M1
theorem dw_and1 (ha : DT X a pa) : DW X (.BoolOp .And [a] pos) pa := pw_and1 ha
theorem dw_or1 (ha : DT X a pa) : DW X (.BoolOp .Or [a] pos) pa := pw_or1 ha
theorem dw_and (ha : DT X a pa) (hb : DW X (.BoolOp .And (b :: rest) pos) pb) : DW X (.BoolOp .And (a :: b :: rest) pos) (dAnd pa pb) :=
  imW (pw_and ha hb) fun σ H Q ⟨m, M, Q', r, q, k⟩ => by
    refine ⟨m, M, _, r, q, fun y M1 H1 g1 m1 q1 => ?_⟩
    cases y with
    | true => exact ⟨m, M1, Q', r.grow g1 m1, q1, fun z M2 H2 g2 => k z M2 H2 (g1.trans g2)⟩
    | false => exact k _ M1 H1 g1 m1 q1
theorem dw_or (ha : DT X a pa) (hb : DW X (.BoolOp .Or (b :: rest) pos) pb) : DW X (.BoolOp .Or (a :: b :: rest) pos) (dOr pa pb) :=
  imW (pw_or ha hb) fun σ H Q ⟨m, M, Q', r, q, k⟩ => by
    refine ⟨m, M, _, r, q, fun y M1 H1 g1 m1 q1 => ?_⟩
    cases y with
    | false => exact ⟨m, M1, Q', r.grow g1 m1, q1, fun z M2 H2 g2 => k z M2 H2 (g1.trans g2)⟩
    | true => exact k _ M1 H1 g1 m1 q1
theorem dt_w (h : DW X e pa) : DT X e pa := PW.pt h
theorem dt_not (ha : DT X a pa) : DT X (.UnaryOp .Not a pos) (dNot pa) :=
  imT (pt_not ha) fun σ H Q ⟨m, M, Q', r, q, k⟩ => ⟨m, M, _, r, q, fun y M1 H1 g1 m1 q1 => k _ M1 H1 g1 m1 q1⟩
/-- .. as values -/
def dAndV (t u : DTE) : DTE := fun m M Q => t m M fun d M1 => ∃ k, d = .bl k ∧ if k = true then u m M1 Q else Q (.bl false) M1
def dOrV (t u : DTE) : DTE := fun m M Q => t m M fun d M1 => ∃ k, d = .bl k ∧ if k = true then Q (.bl true) M1 else u m M1 Q
def dNotV (t : DTE) : DTE := fun m M Q => t m M fun d M1 => ∃ k, d = .bl k ∧ Q (.bl (!k)) M1
theorem d_one {op : BoolOp} (h : DE X a ta) : DE X (.BoolOp op [a] pos) ta := pe_one h
theorem d_and (ha : DE X a ta) (hb : DE X (.BoolOp .And (b :: rest) pos) tb) : DE X (.BoolOp .And (a :: b :: rest) pos) (dAndV ta tb) :=
  imE (pe_and ha hb) fun σ H Q ⟨m, M, Q', r, q, k⟩ => by
    refine ⟨m, M, _, r, q, fun d v M1 H1 g1 r1 m1 ⟨y, e1, q1⟩ => ?_⟩
    subst e1
    cases r1
    refine ⟨y, rfl, ?_⟩
    cases y with
    | true => exact ⟨m, M1, Q', r.grow g1 m1, q1, fun z w M2 H2 g2 => k z w M2 H2 (g1.trans g2)⟩
    | false => exact k _ _ M1 H1 g1 (.bl _) m1 q1
theorem d_or (ha : DE X a ta) (hb : DE X (.BoolOp .Or (b :: rest) pos) tb) : DE X (.BoolOp .Or (a :: b :: rest) pos) (dOrV ta tb) :=
  imE (pe_or ha hb) fun σ H Q ⟨m, M, Q', r, q, k⟩ => by
    refine ⟨m, M, _, r, q, fun d v M1 H1 g1 r1 m1 ⟨y, e1, q1⟩ => ?_⟩
    subst e1
    cases r1
    refine ⟨y, rfl, ?_⟩
    cases y with
    | false => exact ⟨m, M1, Q', r.grow g1 m1, q1, fun z w M2 H2 g2 => k z w M2 H2 (g1.trans g2)⟩
    | true => exact k _ _ M1 H1 g1 (.bl _) m1 q1
theorem d_not (ha : DE X a ta) : DE X (.UnaryOp .Not a pos) (dNotV ta) :=
  imE (pe_not ha) fun σ H Q ⟨m, M, Q', r, q, k⟩ => by
    refine ⟨m, M, _, r, q, fun d v M1 H1 g1 r1 m1 ⟨y, e1, q1⟩ => ?_⟩
    subst e1
    cases r1
    exact ⟨y, rfl, k _ _ M1 H1 g1 (.bl _) m1 q1⟩
def dIfE (t : DTT) (u v : DTE) : DTE := fun m M Q => t m M fun k M1 => if k = true then u m M1 Q else v m M1 Q
theorem d_ifE (hc : DT X c pa) (ha : DE X a ta) (hb : DE X b tb) : DE X (.IfExp c a b pos) (dIfE pa ta tb) :=
  imE (pe_ifExp hc ha hb) fun σ H Q ⟨m, M, Q', r, q, k⟩ => by
    refine ⟨m, M, _, r, q, fun y M1 H1 g1 m1 q1 => ?_⟩
    cases y with
    | true => exact ⟨m, M1, Q', r.grow g1 m1, q1, fun z w M2 H2 g2 => k z w M2 H2 (g1.trans g2)⟩
    | false => exact ⟨m, M1, Q', r.grow g1 m1, q1, fun z w M2 H2 g2 => k z w M2 H2 (g1.trans g2)⟩
end

/-! ### statements -/
section
variable {X : Cx} {e : Expr} {pos : Pos} {st : Stmt} {rest : List Stmt} {t u : DTS} {te : DTE}
def dNext : DTS := fun D m M => D.nx m M
def dSeq (t u : DTS) : DTS := fun D m M => t { D with nx := u D } m M
theorem ds_nil : DSs X [] dNext := imSs pss_nil fun D σ H ⟨m, M, D', r, q, k⟩ => k.nx m M σ H (.refl H) r q
theorem ds_cons (h1 : DS X st t) (h2 : DSs X rest u) : DSs X (st :: rest) (dSeq t u) :=
  imSs (pss_cons h1 h2) fun D σ H ⟨m, M, D', r, q, k⟩ => by
    refine ⟨m, M, { D' with nx := u D' }, r, q, ⟨fun m1 M1 σ1 H1 g1 r1 q1 => ?_, k.bk, k.ct, k.rt⟩⟩
    exact ⟨m1, M1, D', r1, q1, k.grow g1⟩
theorem ds_one (h1 : DS X st t) : DSs X [st] t := pss_one h1
def dBreak : DTS := fun D m M => D.bk m M
def dCont : DTS := fun D m M => D.ct m M
theorem ds_pass : DS X (.Pass pos) dNext := imS ps_pass fun D σ H ⟨m, M, D', r, q, k⟩ => k.nx m M σ H (.refl H) r q
theorem ds_break : DS X (.Break pos) dBreak := imS ps_break fun D σ H ⟨m, M, D', r, q, k⟩ => k.bk m M σ H (.refl H) r q
theorem ds_cont : DS X (.Continue pos) dCont := imS ps_continue fun D σ H ⟨m, M, D', r, q, k⟩ => k.ct m M σ H (.refl H) r q
def dDrop (te : DTE) : DTS := fun D m M => te m M fun _ M1 => D.nx m M1
theorem ds_expr (he : DE X e te) (hs : swapsWith e none pos.line X.env = pure false := by rfl) : DS X (.Expr e pos) (dDrop te) :=
  imS (ps_expr he hs) fun D σ H ⟨m, M, D', r, q, k⟩ => ⟨m, M, _, r, q, fun d v M1 H1 g1 r1 m1 q1 => k.nx m M1 σ H1 g1 (r.grow g1 m1) q1⟩
def dRet (te : DTE) : DTS := fun D m M => te m M D.rt
theorem ds_ret (he : DE X e te) : DS X (.Return (some e) pos) (dRet te) :=
  imS (ps_ret he) fun D σ H ⟨m, M, D', r, q, k⟩ => ⟨m, M, _, r, q, fun d v M1 H1 g1 r1 m1 q1 => k.rt d v M1 H1 g1 r1 m1 q1⟩
def dRetN : DTS := fun D _ M => D.rt .non M
theorem ds_retN : DS X (.Return none pos) dRetN :=
  imS ps_retN fun D σ H ⟨m, M, D', r, q, k⟩ => k.rt _ _ M H (.refl H) .non r.mem q
def dIf (p : DTT) (t u : DTS) : DTS := fun D m M => p m M fun k M1 => if k = true then t D m M1 else u D m M1
theorem ds_if {c : Expr} {x y : List Stmt} {p : DTT} (hc : DT X c p) (ha : DSs X x t) (hb : DSs X y u) : DS X (.If c x y pos) (dIf p t u) :=
  imS (ps_if hc ha hb) fun D σ H ⟨m, M, D', r, q, k⟩ => by
    refine ⟨m, M, _, r, q, fun z M1 H1 g1 m1 q1 => ?_⟩
    cases z with
    | true => exact ⟨m, M1, D', r.grow g1 m1, q1, k.grow g1⟩
    | false => exact ⟨m, M1, D', r.grow g1 m1, q1, k.grow g1⟩
def dNever : DTS := fun _ _ _ => False
theorem ds_never : DS X st dNever := ⟨fun _ _ _ _ _ _ ⟨_, _, _, _, q, _⟩ => q.elim⟩
theorem dss_never {sts : List Stmt} : DSs X sts dNever := ⟨fun _ _ _ _ _ _ ⟨_, _, _, _, q, _⟩ => q.elim⟩
/-- slot i's list is frozen ahead of a statement -/
def dFzS (i : Nat) (t : DTS) : DTS := fun D m M => ∃ p ds, m[i]? = some (some (.ref p)) ∧ M p = some (.lst ds) ∧ t D (m.set i (some (.lst ds))) (mdel M p)
theorem ds_fz (i : Nat) (h : DS X st t) : DS X st (dFzS i t) := by
  refine ⟨fun pins s σ H D I ⟨m, M, D', r, ⟨p, ds, e1, e2, q⟩, k⟩ => ?_⟩
  obtain ⟨v, h1, h2⟩ := r.slot i _ e1
  cases h2
  obtain ⟨vs, h3, z, l⟩ := r.mem.lst e2
  obtain ⟨o, I2⟩ := inv_frz I h3
  refine h.run pins s σ _ D I2 ⟨_, _, D', ?_, q, k.grow (.put h3)⟩
  have hi : i < m.length := (List.getElem?_eq_some_iff.mp e1).1
  refine ⟨by rw [List.length_set]; exact r.len, fun j d q1 => ?_, r.mem.frz h3⟩
  by_cases hj : i = j
  · subst hj
    rw [List.getElem?_set_self hi] at q1
    cases q1
    exact ⟨_, h1, .lst (.inl ⟨o, upd_same⟩) z (l.grow (.put h3))⟩
  · rw [List.getElem?_set_ne hj] at q1
    obtain ⟨w, h5, h6⟩ := r.slot j d q1
    exact ⟨w, h5, h6.grow (.put h3)⟩

/-! ### targets: ws are the slots that are written -/
abbrev DTG := D → DSt → DM → (DSt → DM → Prop) → Prop
abbrev DTGs := List D → DSt → DM → (DSt → DM → Prop) → Prop
def Off (ws : List Nat) (σ σ' : SL) : Prop := σ'.length = σ.length ∧ ∀ i, i ∉ ws → σ'[i]? = σ[i]?
def upG (K : PySem.W.Frag) (ws : List Nat) (t : DTG) : TG := fun v σ H Q => ∃ d m M Q', Rep K H d v ∧ R K m M σ H ∧ t d m M Q' ∧
  ∀ m' M' σ' H', Grow H H' → R K m' M' σ' H' → Off ws σ σ' → Q' m' M' → Q σ' H'
def upGs (K : PySem.W.Frag) (ws : List Nat) (t : DTGs) : TGs := fun vs σ H Q => ∃ ds m M Q', RepL K H ds vs ∧ R K m M σ H ∧ t ds m M Q' ∧
  ∀ m' M' σ' H', Grow H H' → R K m' M' σ' H' → Off ws σ σ' → Q' m' M' → Q σ' H'
abbrev DG (X : Cx) (ws : List Nat) (tg : Expr) (t : DTG) : Prop := PG X tg (upG X.K ws t)
abbrev DGs (X : Cx) (ws : List Nat) (tgs : List Expr) (t : DTGs) : Prop := PGs X tgs (upGs X.K ws t)
theorem imG {tg : Expr} {t t' : TG} (h : PG X tg t) (i : ∀ v σ H Q, t' v σ H Q → t v σ H Q) : PG X tg t' := ⟨fun pins s σ H v u Q I r q => h.run pins s σ H v u Q I r (i v σ H Q q)⟩
theorem imGs {tg : List Expr} {t t' : TGs} (h : PGs X tg t) (i : ∀ v σ H Q, t' v σ H Q → t v σ H Q) : PGs X tg t' := ⟨fun pins s σ H v u Q I r q => h.run pins s σ H v u Q I r (i v σ H Q q)⟩
def dgName (i : Nat) : DTG := fun d m M Q => Q (m.set i (some d)) M
theorem Off.refl (ws : List Nat) (σ : SL) : Off ws σ σ := ⟨rfl, fun _ _ => rfl⟩
theorem Off.set {i : Nat} {σ : SL} {v : V} : Off [i] σ (σ.set i (some v)) := ⟨List.length_set, fun j h => by
  have : i ≠ j := fun z => h (by simp [z])
  exact List.getElem?_set_ne this⟩
theorem Off.trans {ws us : List Nat} {σ σ1 σ2 : SL} (h : Off ws σ σ1) (k : Off us σ1 σ2) : Off (ws ++ us) σ σ2 :=
  ⟨k.1.trans h.1, fun i hi => (k.2 i fun z => hi (List.mem_append_right _ z)).trans (h.2 i fun z => hi (List.mem_append_left _ z))⟩
theorem dg_name {i : Nat} {x : Str} (hN : X.N.Nodup) (hi : X.N[i]? = some x) (hx : Loc X.env.scope x) (hf : X.fn x = true ∨ X.env.scope.names.lookup x = some .local := by first | exact .inl rfl | exact .inr rfl | assumption) :
    DG X [i] (.Name x pos) (dgName i) :=
  imG (pg_name hN hi hx hf) fun v σ H Q ⟨d, m, M, Q', rd, r, q, k⟩ => k _ _ _ H (.refl H) (r.set rd) .set q
def dgNil : DTGs := fun ds m M Q => ds = [] ∧ Q m M
def dgCons (t : DTG) (u : DTGs) : DTGs := fun ds m M Q => ∃ d r, ds = d :: r ∧ t d m M fun m1 M1 => u r m1 M1 Q
theorem dgs_nil : DGs X [] [] dgNil := imGs pgs_nil fun v σ H Q ⟨ds, m, M, Q', rd, r, ⟨e, q⟩, k⟩ => by
  subst e
  cases rd
  exact ⟨rfl, k _ _ _ H (.refl H) r (.refl _ _) q⟩
theorem dgs_cons {es : List Expr} {ws us : List Nat} {t : DTG} {u : DTGs} (h1 : DG X ws e t) (h2 : DGs X us es u)
    (hs : (assignEach (e :: es) X.env).map (·.2) = assign e X.env :: (assignEach es X.env).map (·.2) := by rfl) : DGs X (ws ++ us) (e :: es) (dgCons t u) :=
  imGs (pgs_cons h1 h2 hs) fun v σ H Q ⟨ds, m, M, Q', rd, r, ⟨d, dr, e, q⟩, k⟩ => by
    subst e
    cases rd with
    | cons r1 rl =>
      refine ⟨_, _, rfl, _, m, M, _, r1, r, q, fun m1 M1 σ1 H1 g1 rr o1 q1 => ?_⟩
      exact ⟨_, m1, M1, _, rl.grow g1, rr, q1, fun m2 M2 σ2 H2 g2 r2 o2 q2 => k m2 M2 σ2 H2 (g1.trans g2) r2 (o1.trans o2) q2⟩
def dgTup (n : Nat) (t : DTGs) : DTG := fun d m M Q => ∃ ds, d = .tup ds ∧ ds.length = n ∧ t ds m M Q
theorem dg_tup {es : List Expr} {k n : Nat} {ws : List Nat} {t : DTGs} (hc : X.calm = true) (h : DGs X ws es t)
    (hn : (assignEach es X.env).length = n := by rfl) (hst : (assignEach es X.env).findIdx? (·.1) = none := by rfl) : DG X ws (.Tuple es k pos) (dgTup n t) :=
  imG (pg_tup hc h hn hst) fun v σ H Q ⟨d, m, M, Q', rd, r, ⟨ds, e, hl, q⟩, k⟩ => by
    subst e
    cases rd with
    | tup hs _ hl2 => exact ⟨_, _, rfl, hs, by rw [← hl2.length]; exact hl, ds, m, M, Q', hl2, r, q, k⟩
def dAsg (te : DTE) (g : DTG) : DTS := fun D m M => te m M fun d M1 => g d m M1 D.nx
theorem ds_asg {tg : Expr} {ws : List Nat} {g : DTG} (he : DE X e te) (hg : DG X ws tg g) (hs : swapsWithSole [tg] e pos.line X.env = pure false := by rfl) (hw : swappedStores [tg] e X.env = pure none := by rfl)
    (h1 : (assignEach [tg] X.env).map (·.2) = [assign tg X.env] := by rfl) : DS X (.Assign [tg] e pos) (dAsg te g) :=
  imS (ps_asg he hg hs hw h1) fun D σ H ⟨m, M, D', r, q, k⟩ => by
    refine ⟨m, M, _, r, q, fun d v M1 H1 g1 r1 m1 q1 => ?_⟩
    exact ⟨d, m, M1, _, r1, r.grow g1 m1, q1, fun m2 M2 σ2 H2 g2 r2 _ q2 => k.nx m2 M2 σ2 H2 (g1.trans g2) r2 q2⟩
def dSet (i : Nat) (te : DTE) : DTS := fun D m M => te m M fun d M1 => D.nx (m.set i (some d)) M1
theorem ds_set {i : Nat} {x : Str} {pos' : Pos} (hN : X.N.Nodup) (hi : X.N[i]? = some x) (hx : Loc X.env.scope x) (he : DE X e te) (hs : swapsWith e (some (.Name x pos')) pos.line X.env = pure false := by rfl)
    (hf : X.fn x = true ∨ X.env.scope.names.lookup x = some .local := by first | exact .inl rfl | exact .inr rfl | assumption) : DS X (.Assign [.Name x pos'] e pos) (dSet i te) :=
  imS (ps_set hN hi hx he hs hf) fun D σ H ⟨m, M, D', r, q, k⟩ =>
    ⟨m, M, _, r, q, fun d v M1 H1 g1 r1 m1 q1 => k.nx _ M1 _ H1 g1 ((r.grow g1 m1).set r1) q1⟩
end

/-! ### what is walked -/
abbrev Src := List D × Option Addr
abbrev DTI := DSt → DM → (Src → DM → Prop) → Prop
def SrcOk (K : PySem.W.Frag) (src : Src) (H0 H : Hp) : Prop := Grow H0 H ∧ ∀ a, src.2 = some a → ∃ vs, H a = some (.lst vs) ∧ RepL K H src.1 vs
structure Stream (K : PySem.W.Frag) (J : It) (src : Src) (H0 : Hp) : Prop where
  small : src.1.length ≤ sizeLine
  go : ∀ i H, SrcOk K src H0 H → i < src.1.length → J.go i H
  yld : ∀ i H x H', SrcOk K src H0 H → i < src.1.length → J.yld i H x H' → Grow H H' ∧ (∀ M, RM K H M → RM K H' M) ∧ ∃ d, src.1[i]? = some d ∧ Rep K H' d x
  stop : ∀ H, SrcOk K src H0 H → J.stop src.1.length H
def upI (K : PySem.W.Frag) (t : DTI) : TI := fun σ H Rr => ∃ m M Q', R K m M σ H ∧ t m M Q' ∧
  ∀ src M' H' J, Grow H H' → RM K H' M' → Q' src M' → Stream K J src H' → Rr J H'
abbrev DI (X : Cx) (tg iter : Expr) (t : DTI) : Prop := PI X tg iter (upI X.K t)
theorem imI {X : Cx} {tg iter : Expr} {t t' : TI} (h : PI X tg iter t) (i : ∀ σ H Q, t' σ H Q → t σ H Q) : PI X tg iter t' := ⟨fun pins s σ H Q I q => h.run pins s σ H Q I (i σ H Q q)⟩
/-- the walked list is as it was -/
def SrcV (src : Src) (M : DM) : Prop := ∀ a, src.2 = some a → M a = some (.lst src.1)
theorem SrcV.ok {K : PySem.W.Frag} {src : Src} {H0 H : Hp} {M : DM} (h : SrcV src M) (g : Grow H0 H) (r : RM K H M) : SrcOk K src H0 H :=
  ⟨g, fun a e => let ⟨vs, h1, _, h2⟩ := r.lst (h a e); ⟨vs, h1, h2⟩⟩
/-- something is forgotten of the mutable part -/
def fg (P : DSt → DM → Prop) : DSt → DM → Prop := fun m M => ∃ M0, MLe M0 M ∧ P m M0
theorem fg_of {P : DSt → DM → Prop} {m : DSt} {M : DM} (h : P m M) : fg P m M := ⟨M, .refl M, h⟩
def dForGo (src : Src) (g : DTG) (tb : DTS) (Z : DEnds) : List D → DSt → DM → Prop
  | [], m, M => SrcV src M ∧ Z.nx m M
  | d :: ds, m, M => SrcV src M ∧ g d m M fun m1 M1 => tb { Z with nx := fg (dForGo src g tb Z ds), ct := fg (dForGo src g tb Z ds), bk := Z.nx } m1 M1
def dFor (t : DTI) (g : DTG) (tb : DTS) : DTS := fun D m M => t m M fun src M1 => src.1.length ≤ sizeLine → dForGo src g tb D src.1 m M1
section
variable {X : Cx} {tg iter : Expr} {pos : Pos} {t : DTI} {g : DTG} {tb : DTS} {ws : List Nat}
theorem R.le {K : PySem.W.Frag} {m : DSt} {M M0 : DM} {σ : SL} {H : Hp} (r : R K m M σ H) (l : MLe M0 M) : R K m M0 σ H := ⟨r.len, r.slot, r.mem.le l⟩
theorem ds_for {body : List Stmt} (hp : PassesOwn (model X.prog X.w) X.A X.env X.xe) (hc : X.calm = true) (hi : DI X tg iter t) (hg : DG X ws tg g) (hb : DSs X body tb)
    (hs : ∀ x, foldedSetIterable iter X.env x = pure x := by intro _; rfl) : DS X (.For tg iter body [] pos) (dFor t g tb) :=
  imS (ps_for hp hc hi hg hb hs) fun D σ H ⟨m, M, D', r, q, k⟩ => by
    refine ⟨m, M, _, r, q, fun src M1 H1 J g1 m1 q1 st => ?_⟩
    refine ⟨fun i n σ H2 => i + n = src.1.length ∧ Grow H1 H2 ∧ ∃ m M, R X.K m M σ H2 ∧ dForGo src g tb D' (src.1.drop i) m M, ⟨src.1.length, by omega, .refl _, m, M1, r.grow g1 m1, q1 st.small⟩, ?_⟩
    rintro i n σ2 H2 ⟨hl, g2, m2, M2, r2, q2⟩
    by_cases hlt : i < src.1.length
    · have hd : src.1.drop i = src.1[i] :: src.1.drop (i + 1) := List.drop_eq_getElem_cons hlt
      rw [hd] at q2
      obtain ⟨sv, q2⟩ := q2
      have so := sv.ok g2 r2.mem
      refine .inr ⟨st.go i H2 so hlt, fun σ' H' => Grow H1 H' ∧ ∃ m M, R X.K m M σ' H' ∧ dForGo src g tb D' (src.1.drop (i + 1)) m M, fun σ' H' ⟨g3, m3, M3, r3, q3⟩ => ⟨n - 1, by omega, by omega, g3, m3, M3, r3, q3⟩, fun x H' y => ?_⟩
      obtain ⟨g3, k3, d, e3, rd⟩ := st.yld i H2 x H' so hlt y
      have ed : d = src.1[i] := by
        rw [List.getElem?_eq_getElem hlt] at e3
        exact (Option.some.inj e3).symm
      subst ed
      refine ⟨_, m2, M2, _, rd, r2.grow g3 (k3 _ r2.mem), q2, fun m4 M4 σ4 H4 g4 r4 _ q4 => ?_⟩
      have g04 : Grow H1 H4 := (g2.trans g3).trans g4
      refine ⟨m4, M4, _, r4, q4, ⟨fun m5 M5 σ5 H5 g5 r5 ⟨M6, l6, q6⟩ => ⟨g04.trans g5, m5, M6, r5.le l6, q6⟩, fun m5 M5 σ5 H5 g5 r5 q5 => k.nx m5 M5 σ5 H5 ((g1.trans g04).trans g5) r5 q5,
        fun m5 M5 σ5 H5 g5 r5 ⟨M6, l6, q6⟩ => ⟨g04.trans g5, m5, M6, r5.le l6, q6⟩, fun d v M5 H5 g5 => k.rt d v M5 H5 ((g1.trans g04).trans g5)⟩⟩
    · have e : i = src.1.length := by omega
      subst e
      rw [List.drop_length] at q2
      obtain ⟨sv, q2⟩ := q2
      exact .inl ⟨st.stop H2 (sv.ok g2 r2.mem), k.nx m2 M2 σ2 H2 (g1.trans g2) r2 q2⟩
def dWhile (c : DTT) (tb : DTS) : DTS := fun D m M => ∃ W : Nat → DSt → DM → Prop, (∃ n, W n m M) ∧ ∀ n m M, W n m M → c m M fun k M1 =>
  if k = true then tb { D with nx := fg fun m' M' => ∃ n', n' < n ∧ W n' m' M', ct := fg fun m' M' => ∃ n', n' < n ∧ W n' m' M', bk := D.nx } m M1 else D.nx m M1
theorem ds_while {c : Expr} {body : List Stmt} {tc : DTT} (hp : PassesOwn (model X.prog X.w) X.A X.env X.xe) (hc : DT X c tc) (hb : DSs X body tb) : DS X (.While c body [] pos) (dWhile tc tb) :=
  imS (ps_while hp hc hb) fun D σ H ⟨m, M, D', r, ⟨W, ⟨n0, w0⟩, turn⟩, k⟩ => by
    refine ⟨fun n σ H1 => Grow H H1 ∧ ∃ m M, R X.K m M σ H1 ∧ W n m M, ⟨n0, .refl _, m, M, r, w0⟩, ?_⟩
    rintro n σ1 H1 ⟨g1, m1, M1, r1, w1⟩
    refine ⟨m1, M1, _, r1, turn n m1 M1 w1, fun y M2 H2 g2 m2 q2 => ?_⟩
    have r2 := r1.grow g2 m2
    cases y with
    | true =>
      refine ⟨fun σ' H' => ∃ n', n' < n ∧ Grow H H' ∧ ∃ m M, R X.K m M σ' H' ∧ W n' m M, fun σ' H' ⟨n', hn, y⟩ => ⟨n', hn, y⟩, ?_⟩
      refine ⟨m1, M2, _, r2, q2, ⟨fun m5 M5 σ5 H5 g5 r5 ⟨M6, l6, n', hn, q6⟩ => ⟨n', hn, (g1.trans g2).trans g5, m5, M6, r5.le l6, q6⟩, fun m5 M5 σ5 H5 g5 r5 q5 => k.nx m5 M5 σ5 H5 ((g1.trans g2).trans g5) r5 q5,
        fun m5 M5 σ5 H5 g5 r5 ⟨M6, l6, n', hn, q6⟩ => ⟨n', hn, (g1.trans g2).trans g5, m5, M6, r5.le l6, q6⟩, fun d v M5 H5 g5 => k.rt d v M5 H5 ((g1.trans g2).trans g5)⟩⟩
    | false => exact k.nx m1 M2 σ1 H2 (g1.trans g2) r2 q2
end
end DL
namespace DL
open PySem PySem.Spec PyProof.Rows L2

/-! ### items of a value -/
def dItems : D → DM → Option (List D)
  | .tup xs, _ => some xs
  | .lst xs, _ => some xs
  | .ref a, M => match M a with
    | some (.lst xs) => some xs
    | _ => none
  | _, _ => none
def dAt : D → Option Addr
  | .ref a => some a
  | _ => none
@[simp] theorem dItems_tup {xs : List D} {M : DM} : dItems (.tup xs) M = some xs := rfl
@[simp] theorem dItems_lst {xs : List D} {M : DM} : dItems (.lst xs) M = some xs := rfl
theorem dItems_ref {xs : List D} {M : DM} {a : Addr} (h : M a = some (.lst xs)) : dItems (.ref a) M = some xs := by
  simp [dItems, h]
theorem items_of {K : PySem.W.Frag} {H : Hp} {M : DM} {d : D} {v : V} {xs : List D} (r : Rep K H d v) (m : RM K H M) (e : dItems d M = some xs) :
    ∃ a vs, v = .ref a ∧ vs.length ≤ sizeLine ∧ RepL K H xs vs ∧ ((SqL K H a vs ∧ (∀ p, d = .ref p → p = a ∧ H a = some (.lst vs)) ∧ ((∃ p, d = .ref p) ∨ FrzL K H a vs)) ∨ (SqT K H a vs ∧ d = .tup xs)) := by
  cases r with
  | tup h z l =>
    cases e
    exact ⟨_, _, rfl, z, l, .inr ⟨h, rfl⟩⟩
  | lst h z l =>
    cases e
    exact ⟨_, _, rfl, z, l, .inl ⟨h.seq, (fun p q => nomatch q), .inr h⟩⟩
  | ref a =>
    have e' : (match M a with | some (.lst xs) => some xs | _ => none) = some xs := e
    cases q : M a with
    | none => rw [q] at e'; cases e'
    | some o =>
      rw [q] at e'
      cases o with
      | lst ys =>
        cases e'
        obtain ⟨vs, h1, z, l⟩ := m.lst q
        exact ⟨a, vs, rfl, z, l, .inl ⟨.of h1, fun p q => by cases q; exact ⟨rfl, h1⟩, .inl ⟨a, rfl⟩⟩⟩
      | dct _ _ => cases e'
      | tab _ => cases e'
      | dk _ => cases e'
  | _ => cases e

/-! ### what a list or tuple gives to a loop -/
section
variable {X : Cx} {tg l : Expr} {te : DTE} {pos p : Pos}
def iSeq (K : PySem.W.Frag) (tl : TE) : TI := fun σ H Rr => tl σ H fun x H1 => ∃ a, x = .ref a ∧ (((∃ xs, SqL K H1 a xs) ∧ Rr (Itl K a) H1) ∨ ((∃ xs, SqT K H1 a xs) ∧ Rr (Itt K a) H1))
theorem pi_seq {tl : TE} (hl : PE X l tl) : PI X tg l (iSeq X.K tl) := by
  refine ⟨fun pins s σ H Rr I h => thn (hl.run pins s σ H _ I h) fun v s1 ⟨x, H1, I1, r1, a, e, q⟩ => ?_⟩
  subst e
  cases r1
  have fp : ∀ b ∈ [s1.heap.objs.size], FpOk X pins H1 b := fun b hb => by
    have e : b = s1.heap.objs.size := by simpa using hb
    subst e
    exact I1.fpOk (Nat.le_refl _) (I1.hok.fresh (Nat.le_refl _))
  rcases q with ⟨⟨xs, hq⟩, q⟩ | ⟨⟨xs, hq⟩, q⟩
  · obtain ⟨its, _, pl, _⟩ := I1.list hq
    exact wpAny_pyIter_list pl.isList ⟨_, [s1.heap.objs.size], _, _, H1, rfl, I1.kept (t' := s1.toks) fun b o e => Heap.get?_push_of_some _ e,
      turn_list a _, ⟨_, Heap.get?_push_size _ rfl, rfl, rfl⟩, fp, q⟩
  · obtain ⟨its, _, pt, _⟩ := I1.tuple hq
    exact wpAny_pyIter_tuple (show s1.heap.IsTuple a its.toArray from pt) ⟨_, [s1.heap.objs.size], _, _, H1, rfl, I1.kept (t' := s1.toks) fun b o e => Heap.get?_push_of_some _ e,
      turn_tuple a _, ⟨_, Heap.get?_push_size _ rfl, rfl, rfl⟩, fp, q⟩
theorem sqL_inj {K : PySem.W.Frag} {H : Hp} {a : Addr} {vs : List V} (h : H a = some (.lst vs)) : SqL K H a vs := .of h
def diSeq (te : DTE) : DTI := fun m M Q => te m M fun d M1 => ∃ xs, dItems d M1 = some xs ∧ Q (xs, dAt d) M1
theorem stream_list {K : PySem.W.Frag} {H0 : Hp} {xs : List D} {at' : Option Addr} {a : Addr} {vs : List V} (z : vs.length ≤ sizeLine) (l : RepL K H0 xs vs)
    (hs : ∀ H, SrcOk K (xs, at') H0 H → ∃ ws, SqL K H a ws ∧ RepL K H xs ws) : Stream K (Itl K a) (xs, at') H0 := by
  refine ⟨by rw [show (xs, at').1 = xs from rfl, l.length]; exact z, fun i H ok hi => ?_, fun i H x H' ok hi y => ?_, fun H ok => ?_⟩
  · obtain ⟨ws, h1, h2⟩ := hs H ok
    obtain ⟨w, e, _⟩ := h2.get (List.getElem?_eq_getElem hi)
    exact ⟨ws, w, h1, e⟩
  · obtain ⟨ws, h1, h2⟩ := hs H ok
    obtain ⟨e1, e2⟩ := y
    subst e1
    obtain ⟨d, e3, rd⟩ := h2.get' (e2 ws h1)
    exact ⟨.refl _, fun _ q => q, d, e3, rd⟩
  · obtain ⟨ws, h1, h2⟩ := hs H ok
    exact ⟨ws, h1, by rw [← h2.length]; exact Nat.le_refl _⟩
theorem stream_tup {K : PySem.W.Frag} {H0 : Hp} {xs : List D} {at' : Option Addr} {a : Addr} {vs : List V} (z : vs.length ≤ sizeLine) (l : RepL K H0 xs vs) (h : SqT K H0 a vs) : Stream K (Itt K a) (xs, at') H0 := by
  refine ⟨by rw [show (xs, at').1 = xs from rfl, l.length]; exact z, fun i H ok hi => ?_, fun i H x H' ok hi y => ?_, fun H ok => ?_⟩
  · obtain ⟨w, e, _⟩ := l.get (List.getElem?_eq_getElem hi)
    exact ⟨vs, w, sqT_grow h ok.1, e⟩
  · obtain ⟨e1, e2⟩ := y
    subst e1
    obtain ⟨d, e3, rd⟩ := l.get' (e2 vs (sqT_grow h ok.1))
    exact ⟨.refl _, fun _ q => q, d, e3, rd.grow ok.1⟩
  · exact ⟨vs, sqT_grow h ok.1, by rw [← l.length]; exact Nat.le_refl _⟩
theorem di_seq (h : DE X l te) : DI X tg l (diSeq te) :=
  imI (pi_seq h) fun σ H Q ⟨m, M, Q', r, q, k⟩ => by
    refine ⟨m, M, _, r, q, fun d v M1 H1 g1 r1 m1 ⟨xs, e, q1⟩ => ?_⟩
    obtain ⟨a, vs, rfl, z, l, ⟨h1, h2, h3⟩ | ⟨h1, h2⟩⟩ := items_of r1 m1 e
    · refine ⟨a, rfl, .inl ⟨⟨vs, h1⟩, k _ M1 H1 _ g1 m1 q1 (stream_list z l fun H2 ok => ?_)⟩⟩
      rcases h3 with ⟨p, hp⟩ | h3
      · subst hp
        obtain ⟨e1, _⟩ := h2 p rfl
        subst e1
        obtain ⟨ws, h5, h6⟩ := ok.2 p rfl
        exact ⟨ws, .of h5, h6⟩
      · exact ⟨vs, (h3.grow ok.1).seq, l.grow ok.1⟩
    · exact ⟨a, rfl, .inr ⟨⟨vs, h1⟩, k _ M1 H1 _ g1 m1 q1 (stream_tup z l h1)⟩⟩
def rangeD (lo : Int) (n : Nat) : List D := (List.range n).map fun i => D.int (lo + (i : Nat))
theorem stream_range {K : PySem.W.Frag} {H0 : Hp} {lo : Int} {n : Nat} (hz : n ≤ sizeLine) : Stream K (Itr lo n) (rangeD lo n, none) H0 := by
  have hl : (rangeD lo n).length = n := by simp [rangeD]
  refine ⟨by rw [show (rangeD lo n, (none : Option Addr)).1 = rangeD lo n from rfl, hl]; exact hz, fun i H ok hi => ?_, fun i H x H' ok hi y => ?_, fun H ok => ?_⟩
  · exact (by rw [← hl]; exact hi : i < n)
  · obtain ⟨e1, e2⟩ := y
    subst e1
    subst e2
    have hi' : i < n := by rw [← hl]; exact hi
    exact ⟨.refl _, fun _ q => q, .int (lo + (i : Nat)), by simp [rangeD, hi'], .int _⟩
  · show n ≤ (rangeD lo n).length
    omega
def diRng1 (t : DTA) : DTI := fun m M Q => t m M fun ds M1 => ∃ j : Int, ds = [.int j] ∧ j ≤ 16777216 ∧ -1000000000 ≤ j ∧ Q (rangeD 0 j.toNat, none) M1
def diRng2 (t : DTA) : DTI := fun m M Q => t m M fun ds M1 => ∃ i j : Int, ds = [.int i, .int j] ∧ (-1000000000 ≤ i ∧ i ≤ 1000000000 ∧ -1000000000 ≤ j ∧ j ≤ 1000000000) ∧ j - i ≤ 16777216 ∧ Q (rangeD i (j - i).toNat, none) M1
theorem repL_one {K : PySem.W.Frag} {H : Hp} {d : D} {vs : List V} (h : RepL K H [d] vs) : ∃ v, vs = [v] ∧ Rep K H d v := by
  cases h with
  | cons a b =>
    cases b
    exact ⟨_, rfl, a⟩
theorem repL_two {K : PySem.W.Frag} {H : Hp} {d e : D} {vs : List V} (h : RepL K H [d, e] vs) : ∃ v w, vs = [v, w] ∧ Rep K H d v ∧ Rep K H e w := by
  cases h with
  | cons a b =>
    obtain ⟨w, e, r⟩ := repL_one b
    subst e
    exact ⟨_, w, rfl, a, r⟩
theorem di_range1 {a : Expr} {t : DTA} (hg : Gl X "range") (hm : X.mg "range" = none) (ha : DA X [a] t) (hs : starEach [a] X.env = [(false, eval a X.env)] := by rfl) : DI X tg (.Call (.Name "range" p) [a] [] pos) (diRng1 t) :=
  imI (pi_range1 hg hm ha hs) fun σ H Q ⟨m, M, Q', r, q, k⟩ => by
    refine ⟨m, M, _, r, q, fun ds vs M1 H1 g1 r1 m1 ⟨j, e, h1, h2, q1⟩ => ?_⟩
    subst e
    obtain ⟨v, e, rv⟩ := repL_one r1
    subst e
    cases rv
    have hsl := sizeLine_eq
    exact ⟨j, rfl, by omega, by omega, k _ M1 H1 _ g1 m1 q1 (stream_range (by omega))⟩
theorem di_range2 {a b : Expr} {t : DTA} (hg : Gl X "range") (hm : X.mg "range" = none) (ha : DA X [a, b] t) (hs : starEach [a, b] X.env = [(false, eval a X.env), (false, eval b X.env)] := by rfl) (hs2 : starEach [b] X.env = [(false, eval b X.env)] := by rfl) :
    DI X tg (.Call (.Name "range" p) [a, b] [] pos) (diRng2 t) :=
  imI (pi_range2 hg hm ha hs hs2) fun σ H Q ⟨m, M, Q', r, q, k⟩ => by
    refine ⟨m, M, _, r, q, fun ds vs M1 H1 g1 r1 m1 ⟨i, j, e, ⟨h1, h2, h3, h4⟩, h5, q1⟩ => ?_⟩
    subst e
    obtain ⟨v, w, e, rv, rw'⟩ := repL_two r1
    subst e
    cases rv
    cases rw'
    have hsl := sizeLine_eq
    exact ⟨i, j, rfl, ⟨by omega, by omega, by omega, by omega⟩, k _ M1 H1 _ g1 m1 q1 (stream_range (by omega))⟩
end

/-! ### comprehensions -/
def dwipe (m : DSt) : List Nat → DSt
  | [] => m
  | v :: vs => (dwipe m vs).set v none
theorem wipe_get (σ : SL) : ∀ (vs : List Nat) (i : Nat), (wipe σ vs)[i]? = if i ∈ vs then (if i < σ.length then some none else none) else σ[i]?
  | [], i => by simp [wipe]
  | v :: vs, i => by
    unfold wipe
    by_cases h : v = i
    · subst h
      by_cases hl : v < σ.length
      · rw [List.getElem?_set_self (by rw [wipe_length]; exact hl)]
        simp [hl]
      · rw [List.getElem?_eq_none (by rw [List.length_set, wipe_length]; omega)]
        simp [hl]
    · rw [List.getElem?_set_ne h, wipe_get σ vs i]
      have : ¬ i = v := fun z => h z.symm
      simp [this]
theorem dwipe_len (m : DSt) : ∀ vs : List Nat, (dwipe m vs).length = m.length
  | [] => rfl
  | v :: vs => by
    unfold dwipe
    rw [List.length_set, dwipe_len m vs]
theorem dwipe_some {m : DSt} {i : Nat} {d : D} : ∀ {vs : List Nat}, (dwipe m vs)[i]? = some (some d) → m[i]? = some (some d) ∧ i ∉ vs
  | [], h => ⟨h, by simp⟩
  | v :: vs, h => by
    unfold dwipe at h
    by_cases hv : v = i
    · subst hv
      by_cases hl : v < (dwipe m vs).length
      · rw [List.getElem?_set_self hl] at h
        cases h
      · rw [List.getElem?_eq_none (by rw [List.length_set]; omega)] at h
        cases h
    · rw [List.getElem?_set_ne hv] at h
      obtain ⟨h1, h2⟩ := dwipe_some h
      have : ¬ i = v := fun z => hv z.symm
      exact ⟨h1, by simp [this, h2]⟩
theorem R.wipe {K : PySem.W.Frag} {m : DSt} {M : DM} {σ : SL} {H : Hp} (r : R K m M σ H) (vs : List Nat) : R K (dwipe m vs) M (wipe σ vs) H := by
  refine ⟨by rw [dwipe_len, wipe_length]; exact r.len, fun i d e => ?_, r.mem⟩
  obtain ⟨h1, h2⟩ := dwipe_some e
  obtain ⟨v, h3, h4⟩ := r.slot i d h1
  exact ⟨v, by rw [wipe_get, if_neg h2]; exact h3, h4⟩
theorem wipe_off {ws vs : List Nat} {σ σ' : SL} (o : Off ws (wipe σ vs) σ') (hs : ∀ i ∈ ws, i ∈ vs) : wipe σ' vs = wipe σ vs := by
  apply List.ext_getElem?
  intro i
  have hl : σ'.length = σ.length := by rw [o.1, wipe_length]
  rw [wipe_get, wipe_get, hl]
  by_cases h : i ∈ vs
  · rw [if_pos h, if_pos h]
  · rw [if_neg h, if_neg h, o.2 i fun z => h (hs i z), wipe_get, if_neg h]
def dLcGo (src : Src) (g : DTG) (tt : DTT) (te : DTE) (m0 : DSt) (p : Addr) (Qd : List D → DM → Prop) : List D → List D → DM → Prop
  | [], acc, M => SrcV src M ∧ Qd acc M
  | d :: ds, acc, M => SrcV src M ∧ g d m0 M fun m1 M1 => tt m1 M1 fun b M2 =>
      if b = true then te m1 M2 fun y M3 => M3 p = some (.lst acc) ∧ dLcGo src g tt te m0 p Qd ds (acc ++ [y]) (mput M3 p (.lst (acc ++ [y])))
      else M2 p = some (.lst acc) ∧ dLcGo src g tt te m0 p Qd ds acc M2
/-- [e for ..]: a list that will be changed, one that stays -/
def dLc (t : DTI) (g : DTG) (tt : DTT) (te : DTE) (vs : List Nat) : DTE := fun m M Q => t m M fun src M1 => src.1.length ≤ sizeLine → ∀ p, M1 p = none → dLcGo src g tt te (dwipe m vs) p (fun _ M2 => Q (.ref p) M2) src.1 [] (mput M1 p (.lst []))
def dLcF (t : DTI) (g : DTG) (tt : DTT) (te : DTE) (vs : List Nat) : DTE := fun m M Q => t m M fun src M1 => src.1.length ≤ sizeLine → ∀ p, M1 p = none → dLcGo src g tt te (dwipe m vs) p (fun acc M2 => Q (.lst acc) (mdel M2 p)) src.1 [] (mput M1 p (.lst []))
abbrev dYes : DTT := fun _ M Q => Q true M
section
variable {X : Cx} {elt tg iter : Expr} {ifs : List Expr} {scope : Scope} {own : List (Str × Nat)} {pos : Pos} {t : DTI} {g : DTG} {tt : DTT} {te : DTE} {ws : List Nat}
abbrev DPTs (X : Cx) (ifs : List Expr) (t : DTT) : Prop := PTs X ifs (upT X.K t)
theorem dts_nil : DPTs X [] dYes := ⟨fun pins s σ H Q I h => pts_nil.run pins s σ H Q I (by
  obtain ⟨m, M, Q', r, q, k⟩ := h
  exact k true M H (.refl H) r.mem q)⟩
theorem dts_one {c : Expr} {t : DTT} (h : DT X c t) : DPTs X [c] t := pts_one h
theorem lc_up {K : PySem.W.Frag} {vs : List Nat} (hsub : ∀ i ∈ ws, i ∈ vs) {σ : SL} {H : Hp} {Q : VK} {Qf : Addr → List D → DM → Prop}
    (fin : ∀ p acc ws M2 H2, Grow H H2 → RM K H2 M2 → H2 p = some (.lst ws) → ws.length ≤ sizeLine → RepL K H2 acc ws → M2 p = some (.lst acc) → Qf p acc M2 → Q (.ref p) H2)
    (m : DSt) (M : DM) (r : R K m M σ H) (q : t m M fun src M1 => src.1.length ≤ sizeLine → ∀ p, M1 p = none → dLcGo src g tt te (dwipe m vs) p (Qf p) src.1 [] (mput M1 p (.lst []))) :
    tLc (upI K t) (upG K ws g) (upT K tt) (upE K te) vs σ H Q := by
  refine ⟨m, M, _, r, q, fun src M1 H1 J g1 m1 q1 st p np => ?_⟩
  have q2 := q1 st.small p (m1.free np)
  have g2 : Grow H1 (upd H1 p (.lst [])) := .new np
  refine ⟨fun i n H2 => i + n = src.1.length ∧ Grow H1 H2 ∧ ∃ acc M2, acc.length ≤ i ∧ M2 p = some (.lst acc) ∧ RM K H2 M2 ∧ dLcGo src g tt te (dwipe m vs) p (Qf p) (src.1.drop i) acc M2,
    ⟨src.1.length, by omega, g2, [], _, Nat.le_refl _, mput_same, m1.newLst np (Nat.zero_le _) .nil, q2⟩, ?_⟩
  rintro i n H2 ⟨hl, g3, acc, M2, ha, hp, m2, q3⟩
  have r2 : R K (dwipe m vs) M2 (wipe σ vs) H2 := (r.wipe vs).grow (g1.trans g3) m2
  by_cases hlt : i < src.1.length
  · rw [List.drop_eq_getElem_cons hlt] at q3
    obtain ⟨sv, q3⟩ := q3
    have so := sv.ok g3 m2
    refine .inr ⟨st.go i H2 so hlt, fun H3 => Grow H1 H3 ∧ ∃ acc M2, acc.length ≤ i + 1 ∧ M2 p = some (.lst acc) ∧ RM K H3 M2 ∧ dLcGo src g tt te (dwipe m vs) p (Qf p) (src.1.drop (i + 1)) acc M2,
      fun H3 ⟨g4, z⟩ => ⟨n - 1, by omega, by omega, g4, z⟩, fun x H3 y => ?_⟩
    obtain ⟨g4, k4, d, e4, rd⟩ := st.yld i H2 x H3 so hlt y
    have ed : d = src.1[i] := by
      rw [List.getElem?_eq_getElem hlt] at e4
      exact (Option.some.inj e4).symm
    subst ed
    refine ⟨_, _, M2, _, rd, r2.grow g4 (k4 _ m2), q3, fun m5 M5 σ5 H5 g5 r5 o5 q5 => ⟨wipe_off o5 hsub, ?_⟩⟩
    refine ⟨m5, M5, _, r5, q5, fun b M6 H6 g6 m6 q6 => ?_⟩
    have g06 : Grow H1 H6 := ((g3.trans g4).trans g5).trans g6
    cases b with
    | true =>
      refine ⟨m5, M6, _, r5.grow g6 m6, q6, fun y v M7 H7 g7 rv m7 ⟨e7, q7⟩ => ?_⟩
      obtain ⟨us, h8, z8, l8⟩ := m7.lst e7
      have hsz : us.length < sizeLine := by
        rw [← l8.length]
        exact Nat.lt_of_le_of_lt ha (Nat.lt_of_lt_of_le hlt st.small)
      refine ⟨us, h8, hsz, (g06.trans g7).trans (.put h8), acc ++ [y], _, by rw [List.length_append]; simp; omega, mput_same, m7.putLst h8 (by rw [List.length_append]; exact hsz) (l8.append (.one rv)), q7⟩
    | false =>
      have q6' : M6 p = some (.lst acc) ∧ dLcGo src g tt te (dwipe m vs) p (Qf p) (src.1.drop (i + 1)) acc M6 := q6
      exact ⟨g06, acc, M6, by omega, q6'.1, m6, q6'.2⟩
  · have e : i = src.1.length := by omega
    subst e
    rw [List.drop_length] at q3
    obtain ⟨us, h8, z8, l8⟩ := m2.lst hp
    exact .inl ⟨st.stop H2 (q3.1.ok g3 m2), fin p acc us M2 H2 (g1.trans g3) m2 h8 z8 l8 hp q3.2⟩
theorem d_lc (hc : X.calm = true) (hN : X.N.Nodup) (hi : DI X tg iter t) (ok : BlkOk X.N X.env.scope scope own) (hsub : ∀ i ∈ ws, i ∈ own.map (·.2))
    (hg : ∀ (s : Shared) (H : Hp) (C : Addr) (cl : List (Str × Addr)) (fp : List Addr), DG (X.blk s H scope (compEnvC scope cl C X.env) fp) ws tg g)
    (ht : ∀ (s : Shared) (H : Hp) (C : Addr) (cl : List (Str × Addr)) (fp : List Addr), DPTs (X.blk s H scope (compEnvC scope cl C X.env) fp) ifs tt)
    (he : ∀ (s : Shared) (H : Hp) (C : Addr) (cl : List (Str × Addr)) (fp : List Addr), DE (X.blk s H scope (compEnvC scope cl C X.env) fp) elt te)
    (hs : ∀ x, foldedSetIterable iter X.env x = pure x := by intro _; rfl) : DE X (.ListComp elt [⟨tg, iter, ifs, 0⟩] scope pos) (dLc t g tt te (own.map (·.2))) :=
  imE (pe_lc hc hN hi ok hg ht he hs) fun σ H Q ⟨m, M, Q', r, q, k⟩ =>
    lc_up (Qf := fun p _ M2 => Q' (.ref p) M2) hsub (fun p acc ws M2 H2 g2 m2 _ _ _ _ q2 => k _ _ M2 H2 g2 (.ref p) m2 q2) m M r q
theorem d_lcF (hc : X.calm = true) (hN : X.N.Nodup) (hi : DI X tg iter t) (ok : BlkOk X.N X.env.scope scope own) (hsub : ∀ i ∈ ws, i ∈ own.map (·.2))
    (hg : ∀ (s : Shared) (H : Hp) (C : Addr) (cl : List (Str × Addr)) (fp : List Addr), DG (X.blk s H scope (compEnvC scope cl C X.env) fp) ws tg g)
    (ht : ∀ (s : Shared) (H : Hp) (C : Addr) (cl : List (Str × Addr)) (fp : List Addr), DPTs (X.blk s H scope (compEnvC scope cl C X.env) fp) ifs tt)
    (he : ∀ (s : Shared) (H : Hp) (C : Addr) (cl : List (Str × Addr)) (fp : List Addr), DE (X.blk s H scope (compEnvC scope cl C X.env) fp) elt te)
    (hs : ∀ x, foldedSetIterable iter X.env x = pure x := by intro _; rfl) : DE X (.ListComp elt [⟨tg, iter, ifs, 0⟩] scope pos) (dLcF t g tt te (own.map (·.2))) :=
  imE (pe_fz (pe_lc hc hN hi ok hg ht he hs)) fun σ H Q ⟨m, M, Q', r, q, k⟩ =>
    lc_up (Qf := fun p acc M2 => Q' (.lst acc) (mdel M2 p)) hsub (fun p acc ws M2 H2 g2 m2 h8 z8 l8 _ q2 =>
      ⟨p, ws, rfl, h8, fun o => k _ _ _ _ (g2.trans (.put h8)) (.lst (.inl ⟨o, upd_same⟩) z8 (l8.grow (.put h8))) (m2.frz h8) q2⟩) m M r q
end

/-! ### defs -/
abbrev DSp := List D → DM → DVK → Prop
def upSp (K : PySem.W.Frag) (dsp : DSp) : Sp := fun vs H Q _ => ∃ ds M Q', RepL K H ds vs ∧ RM K H M ∧ dsp ds M Q' ∧
  ∀ d v M' H', Grow H H' → Rep K H' d v → RM K H' M' → Q' d M' → Q v H'
/-- the def x keeps the promise dsp -/
structure Cal (P : Program) (w : World) (K : PySem.W.Frag) (mg : Str → Option Value) (base : Heap) (k : Nat) (x : Str) (ps : List Str) (dsp : DSp) : Prop where
  ex : ∃ f fd, FnOk P w K mg base CX0 k f fd ps (upSp K dsp) ∧ mg x = some (.ref f) ∧ PySem.W.keepIn K (.ref f) = true ∧ Binds K fd ps []
/-- the def x as the top has left it -/
structure Def (K : PySem.W.Frag) (mg : Str → Option Value) (x : Str) (st : Stmt) (ps : List Str) : Prop where
  ex : ∃ f fd, Fun K x x st f fd ∧ mg x = some (.ref f) ∧ Binds K fd ps []
def dCall (dsp : DSp) (t : DTA) : DTE := fun m M Q => t m M fun ds M1 => dsp ds M1 Q
def ret (Q : DVK) : DVK := fun d M => ∃ M0, MLe M0 M ∧ Q d M0
theorem ret_of {Q : DVK} {d : D} {M : DM} (h : Q d M) : ret Q d M := ⟨M, .refl M, h⟩
theorem ret_le {Q : DVK} {d : D} {M M0 : DM} (l : MLe M0 M) (h : Q d M0) : ret Q d M := ⟨M0, l, h⟩
def dstart (N : List Str) (ds : List D) : DSt := ds.map some ++ List.replicate (N.length - ds.length) none
def dEnds (Q : DVK) : DEnds := { nx := fun _ M => ret Q .non M, rt := ret Q }
section
variable {P : Program} {w : World} {K : PySem.W.Frag} {mg : Str → Option Value} {base : Heap} {k j : Nat} {x : Str} {ps N : List Str} {dsp : DSp} {st : Stmt}
abbrev Ctx (P : Program) (w : World) (K : PySem.W.Frag) (mg : Str → Option Value) (base : Heap) (N : List Str) (x : Str) (st : Stmt) (f : Addr) (cdv : Value) (A : Around) (outer : List Env) (s : Shared) (H : Hp) (E : XK) : Cx :=
  (cxOf CX0 P w K mg base N x (defScope st) f cdv A outer s H E).nox
theorem start_slot {H : Hp} {ds : List D} {vs : List V} {n i : Nat} {d : D} (l : RepL K H ds vs) (e : (ds.map some ++ List.replicate (n - ds.length) none)[i]? = some (some d)) :
    ∃ v, (vs.map some ++ List.replicate (n - vs.length) none)[i]? = some (some v) ∧ Rep K H d v := by
  have hl := l.length
  by_cases hi : i < ds.length
  · rw [List.getElem?_append_left (by simpa using hi)] at e
    rw [List.getElem?_append_left (by simpa [← hl] using hi)]
    rw [List.getElem?_map] at e ⊢
    cases q : ds[i]? with
    | none => rw [q] at e; cases e
    | some d' =>
      rw [q] at e
      cases e
      obtain ⟨v, h1, h2⟩ := l.get q
      exact ⟨v, by rw [h1]; rfl, h2⟩
  · rw [List.getElem?_append_right (by simpa using hi), List.getElem?_replicate] at e
    split at e <;> cases e
/-- THE RULE for a def -/
theorem Def.cal (F : Def K mg x st ps) (S : FnScope N ps (defScope st)) (len : ∀ ds M Q, dsp ds M Q → ds.length = ps.length) {t : DTS}
    (body : ∀ (f : Addr) (cdv : Value) (A : Around) (outer : List Env) (s : Shared) (H : Hp) (E : XK), Room k (A.deeper (envOfC x (defScope st) s.heap.objs.size f cdv)) → DSs (Ctx P w K mg base N x st f cdv A outer s H E) (defBody st) t)
    (rd : ∀ ds M Q, dsp ds M Q → t (dEnds Q) (dstart N ds) M) : Cal P w K mg base (k + 1) x ps dsp := by
  obtain ⟨f, fd, F, hm, hb⟩ := F.ex
  refine ⟨f, fd, F.ok S (fun vs H Q E ⟨ds, M, Q', l, _, q, _⟩ => by rw [← l.length]; exact len ds M Q' q) (fun cdv A outer s H vs Q E hr ⟨ds, M, Q', l, m, q, kk⟩ => ?_), hm, F.kp, hb⟩
  refine ⟨_, body f cdv A outer s H E hr, dstart N ds, M, dEnds Q', ⟨?_, fun i d e => start_slot l e, m⟩, rd ds M Q' q,
    ⟨fun m1 M1 σ1 H1 g1 r1 ⟨M0, le, q1⟩ => kk _ _ M0 H1 g1 .non (r1.mem.le le) q1, fun _ _ _ _ _ _ z => z.elim, fun _ _ _ _ _ _ z => z.elim, fun d v M1 H1 g1 r1 m1 ⟨M0, le, q1⟩ => kk d v M0 H1 g1 r1 (m1.le le) q1⟩⟩
  simp [dstart, L2.start, l.length]
theorem Cal.mono (C : Cal P w K mg base j x ps dsp) (h : j ≤ k) : Cal P w K mg base k x ps dsp :=
  let ⟨f, fd, F, a, b, c⟩ := C.ex; ⟨f, fd, F.mono h, a, b, c⟩
/-- a weaker promise -/
theorem Cal.imp {dsp' : DSp} (C : Cal P w K mg base k x ps dsp) (h : ∀ ds M Q, dsp' ds M Q → dsp ds M Q) : Cal P w K mg base k x ps dsp' :=
  let ⟨f, fd, F, a, b, c⟩ := C.ex; ⟨f, fd, F.imp fun vs H Q E ⟨ds, M, Q', l, m, q, kk⟩ => ⟨ds, M, Q', l, m, h ds M Q' q, kk⟩, a, b, c⟩
end
section
variable {X : Cx} {k : Nat} {x : Str} {ps : List Str} {dsp : DSp} {e : Expr} {es : List Expr} {p pos : Pos} {t : DTA}
theorem call_up {σ : SL} {H : Hp} {Q : VK} (h : upE X.K (dCall dsp t) σ H Q) : tCall (upSp X.K dsp) [] E0 (upA X.K t) σ H Q := by
  obtain ⟨m, M, Q', r, q, kk⟩ := h
  refine ⟨m, M, _, r, q, fun ds vs M1 H1 g1 l1 m1 q1 => ?_⟩
  exact ⟨ds, M1, Q', by rw [List.append_nil]; exact l1, m1, q1, fun d v M2 H2 g2 => kk d v M2 H2 (g1.trans g2)⟩
theorem d_call (C : Cal X.prog X.w X.K X.mg X.base k x ps dsp) (hr : Room k X.A) (hg : Gl X x) (ha : DA X (e :: es) t) (hdb : (x == ("__debug__" : Str)) = false := by decide)
    (he : starEach (e :: es) X.env = (false, eval e X.env) :: starEach es X.env := by rfl) (hpl : (backTo pos (starEach es X.env)).any (·.1) = false := by rfl) : DE X (.Call (.Name x p) (e :: es) [] pos) (dCall dsp t) := by
  obtain ⟨f, fd, F, hm, hk, hb⟩ := C.ex
  exact imE (pe_call F hr hg hm hk hb .nil pass0 ha hdb he hpl) fun σ H Q h => call_up (σ := σ) (H := H) (Q := Q) h
theorem d_call0 (C : Cal X.prog X.w X.K X.mg X.base k x ps dsp) (hr : Room k X.A) (hg : Gl X x) (hdb : (x == ("__debug__" : Str)) = false := by decide) : DE X (.Call (.Name x p) [] [] pos) (dCall dsp dNil) := by
  obtain ⟨f, fd, F, hm, hk, hb⟩ := C.ex
  refine imE (pe_call0 F hr hg hm hk hb .nil pass0 hdb) fun σ H Q ⟨m, M, Q', r, q, kk⟩ => ?_
  exact ⟨[], M, Q', .nil, r.mem, q, kk⟩

/-! ### built-ins -/
abbrev DCR := List D → DM → DVK → Prop
def upC (K : PySem.W.Frag) (dr : DCR) : List V → Hp → VK → Prop := fun vs H Q => ∃ ds M Q', RepL K H ds vs ∧ RM K H M ∧ dr ds M Q' ∧
  ∀ d v M' H', Grow H H' → Rep K H' d v → RM K H' M' → Q' d M' → Q v H'
abbrev DCall (X : Cx) (f : Value) (dr : DCR) : Prop := CallR X f (upC X.K dr)
def dCB (dr : DCR) (t : DTA) : DTE := fun m M Q => t m M fun ds M1 => dr ds M1 Q
theorem cb_up {dr : DCR} {σ : SL} {H : Hp} {Q : VK} (h : upE X.K (dCB dr t) σ H Q) : tCB (upC X.K dr) (upA X.K t) σ H Q := by
  obtain ⟨m, M, Q', r, q, kk⟩ := h
  exact ⟨m, M, _, r, q, fun ds vs M1 H1 g1 l1 m1 q1 => ⟨ds, M1, Q', l1, m1, q1, fun d v M2 H2 g2 => kk d v M2 H2 (g1.trans g2)⟩⟩
theorem d_cb {id : String} {dr : DCR} (hc : DCall X (.builtin id) dr) (hg : Gl X x) (hm : X.mg x = none) (hv : bootBuiltins x = some (.builtin id)) (ha : DA X (e :: es) t) (hn : x ≠ "__name__" := by decide) (hdb : (x == ("__debug__" : Str)) = false := by decide)
    (he : starEach (e :: es) X.env = (false, eval e X.env) :: starEach es X.env := by rfl) (hpl : (backTo pos (starEach es X.env)).any (·.1) = false := by rfl) : DE X (.Call (.Name x p) (e :: es) [] pos) (dCB dr t) :=
  imE (pe_callB hc hg hm hv ha hn hdb he hpl) fun σ H Q h => cb_up (σ := σ) (H := H) (Q := Q) h
theorem d_ct {T : String} {dr : DCR} (hc : DCall X (.type T) dr) (hg : Gl X x) (hm : X.mg x = none) (hv : bootBuiltins x = some (.type T)) (ha : DA X (e :: es) t) (hn : x ≠ "__name__" := by decide) (hdb : (x == ("__debug__" : Str)) = false := by decide)
    (he : starEach (e :: es) X.env = (false, eval e X.env) :: starEach es X.env := by rfl) (hpl : (backTo pos (starEach es X.env)).any (·.1) = false := by rfl) : DE X (.Call (.Name x p) (e :: es) [] pos) (dCB dr t) :=
  imE (pe_callTy hc hg hm hv ha hn hdb he hpl) fun σ H Q h => cb_up (σ := σ) (H := H) (Q := Q) h
/-- a built-in function that a name of the module holds -/
theorem d_cm {id : String} {dr : DCR} (hc : DCall X (.builtin id) dr) (hg : Gl X x) (hm : X.mg x = some (.builtin id)) (ha : DA X (e :: es) t) (hdb : (x == ("__debug__" : Str)) = false := by decide)
    (he : starEach (e :: es) X.env = (false, eval e X.env) :: starEach es X.env := by rfl) (hpl : (backTo pos (starEach es X.env)).any (·.1) = false := by rfl) : DE X (.Call (.Name x p) (e :: es) [] pos) (dCB dr t) :=
  imE (pe_callBfun hc hg hm ha hdb he hpl) fun σ H Q h => cb_up (σ := σ) (H := H) (Q := Q) h
end
end DL
namespace DL
open PySem PySem.Spec PyProof.Rows L2

/-! ### data: what == reads -/
mutual
def D.py : D → PyData
  | .non => .none
  | .bl b => .bool b
  | .int i => .int i
  | .str x => .str x
  | .tup xs => .tuple (D.pys xs)
  | .lst xs => .list (D.pys xs)
  | .dct _ => .none
  | .ref _ => .none
  | .ty _ => .none
def D.pys : List D → List PyData
  | [] => []
  | x :: xs => D.py x :: D.pys xs
end
/-- plain data, at most n deep -/
def dOk : Nat → D → Bool
  | _, .non => true
  | _, .bl _ => true
  | _, .int _ => true
  | _, .str x => PyData.strOk x
  | n + 1, .tup xs => xs.all (dOk n)
  | n + 1, .lst xs => xs.all (dOk n)
  | _, _ => false
def D.eqv (x y : D) : Bool := PyData.eqv x.py y.py
theorem pys_len : ∀ xs : List D, (D.pys xs).length = xs.length
  | [] => rfl
  | _ :: xs => congrArg (· + 1) (pys_len xs)
theorem pys_map : ∀ xs : List D, D.pys xs = xs.map D.py
  | [] => by simp [D.pys]
  | x :: xs => by simp [D.pys, pys_map xs]
theorem lay_all : ∀ {n : Nat} {xs : List D}, (∀ x ∈ xs, x.py.canLay0 = true ∧ x.py.depth ≤ n) → PyData.canLayAll0 (D.pys xs) = true ∧ PyData.depthAll (D.pys xs) ≤ n
  | n, [], _ => by simp [D.pys, PyData.canLayAll0, PyData.depthAll]
  | n, x :: xs, h => by
    obtain ⟨h1, h2⟩ := h x (by simp)
    obtain ⟨h3, h4⟩ := lay_all (n := n) (xs := xs) fun y hy => h y (by simp [hy])
    simp only [D.pys, PyData.canLayAll0, PyData.depthAll, h1, h3, Bool.and_self, true_and]
    omega
theorem dOk_lay : ∀ (n : Nat) (d : D), dOk n d = true → d.py.canLay0 = true ∧ d.py.depth ≤ n
  | n, .non, _ => by simp [D.py, PyData.canLay0, PyData.depth]
  | n, .bl _, _ => by simp [D.py, PyData.canLay0, PyData.depth]
  | n, .int _, _ => by simp [D.py, PyData.canLay0, PyData.depth]
  | n, .str x, h => by
    have h' : PyData.strOk x = true := by
      cases n <;> exact h
    simp [D.py, PyData.canLay0, PyData.depth, h']
  | 0, .tup xs, h => by cases h
  | 0, .lst xs, h => by cases h
  | n + 1, .tup xs, h => by
    have h' : xs.all (dOk n) = true := h
    have z := lay_all (n := n) (xs := xs) fun x hx => dOk_lay n x (List.all_eq_true.mp h' x hx)
    simp only [D.py, PyData.canLay0, PyData.depth]
    exact ⟨z.1, Nat.succ_le_succ z.2⟩
  | n + 1, .lst xs, h => by
    have h' : xs.all (dOk n) = true := h
    have z := lay_all (n := n) (xs := xs) fun x hx => dOk_lay n x (List.all_eq_true.mp h' x hx)
    simp only [D.py, PyData.canLay0, PyData.depth]
    exact ⟨z.1, Nat.succ_le_succ z.2⟩
  | n, .dct _, h => by cases n <;> cases h
  | n, .ref _, h => by cases n <;> cases h
  | n, .ty _, h => by cases n <;> cases h
theorem dOk_shaped {n : Nat} {d : D} (h : dOk n d = true) (hn : n ≤ 64) : SeqAt.shaped d.py = true := by
  obtain ⟨h1, h2⟩ := dOk_lay n d h
  unfold SeqAt.shaped
  rw [h1, Bool.true_and]
  exact decide_eq_true (Nat.le_trans h2 hn)
theorem dOk_mono : ∀ {n m : Nat} {d : D}, dOk n d = true → n ≤ m → dOk m d = true
  | _, m, .non, _, _ => by cases m <;> rfl
  | _, m, .bl _, _, _ => by cases m <;> rfl
  | _, m, .int _, _, _ => by cases m <;> rfl
  | n, m, .str x, h, _ => by
    have h' : PyData.strOk x = true := by cases n <;> exact h
    cases m <;> exact h'
  | 0, _, .tup _, h, _ => by cases h
  | 0, _, .lst _, h, _ => by cases h
  | n + 1, 0, .tup xs, h, l => by omega
  | n + 1, 0, .lst xs, h, l => by omega
  | n + 1, m + 1, .tup xs, h, l => by
    have h' : xs.all (dOk n) = true := h
    show xs.all (dOk m) = true
    exact List.all_eq_true.mpr fun x hx => dOk_mono (List.all_eq_true.mp h' x hx) (Nat.le_of_succ_le_succ l)
  | n + 1, m + 1, .lst xs, h, l => by
    have h' : xs.all (dOk n) = true := h
    show xs.all (dOk m) = true
    exact List.all_eq_true.mpr fun x hx => dOk_mono (List.all_eq_true.mp h' x hx) (Nat.le_of_succ_le_succ l)
  | n, _, .dct _, h, _ => by cases n <;> cases h
  | n, _, .ref _, h, _ => by cases n <;> cases h
  | n, _, .ty _, h, _ => by cases n <;> cases h
section
variable {K : PySem.W.Frag} {H : Hp}
mutual
theorem Rep.dp : ∀ {n : Nat} {d : D} {v : V}, Rep K H d v → dOk n d = true → Dp K H v d.py
  | _, _, _, .non, _ => .non
  | _, _, _, .bl b, _ => .bl b
  | _, _, _, .int i, _ => .int i
  | _, _, _, .str x, _ => .str x
  | 0, _, _, .tup _ _ _, h => by cases h
  | 0, _, _, .lst _ _ _, h => by cases h
  | n + 1, _, _, .tup hs _ l, h => .tup hs (RepL.dp (n := n) l h)
  | n + 1, _, _, .lst hs _ l, h => .lst hs.seq (RepL.dp (n := n) l h)
  | n, _, _, .ref _, h => by cases n <;> cases h
  | n, _, _, .ty _, h => by cases n <;> cases h
  | n, _, _, .dct _ _ _, h => by cases n <;> cases h
theorem RepL.dp : ∀ {n : Nat} {ds : List D} {vs : List V}, RepL K H ds vs → ds.all (dOk n) = true → DpAll K H vs (D.pys ds)
  | _, _, _, .nil, _ => .nil
  | n, _, _, .cons r l, h => by
    rw [List.all_cons, Bool.and_eq_true] at h
    exact .cons (Rep.dp (n := n) r h.1) (RepL.dp (n := n) l h.2)
end
end
/-- == is identity where no truth value stands -/
def nobl : D → Bool
  | .bl _ => false
  | .tup xs => nobls xs
  | .lst xs => nobls xs
  | _ => true
where nobls : List D → Bool
  | [] => true
  | x :: xs => nobl x && nobls xs

/-! ### operators on data -/
section
variable {X : Cx}
def dEq : DR2 := fun x y M Q => (dOk 64 x = true ∧ dOk 64 y = true) ∧ Q (.bl (D.eqv x y)) M
def dNe : DR2 := fun x y M Q => (dOk 64 x = true ∧ dOk 64 y = true) ∧ Q (.bl (!D.eqv x y)) M
theorem o_eq (hu : X.A.units + 64 < cLine) : DOp X (compareOp .Eq) dEq := by
  intro pins s σ H x y v u Q I rx ry ⟨d, e, M, Q', r1, r2, m, ⟨⟨h1, h2⟩, q⟩, k⟩
  exact op_eqD hu pins s σ H x y v u Q I rx ry ⟨_, _, r1.dp h1, r2.dp h2, dOk_shaped h1 (Nat.le_refl _), dOk_shaped h2 (Nat.le_refl _), k _ _ M H (.refl H) (.bl _) m q⟩
theorem o_ne (hu : X.A.units + 64 < cLine) : DOp X (compareOp .NotEq) dNe := by
  intro pins s σ H x y v u Q I rx ry ⟨d, e, M, Q', r1, r2, m, ⟨⟨h1, h2⟩, q⟩, k⟩
  exact op_neD hu pins s σ H x y v u Q I rx ry ⟨_, _, r1.dp h1, r2.dp h2, dOk_shaped h1 (Nat.le_refl _), dOk_shaped h2 (Nat.le_refl _), k _ _ M H (.refl H) (.bl _) m q⟩
def D.isN : D → Bool
  | .non => true
  | _ => false
theorem Rep.isN {K : PySem.W.Frag} {H : Hp} {d : D} {v : V} (r : Rep K H d v) : decide (v = .non) = d.isN := by
  cases r <;> simp [D.isN]
def dIs : DR2 := fun x y M Q => y = .non ∧ Q (.bl x.isN) M
def dIsNot : DR2 := fun x y M Q => y = .non ∧ Q (.bl (!x.isN)) M
theorem o_is : DOp X (compareOp .Is) dIs := by
  intro pins s σ H x y v u Q I rx ry ⟨d, e, M, Q', r1, r2, m, ⟨h1, q⟩, k⟩
  subst h1
  cases r2
  exact op_isN pins s σ H x _ v u Q I rx ry ⟨rfl, by rw [r1.isN]; exact k _ _ M H (.refl H) (.bl _) m q⟩
theorem o_isnot : DOp X (compareOp .IsNot) dIsNot := by
  intro pins s σ H x y v u Q I rx ry ⟨d, e, M, Q', r1, r2, m, ⟨h1, q⟩, k⟩
  subst h1
  cases r2
  exact op_notN pins s σ H x _ v u Q I rx ry ⟨rfl, by rw [r1.isN]; exact k _ _ M H (.refl H) (.bl _) m q⟩
/-- x in a list or tuple of data -/
def dIn : DR2 := fun x y M Q => ∃ ys, dItems y M = some ys ∧ (dOk 63 x = true ∧ ys.all (dOk 63) = true) ∧ Q (.bl (ys.any fun z => D.eqv z x)) M
def dNotIn : DR2 := fun x y M Q => ∃ ys, dItems y M = some ys ∧ (dOk 63 x = true ∧ ys.all (dOk 63) = true) ∧ Q (.bl (!ys.any fun z => D.eqv z x)) M
theorem any_pys (x : D) : ∀ ys : List D, (D.pys ys).any (fun z => PyData.eqv z x.py) = ys.any fun z => D.eqv z x
  | [] => rfl
  | y :: ys => by
    rw [D.pys, List.any_cons, List.any_cons, any_pys x ys]
    rfl
theorem o_in (hu : X.A.units + 65 < cLine) : DOp X (compareOp .In) dIn := by
  intro pins s σ H x y v u Q I rx ry ⟨d, e, M, Q', r1, r2, m, ⟨ys, h1, ⟨h2, h3⟩, q⟩, k⟩
  have hs : SeqAt.shaped (PyData.list (D.pys ys)) = true := dOk_shaped (n := 64) (d := .lst ys) h3 (Nat.le_refl _)
  have hst : SeqAt.shaped (PyData.tuple (D.pys ys)) = true := dOk_shaped (n := 64) (d := .tup ys) h3 (Nat.le_refl _)
  have hx := dOk_shaped h2 (by decide)
  have fin := k _ _ M H (.refl H) (.bl _) m q
  rw [← any_pys] at fin
  obtain ⟨a, vs, rfl, z, l, ⟨h4, _⟩ | ⟨h4, _⟩⟩ := items_of r2 m h1
  · exact op_inD hu pins s σ H x _ v u Q I rx ry ⟨_, _, r1.dp h2, .lst h4 (l.dp h3), hx, hs, fin⟩
  · obtain ⟨as, q1⟩ := Dp.reads I _ x v (r1.dp h2) rx
    obtain ⟨bs, q2⟩ := Dp.reads I (.tuple (D.pys ys)) _ u (.tup h4 (l.dp h3)) ry
    exact SeqAt.in_tuple_reads q2 q1 (SeqAt.canLay_of_shaped hst) (SeqAt.canLay_of_shaped hx) (room_in_shaped hx hu) ⟨.bl _, H, I, rfl, fin⟩
theorem o_notin (hu : X.A.units + 65 < cLine) : DOp X (compareOp .NotIn) dNotIn := by
  intro pins s σ H x y v u Q I rx ry ⟨d, e, M, Q', r1, r2, m, ⟨ys, h1, ⟨h2, h3⟩, q⟩, k⟩
  have hs : SeqAt.shaped (PyData.list (D.pys ys)) = true := dOk_shaped (n := 64) (d := .lst ys) h3 (Nat.le_refl _)
  have hst : SeqAt.shaped (PyData.tuple (D.pys ys)) = true := dOk_shaped (n := 64) (d := .tup ys) h3 (Nat.le_refl _)
  have hx := dOk_shaped h2 (by decide)
  have fin := k _ _ M H (.refl H) (.bl _) m q
  rw [← any_pys] at fin
  obtain ⟨a, vs, rfl, z, l, ⟨h4, _⟩ | ⟨h4, _⟩⟩ := items_of r2 m h1
  · exact op_notInD hu pins s σ H x _ v u Q I rx ry ⟨_, _, r1.dp h2, .lst h4 (l.dp h3), hx, hs, fin⟩
  · obtain ⟨as, q1⟩ := Dp.reads I _ x v (r1.dp h2) rx
    obtain ⟨bs, q2⟩ := Dp.reads I (.tuple (D.pys ys)) _ u (.tup h4 (l.dp h3)) ry
    exact SeqAt.notIn_tuple_reads q2 q1 (SeqAt.canLay_of_shaped hst) (SeqAt.canLay_of_shaped hx) (room_in_shaped hx hu) ⟨.bl _, H, I, rfl, fin⟩
/-- xs[i] -/
def dIx : DR2 := fun x y M Q => ∃ xs i d, dItems x M = some xs ∧ y = .int i ∧ atI xs i = some d ∧ Q d M
theorem atI_rep {K : PySem.W.Frag} {H : Hp} {ds : List D} {vs : List V} {i : Int} {d : D} (l : RepL K H ds vs) (h : atI ds i = some d) : ∃ v, atI vs i = some v ∧ Rep K H d v := by
  unfold atI at h ⊢
  rw [← l.length]
  cases q : ixN ds.length i with
  | none => rw [q] at h; cases h
  | some j =>
    rw [q] at h
    exact l.get h
theorem x_ix : IxR X (upR2 X.K dIx) := by
  intro value slice pins s σ H x y v u Q I rx ry ⟨d, e, M, Q', r1, r2, m, ⟨xs, i, z, h1, h2, h3, q⟩, k⟩ hop
  subst h2
  cases r2
  obtain ⟨a, vs, rfl, zz, l, h⟩ := items_of r1 m h1
  obtain ⟨w, h4, h5⟩ := atI_rep l h3
  have fin := k _ _ M H (.refl H) h5 m q
  rcases h with ⟨h6, _⟩ | ⟨h6, _⟩
  · exact ix_list value slice pins s σ H _ _ v u Q I rx ry ⟨a, vs, i, w, rfl, rfl, h6, h4, fin⟩ hop
  · exact ix_tup value slice pins s σ H _ _ v u Q I rx ry ⟨a, vs, i, w, rfl, rfl, h6, h4, fin⟩ hop
theorem d_ix {r : DR2} {a b : Expr} {ta tb : DTE} {pos : Pos} (hr : IxR X (upR2 X.K r)) (ha : DE X a ta) (hb : DE X b tb) (hs : PlainIx b) : DE X (.Subscript a b pos) (dOp r ta tb) :=
  imE (pe_ix hr ha hb hs) fun σ H Q h => up_op (σ := σ) (H := H) (Q := Q) h
/-- -x -/
def dUn (r : D → DM → DVK → Prop) (ta : DTE) : DTE := fun m M Q => ta m M fun x M1 => r x M1 Q
def dNegI : D → DM → DVK → Prop := fun x M Q => ∃ i, x = .int i ∧ Q (.int (-i)) M
theorem d_neg {a : Expr} {ta : DTE} {pos : Pos} (ha : DE X a ta) : DE X (.UnaryOp .USub a pos) (dUn dNegI ta) :=
  imE (pe_un un_neg ha) fun σ H Q ⟨m, M, Q', r, q, k⟩ => by
    refine ⟨m, M, _, r, q, fun d v M1 H1 g1 r1 m1 ⟨i, e, q1⟩ => ?_⟩
    subst e
    cases r1
    exact ⟨i, rfl, k _ _ M1 H1 g1 (.int _) m1 q1⟩

/-! ### built-ins -/
def dLenOf : D → DM → Option Nat
  | .tup xs, _ => some xs.length
  | .lst xs, _ => some xs.length
  | .ref a, M => match M a with
    | some (.lst xs) => some xs.length
    | _ => none
  | .str z, _ => if z.length ≤ sizeLine then some z.length else none
  | _, _ => none
theorem dLenOf_ref {xs : List D} {M : DM} {a : Addr} (h : M a = some (.lst xs)) : dLenOf (.ref a) M = some xs.length := by
  simp [dLenOf, h]
def rLen : DCR := fun ds M Q => ∃ d n, ds = [d] ∧ dLenOf d M = some n ∧ Q (.int n) M
theorem len_items {d : D} {M : DM} {xs : List D} (h : dItems d M = some xs) : dLenOf d M = some xs.length := by
  cases d with
  | tup ys => cases h; rfl
  | lst ys => cases h; rfl
  | ref a =>
    have h' : (match M a with | some (.lst xs) => some xs | _ => none) = some xs := h
    show (match M a with | some (.lst xs) => some xs.length | _ => none) = some xs.length
    cases q : M a with
    | none => rw [q] at h'; cases h'
    | some o =>
      rw [q] at h'
      cases o with
      | lst ys => cases h'; rfl
      | dct _ _ => cases h'
      | tab _ => cases h'
      | dk _ => cases h'
  | _ => cases h
theorem c_len : DCall X (.builtin "len") rLen := by
  intro pins s σ H vs us Q I r ⟨ds, M, Q', l, m, ⟨d, n, e, h, q⟩, k⟩
  subst e
  obtain ⟨v, e, rv⟩ := repL_one l
  subst e
  have fin := k _ _ M H (.refl H) (.int _) m q
  cases hs : dItems d M with
  | some xs =>
    have e := len_items hs
    rw [h] at e
    cases e
    obtain ⟨a, ws, rfl, z, l, ⟨h4, _⟩ | ⟨h4, _⟩⟩ := items_of rv m hs
    · exact call_len_seq pins s σ H _ us Q I r ⟨a, ws, rfl, .inl h4, by rw [← l.length]; exact fin⟩
    · exact call_len_seq pins s σ H _ us Q I r ⟨a, ws, rfl, .inr h4, by rw [← l.length]; exact fin⟩
  | none =>
    cases rv with
    | str z =>
      by_cases hz : z.length ≤ sizeLine
      · have e : some z.length = some n := by
          rw [← h]
          simp [dLenOf, hz]
        cases e
        exact call_len_str pins s σ H _ us Q I r ⟨z, rfl, hz, fin⟩
      · simp [dLenOf, hz] at h
    | tup => cases hs
    | lst => cases hs
    | ref a =>
      have hs' : (match M a with | some (.lst xs) => some xs | _ => none) = none := hs
      have h' : (match M a with | some (.lst xs) => some xs.length | _ => none) = some n := h
      cases q : M a with
      | none => rw [q] at h'; cases h'
      | some o =>
        rw [q] at h' hs'
        cases o with
        | lst ys => cases hs'
        | dct _ _ => cases h'
        | tab _ => cases h'
        | dk _ => cases h'
    | _ => cases h
/-- .. with what is known of a list's length -/
def rLenB : DCR := fun ds M Q => ∃ d xs, ds = [d] ∧ dItems d M = some xs ∧ (xs.length ≤ 16777216 → Q (.int xs.length) M)
theorem c_lenB : DCall X (.builtin "len") rLenB := by
  intro pins s σ H vs us Q I r ⟨ds, M, Q', l, m, ⟨d, xs, e, h, q⟩, k⟩
  subst e
  obtain ⟨v, e, rv⟩ := repL_one l
  subst e
  obtain ⟨a, ws, _, z, l2, _⟩ := items_of rv m h
  have hz : xs.length ≤ 16777216 := by
    rw [l2.length]
    rw [sizeLine_eq] at z
    exact z
  exact c_len pins s σ H _ us Q I r ⟨[d], M, Q', l, m, ⟨d, _, rfl, len_items h, q hz⟩, k⟩
def rAbs : DCR := fun ds M Q => ∃ i : Int, ds = [.int i] ∧ Q (.int (if i < 0 then -i else i)) M
theorem c_abs : DCall X (.builtin "abs") rAbs := by
  intro pins s σ H vs us Q I r ⟨ds, M, Q', l, m, ⟨i, e, q⟩, k⟩
  subst e
  obtain ⟨v, e, rv⟩ := repL_one l
  subst e
  cases rv
  exact call_abs pins s σ H _ us Q I r ⟨i, rfl, k _ _ M H (.refl H) (.int _) m q⟩
def rMax2 : DCR := fun ds M Q => ∃ i j : Int, ds = [.int i, .int j] ∧ Q (.int (if j > i then j else i)) M
def rMin2 : DCR := fun ds M Q => ∃ i j : Int, ds = [.int i, .int j] ∧ Q (.int (if j < i then j else i)) M
theorem c_max2 (hc : X.calm = true) : DCall X (.builtin "max") rMax2 := by
  intro pins s σ H vs us Q I r ⟨ds, M, Q', l, m, ⟨i, j, e, q⟩, k⟩
  subst e
  obtain ⟨v, w, e, rv, rw'⟩ := repL_two l
  subst e
  cases rv
  cases rw'
  exact call_max2 hc pins s σ H _ us Q I r ⟨i, j, rfl, k _ _ M H (.refl H) (.int _) m q⟩
theorem c_min2 (hc : X.calm = true) : DCall X (.builtin "min") rMin2 := by
  intro pins s σ H vs us Q I r ⟨ds, M, Q', l, m, ⟨i, j, e, q⟩, k⟩
  subst e
  obtain ⟨v, w, e, rv, rw'⟩ := repL_two l
  subst e
  cases rv
  cases rw'
  exact call_min2 hc pins s σ H _ us Q I r ⟨i, j, rfl, k _ _ M H (.refl H) (.int _) m q⟩
def dIntOf : D → Option Int
  | .int i => some i
  | .bl b => some (if b then 1 else 0)
  | _ => none
def rInt : DCR := fun ds M Q => ∃ d i, ds = [d] ∧ dIntOf d = some i ∧ Q (.int i) M
theorem c_int : DCall X (.type "int") rInt := by
  intro pins s σ H vs us Q I r ⟨ds, M, Q', l, m, ⟨d, i, e, h, q⟩, k⟩
  subst e
  obtain ⟨v, e, rv⟩ := repL_one l
  subst e
  have fin := k _ _ M H (.refl H) (.int _) m q
  cases rv with
  | int j =>
    cases h
    exact call_int1 pins s σ H _ us Q I r (.inl ⟨_, rfl, fin⟩)
  | bl b =>
    cases h
    exact call_int1 pins s σ H _ us Q I r (.inr ⟨b, rfl, fin⟩)
  | _ => cases h
def rGcd : DCR := fun ds M Q => ∃ i j : Int, ds = [.int i, .int j] ∧ Q (.int ((Nat.gcd i.natAbs j.natAbs : Nat) : Int)) M
theorem c_gcd : DCall X (.builtin "math.gcd") rGcd := by
  intro pins s σ H vs us Q I r ⟨ds, M, Q', l, m, ⟨i, j, e, q⟩, k⟩
  subst e
  obtain ⟨v, w, e, rv, rw'⟩ := repL_two l
  subst e
  cases rv
  cases rw'
  exact cr_gcd pins s σ H _ us Q I r ⟨i, j, rfl, k _ _ M H (.refl H) (.int _) m q⟩
/-- tuple(x), list(x) -/
def rTuple : DCR := fun ds M Q => ∃ d xs, ds = [d] ∧ dItems d M = some xs ∧ Q (.tup xs) M
theorem c_tuple : DCall X (.type "tuple") rTuple := by
  intro pins s σ H vs us Q I r ⟨ds, M, Q', l, m, ⟨d, xs, e, h, q⟩, k⟩
  subst e
  obtain ⟨v, e, rv⟩ := repL_one l
  subst e
  obtain ⟨a, ws, rfl, z, l, ⟨h4, _⟩ | ⟨h4, h5⟩⟩ := items_of rv m h
  · exact call_tuple_of pins s σ H _ us Q I r ⟨a, ws, rfl, .inl ⟨h4, fun p hp => k _ _ M _ (.new hp) (.tup (.of upd_same) z (l.grow (.new hp))) (m.new hp) q⟩⟩
  · subst h5
    exact call_tuple_of pins s σ H _ us Q I r ⟨a, ws, rfl, .inr ⟨h4, k _ _ M H (.refl H) rv m q⟩⟩
def rList : DCR := fun ds M Q => ∃ d xs, ds = [d] ∧ dItems d M = some xs ∧ ∀ p, M p = none → Q (.ref p) (mput M p (.lst xs))
theorem c_list : DCall X (.type "list") rList := by
  intro pins s σ H vs us Q I r ⟨ds, M, Q', l, m, ⟨d, xs, e, h, q⟩, k⟩
  subst e
  obtain ⟨v, e, rv⟩ := repL_one l
  subst e
  obtain ⟨a, ws, rfl, z, l, h4⟩ := items_of rv m h
  refine call_list_of pins s σ H _ us Q I r ⟨a, ws, rfl, h4.elim (fun y => .inl y.1) fun y => .inr y.1, fun p hp => ?_⟩
  exact k _ _ _ _ (.new hp) (.ref p) (m.newLst hp z l) (q p (m.free hp))
/-- isinstance -/
def dTyN : D → DM → Option String
  | .non, _ => some "NoneType"
  | .bl _, _ => some "bool"
  | .int _, _ => some "int"
  | .str _, _ => some "str"
  | .tup _, _ => some "tuple"
  | .lst _, _ => some "list"
  | .dct _, _ => some "dict"
  | .ref a, M => match M a with
    | some (.lst _) => some "list"
    | some (.dk _) => some "dict"
    | _ => none
  | _, _ => none
theorem ty_of {K : PySem.W.Frag} {H : Hp} {M : DM} {d : D} {v : V} {n : String} (r : Rep K H d v) (m : RM K H M) (h : dTyN d M = some n) : TyX K H v (.type n) := by
  cases r with
  | non => cases h; exact .base .non
  | bl b => cases h; exact .base (.bl b)
  | int i => cases h; exact .base (.int i)
  | str x => cases h; exact .base (.str x)
  | tup hs _ _ =>
    cases h
    rcases hs with (h | ⟨o, h⟩) | ⟨o, _, _, h1, h2, _⟩
    · exact .base (.tup h)
    · exact .fTuple h
    · exact .kTuple h1 h2
  | lst hs _ _ =>
    cases h
    rcases hs with ⟨o, h⟩ | ⟨o, _, _, h1, h2, _⟩
    · exact .base (.frz h)
    · exact .kList h1 h2
  | ref a =>
    have h' : (match M a with | some (.lst _) => some "list" | some (.dk _) => some "dict" | _ => none) = some n := h
    cases q : M a with
    | none => rw [q] at h'; cases h'
    | some o =>
      rw [q] at h'
      cases o with
      | lst ys =>
        cases h'
        obtain ⟨vs, h1, _⟩ := m.lst q
        exact .base (.lst h1)
      | dct _ _ => cases h'
      | tab _ => cases h'
      | dk kvs =>
        cases h'
        obtain ⟨es, h1, _⟩ := m a _ q
        exact .base (.dK h1)
  | ty _ => cases h
  | dct hd _ _ =>
    cases h
    exact .fDict hd
/-- the types that stand here -/
def subT (a b : String) : Bool := a == b || (a == "bool" && b == "int")
def knownT (a : String) : Bool := a == "NoneType" || a == "bool" || a == "int" || a == "str" || a == "tuple" || a == "list" || a == "dict"
theorem kit_sub {a b : String} (ha : knownT a = true) (hb : knownT b = true) : kitB a b = some (subT a b) := by
  simp only [knownT, Bool.or_eq_true, beq_iff_eq] at ha hb
  rcases ha with (((((h | h) | h) | h) | h) | h) | h <;> subst h <;> rcases hb with (((((h | h) | h) | h) | h) | h) | h <;> subst h <;> decide +kernel
theorem tyN_known {d : D} {M : DM} {n : String} (h : dTyN d M = some n) : knownT n = true := by
  cases d with
  | ref a =>
    have h' : (match M a with | some (.lst _) => some "list" | some (.dk _) => some "dict" | _ => none) = some n := h
    cases q : M a with
    | none => rw [q] at h'; cases h'
    | some o =>
      rw [q] at h'
      cases o with
      | lst ys => cases h'; decide
      | dct _ _ => cases h'
      | tab _ => cases h'
      | dk _ => cases h'; decide
  | dct _ => cases h; decide
  | ty _ => cases h
  | _ => cases h; decide
def rIs : DCR := fun ds M Q => ∃ d T n, ds = [d, .ty T] ∧ knownT T = true ∧ dTyN d M = some n ∧ Q (.bl (subT n T)) M
theorem c_is : DCall X (.builtin "isinstance") rIs := by
  intro pins s σ H vs us Q I r ⟨ds, M, Q', l, m, ⟨d, T, n, e, hT, h, q⟩, k⟩
  subst e
  obtain ⟨v, w, e, rv, rw'⟩ := repL_two l
  subst e
  cases rw'
  exact call_isi pins s σ H _ us Q I r ⟨v, _, _, _, subT n T, rfl, .ty T, ty_of rv m h, kit_ty (kit_sub (tyN_known h) hT), k _ _ M H (.refl H) (.bl _) m q⟩
def tyNames : List D → Option (List String)
  | [] => some []
  | .ty T :: r => (tyNames r).map (T :: ·)
  | _ => none
theorem tyNames_map : ∀ {cs : List D} {Ts : List String}, tyNames cs = some Ts → cs = Ts.map D.ty
  | [], Ts, h => by
    cases h
    rfl
  | .ty T :: r, Ts, h => by
    have h' : (tyNames r).map (T :: ·) = some Ts := h
    cases q : tyNames r with
    | none => rw [q] at h'; cases h'
    | some Us =>
      rw [q] at h'
      cases h'
      rw [tyNames_map q]
      rfl
  | .non :: _, _, h => by cases h
  | .bl _ :: _, _, h => by cases h
  | .int _ :: _, _, h => by cases h
  | .str _ :: _, _, h => by cases h
  | .tup _ :: _, _, h => by cases h
  | .lst _ :: _, _, h => by cases h
  | .dct _ :: _, _, h => by cases h
  | .ref _ :: _, _, h => by cases h
def rIsT : DCR := fun ds M Q => ∃ (d : D) (cs : List D) (Ts : List String) (n : String), ds = [d, .tup cs] ∧ tyNames cs = some Ts ∧ Ts.all knownT = true ∧ dTyN d M = some n ∧ Q (.bl (Ts.any (subT n))) M
theorem kit_any {K : PySem.W.Frag} {n : String} (hn : knownT n = true) : ∀ {Ts : List String}, Ts.all knownT = true → PySem.W.kitAny K (.type n) (Ts.map Value.type) = some (Ts.any (subT n))
  | [], _ => kitAny_nil
  | T :: Ts, h => by
    rw [List.all_cons, Bool.and_eq_true] at h
    refine kitAny_cons (kit_ty (kit_sub hn h.1)) (fun e => ?_) fun e => ?_
    · rw [List.any_cons, e, Bool.false_or]
      exact kit_any hn h.2
    · rw [List.any_cons, e, Bool.true_or]
theorem ty_vals {K : PySem.W.Frag} {H : Hp} : ∀ {Ts : List String} {vs : List V} {its : List Value}, RepL K H (Ts.map D.ty) vs → Vals vs its → its = Ts.map Value.type
  | [], _, _, l, r => by
    cases l
    cases r
    rfl
  | T :: Ts, _, _, l, r => by
    cases l with
    | cons h t =>
      cases h
      cases r with
      | cons h2 t2 =>
        rw [ty_vals t t2, show _ = Value.type T from h2]
        rfl
theorem c_isT : DCall X (.builtin "isinstance") rIsT := by
  intro pins s σ H vs us Q I r ⟨ds, M, Q', l, m, ⟨d, cs, Ts, n, e, e0, hT, h, q⟩, k⟩
  subst e
  obtain ⟨v, w, e, rv, rw'⟩ := repL_two l
  subst e
  rw [tyNames_map e0] at rw'
  cases rw' with
  | tup hs _ l2 =>
    obtain ⟨u1, u2, rfl, r1, r2⟩ := vals2 r
    cases r2
    obtain ⟨P, Z, p, hx⟩ := kit_of I r1 (ty_of rv m h)
    obtain ⟨its, rr, ⟨⟨oc, od, dt, sl⟩, h1, h2, n', h3⟩, _⟩ := I.tuple hs
    simp only at h2 h3
    subst h2 h3
    have e3 := ty_vals l2 rr
    exact PySem.W.kia_tup Z I.kIn p h1 (by
      simp only [e3]
      exact kit_any (tyN_known h) hT) hx fun tk => ⟨.bl _, H, I.tok tk, rfl, k _ _ M H (.refl H) (.bl _) m q⟩
/-- both forms of isinstance -/
theorem DCall.or {f : Value} {r r' : DCR} (h : DCall X f r) (h' : DCall X f r') : DCall X f (fun ds M Q => r ds M Q ∨ r' ds M Q) := by
  intro pins s σ H vs us Q I rv z
  obtain ⟨ds, M, Q', l, m, q | q, k⟩ := z
  · exact h pins s σ H vs us Q I rv ⟨ds, M, Q', l, m, q, k⟩
  · exact h' pins s σ H vs us Q I rv ⟨ds, M, Q', l, m, q, k⟩
/-- a built-in type as a value -/
theorem d_ty {x : Str} {T : String} {pos : Pos} (hg : Gl X x) (hm : X.mg x = none) (hv : bootBuiltins x = some (.type T)) (hn : x ≠ "__name__" := by decide) (hd : (x == ("__debug__" : Str)) = false := by decide) : DE X (.Name x pos) (dC (.ty T)) :=
  d_c (v := .ty T) (pe_bltn hg hm hv rfl hn hd) fun _ _ => .ty T
/-- a module's constant -/
theorem d_gl {x : Str} {u : Value} {v : V} {d : D} {pos : Pos} (hg : Gl X x) (hm : X.mg x = some u) (rv : RelV v u) (hr : ∀ K H, Rep K H d v) (hd : (x == ("__debug__" : Str)) = false := by decide) : DE X (.Name x pos) (dC d) :=
  d_c (pe_glob hg hm rv hd) hr

/-! ### methods of lists -/
variable {o e : Expr} {es : List Expr} {to : DTE} {t : DTA} {name : Str} {apos cpos : Pos} {id : String}
abbrev DMR := D → List D → DM → DVK → Prop
def upM (K : PySem.W.Frag) (dr : DMR) : V → List V → Hp → VK → Prop := fun x vs H Q => ∃ d ds M Q', Rep K H d x ∧ RepL K H ds vs ∧ RM K H M ∧ dr d ds M Q' ∧
  ∀ d v M' H', Grow H H' → Rep K H' d v → RM K H' M' → Q' d M' → Q v H'
def dMt0 (dr : DMR) (to : DTE) : DTE := fun m M Q => to m M fun d M1 => (∃ xs, dItems d M1 = some xs ∧ d ≠ .tup xs) ∧ dr d [] M1 Q
def dMt (dr : DMR) (to : DTE) (t : DTA) : DTE := fun m M Q => to m M fun d M1 => (∃ xs, dItems d M1 = some xs ∧ d ≠ .tup xs) ∧ t m M1 fun ds M2 => dr d ds M2 Q
theorem tyV_lst {K : PySem.W.Frag} {H : Hp} {M : DM} {d : D} {v : V} (r : Rep K H d v) (m : RM K H M) (h : ∃ xs, dItems d M = some xs ∧ d ≠ .tup xs) : tyV K "list" v H := by
  obtain ⟨xs, h1, h2⟩ := h
  obtain ⟨a, vs, rfl, z, l, ⟨h4, _⟩ | ⟨_, h5⟩⟩ := items_of r m h1
  · exact .inl ⟨rfl, vs, h4⟩
  · exact absurd h5 h2
theorem d_mt0 {dr : DMR} (slot : Slot "list" name id) (hty : typeOf (.builtin id) = pure (.type "method_descriptor")) (hm : MtR X id (upM X.K dr)) (ho : DE X o to)
    (hbase : attributeBase o name X.env (eval o X.env) = eval o X.env := by rfl) (hline : (apos.endLine == cpos.line) = true := by rfl) : DE X (.Call (.Attribute o name apos) [] [] cpos) (dMt0 dr to) :=
  imE (pe_bm0 PySem.F.plainAttrs_list slot hty hm ho hbase hline) fun σ H Q ⟨m, M, Q', r, q, k⟩ => by
    refine ⟨m, M, _, r, q, fun d v M1 H1 g1 r1 m1 ⟨ty, q1⟩ => ⟨tyV_lst r1 m1 ty, d, [], M1, Q', r1, .nil, m1, q1, fun d v M2 H2 g2 => k d v M2 H2 (g1.trans g2)⟩⟩
theorem d_mt {dr : DMR} (slot : Slot "list" name id) (hty : typeOf (.builtin id) = pure (.type "method_descriptor")) (hm : MtR X id (upM X.K dr)) (ho : DE X o to) (ha : DA X (e :: es) t)
    (hbase : attributeBase o name X.env (eval o X.env) = eval o X.env := by rfl)
    (hfew : ((backTo cpos (starEach (e :: es) X.env)).all (fun x => !x.1) && (backToKw cpos (keywordEach [] X.env)).all (fun x => x.1.isSome)
      && decide ((e :: es).length + ([] : List Keyword).length + (if ([] : List Keyword).isEmpty then 0 else 1) < 30)) = true := by rfl)
    (hline : (apos.endLine == cpos.line) = true := by rfl) (hs : starEach (e :: es) X.env = (false, eval e X.env) :: starEach es X.env := by rfl) (hplain : (backTo cpos (starEach es X.env)).any (·.1) = false := by rfl) :
    DE X (.Call (.Attribute o name apos) (e :: es) [] cpos) (dMt dr to t) :=
  imE (pe_bm PySem.F.plainAttrs_list slot hty hm ho ha hbase hfew hline hs hplain) fun σ H Q ⟨m, M, Q', r, q, k⟩ => by
    refine ⟨m, M, _, r, q, fun d v M1 H1 g1 r1 m1 ⟨ty, q1⟩ => ⟨tyV_lst r1 m1 ty, m, M1, _, r.grow g1 m1, q1, fun ds vs M2 H2 g2 l2 m2 q2 => ?_⟩⟩
    exact ⟨d, ds, M2, Q', r1.grow g2, l2, m2, q2, fun d v M3 H3 g3 => k d v M3 H3 ((g1.trans g2).trans g3)⟩
def mAppend : DMR := fun d ds M Q => ∃ a xs y, d = .ref a ∧ ds = [y] ∧ M a = some (.lst xs) ∧ xs.length < sizeLine ∧ Q .non (mput M a (.lst (xs ++ [y])))
theorem m_append : MtR X "list.append" (upM X.K mAppend) := by
  intro pins s σ H x vs v us Q I rx rv ⟨d, ds, M, Q', r1, l, m, ⟨a, xs, y, e1, e2, h, hz, q⟩, k⟩
  subst e1
  subst e2
  cases r1
  obtain ⟨w, e, rw'⟩ := repL_one l
  subst e
  obtain ⟨ws, h1, z, l1⟩ := m.lst h
  refine mt_append pins s σ H _ _ v us Q I rx rv ⟨a, ws, w, rfl, rfl, h1, by rw [← l1.length]; exact hz, ?_⟩
  exact k _ _ _ _ (.put h1) .non (m.putLst h1 (by rw [List.length_append, ← l1.length]; exact hz) (l1.append (.one rw'))) q
def mPop : DMR := fun d ds M Q => ∃ a xs y, d = .ref a ∧ ds = [] ∧ M a = some (.lst xs) ∧ xs.getLast? = some y ∧ Q y (mput M a (.lst xs.dropLast))
theorem m_pop : MtR X "list.pop" (upM X.K mPop) := by
  intro pins s σ H x vs v us Q I rx rv ⟨d, ds, M, Q', r1, l, m, ⟨a, xs, y, e1, e2, h, hy, q⟩, k⟩
  subst e1
  subst e2
  cases r1
  cases l
  obtain ⟨ws, h1, z, l1⟩ := m.lst h
  rw [List.getLast?_eq_getElem?] at hy
  obtain ⟨w, h2, h3⟩ := l1.get hy
  rw [l1.length] at h2
  refine mt_pop pins s σ H _ _ v us Q I rx rv ⟨a, ws, w, rfl, rfl, h1, h2, ?_⟩
  exact k _ _ _ _ (.put h1) (h3.grow (.put h1)) (m.putLst h1 (by rw [List.length_dropLast]; omega) l1.dropLast) q
def mReverse : DMR := fun d ds M Q => ∃ a xs, d = .ref a ∧ ds = [] ∧ M a = some (.lst xs) ∧ Q .non (mput M a (.lst xs.reverse))
theorem m_reverse : MtR X "list.reverse" (upM X.K mReverse) := by
  intro pins s σ H x vs v us Q I rx rv ⟨d, ds, M, Q', r1, l, m, ⟨a, xs, e1, e2, h, q⟩, k⟩
  subst e1
  subst e2
  cases r1
  cases l
  obtain ⟨ws, h1, z, l1⟩ := m.lst h
  refine mt_reverse pins s σ H _ _ v us Q I rx rv ⟨a, ws, rfl, rfl, h1, ?_⟩
  exact k _ _ _ _ (.put h1) .non (m.putLst h1 (by rw [List.length_reverse]; exact z) l1.reverse) q
/-- xs[i] = v -/
def upSt (K : PySem.W.Frag) (t : D → D → D → DM → (DM → Prop) → Prop) : TSet := fun o i v H Q => ∃ d e y M Q', Rep K H d o ∧ Rep K H e i ∧ Rep K H y v ∧ RM K H M ∧ t d e y M Q' ∧
  ∀ M' H', Grow H H' → RM K H' M' → Q' M' → Q H'
abbrev DSet (X : Cx) (t : D → D → D → DM → (DM → Prop) → Prop) : Prop := PSet X (upSt X.K t)
def dSetL : D → D → D → DM → (DM → Prop) → Prop := fun o i v M Q => ∃ a xs k j, o = .ref a ∧ i = .int k ∧ M a = some (.lst xs) ∧ ixN xs.length k = some j ∧ Q (mput M a (.lst (xs.set j v)))
theorem s_lst : DSet X dSetL := by
  intro pins s σ H o i v ov iv u Q I ro ri rv ⟨d, e, y, M, Q', r1, r2, r3, m, ⟨a, xs, kk, j, e1, e2, h, hj, q⟩, k⟩
  subst e1
  subst e2
  cases r1
  cases r2
  obtain ⟨ws, h1, z, l1⟩ := m.lst h
  refine set_list pins s σ H _ _ v ov iv u Q I ro ri rv ⟨a, ws, kk, j, rfl, rfl, h1, by rw [← l1.length]; exact hj, ?_⟩
  exact k _ _ (.put h1) (m.putLst h1 (by rw [List.length_set]; exact z) (l1.set j r3)) q
/-- o[i] = e -/
def dPut (te to ti : DTE) (t : D → D → D → DM → (DM → Prop) → Prop) : DTS := fun Z m M => te m M fun v M1 => to m M1 fun d M2 => ti m M2 fun i M3 => t d i v M3 fun M4 => Z.nx m M4
theorem ds_put {i e : Expr} {te ti : DTE} {pos pos' : Pos} {tt : D → D → D → DM → (DM → Prop) → Prop} (he : DE X e te) (ho : DE X o to) (hi : DE X i ti) (hs : DSet X tt)
    (ha : ∀ v, assign (.Subscript o i pos) X.env v = (do
      let ov ← holding [v] (eval o X.env)
      let iv ← holding [v, ov] (eval i X.env)
      standAt pos
      holding [v, ov, iv] (setItem ov iv v)
      release [v, ov, iv] []) := by intro _; rfl)
    (hsw : swapsWithSole [.Subscript o i pos] e pos'.line X.env = pure false := by rfl) (hw : swappedStores [.Subscript o i pos] e X.env = pure none := by rfl)
    (h1 : (assignEach [.Subscript o i pos] X.env).map (·.2) = [assign (.Subscript o i pos) X.env] := by rfl) : DS X (.Assign [.Subscript o i pos] e pos') (dPut te to ti tt) :=
  imS (ps_asg he (pg_sub ho hi hs ha) hsw hw h1) fun Z σ H ⟨m, M, Z', r, q, k⟩ => by
    refine ⟨m, M, _, r, q, fun v x M1 H1 g1 r1 m1 q1 => ?_⟩
    refine ⟨m, M1, _, r.grow g1 m1, q1, fun d y M2 H2 g2 r2 m2 q2 => ?_⟩
    refine ⟨m, M2, _, r.grow (g1.trans g2) m2, q2, fun i z M3 H3 g3 r3 m3 q3 => ?_⟩
    refine ⟨d, i, v, M3, _, r2.grow g3, r3, r1.grow (g2.trans g3), m3, q3, fun M4 H4 g4 m4 q4 => ?_⟩
    have g := (g1.trans g2).trans (g3.trans g4)
    exact k.nx m M4 σ H4 g (r.grow g m4) q4
end
end DL
namespace DL
open PySem PySem.Spec PyProof.Rows L2
section
variable {X : Cx} {elt tg iter : Expr} {ifs : List Expr} {scope : Scope} {own : List (Str × Nat)} {pos spos py : Pos} {t : DTI} {g : DTG} {tt : DTT} {te : DTE} {ws : List Nat} {y : Str} {i : Nat}
/-- name = [..] on one line -/
theorem ds_setLc (hc : X.calm = true) (hN : X.N.Nodup) (hy : X.N[i]? = some y) (hyl : X.env.scope.names.lookup y = some .local)
    (hsw : swapsWith (.ListComp elt [⟨tg, iter, ifs, 0⟩] scope pos) (some (.Name y py)) spos.line X.env = pure true) (hi : DI X tg iter t) (ok : BlkOk X.N X.env.scope scope own) (hsub : ∀ i ∈ ws, i ∈ own.map (·.2))
    (hg : ∀ (s : Shared) (H : Hp) (C : Addr) (cl : List (Str × Addr)) (fp : List Addr), DG (X.blk s H scope (compEnvC scope cl C X.env) fp) ws tg g)
    (ht : ∀ (s : Shared) (H : Hp) (C : Addr) (cl : List (Str × Addr)) (fp : List Addr), DPTs (X.blk s H scope (compEnvC scope cl C X.env) fp) ifs tt)
    (he : ∀ (s : Shared) (H : Hp) (C : Addr) (cl : List (Str × Addr)) (fp : List Addr), DE (X.blk s H scope (compEnvC scope cl C X.env) fp) elt te)
    (hs : ∀ x, foldedSetIterable iter X.env x = pure x := by intro _; rfl) : DS X (.Assign [.Name y py] (.ListComp elt [⟨tg, iter, ifs, 0⟩] scope pos) spos) (dSet i (dLc t g tt te (own.map (·.2)))) :=
  imS (ps_setLc hc hN hy hyl hsw hi ok hg ht he hs) fun Z σ H ⟨m, M, Z', r, q, k⟩ =>
    lc_up (Qf := fun p _ M2 => Z'.nx (m.set i (some (.ref p))) M2) hsub (fun p acc ws M2 H2 g2 m2 _ _ _ _ q2 => k.nx _ M2 _ H2 g2 ((r.grow g2 m2).set (.ref p)) q2) m M r q
/-- behind a statement slot i's list is frozen -/
theorem ps_after {st : Stmt} {t : TS} (i : Nat) (h : PS X st t) : PS X st (fun Z σ H => t { Z with nx := fun σ' H' => ∃ p vs, σ'[i]? = some (some (.ref p)) ∧ H' p = some (.lst vs) ∧ ∀ o, Z.nx σ' (upd H' p (.frz o (.lst vs))) } σ H) := by
  refine ⟨fun pins s σ H Z I q => thn (h.run pins s σ H _ I q) fun f s1 q1 => ?_⟩
  cases f with
  | next =>
    obtain ⟨σ', H', I', p, vs, _, e2, q2⟩ := q1
    obtain ⟨o, I2⟩ := inv_frz I' e2
    exact ⟨σ', _, I2, q2 o⟩
  | ret v => exact q1
  | brk => exact q1
  | cont => exact q1
theorem ds_setLcF (hc : X.calm = true) (hN : X.N.Nodup) (hy : X.N[i]? = some y) (hyl : X.env.scope.names.lookup y = some .local)
    (hsw : swapsWith (.ListComp elt [⟨tg, iter, ifs, 0⟩] scope pos) (some (.Name y py)) spos.line X.env = pure true) (hi : DI X tg iter t) (ok : BlkOk X.N X.env.scope scope own) (hsub : ∀ i ∈ ws, i ∈ own.map (·.2))
    (hg : ∀ (s : Shared) (H : Hp) (C : Addr) (cl : List (Str × Addr)) (fp : List Addr), DG (X.blk s H scope (compEnvC scope cl C X.env) fp) ws tg g)
    (ht : ∀ (s : Shared) (H : Hp) (C : Addr) (cl : List (Str × Addr)) (fp : List Addr), DPTs (X.blk s H scope (compEnvC scope cl C X.env) fp) ifs tt)
    (he : ∀ (s : Shared) (H : Hp) (C : Addr) (cl : List (Str × Addr)) (fp : List Addr), DE (X.blk s H scope (compEnvC scope cl C X.env) fp) elt te)
    (hs : ∀ x, foldedSetIterable iter X.env x = pure x := by intro _; rfl) (hil : i < X.N.length := by exact Nat.le_of_ble_eq_true rfl) : DS X (.Assign [.Name y py] (.ListComp elt [⟨tg, iter, ifs, 0⟩] scope pos) spos) (dSet i (dLcF t g tt te (own.map (·.2)))) := by
  refine ⟨fun pins s σ H Z I h => (ps_after i (ps_setLc (wi := upI X.K t) (g := upG X.K ws g) (tt := upT X.K tt) (te := upE X.K te) hc hN hy hyl hsw hi ok hg ht he hs)).run pins s σ H Z I ?_⟩
  obtain ⟨m, M, Z', r, q, k⟩ := h
  have hσ : i < σ.length := by rw [I.len]; exact hil
  refine lc_up (Qf := fun p acc M2 => Z'.nx (m.set i (some (.lst acc))) (mdel M2 p)) hsub (fun p acc ws M2 H2 g2 m2 h8 z8 l8 _ q2 => ?_) m M r q
  refine ⟨p, ws, List.getElem?_set_self hσ, h8, fun o => k.nx _ _ _ _ (g2.trans (.put h8)) ?_ q2⟩
  exact (r.grow (g2.trans (.put h8)) (m2.frz h8)).set (.lst (.inl ⟨o, upd_same⟩) z8 (l8.grow (.put h8)))
theorem mput_self {M : DM} {a : Addr} {o : DO} (h : M a = some o) : mput M a o = M := by
  funext b
  unfold mput
  split
  · next e => rw [e, h]
  · rfl
end
end DL
namespace DL
open PySem PySem.Spec PyProof.Rows L2
/-! ### promises by the number of arguments -/
def ar0 (p : DM → DVK → Prop) : DSp := fun ds M Q => ds = [] ∧ p M Q
def ar1 (p : D → DM → DVK → Prop) : DSp := fun ds M Q => ∃ a, ds = [a] ∧ p a M Q
def ar2 (p : D → D → DM → DVK → Prop) : DSp := fun ds M Q => ∃ a b, ds = [a, b] ∧ p a b M Q
def ar3 (p : D → D → D → DM → DVK → Prop) : DSp := fun ds M Q => ∃ a b c, ds = [a, b, c] ∧ p a b c M Q
def ar4 (p : D → D → D → D → DM → DVK → Prop) : DSp := fun ds M Q => ∃ a b c d, ds = [a, b, c, d] ∧ p a b c d M Q
def ar5 (p : D → D → D → D → D → DM → DVK → Prop) : DSp := fun ds M Q => ∃ a b c d e, ds = [a, b, c, d, e] ∧ p a b c d e M Q
def ar6 (p : D → D → D → D → D → D → DM → DVK → Prop) : DSp := fun ds M Q => ∃ a b c d e f, ds = [a, b, c, d, e, f] ∧ p a b c d e f M Q
theorem len0 {p} {ds : List D} {M : DM} {Q : DVK} (h : ar0 p ds M Q) : ds.length = 0 := by obtain ⟨rfl, _⟩ := h; rfl
theorem len1 {p} {ds : List D} {M : DM} {Q : DVK} (h : ar1 p ds M Q) : ds.length = 1 := by obtain ⟨_, rfl, _⟩ := h; rfl
theorem len2 {p} {ds : List D} {M : DM} {Q : DVK} (h : ar2 p ds M Q) : ds.length = 2 := by obtain ⟨_, _, rfl, _⟩ := h; rfl
theorem len3 {p} {ds : List D} {M : DM} {Q : DVK} (h : ar3 p ds M Q) : ds.length = 3 := by obtain ⟨_, _, _, rfl, _⟩ := h; rfl
theorem len4 {p} {ds : List D} {M : DM} {Q : DVK} (h : ar4 p ds M Q) : ds.length = 4 := by obtain ⟨_, _, _, _, rfl, _⟩ := h; rfl
theorem len5 {p} {ds : List D} {M : DM} {Q : DVK} (h : ar5 p ds M Q) : ds.length = 5 := by obtain ⟨_, _, _, _, _, rfl, _⟩ := h; rfl
theorem len6 {p} {ds : List D} {M : DM} {Q : DVK} (h : ar6 p ds M Q) : ds.length = 6 := by obtain ⟨_, _, _, _, _, _, rfl, _⟩ := h; rfl
theorem hu_eq {k : Nat} {A : Around} (hr : Room k A) : A.units + 64 < cLine := hr.units
theorem hu_in {k : Nat} {A : Around} (hr : Room k A) : A.units + 65 < cLine := by
  have := hr.un
  omega
section
variable {P : Program} {w : World} {K : PySem.W.Frag} {mg : Str → Option Value} {base : Heap} {k : Nat} {x : Str} {ps N : List Str} {dsp : DSp} {st : Stmt}
/-- THE RULE for a def, its function object at hand -/
theorem fn_ok {f : Addr} {fd : FuncData} (F : Fun K x x st f fd) (S : FnScope N ps (defScope st)) (len : ∀ ds M Q, dsp ds M Q → ds.length = ps.length) {t : DTS}
    (body : ∀ (f : Addr) (cdv : Value) (A : Around) (outer : List Env) (s : Shared) (H : Hp) (E : XK), Room k (A.deeper (envOfC x (defScope st) s.heap.objs.size f cdv)) → DSs (Ctx P w K mg base N x st f cdv A outer s H E) (defBody st) t)
    (rd : ∀ ds M Q, dsp ds M Q → t (dEnds Q) (dstart N ds) M) : FnOk P w K mg base CX0 (k + 1) f fd ps (upSp K dsp) := by
  refine F.ok S (fun vs H Q E ⟨ds, M, Q', l, _, q, _⟩ => by rw [← l.length]; exact len ds M Q' q) (fun cdv A outer s H vs Q E hr ⟨ds, M, Q', l, m, q, kk⟩ => ?_)
  refine ⟨_, body f cdv A outer s H E hr, dstart N ds, M, dEnds Q', ⟨?_, fun i d e => start_slot l e, m⟩, rd ds M Q' q,
    ⟨fun m1 M1 σ1 H1 g1 r1 ⟨M0, le, q1⟩ => kk _ _ M0 H1 g1 .non (r1.mem.le le) q1, fun _ _ _ _ _ _ z => z.elim, fun _ _ _ _ _ _ z => z.elim, fun d v M1 H1 g1 r1 m1 ⟨M0, le, q1⟩ => kk d v M0 H1 g1 r1 (m1.le le) q1⟩⟩
  simp [dstart, L2.start, l.length]
end
/-- the law's own promise: for every list of at most 63 ints it gives True -/
def sp_law : DSp := ar1 fun a _ Q => ∃ ns : List Int, ns.length ≤ 63 ∧ a = .lst (ns.map D.int) ∧ ∀ M', Q (.bl true) M'
theorem law_start {K : PySem.W.Frag} {H : Hp} {a : Addr} {ns : List Int} {E : XK} (hl : ns.length ≤ 63) (hO : Only H) (hS : SqL K H a (ns.map V.int)) : upSp K sp_law [.ref a] H (fun v _ => v = .bl true) E := by
  have hz : (ns.map V.int).length ≤ sizeLine := by
    rw [List.length_map]
    have := sizeLine_eq
    omega
  have hf : FrzL K H a (ns.map V.int) := by
    rcases hS with (h | ⟨o, h⟩) | h
    · rcases hO a with z | ⟨o, xs, z⟩ <;> (rw [z] at h; cases h)
    · exact .inl ⟨o, h⟩
    · exact .inr h
  refine ⟨[.lst (ns.map D.int)], fun _ => none, fun d _ => d = .bl true, .one (.lst hf hz (repL_ints ns)), (fun b o e => nomatch e), ⟨_, rfl, ns, hl, rfl, fun _ => rfl⟩, fun d v M' H' _ r _ q => ?_⟩
  subst q
  cases r
  rfl
end DL
namespace DL
open PySem PySem.Spec PyProof.Rows L2
/-! ### what the readings' steps need, as rewriting -/
theorem eqv_int (i j : Int) : D.eqv (.int i) (.int j) = decide (i = j) := by
  simp [D.eqv, D.py, PyData.eqv, Bool.beq_eq_decide_eq]
theorem eqv_str (i j : Str) : D.eqv (.str i) (.str j) = decide (i = j) := by
  simp [D.eqv, D.py, PyData.eqv, Bool.beq_eq_decide_eq]
theorem eqv_bl (i j : Bool) : D.eqv (.bl i) (.bl j) = (i == j) := by
  simp [D.eqv, D.py, PyData.eqv]
theorem dItems_rf (a : Addr) (M : DM) : dItems (.ref a) M = match M a with
  | some (.lst xs) => some xs
  | _ => none := rfl
theorem dLenOf_tup (xs : List D) (M : DM) : dLenOf (.tup xs) M = some xs.length := rfl
theorem dLenOf_lst (xs : List D) (M : DM) : dLenOf (.lst xs) M = some xs.length := rfl
theorem dLenOf_rf (a : Addr) (M : DM) : dLenOf (.ref a) M = match M a with
  | some (.lst xs) => some xs.length
  | _ => none := rfl
theorem dLenOf_str (z : Str) (M : DM) : dLenOf (.str z) M = if z.length ≤ sizeLine then some z.length else none := rfl
theorem dTyN_non (M : DM) : dTyN .non M = some "NoneType" := rfl
theorem dTyN_bl (b : Bool) (M : DM) : dTyN (.bl b) M = some "bool" := rfl
theorem dTyN_int (b : Int) (M : DM) : dTyN (.int b) M = some "int" := rfl
theorem dTyN_str (b : Str) (M : DM) : dTyN (.str b) M = some "str" := rfl
theorem dTyN_tup (b : List D) (M : DM) : dTyN (.tup b) M = some "tuple" := rfl
theorem dTyN_lst (b : List D) (M : DM) : dTyN (.lst b) M = some "list" := rfl
theorem dTyN_dct (b : List (D × D)) (M : DM) : dTyN (.dct b) M = some "dict" := rfl
theorem dTyN_rf (a : Addr) (M : DM) : dTyN (.ref a) M = match M a with
  | some (.lst _) => some "list"
  | some (.dk _) => some "dict"
  | _ => none := rfl
theorem dIntOf_int (i : Int) : dIntOf (.int i) = some i := rfl
theorem dIntOf_bl (b : Bool) : dIntOf (.bl b) = some (if b then 1 else 0) := rfl
theorem dAt_tup (xs : List D) : dAt (.tup xs) = none := rfl
theorem dAt_lst (xs : List D) : dAt (.lst xs) = none := rfl
theorem dAt_rf (a : Addr) : dAt (.ref a) = some a := rfl
theorem isN_non : D.isN .non = true := rfl
theorem isN_bl (b : Bool) : D.isN (.bl b) = false := rfl
theorem isN_int (b : Int) : D.isN (.int b) = false := rfl
theorem isN_str (b : Str) : D.isN (.str b) = false := rfl
theorem isN_tup (b : List D) : D.isN (.tup b) = false := rfl
theorem isN_lst (b : List D) : D.isN (.lst b) = false := rfl
theorem isN_rf (b : Addr) : D.isN (.ref b) = false := rfl
theorem eqv_non : D.eqv .non .non = true := by
  simp [D.eqv, D.py, PyData.eqv]
theorem eqv_refl {n : Nat} {d : D} (h : dOk n d = true) : D.eqv d d = true := PySem.SeqAt.eqv_refl _ (dOk_lay n d h).1
@[simp] theorem dOk_int (n : Nat) (i : Int) : dOk n (.int i) = true := by cases n <;> rfl
@[simp] theorem dOk_bl (n : Nat) (i : Bool) : dOk n (.bl i) = true := by cases n <;> rfl
@[simp] theorem dOk_non (n : Nat) : dOk n .non = true := by cases n <;> rfl
theorem dOk_str (n : Nat) (x : Str) : dOk n (.str x) = PyData.strOk x := by cases n <;> rfl
@[simp] theorem dOk_tup (n : Nat) (xs : List D) : dOk (n + 1) (.tup xs) = xs.all (dOk n) := rfl
@[simp] theorem dOk_lst (n : Nat) (xs : List D) : dOk (n + 1) (.lst xs) = xs.all (dOk n) := rfl
theorem atI_0 {α : Type} (x : α) (xs : List α) : atI (x :: xs) 0 = some x := atI_nat (j := 0) rfl
theorem atI_1 {α : Type} (x y : α) (xs : List α) : atI (x :: y :: xs) 1 = some y := atI_nat (j := 1) rfl
theorem atI_2 {α : Type} (x y z : α) (xs : List α) : atI (x :: y :: z :: xs) 2 = some z := atI_nat (j := 2) rfl
theorem atI_3 {α : Type} (x y z u : α) (xs : List α) : atI (x :: y :: z :: u :: xs) 3 = some u := atI_nat (j := 3) rfl
theorem atI_4 {α : Type} (x y z u v : α) (xs : List α) : atI (x :: y :: z :: u :: v :: xs) 4 = some v := atI_nat (j := 4) rfl
theorem atI_5 {α : Type} (x y z u v w : α) (xs : List α) : atI (x :: y :: z :: u :: v :: w :: xs) 5 = some w := atI_nat (j := 5) rfl
theorem atI_n {α : Type} (xs : List α) (n : Nat) : atI xs (n : Int) = xs[n]? := by
  unfold atI ixN
  rw [if_pos (by omega)]
  by_cases h : n < xs.length
  · rw [if_pos (by omega)]
    simp
  · rw [if_neg (by omega), List.getElem?_eq_none (by omega)]
    rfl
theorem atI_neg1 {α : Type} (xs : List α) : atI xs (-1) = xs.getLast? := by
  cases xs with
  | nil => rfl
  | cons x r =>
    rw [List.getLast?_eq_getElem?]
    unfold atI ixN
    rw [if_neg (by omega), if_pos (by rw [List.length_cons]; omega)]
    show (x :: r)[(-1 + ((x :: r).length : Int)).toNat]? = _
    congr 1
    rw [List.length_cons]
    omega
/-! ### sizes -/
/-- x has at most B bits -/
def Ab (B : Nat) (x : Int) : Prop := x.natAbs < 2 ^ B
theorem Ab.mono {a b : Nat} {x : Int} (h : Ab a x) (l : a ≤ b) : Ab b x := Nat.lt_of_lt_of_le h (Nat.pow_le_pow_right (by decide) l)
theorem Ab.mul {a b : Nat} {x y : Int} (h : Ab a x) (k : Ab b y) : Ab (a + b) (x * y) := wide_lt h k
theorem Ab.add {a : Nat} {x y : Int} (h : Ab a x) (k : Ab a y) : Ab (a + 1) (x + y) := by
  unfold Ab at h k ⊢
  have := Int.natAbs_add_le x y
  rw [Nat.pow_succ]
  omega
theorem Ab.sub {a : Nat} {x y : Int} (h : Ab a x) (k : Ab a y) : Ab (a + 1) (x - y) := by
  unfold Ab at h k ⊢
  have : (x - y).natAbs ≤ x.natAbs + y.natAbs := by omega
  rw [Nat.pow_succ]
  omega
theorem Ab.neg {a : Nat} {x : Int} (h : Ab a x) : Ab a (-x) := by
  unfold Ab at h ⊢
  rw [Int.natAbs_neg]
  exact h
theorem Ab.cmul {a b : Nat} {x y : Int} (h : Ab a x) (k : Ab b y) (l : a + b ≤ 999998) : CMulA x y :=
  .inr <| .inr <| wide_mul (h.mono (Nat.le_succ a)) (k.mono (Nat.le_succ b)) (by omega) (by omega) (by omega)
theorem Ab.cdiv {a : Nat} {x y : Int} (h : Ab a y) (p : 0 < y) (l : a ≤ 8999) : CDivA x y := .inr <| wide_div p (h.mono (Nat.le_succ a)) (by omega) (by omega)
theorem Ab.le {a : Nat} {x y : Int} (h : Ab a y) (h0 : 0 ≤ x) (l : x ≤ y) : Ab a x := wide_le h0 l h
theorem Ab.small {x : Int} (h : -1024 < x) (k : x < 1024) : Ab 10 x := by
  unfold Ab
  omega
theorem Ab.of {a : Nat} {x : Int} (h : x.natAbs < 2 ^ a) : Ab a x := h

/-! ### loops, by what holds of the items that are left -/
theorem for_ind {src : Src} {g : DTG} {tb : DTS} {Z : DEnds} (V : List D → DSt → DM → Prop) (fin : ∀ m M, V [] m M → SrcV src M ∧ Z.nx m M)
    (step : ∀ d ds m M (Cn : DSt → DM → Prop), (∀ m' M', V ds m' M' → Cn m' M') → V (d :: ds) m M → SrcV src M ∧ g d m M fun m1 M1 => tb { Z with nx := fg Cn, ct := fg Cn, bk := Z.nx } m1 M1) :
    ∀ ds m M, V ds m M → dForGo src g tb Z ds m M
  | [], m, M, h => fin m M h
  | d :: ds, m, M, h => step d ds m M (dForGo src g tb Z ds) (for_ind V fin step ds) h
theorem lc_ind {src : Src} {g : DTG} {tt : DTT} {te : DTE} {m0 : DSt} {p : Addr} {Qd : List D → DM → Prop} (V : List D → List D → DM → Prop) (fin : ∀ acc M, V [] acc M → SrcV src M ∧ Qd acc M)
    (step : ∀ d ds acc M (Cn : List D → DM → Prop), (∀ acc' M', V ds acc' M' → Cn acc' M') → V (d :: ds) acc M → SrcV src M ∧ g d m0 M fun m1 M1 => tt m1 M1 fun b M2 =>
      if b = true then te m1 M2 fun y M3 => M3 p = some (.lst acc) ∧ Cn (acc ++ [y]) (mput M3 p (.lst (acc ++ [y]))) else M2 p = some (.lst acc) ∧ Cn acc M2) :
    ∀ ds acc M, V ds acc M → dLcGo src g tt te m0 p Qd ds acc M
  | [], acc, M, h => fin acc M h
  | d :: ds, acc, M, h => step d ds acc M (dLcGo src g tt te m0 p Qd ds) (lc_ind V fin step ds) h
theorem mput_le {M N : DM} {p : Addr} {o : DO} (l : MLe M N) (h : M p = none) : MLe M (mput N p o) := l.put h
/-- a comprehension whose tests and elements change nothing: over e x for the x of xs -/
theorem lcGo_pure {α : Type} {src : Src} {g : DTG} {tt : DTT} {te : DTE} {m0 : DSt} {p : Addr} {Qd : List D → DM → Prop} {M1 : DM} (e : α → D) (pr : α → Bool) (f : α → D) (hp : M1 p = none) (sv : SrcV src M1) :
    ∀ (xs : List α) (step : ∀ x ∈ xs, ∀ M, MLe M1 M → ∀ (C1 : D → DM → Prop) (C2 : DM → Prop), (pr x = true → C1 (f x) M) → (pr x = false → C2 M) → g (e x) m0 M fun m1 M1 => tt m1 M1 fun b M2 => if b = true then te m1 M2 C1 else C2 M2)
      (acc : List D), Qd (acc ++ (xs.filter pr).map f) (mput M1 p (.lst (acc ++ (xs.filter pr).map f))) → dLcGo src g tt te m0 p Qd (xs.map e) acc (mput M1 p (.lst acc))
  | [], _, acc, h => ⟨fun a e => MLe.put (.refl M1) hp a _ (sv a e), by simpa using h⟩
  | x :: xs, step, acc, h => by
    refine ⟨fun a e => MLe.put (.refl M1) hp a _ (sv a e), step x (by simp) _ (MLe.put (.refl M1) hp) _ _ (fun e => ⟨mput_same, ?_⟩) fun e => ⟨mput_same, ?_⟩⟩
    · rw [mput_mput]
      refine lcGo_pure _ pr f hp sv xs (fun d' h' => step d' (by simp [h'])) _ ?_
      rw [List.filter_cons_of_pos e, List.map_cons] at h
      simpa using h
    · refine lcGo_pure _ pr f hp sv xs (fun d' h' => step d' (by simp [h'])) _ ?_
      rw [List.filter_cons_of_neg (by simp [e])] at h
      exact h
theorem filter_all {α : Type} : ∀ l : List α, l.filter (fun _ => true) = l
  | [] => rfl
  | x :: l => by rw [List.filter_cons_of_pos rfl, filter_all l]
theorem lc_pure {α : Type} {src : Src} {g : DTG} {tt : DTT} {te : DTE} {m0 : DSt} {Qd : Addr → List D → DM → Prop} {M1 : DM} (xs : List α) (e : α → D) (pr : α → Bool) (f : α → D) (hx : src.1 = xs.map e) (sv : SrcV src M1)
    (step : ∀ x ∈ xs, ∀ M, MLe M1 M → ∀ (C1 : D → DM → Prop) (C2 : DM → Prop), (pr x = true → C1 (f x) M) → (pr x = false → C2 M) → g (e x) m0 M fun m1 M1 => tt m1 M1 fun b M2 => if b = true then te m1 M2 C1 else C2 M2)
    (h : ∀ p, M1 p = none → Qd p ((xs.filter pr).map f) (mput M1 p (.lst ((xs.filter pr).map f)))) : ∀ p, M1 p = none → dLcGo src g tt te m0 p (Qd p) src.1 [] (mput M1 p (.lst [])) := fun p hp => by
  have z := lcGo_pure (Qd := Qd p) e pr f hp sv xs step [] (by rw [List.nil_append]; exact h p hp)
  rw [← hx] at z
  exact z
/-- .. without a test -/
theorem lc_map {α : Type} {src : Src} {g : DTG} {te : DTE} {m0 : DSt} {Qd : Addr → List D → DM → Prop} {M1 : DM} (xs : List α) (e : α → D) (f : α → D) (hx : src.1 = xs.map e) (sv : SrcV src M1)
    (step : ∀ x ∈ xs, ∀ M, MLe M1 M → ∀ (C1 : D → DM → Prop), C1 (f x) M → g (e x) m0 M fun m1 M1 => te m1 M1 C1)
    (h : ∀ p, M1 p = none → Qd p (xs.map f) (mput M1 p (.lst (xs.map f)))) : ∀ p, M1 p = none → dLcGo src g dYes te m0 p (Qd p) src.1 [] (mput M1 p (.lst [])) :=
  lc_pure xs e (fun _ => true) f hx sv (fun x hd M l C1 C2 h1 _ => step x hd M l C1 (h1 rfl)) (by rw [filter_all]; exact h)
theorem seq_i {t u : DTS} {Z : DEnds} {m : DSt} {M : DM} (h : t { Z with nx := u Z } m M) : dSeq t u Z m M := h
/-- behind a statement with several ends: what holds at each of them -/
theorem seq_cut {t u : DTS} {Z : DEnds} {m : DSt} {M : DM} (P : DSt → DM → Prop) (h1 : ∀ Cn : DSt → DM → Prop, (∀ m' M', P m' M' → Cn m' M') → t { Z with nx := Cn } m M) (h2 : ∀ m' M', P m' M' → u Z m' M') : dSeq t u Z m M := h1 (u Z) h2
theorem MLe.trans {M N O : DM} (h : MLe M N) (k : MLe N O) : MLe M O := fun a o e => k a o (h a o e)
/-- what is new, and what stood -/
theorem MLe.with {M N : DM} {a : Addr} {o : DO} (l : MLe M N) (h : N a = some o) : MLe (mput M a o) N := fun b p e => by
  by_cases hb : b = a
  · subst hb
    rw [mput_same] at e
    cases e
    exact h
  · rw [mput_ne hb] at e
    exact l b p e
/-- a store to what is new -/
theorem MLe.store {M N : DM} {a : Addr} {o : DO} (l : MLe M N) (h : M a = none) : MLe M (mput N a o) := l.put h
theorem ne_of_fresh {M : DM} {a b : Addr} {o : DO} (h : M a = some o) (k : M b = none) : a ≠ b := fun e => by
  rw [e, k] at h
  cases h
theorem atI_lt {α : Type} {xs : List α} {i : Int} (h0 : 0 ≤ i) (h1 : i < xs.length) : ∃ x, x ∈ xs ∧ atI xs i = some x := by
  obtain ⟨n, rfl⟩ : ∃ n : Nat, i = n := ⟨i.toNat, by omega⟩
  have hn : n < xs.length := by omega
  exact ⟨xs[n], List.getElem_mem hn, by rw [atI_n, List.getElem?_eq_getElem hn]⟩
theorem atI_map {α β : Type} (f : α → β) (xs : List α) (i : Int) : atI (xs.map f) i = (atI xs i).map f := by
  unfold atI
  rw [List.length_map]
  cases ixN xs.length i with
  | none => rfl
  | some j => simp
theorem ixN_lt {n : Nat} {i : Int} (h0 : 0 ≤ i) (h1 : i < n) : ixN n i = some i.toNat := by
  unfold ixN
  rw [if_pos h0, if_pos h1]
theorem items_put {M : DM} {p : Addr} {o : DO} {d : D} (h : d ≠ .ref p) : dItems d (mput M p o) = dItems d M := by
  cases d with
  | ref a =>
    have : a ≠ p := fun e => h (e ▸ rfl)
    simp only [dItems, mput_ne this]
  | _ => rfl
/-- the empty promise -/
theorem Def.nil {P : Program} {w : World} {K : PySem.W.Frag} {mg : Str → Option Value} {base : Heap} {k : Nat} {x : Str} {ps : List Str} {st : Stmt} (F : Def K mg x st ps) : Cal P w K mg base k x ps (fun _ _ _ => False) := by
  obtain ⟨f, fd, F, hm, hb⟩ := F.ex
  exact ⟨f, fd, ⟨fun _ _ _ _ ⟨_, _, _, _, _, z, _⟩ => z.elim, fun _ _ _ _ _ _ _ _ _ _ _ _ _ ⟨_, _, _, _, _, z, _⟩ => z.elim⟩, hm, F.kp, hb⟩
/-- a list of draws: ints, whichever -/
def DrO (o : DO) : Prop := ∃ ks : List Int, o = .lst (ks.map D.int)
def Dr (M : DM) (p : Addr) : Prop := ∃ o, M p = some o ∧ DrO o
theorem dr_put {M : DM} {p : Addr} {o : DO} (h : DrO o) : Dr (mput M p o) p := ⟨o, mput_same, h⟩
theorem dr_at {M : DM} {p : Addr} {o : DO} (h : DrO o) (e : M p = some o) : Dr M p := ⟨o, e, h⟩
theorem dr_ne {M : DM} {p q : Addr} {o : DO} (h : Dr M p) (e : p ≠ q) : Dr (mput M q o) p := let ⟨o', h1, h2⟩ := h; ⟨o', by rw [mput_ne e]; exact h1, h2⟩
theorem Dr.le {M N : DM} {p : Addr} (h : Dr M p) (l : MLe M N) : Dr N p := let ⟨o, h1, h2⟩ := h; ⟨o, l _ _ h1, h2⟩
theorem Dr.some {M : DM} {p q : Addr} (h : Dr M p) (k : M q = none) : p ≠ q := let ⟨_, h1, _⟩ := h; ne_of_fresh h1 k
theorem srcV_none {xs : List D} {M : DM} : SrcV (xs, none) M := fun _ e => nomatch e
theorem fz_new {xs : List D} {M : DM} {Q : DVK} (h : Q (.lst xs) M) : ∀ p, M p = none → ∃ p' ds, D.ref p = .ref p' ∧ mput M p (.lst xs) p' = some (.lst ds) ∧ Q (.lst ds) (mdel (mput M p (.lst xs)) p') := fun p hp =>
  ⟨p, xs, rfl, mput_same, by rw [mdel_mput hp]; exact h⟩
end DL
namespace DL
open PySem PySem.Spec PyProof.Rows L2
section
variable {X : Cx} {e a b : Expr} {es : List Expr} {pos p apos cpos : Pos} {te ta tb : DTE} {t : DTA} {x : Str}

theorem items_kind {K : PySem.W.Frag} {H : Hp} {M : DM} {d : D} {v : V} {xs : List D} (r : Rep K H d v) (m : RM K H M) (e : dItems d M = some xs) :
    ∃ a vs, v = .ref a ∧ vs.length ≤ sizeLine ∧ RepL K H xs vs ∧ ((SqL K H a vs ∧ d ≠ .tup xs) ∨ (SqT K H a vs ∧ d = .tup xs)) := by
  cases r with
  | tup hT z l =>
    cases e
    exact ⟨_, _, rfl, z, l, .inr ⟨hT, rfl⟩⟩
  | lst hL z l =>
    cases e
    exact ⟨_, _, rfl, z, l, .inl ⟨hL.seq, fun q => nomatch q⟩⟩
  | ref a =>
    obtain ⟨a', vs, e1, z, l, ⟨h1, _⟩ | ⟨_, h2⟩⟩ := items_of (Rep.ref a) m e
    · exact ⟨a', vs, e1, z, l, .inl ⟨h1, fun q => nomatch q⟩⟩
    · cases h2
  | _ => cases e

/-! ### + of ints, texts, tuples -/
def dAdd : DR2 := fun x y M Q => match x, y with
  | .int i, .int j => Q (.int (i + j)) M
  | .str i, .str j => i.length + j.length ≤ 16777216 ∧ Q (.str (i ++ j)) M
  | .tup xs, .tup ys => xs.length + ys.length ≤ 16777216 ∧ Q (.tup (xs ++ ys)) M
  | _, _ => False
theorem o_addA : DOp X (binaryOp .Add) dAdd := by
  intro pins s σ H x y v u Q I rx ry ⟨d, e, M, Q', r1, r2, m, q, k⟩
  cases d with
  | int i =>
    cases e with
    | int j =>
      cases r1
      cases r2
      exact op_add pins s σ H _ _ v u Q I rx ry ⟨i, j, rfl, rfl, k _ _ M H (.refl H) (.int _) m q⟩
    | _ => exact q.elim
  | str i =>
    cases e with
    | str j =>
      cases r1
      cases r2
      obtain ⟨z, q⟩ := q
      exact op_add_str pins s σ H _ _ v u Q I rx ry ⟨i, j, rfl, rfl, by rw [sizeLine_eq]; exact z, k _ _ M H (.refl H) (.str _) m q⟩
    | _ => exact q.elim
  | tup xs =>
    cases e with
    | tup ys =>
      obtain ⟨z, q⟩ := q
      cases id r1 with
      | tup h1 z1 l1 =>
        cases id r2 with
        | tup h2 z2 l2 =>
          have hz : xs.length + ys.length ≤ sizeLine := by rw [sizeLine_eq]; exact z
          rw [l1.length, l2.length] at hz
          refine op_catA pins s σ H _ _ v u Q I rx ry ⟨_, _, _, _, rfl, rfl, h1, h2, hz, fun e1 => ?_, fun e1 e2 => ?_, fun e1 e2 p hp => ?_⟩
          · subst e1
            cases l1
            exact k _ _ M H (.refl H) r2 m q
          · subst e2
            cases l2
            rw [List.append_nil] at q
            exact k _ _ M H (.refl H) r1 m q
          · exact k _ _ M _ (.new hp) (.tup (.of upd_same) (by rw [List.length_append]; exact hz) ((l1.append l2).grow (.new hp))) (m.new hp) q
    | _ => exact q.elim
  | _ => exact q.elim

/-! ### + of lists -/
def rCatS (K : PySem.W.Frag) : R2 := fun x y H Q => ∃ a b xs ys, x = .ref a ∧ y = .ref b ∧ SqL K H a xs ∧ SqL K H b ys ∧ xs.length + ys.length ≤ sizeLine ∧
  ∀ p, H p = none → Q (.ref p) (upd H p (.lst (xs ++ ys)))
theorem op_catS : OpR X (binaryOp .Add) (rCatS X.K) := by
  intro pins s σ H x y v u Q I rx ry ⟨a, b, xs, ys, e1, e2, h1, h2, hz, q⟩
  subst e1
  subst e2
  cases rx
  cases ry
  obtain ⟨us, r1, pl1, _⟩ := I.list h1
  obtain ⟨ws, r2, pl2, _⟩ := I.list h2
  obtain ⟨⟨c1, dd1, dt1, sl1⟩, ho1, hc1, n1, hd1⟩ := pl1.isList
  obtain ⟨⟨c2, dd2, dt2, sl2⟩, ho2, hc2, n2, hd2⟩ := pl2.isList
  simp only at hc1 hd1 hc2 hd2
  subst hc1 hd1 hc2 hd2
  have hz' : us.toArray.size + ws.toArray.size ≤ sizeLine := by
    have y1 := r1.length
    have y2 := r2.length
    simp only [List.size_toArray]
    omega
  have ee : us.toArray ++ ws.toArray = (us ++ ws).toArray := by simp
  refine concat_meets ⟨_, ho1, rfl⟩ ⟨_, ho2, rfl⟩ noFill_list_add seq_list_add PySem.F.slot_list_add PySem.F.entry_list_add (PySem.F.args_list_add_2 _ _)
    (PyProof.Rows.list_addW a b us.toArray ws.toArray n1 n2 dd1 dd2 sl1 sl2 hz') ⟨ho1, ho2, ?_⟩
  rw [ee]
  exact ⟨.ref _, _, I.lnew (t' := s.toks) (r1.append r2) (by rw [List.length_append]; exact hz), rfl, q _ I.fresh⟩
/-- the items of two lists in a row -/
def dCat (ta tb : DTE) : DTE := fun m M Q => ta m M fun d M1 => tb m M1 fun e M2 => ∃ xs ys, dItems d M2 = some xs ∧ d ≠ .tup xs ∧ dItems e M2 = some ys ∧ e ≠ .tup ys ∧ xs.length + ys.length ≤ 16777216 ∧ ∀ p, M2 p = none → Q (.ref p) (mput M2 p (.lst (xs ++ ys)))
def dCatF (ta tb : DTE) : DTE := fun m M Q => ta m M fun d M1 => tb m M1 fun e M2 => ∃ xs ys, dItems d M2 = some xs ∧ d ≠ .tup xs ∧ dItems e M2 = some ys ∧ e ≠ .tup ys ∧ xs.length + ys.length ≤ 16777216 ∧ Q (.lst (xs ++ ys)) M2
theorem lst_of {K : PySem.W.Frag} {H : Hp} {M : DM} {d : D} {v : V} {xs : List D} (r : Rep K H d v) (m : RM K H M) (h : dItems d M = some xs) (h2 : d ≠ .tup xs) : ∃ a vs, v = .ref a ∧ vs.length ≤ sizeLine ∧ RepL K H xs vs ∧ SqL K H a vs := by
  obtain ⟨a, vs, e, z, l, ⟨h4, _⟩ | ⟨_, h5⟩⟩ := items_of r m h
  · exact ⟨a, vs, e, z, l, h4⟩
  · exact absurd h5 h2
theorem d_cat (ha : DE X a ta) (hb : DE X b tb) : DE X (.BinOp a .Add b pos) (dCat ta tb) :=
  imE (pe_op op_catS ha hb) fun σ H Q ⟨m, M, Q', r, q, k⟩ => by
    refine ⟨m, M, _, r, q, fun d v M1 H1 g1 r1 m1 q1 => ?_⟩
    refine ⟨m, M1, _, r.grow g1 m1, q1, fun e w M2 H2 g2 r2 m2 ⟨xs, ys, h1, h2, h3, h4, hz, q2⟩ => ?_⟩
    obtain ⟨a1, vs, rfl, z1, l1, s1⟩ := lst_of (r1.grow g2) m2 h1 h2
    obtain ⟨a2, ws, rfl, z2, l2, s2⟩ := lst_of r2 m2 h3 h4
    have hz' : vs.length + ws.length ≤ sizeLine := by rw [← l1.length, ← l2.length, sizeLine_eq]; exact hz
    refine ⟨a1, a2, vs, ws, rfl, rfl, s1, s2, hz', fun p hp => k _ _ _ _ ((g1.trans g2).trans (.new hp)) (.ref p) (m2.newLst hp (by rw [List.length_append]; exact hz') (l1.append l2)) (q2 p (m2.free hp))⟩
theorem d_catF (ha : DE X a ta) (hb : DE X b tb) : DE X (.BinOp a .Add b pos) (dCatF ta tb) :=
  imE (pe_fz (pe_op op_catS ha hb)) fun σ H Q ⟨m, M, Q', r, q, k⟩ => by
    refine ⟨m, M, _, r, q, fun d v M1 H1 g1 r1 m1 q1 => ?_⟩
    refine ⟨m, M1, _, r.grow g1 m1, q1, fun e w M2 H2 g2 r2 m2 ⟨xs, ys, h1, h2, h3, h4, hz, q2⟩ => ?_⟩
    obtain ⟨a1, vs, rfl, z1, l1, s1⟩ := lst_of (r1.grow g2) m2 h1 h2
    obtain ⟨a2, ws, rfl, z2, l2, s2⟩ := lst_of r2 m2 h3 h4
    have hz' : vs.length + ws.length ≤ sizeLine := by rw [← l1.length, ← l2.length, sizeLine_eq]; exact hz
    refine ⟨a1, a2, vs, ws, rfl, rfl, s1, s2, hz', fun p hp => ⟨p, _, rfl, upd_same, fun o => ?_⟩⟩
    rw [upd_upd]
    exact k _ _ _ _ ((g1.trans g2).trans (.new hp)) (.lst (.inl ⟨o, upd_same⟩) (by rw [List.length_append]; exact hz') ((l1.append l2).grow (.new hp))) (m2.new hp) q2

/-! ### slices -/
def cutD (xs : List D) (lo hi : Option Int) : List D := (xs.drop (HT.sIx xs.length 0 lo)).take (HT.sIx xs.length xs.length hi - HT.sIx xs.length 0 lo)
theorem RepL.cut {K : PySem.W.Frag} {H : Hp} {xs : List D} {vs : List V} (l : RepL K H xs vs) (lo hi : Option Int) : RepL K H (cutD xs lo hi) (cutV vs lo hi) := by
  unfold cutD cutV
  rw [l.length]
  exact (l.drop _).take _
theorem cutD_len (xs : List D) (lo hi : Option Int) : (cutD xs lo hi).length ≤ xs.length := by
  unfold cutD
  rw [List.length_take, List.length_drop]
  omega
theorem cutD_from (xs : List D) (k : Nat) : cutD xs (some (k : Int)) none = xs.drop k := by
  unfold cutD
  rw [HT.sIx_nat, HT.sIx_none, List.take_of_length_le (by rw [List.length_drop]; exact Nat.le_refl _)]
  by_cases h : k ≤ xs.length
  · rw [Nat.min_eq_left h]
  · rw [Nat.min_eq_right (by omega), List.drop_length, List.drop_eq_nil_of_le (by omega)]
theorem cutD_to (xs : List D) (k : Nat) : cutD xs none (some (k : Int)) = xs.take k := by
  unfold cutD
  rw [HT.sIx_nat, HT.sIx_none, List.drop_zero, Nat.sub_zero]
  by_cases h : k ≤ xs.length
  · rw [Nat.min_eq_left h]
  · rw [Nat.min_eq_right (by omega), List.take_length, List.take_of_length_le (by omega)]
theorem cutD_all (xs : List D) : cutD xs none none = xs := by
  unfold cutD
  rw [HT.sIx_none, HT.sIx_none, List.drop_zero, Nat.sub_zero, List.take_length]
abbrev DTO := DSt → DM → (Option Int → DM → Prop) → Prop
def upO (K : PySem.W.Frag) (t : DTO) : TO := fun σ H Q => ∃ m M Q', R K m M σ H ∧ t m M Q' ∧ ∀ o M' H', Grow H H' → RM K H' M' → Q' o M' → Q o H'
abbrev DPO (X : Cx) (e : Option Expr) (t : DTO) : Prop := PO X e (upO X.K t)
theorem imO {e : Option Expr} {t t' : TO} (h : PO X e t) (i : ∀ σ H Q, t' σ H Q → t σ H Q) : PO X e t' := ⟨fun pins s σ H Q I q => h.run pins s σ H Q I (i σ H Q q)⟩
def dNoP : DTO := fun _ M Q => Q none M
def dPart (te : DTE) : DTO := fun m M Q => te m M fun d M1 => ∃ i, d = .int i ∧ Q (some i) M1
theorem dp_none : DPO X none dNoP := imO po_none fun σ H Q ⟨m, M, Q', r, q, k⟩ => k _ M H (.refl H) r.mem q
theorem dp_some (h : DE X e te) : DPO X (some e) (dPart te) := imO (po_some h) fun σ H Q ⟨m, M, Q', r, q, k⟩ => by
  refine ⟨m, M, _, r, q, fun d v M1 H1 g1 r1 m1 ⟨i, e1, q1⟩ => ?_⟩
  subst e1
  cases r1
  exact ⟨i, rfl, k _ M1 H1 g1 m1 q1⟩
/-- of a tuple a tuple, of a list a list that stays -/
def dSl (te : DTE) (tl th : DTO) : DTE := fun m M Q => te m M fun d M1 => tl m M1 fun lo M2 => th m M2 fun hi M3 => ∃ xs, dItems d M3 = some xs ∧ (d = .tup xs → Q (.tup (cutD xs lo hi)) M3) ∧ (d ≠ .tup xs → Q (.lst (cutD xs lo hi)) M3)
def tFzO (t : TE) : TE := fun σ H Q => t σ H fun v H1 => Q v H1 ∨ ∃ p vs, v = .ref p ∧ H1 p = some (.lst vs) ∧ ∀ o, Q v (upd H1 p (.frz o (.lst vs)))
theorem pe_fzO {t : TE} (h : PE X e t) : PE X e (tFzO t) := by
  refine ⟨fun pins s σ H Q I q => thn (h.run pins s σ H _ I q) fun u s1 ⟨v, H1, I1, r1, q1⟩ => ?_⟩
  rcases q1 with q1 | ⟨p, vs, e1, e2, q1⟩
  · exact ⟨v, H1, I1, r1, q1⟩
  · obtain ⟨o, I2⟩ := inv_frz I1 e2
    exact ⟨v, _, I2, r1, q1 o⟩
variable {lo hi : Option Expr} {tl th : DTO} {p2 : Pos}
theorem d_sl (he : DE X e te) (hl : DPO X lo tl) (hh : DPO X hi th) : DE X (.Subscript e (.Slice lo hi none p2) pos) (dSl te tl th) :=
  imE (pe_fzO (pe_slice (sl_tupA.or sl_list) he hl hh)) fun σ H Q ⟨m, M, Q', r, q, k⟩ => by
    refine ⟨m, M, _, r, q, fun d v M1 H1 g1 r1 m1 q1 => ?_⟩
    refine ⟨m, M1, _, r.grow g1 m1, q1, fun o1 M2 H2 g2 m2 q2 => ?_⟩
    refine ⟨m, M2, _, r.grow (g1.trans g2) m2, q2, fun o2 M3 H3 g3 m3 ⟨xs, h1, q3, q4⟩ => ?_⟩
    have g := (g1.trans g2).trans g3
    have r3 := r1.grow (g2.trans g3)
    obtain ⟨a1, vs, rfl, z, l, ⟨h4, hnt⟩ | ⟨h4, h5⟩⟩ := items_kind r3 m3 h1
    · have nt : d ≠ .tup xs := hnt
      refine .inr ⟨a1, vs, rfl, h4, fun p hp => .inr ⟨p, _, rfl, upd_same, fun o => ?_⟩⟩
      rw [upd_upd]
      exact k _ _ _ _ (g.trans (.new hp)) (.lst (.inl ⟨o, upd_same⟩) (Nat.le_trans (cutV_length vs o1 o2) z) ((l.cut o1 o2).grow (.new hp))) (m3.new hp) (q4 nt)
    · refine .inl ⟨a1, vs, rfl, h4, fun w => .inl ?_, fun w p hp => .inl ?_⟩
      · have e5 : cutD xs o1 o2 = xs := by
          unfold cutD
          rw [l.length, w.1, w.2, List.drop_zero, Nat.sub_zero, ← l.length, List.take_length]
        have q5 := q3 h5
        rw [e5] at q5
        subst h5
        exact k _ _ M3 H3 g r3 m3 q5
      · exact k _ _ _ _ (g.trans (.new hp)) (.tup (.of upd_same) (Nat.le_trans (cutV_length vs o1 o2) z) ((l.cut o1 o2).grow (.new hp))) (m3.new hp) (q3 h5)
end
end DL
namespace DL
open PySem PySem.Spec PyProof.Rows L2
section
variable {X : Cx} {e a b o : Expr} {es : List Expr} {pos p apos cpos : Pos} {te ta tb to : DTE} {t : DTA} {x : Str} {tg l : Expr}

/-! ### signs of a text -/
def sgn (z : Str) (i : Int) : Option Str := (atI z.cps.toList i).map fun c => ⟨#[c]⟩
def dIxS : DR2 := fun x y M Q => match x with
  | .str z => ∃ i c, y = .int i ∧ z.length ≤ 16777216 ∧ sgn z i = some c ∧ Q (.str c) M
  | _ => dIx x y M Q
theorem x_ixS : IxR X (upR2 X.K dIxS) := by
  intro value slice pins s σ H x y v u Q I rx ry ⟨d, e, M, Q', r1, r2, m, q, k⟩ hop
  cases d with
  | str z =>
    obtain ⟨i, c, e1, hz, h, q⟩ := q
    subst e1
    cases r1
    cases r2
    unfold sgn at h
    cases w : atI z.cps.toList i with
    | none => rw [w] at h; cases h
    | some n =>
      rw [w] at h
      cases h
      exact ix_str value slice pins s σ H _ _ v u Q I rx ry ⟨z, i, n, rfl, rfl, by rw [sizeLine_eq]; exact hz, w, k _ _ M H (.refl H) (.str _) m q⟩ hop
  | _ => exact x_ix value slice pins s σ H _ _ v u Q I rx ry ⟨_, e, M, Q', r1, r2, m, q, k⟩ hop

/-! ### * of ints, of a text and an int -/
def srep (z : Str) (k : Nat) : Str := ⟨(List.replicate k z.cps.toList).flatten.toArray⟩
theorem foldl_apps (u : Array Nat) : ∀ (k : Nat) (acc : Array Nat), (List.replicate k u).foldl (· ++ ·) acc = (acc.toList ++ (List.replicate k u.toList).flatten).toArray
  | 0, acc => by simp
  | k + 1, acc => by
    rw [List.replicate_succ, List.foldl_cons, foldl_apps u k (acc ++ u), List.replicate_succ, List.flatten_cons]
    simp
theorem srep_1 (z : Str) : srep z 1 = z := Str.ext' (by simp [srep])
theorem srep_0 (z : Str) : srep z 0 = Str.empty := Str.ext' (by simp [srep, Str.empty])
theorem srep_len (z : Str) (k : Nat) : (srep z k).length = z.length * k := by
  simp [srep, Str.length, Nat.mul_comm]
def dMulA : DR2 := fun x y M Q => match x, y with
  | .int i, .int j => CMulA i j ∧ Q (.int (i * j)) M
  | .str z, .int k => (0 ≤ k ∧ k ≤ 1000000) ∧ z.length * k.toNat ≤ 16777216 ∧ Q (.str (srep z k.toNat)) M
  | _, _ => False
theorem o_mulA : DOp X (binaryOp .Mult) dMulA := by
  intro pins s σ H x y v u Q I rx ry ⟨d, e, M, Q', r1, r2, m, q, k⟩
  cases d with
  | int i =>
    cases e with
    | int j => exact o_mul pins s σ H x y v u Q I rx ry ⟨_, _, M, Q', r1, r2, m, ⟨i, j, rfl, rfl, q.1, q.2⟩, k⟩
    | _ => exact q.elim
  | str z =>
    cases e with
    | int n =>
      cases r1
      cases r2
      obtain ⟨t1, rfl⟩ := rx
      obtain ⟨t2, rfl⟩ := ry
      obtain ⟨⟨n0, n1⟩, hz, q⟩ := q
      have fin : ∀ (w : Value) (kk : Nat), RelV (V.str (srep z n.toNat)) w → EP X pins σ Q w { s with toks := kk } := fun w kk hr => ⟨_, H, I.tok kk, hr, k _ _ M H (.refl H) (.str _) m q⟩
      refine PySem.P.mul_str ?_ (fun h1 h2 => ?_) (fun h1 h2 => ?_) ?_
      · rw [decide_eq_false (by omega), decide_eq_false (by omega)]
        rfl
      · rw [Bool.or_eq_false_iff] at h2
        have hn : ¬ n = 1 := by simpa using h2.1
        have : (z.length : Int) ≤ 16777216 := by
          have : 1 ≤ n.toNat := by omega
          have := Nat.mul_le_mul_left z.length this
          omega
        intro hc
        have hb : (2 ^ 63 - 1) / n ≥ 16777216 := by
          apply Int.le_ediv_of_mul_le (by omega)
          omega
        omega
      · exact PyProof.Rows.short24 (by omega)
      · by_cases h1 : n < 1
        · rw [if_pos h1]
          have : n = 0 := by omega
          subst this
          exact ⟨by decide, fin _ _ ⟨_, by rw [show (0 : Int).toNat = 0 from rfl, srep_0] <;> rfl⟩⟩
        · rw [if_neg h1]
          split
          · next h2 =>
            have e1 : srep z n.toNat = z := by
              rw [Bool.or_eq_true] at h2
              rcases h2 with h2 | h2
              · have : n = 1 := by simpa using h2
                subst this
                exact srep_1 z
              · have h3 : z.length = 0 := by simpa using h2
                refine Str.ext' ?_
                have h4 : z.cps = #[] := by
                  have h5 : z.cps.size = 0 := h3
                  exact Array.eq_empty_of_size_eq_zero h5
                simp [srep, h4]
            exact fin _ s.toks ⟨_, by rw [e1] <;> rfl⟩
          · next h2 =>
            have e1 : (⟨(List.replicate n.toNat z.cps).foldl (· ++ ·) #[]⟩ : Str) = srep z n.toNat := by
              refine Str.ext' ?_
              show (List.replicate n.toNat z.cps).foldl (· ++ ·) #[] = _
              rw [foldl_apps]
              simp [srep]
            rw [e1]
            refine ⟨?_, fin _ _ ⟨_, rfl⟩⟩
            show (srep z n.toNat).length ≤ sizeLine
            rw [srep_len, sizeLine_eq]
            exact hz
    | _ => exact q.elim
  | _ => exact q.elim
/-- a list that was just made, times an int -/
def dRep (ta tb : DTE) : DTE := fun m M Q => ta m M fun d M1 => tb m M1 fun e M2 => ∃ p xs k, d = .ref p ∧ e = .int k ∧ M2 p = some (.lst xs) ∧ (0 ≤ k ∧ k ≤ 1000000) ∧ xs.length * k.toNat ≤ 16777216 ∧ ∀ q, M2 q = none → Q (.ref q) (mput M2 q (.lst (List.replicate k.toNat xs).flatten))
theorem RepL.rep {K : PySem.W.Frag} {H : Hp} {xs : List D} {vs : List V} (l : RepL K H xs vs) : ∀ n : Nat, RepL K H (List.replicate n xs).flatten (List.replicate n vs).flatten
  | 0 => .nil
  | n + 1 => by
    rw [List.replicate_succ, List.flatten_cons, List.replicate_succ, List.flatten_cons]
    exact l.append (l.rep n)
theorem rep_len {α : Type} (xs : List α) (n : Nat) : (List.replicate n xs).flatten.length = xs.length * n := by
  simp [Nat.mul_comm]
theorem d_rep (ha : DE X a ta) (hb : DE X b tb) : DE X (.BinOp a .Mult b pos) (dRep ta tb) :=
  imE (pe_op op_rep ha hb) fun σ H Q ⟨m, M, Q', r, q, k⟩ => by
    refine ⟨m, M, _, r, q, fun d v M1 H1 g1 r1 m1 q1 => ?_⟩
    refine ⟨m, M1, _, r.grow g1 m1, q1, fun e w M2 H2 g2 r2 m2 ⟨p, xs, n, e1, e2, h1, hn, hz, q2⟩ => ?_⟩
    subst e1
    subst e2
    cases r1
    cases r2
    obtain ⟨vs, h3, z, l⟩ := m2.lst h1
    have hz' : vs.length * n.toNat ≤ sizeLine := by rw [← l.length, sizeLine_eq]; exact hz
    refine ⟨p, n, vs, rfl, rfl, h3, by omega, by omega, hz', fun q' hq => ?_⟩
    exact k _ _ _ _ ((g1.trans g2).trans (.new hq)) (.ref q') (m2.newLst hq (by rw [rep_len]; exact hz') (l.rep n.toNat)) (q2 q' (m2.free hq))

/-! ### sep.join(list or tuple of texts) -/
def dJoin (to : DTE) (t : DTA) : DTE := fun m M Q => to m M fun d M1 => ∃ a, d = .str a ∧ t m M1 fun ds M2 => ∃ y ys, ds = [y] ∧ dItems y M2 = some (ys.map D.str) ∧ (ys.map (·.length)).sum + ys.length * a.length ≤ 16777216 ∧ Q (.str (Txt.join a ys)) M2
theorem strs_rep {K : PySem.W.Frag} {H : Hp} : ∀ {ys : List Str} {vs : List V}, RepL K H (ys.map D.str) vs → vs = ys.map V.str
  | [], _, h => by
    cases h
    rfl
  | y :: ys, _, h => by
    cases h with
    | cons h1 h2 =>
      cases h1
      rw [strs_rep h2]
      rfl
theorem d_join (ho : DE X o to) (ha : DA X (e :: es) t)
    (hbase : attributeBase o "join" X.env (eval o X.env) = eval o X.env := by rfl)
    (hfew : ((backTo cpos (starEach (e :: es) X.env)).all (fun x => !x.1) && (backToKw cpos (keywordEach [] X.env)).all (fun x => x.1.isSome)
      && decide ((e :: es).length + ([] : List Keyword).length + (if ([] : List Keyword).isEmpty then 0 else 1) < 30)) = true := by rfl)
    (hline : (apos.endLine == cpos.line) = true := by rfl) (hs : starEach (e :: es) X.env = (false, eval e X.env) :: starEach es X.env := by rfl) (hplain : (backTo cpos (starEach es X.env)).any (·.1) = false := by rfl) :
    DE X (.Call (.Attribute o "join" apos) (e :: es) [] cpos) (dJoin to t) :=
  imE (pe_bm PySem.F.plainAttrs_str PySem.F.slot_str_join PySem.F.type_str_join mt_join ho ha hbase hfew hline hs hplain) fun σ H Q ⟨m, M, Q', r, q, k⟩ => by
    refine ⟨m, M, _, r, q, fun d v M1 H1 g1 r1 m1 ⟨a, e1, q1⟩ => ?_⟩
    subst e1
    cases r1
    refine ⟨rfl, m, M1, _, r.grow g1 m1, q1, fun ds vs M2 H2 g2 l2 m2 ⟨y, ys, e2, h1, hz, q2⟩ => ?_⟩
    subst e2
    obtain ⟨w, e3, rw'⟩ := repL_one l2
    subst e3
    obtain ⟨a2, ws, rfl, z, l3, h4⟩ := items_of rw' m2 h1
    rw [strs_rep l3] at h4
    exact ⟨a, a2, ys, rfl, rfl, h4.elim (fun h => .inl h.1) fun h => .inr h.1, hz, k _ _ M2 H2 (g1.trans g2) (.str _) m2 q2⟩

/-! ### lists: extend, index -/
def mExtend : DMR := fun d ds M Q => ∃ a b xs zs, d = .ref a ∧ ds = [.ref b] ∧ M a = some (.lst xs) ∧ M b = some (.lst zs) ∧ xs.length + zs.length ≤ 16777216 ∧ Q .non (mput M a (.lst (xs ++ zs)))
theorem m_extend : MtR X "list.extend" (upM X.K mExtend) := by
  intro pins s σ H x vs v us Q I rx rv ⟨d, ds, M, Q', r1, l, m, ⟨a, b, xs, zs, e1, e2, h, hb, hz, q⟩, k⟩
  subst e1
  subst e2
  cases r1
  obtain ⟨w, e, rw'⟩ := repL_one l
  subst e
  cases rw'
  obtain ⟨ws, h1, z, l1⟩ := m.lst h
  obtain ⟨us2, h2, z2, l2⟩ := m.lst hb
  have hz' : ws.length + us2.length ≤ sizeLine := by rw [← l1.length, ← l2.length, sizeLine_eq]; exact hz
  refine mt_extend pins s σ H _ _ v us Q I rx rv ⟨a, b, ws, us2, rfl, rfl, h1, h2, hz', ?_⟩
  exact k _ _ _ _ (.put h1) .non (m.putLst h1 (by rw [List.length_append]; exact hz') (l1.append l2)) q
def mIndex : DMR := fun d ds M Q => ∃ xs y j z, ds = [y] ∧ dItems d M = some xs ∧ d ≠ .tup xs ∧ (dOk 63 y = true ∧ xs.all (dOk 63) = true) ∧ xs[j]? = some z ∧ D.eqv z y = true ∧ (∀ (i : Nat) (u : D), i < j → xs[i]? = some u → D.eqv u y = false) ∧ Q (.int (j : Nat)) M
theorem m_index (hu : X.A.units + 65 < cLine) : MtR X "list.index" (upM X.K mIndex) := by
  intro pins s σ H x vs v us Q I rx rv ⟨d, ds, M, Q', r1, l, m, ⟨xs, y, j, z, e1, h, h2, ⟨h3, h4⟩, hj, hz, hno, q⟩, k⟩
  subst e1
  obtain ⟨w, e, rw'⟩ := repL_one l
  subst e
  obtain ⟨a, ws, rfl, _, l3, h5⟩ := lst_of r1 m h h2
  have hs : SeqAt.shaped (PyData.list (D.pys xs)) = true := dOk_shaped (n := 64) (d := .lst xs) h4 (Nat.le_refl _)
  refine mt_indexD hu pins s σ H _ _ v us Q I rx rv ⟨a, w, y.py, D.pys xs, j, z.py, rfl, rfl, .lst h5 (l3.dp h4), rw'.dp h3, hs, dOk_shaped h3 (by decide), ?_, hz, fun i z' hi e => ?_, k _ _ M H (.refl H) (.int _) m q⟩
  · rw [pys_map, List.getElem?_map, hj]
    rfl
  · rw [pys_map, List.getElem?_map] at e
    cases g : xs[i]? with
    | none => rw [g] at e; cases e
    | some u' =>
      rw [g] at e
      cases e
      exact hno i u' hi g

/-! ### any, all, sum, max, min of lists -/
theorem bls_rep {K : PySem.W.Frag} {H : Hp} : ∀ {ys : List Bool} {vs : List V}, RepL K H (ys.map D.bl) vs → vs = ys.map V.bl
  | [], _, h => by
    cases h
    rfl
  | y :: ys, _, h => by
    cases h with
    | cons h1 h2 =>
      cases h1
      rw [bls_rep h2]
      rfl
theorem ints_rep {K : PySem.W.Frag} {H : Hp} : ∀ {ys : List Int} {vs : List V}, RepL K H (ys.map D.int) vs → vs = ys.map V.int
  | [], _, h => by
    cases h
    rfl
  | y :: ys, _, h => by
    cases h with
    | cons h1 h2 =>
      cases h1
      rw [ints_rep h2]
      rfl
def rAnyL : DCR := fun ds M Q => ∃ (d : D) (bs : List Bool), ds = [d] ∧ dItems d M = some (bs.map D.bl) ∧ d ≠ .tup (bs.map D.bl) ∧ Q (.bl (bs.any id)) M
def rAllL : DCR := fun ds M Q => ∃ (d : D) (bs : List Bool), ds = [d] ∧ dItems d M = some (bs.map D.bl) ∧ d ≠ .tup (bs.map D.bl) ∧ Q (.bl (bs.all id)) M
def rSumL : DCR := fun ds M Q => ∃ (d : D) (ns : List Int), ds = [d] ∧ dItems d M = some (ns.map D.int) ∧ d ≠ .tup (ns.map D.int) ∧ Q (.int ns.sum) M
def rMaxL : DCR := fun ds M Q => ∃ (d : D) (ns : List Int), ds = [d] ∧ dItems d M = some (ns.map D.int) ∧ d ≠ .tup (ns.map D.int) ∧ 0 < ns.length ∧ ∀ n : Int, n ∈ ns → (∀ y, y ∈ ns → y ≤ n) → Q (.int n) M
def rMinL : DCR := fun ds M Q => ∃ (d : D) (ns : List Int), ds = [d] ∧ dItems d M = some (ns.map D.int) ∧ d ≠ .tup (ns.map D.int) ∧ 0 < ns.length ∧ ∀ n : Int, n ∈ ns → (∀ y, y ∈ ns → n ≤ y) → Q (.int n) M
theorem c_any (hc : X.calm = true) : DCall X (.builtin "any") rAnyL := by
  intro pins s σ H vs us Q I r ⟨ds, M, Q', l, m, ⟨d, bs, e, h, h2, q⟩, k⟩
  subst e
  obtain ⟨v, e, rv⟩ := repL_one l
  subst e
  obtain ⟨a, ws, rfl, _, l3, h5⟩ := lst_of rv m h h2
  rw [bls_rep l3] at h5
  exact cr_any hc pins s σ H _ us Q I r ⟨a, bs, rfl, h5, k _ _ M H (.refl H) (.bl _) m q⟩
theorem c_all (hc : X.calm = true) : DCall X (.builtin "all") rAllL := by
  intro pins s σ H vs us Q I r ⟨ds, M, Q', l, m, ⟨d, bs, e, h, h2, q⟩, k⟩
  subst e
  obtain ⟨v, e, rv⟩ := repL_one l
  subst e
  obtain ⟨a, ws, rfl, _, l3, h5⟩ := lst_of rv m h h2
  rw [bls_rep l3] at h5
  exact cr_all hc pins s σ H _ us Q I r ⟨a, bs, rfl, h5, k _ _ M H (.refl H) (.bl _) m q⟩
theorem c_sum (hc : X.calm = true) : DCall X (.builtin "sum") rSumL := by
  intro pins s σ H vs us Q I r ⟨ds, M, Q', l, m, ⟨d, bs, e, h, h2, q⟩, k⟩
  subst e
  obtain ⟨v, e, rv⟩ := repL_one l
  subst e
  obtain ⟨a, ws, rfl, _, l3, h5⟩ := lst_of rv m h h2
  rw [ints_rep l3] at h5
  exact cr_sum hc pins s σ H _ us Q I r ⟨a, bs, rfl, h5, k _ _ M H (.refl H) (.int _) m q⟩
theorem c_max (hc : X.calm = true) : DCall X (.builtin "max") rMaxL := by
  intro pins s σ H vs us Q I r ⟨ds, M, Q', l, m, ⟨d, bs, e, h, h2, h0, q⟩, k⟩
  subst e
  obtain ⟨v, e, rv⟩ := repL_one l
  subst e
  obtain ⟨a, ws, rfl, _, l3, h5⟩ := lst_of rv m h h2
  rw [ints_rep l3] at h5
  exact cr_max hc pins s σ H _ us Q I r ⟨a, bs, rfl, h5, h0, fun n h6 h7 => k _ _ M H (.refl H) (.int _) m (q n h6 h7)⟩
theorem c_min (hc : X.calm = true) : DCall X (.builtin "min") rMinL := by
  intro pins s σ H vs us Q I r ⟨ds, M, Q', l, m, ⟨d, bs, e, h, h2, h0, q⟩, k⟩
  subst e
  obtain ⟨v, e, rv⟩ := repL_one l
  subst e
  obtain ⟨a, ws, rfl, _, l3, h5⟩ := lst_of rv m h h2
  rw [ints_rep l3] at h5
  exact cr_min hc pins s σ H _ us Q I r ⟨a, bs, rfl, h5, h0, fun n h6 h7 => k _ _ M H (.refl H) (.int _) m (q n h6 h7)⟩

/-! ### list(range(..)) -/
def dLRg (te : DTE) : DTE := fun m M Q => te m M fun d M1 => ∃ j : Int, d = .int j ∧ (-1000000000 ≤ j ∧ j ≤ 16777216) ∧ ∀ p, M1 p = none → Q (.ref p) (mput M1 p (.lst (rangeD 0 j.toNat)))
theorem repL_rg {K : PySem.W.Frag} {H : Hp} (j : Int) : RepL K H (rangeD 0 j.toNat) (rgV 0 j) := by
  unfold rangeD rgV
  rw [Int.sub_zero]
  generalize List.range j.toNat = ks
  induction ks with
  | nil => exact .nil
  | cons n ks ih => exact .cons (.int _) ih
theorem d_lrg {p pos p2 pos2 : Pos} (hc : X.calm = true) (hg : Gl X "list") (hm : X.mg "list" = none) (hg2 : Gl X "range") (hm2 : X.mg "range" = none) (ha : DE X a ta) (na : starEach [a] X.env = (false, eval a X.env) :: starEach [] X.env := by rfl)
    (nb : starEach [.Call (.Name "range" p) [a] [] pos] X.env = (false, eval (.Call (.Name "range" p) [a] [] pos) X.env) :: starEach [] X.env := by rfl) : DE X (.Call (.Name "list" p2) [.Call (.Name "range" p) [a] [] pos] [] pos2) (dLRg ta) :=
  imE (pe_listRg hc hg hm (prg_1 hg2 hm2 ha na) nb) fun σ H Q ⟨m, M, Q', r, q, k⟩ => by
    refine ⟨m, M, _, r, q, fun d v M1 H1 g1 r1 m1 ⟨j, e1, ⟨h1, h2⟩, q1⟩ => ?_⟩
    subst e1
    cases r1
    have hsl := sizeLine_eq
    refine ⟨j, rfl, ⟨by omega, by omega, by omega, by omega, by omega⟩, fun p hp => ?_⟩
    exact k _ _ _ _ (g1.trans (.new hp)) (.ref p) (m1.newLst hp (by rw [rgV_length]; omega) (repL_rg j)) (q1 p (m1.free hp))

/-! ### enumerate(a list that stays) -/
def enumD : Nat → List D → List D
  | _, [] => []
  | n, x :: r => .tup [.int n, x] :: enumD (n + 1) r
theorem enumD_len : ∀ (n : Nat) (xs : List D), (enumD n xs).length = xs.length
  | _, [] => rfl
  | n, _ :: r => congrArg (· + 1) (enumD_len (n + 1) r)
theorem enumD_get : ∀ (n : Nat) (xs : List D) (i : Nat), (enumD n xs)[i]? = xs[i]?.map fun x => .tup [.int ((n + i : Nat) : Int), x]
  | _, [], _ => by simp [enumD]
  | n, x :: r, 0 => by simp [enumD]
  | n, x :: r, i + 1 => by
    rw [enumD, List.getElem?_cons_succ, List.getElem?_cons_succ, enumD_get (n + 1) r i, Nat.add_assoc, Nat.add_comm 1 i]
def diEnum (t : DTA) : DTI := fun m M Q => t m M fun ds M1 => ∃ xs, ds = [.lst xs] ∧ Q (enumD 0 xs, none) M1
theorem di_enum {elts : List Expr} {kk : Nat} {tpos : Pos} (hg : Gl X "enumerate") (hm : X.mg "enumerate" = none) (ha : DA X [e] t) (hs : starEach [e] X.env = [(false, eval e X.env)] := by rfl) :
    DI X (.Tuple elts kk tpos) (.Call (.Name "enumerate" p) [e] [] pos) (diEnum t) :=
  imI (pi_enum hg hm ha hs) fun σ H Q ⟨m, M, Q', r, q, k⟩ => by
    refine ⟨m, M, _, r, q, fun ds vs M1 H1 g1 r1 m1 ⟨xs, e1, q1⟩ => ?_⟩
    subst e1
    obtain ⟨v, e2, rv⟩ := repL_one r1
    subst e2
    cases rv with
    | lst hf z l =>
      refine ⟨_, _, rfl, hf.seq, k _ M1 H1 _ g1 m1 q1 ⟨?_, fun i H2 ok hi => ?_, fun i H2 x H3 ok hi y => ?_, fun H2 ok => ?_⟩⟩
      · show (enumD 0 xs).length ≤ sizeLine
        rw [enumD_len, l.length]
        exact z
      · have hi' : i < xs.length := by rw [← enumD_len 0 xs]; exact hi
        obtain ⟨w, e3, _⟩ := l.get (List.getElem?_eq_getElem hi')
        exact ⟨_, w, (hf.grow ok.1).seq, e3⟩
      · obtain ⟨T, x', e3, hT, e4, hx⟩ := y
        subst e3
        subst e4
        obtain ⟨d, e5, rd⟩ := l.get' (hx _ (hf.grow ok.1).seq)
        refine ⟨.new hT, fun M2 rm => rm.new hT, .tup [.int ((0 + i : Nat) : Int), d], ?_, ?_⟩
        · show (enumD 0 xs)[i]? = _
          rw [enumD_get, e5]
          rfl
        · rw [Nat.zero_add]
          exact .tup (.of upd_same) (by show 2 ≤ sizeLine; decide) (.cons (.int _) (.cons (rd.grow (ok.1.trans (.new hT))) .nil))
      · refine ⟨_, (hf.grow ok.1).seq, ?_⟩
        show _ ≤ (enumD 0 xs).length
        rw [enumD_len, l.length]
        exact Nat.le_refl _
end
end DL
namespace DL
open PySem PySem.Spec PyProof.Rows L2
open PySem.W (EachIs AllAlike Sortable dataLe sorted_data alike alikeAll)

/-! ### a module's tuple -/
/-- what the module's name x holds: a tuple that K knows -/
def GlT (K : PySem.W.Frag) (mg : Str → Option Value) (x : Str) (d : D) : Prop := ∃ a, mg x = some (.ref a) ∧ ∀ H, Rep K H d (.ref a)
theorem d_glT {X : Cx} {x : Str} {d : D} {pos : Pos} (hg : Gl X x) (h : GlT X.K X.mg x d) (hd : (x == ("__debug__" : Str)) = false := by decide) : DE X (.Name x pos) (dC d) := by
  obtain ⟨a, h1, h2⟩ := h
  exact imE (pe_glob (v := .ref a) hg h1 rfl hd) fun σ H Q ⟨m, M, Q', r, q, k⟩ => k d _ M H (.refl H) (h2 H) r.mem q
theorem glT_strs {K : PySem.W.Frag} {mg : Str → Option Value} {x : Str} {a : Addr} {od : Option Addr} {its : Array Value} {n : Nat} {sl : Array (Option Value)} {ys : List Str} (h1 : mg x = some (.ref a)) (h2 : K.lookup a = some ⟨.type "tuple", od, .seq its n, sl⟩)
    (h3 : its.size ≤ sizeLine) (h4 : Vals (ys.map V.str) its.toList) : GlT K mg x (.tup (ys.map D.str)) := by
  refine ⟨a, h1, fun H => .tup (.inr ⟨_, its, n, h2, rfl, rfl, h3, h4⟩) ?_ ?_⟩
  · have := h4.length
    rw [this, Array.length_toList]
    exact h3
  · clear h4
    induction ys with
    | nil => exact .nil
    | cons y ys ih => exact .cons (.str y) ih

/-! ### sorted(a list of data) -/
section
variable {X : Cx}
def srtD (xs : List D) : List D := xs.mergeSort (dataLe false D.py)
theorem srtD_perm (xs : List D) : (srtD xs).Perm xs := List.mergeSort_perm _ _
def rSortD : DCR := fun ds M Q => ∃ d xs, ds = [d] ∧ dItems d M = some xs ∧ d ≠ .tup xs ∧ xs.all (dOk 32) = true ∧ AllAlike (xs.map D.py) ∧ Sortable (xs.map D.py) ∧ ∀ p, M p = none → Q (.ref p) (mput M p (.lst (srtD xs)))
theorem reads_each {pins : List (Addr × Obj)} {σ : SL} {H : Hp} {s : Shared} (I : Inv X pins σ H s) : ∀ {xs : List D} {vs : List V} {its : List Value}, RepL X.K H xs vs → Vals vs its → xs.all (dOk 32) = true →
    EachIs (fun v b => ∃ as, Reads s.heap v (D.py b) as) its xs
  | _, _, _, .nil, .nil, _ => .nil
  | _, _, _, .cons h1 h2, .cons r1 r2, h => by
    rw [List.all_cons, Bool.and_eq_true] at h
    exact .cons (Dp.reads I _ _ _ (h1.dp h.1) r1) (reads_each I h2 r2 h.2)
theorem rel_each {K : PySem.W.Frag} {H : Hp} : ∀ {xs : List D} {vs : List V} {its : List Value}, RepL K H xs vs → Vals vs its → EachIs (fun v b => ∃ y, RelV y v ∧ Rep K H b y) its xs
  | _, _, _, .nil, .nil => .nil
  | _, _, _, .cons h1 h2, .cons r1 r2 => .cons ⟨_, r1, h1⟩ (rel_each h2 r2)
theorem each_rel {K : PySem.W.Frag} {H : Hp} : ∀ {xs : List D} {its : List Value}, EachIs (fun v b => ∃ y, RelV y v ∧ Rep K H b y) its xs → ∃ vs, Vals vs its ∧ RepL K H xs vs
  | _, _, .nil => ⟨[], .nil, .nil⟩
  | _, _, .cons ⟨y, h1, h2⟩ t => by
    obtain ⟨vs, h3, h4⟩ := each_rel t
    exact ⟨y :: vs, .cons h1 h3, .cons h2 h4⟩
theorem c_sortD (hu : X.A.units + 40 < cLine) : DCall X (.builtin "sorted") rSortD := by
  intro pins s σ H vs us Q I r ⟨ds, M, Q', l, m, ⟨d, xs, e, h, h2, h3, h4, h5, q⟩, k⟩
  subst e
  obtain ⟨v, e, rv⟩ := repL_one l
  subst e
  obtain ⟨a, ws, rfl, z, l3, h6⟩ := lst_of rv m h h2
  obtain ⟨its, r2, pl, _⟩ := I.list h6
  rw [Vals.ref1 r]
  have hz : xs.length ≤ sizeLine := by rw [l3.length]; exact z
  refine sorted_data (vs := its) (bs := xs) (enc := D.py) pl.isList (rel_each l3 r2) (reads_each I l3 r2 h3) h4 h5 hz (fun b hb => ?_) fun out ho hr => ?_
  · have := (dOk_lay 32 b (List.all_eq_true.mp h3 b hb)).2
    omega
  · obtain ⟨vs', h7, h8⟩ := each_rel hr
    obtain ⟨ep, he'⟩ := PyProof.Rows.sortedAll_at s.heap its out.toArray
    have hlen : vs'.length ≤ sizeLine := by rw [← h8.length, List.length_mergeSort]; exact hz
    have hp := I.hok.fresh (Nat.le_succ s.heap.objs.size)
    refine ⟨.ref _, upd H (s.heap.objs.size + 1) (.lst vs'), I.laid (t' := s.toks) (fun _ _ => PyProof.Rows.sortedAll_old) (Nat.le_succ _) ⟨hlen, out, ep, h7, he'⟩, rfl, ?_⟩
    exact k _ _ _ _ (.new hp) (.ref _) (m.newLst hp hlen h8) (q _ (m.free hp))
end

/-! ### comprehensions with two clauses -/
def dLcIn (src : Src) (g : DTG) (tt : DTT) (te : DTE) (m0 : DSt) (p : Addr) (Nx : List D → DM → Prop) : List D → List D → DM → Prop
  | [], acc, M => SrcV src M ∧ M p = some (.lst acc) ∧ Nx acc M
  | d :: ds, acc, M => SrcV src M ∧ g d m0 M fun m1 M1 => tt m1 M1 fun b M2 =>
      if b = true then te m1 M2 fun y M3 => M3 p = some (.lst acc) ∧ acc.length < 16777216 ∧ dLcIn src g tt te m0 p Nx ds (acc ++ [y]) (mput M3 p (.lst (acc ++ [y])))
      else dLcIn src g tt te m0 p Nx ds acc M2
def dLcOut (src : Src) (g : DTG) (tt : DTT) (t1 : DTI) (g1 : DTG) (tt1 : DTT) (te : DTE) (ws1 : List Nat) (m0 : DSt) (p : Addr) (Qd : List D → DM → Prop) : List D → List D → DM → Prop
  | [], acc, M => SrcV src M ∧ M p = some (.lst acc) ∧ Qd acc M
  | d :: ds, acc, M => SrcV src M ∧ g d m0 M fun m1 M1 => tt m1 M1 fun b M2 =>
      if b = true then t1 m1 M2 fun src1 M3 => src1.1.length ≤ sizeLine → dLcIn src1 g1 tt1 te (dwipe m1 ws1) p (fun acc' M' => dLcOut src g tt t1 g1 tt1 te ws1 m0 p Qd ds acc' M') src1.1 acc M3
      else dLcOut src g tt t1 g1 tt1 te ws1 m0 p Qd ds acc M2
def dLc2 (t : DTI) (g : DTG) (tt : DTT) (t1 : DTI) (g1 : DTG) (tt1 : DTT) (te : DTE) (vs ws1 : List Nat) : DTE := fun m M Q => t m M fun src M1 => src.1.length ≤ sizeLine → ∀ p, M1 p = none → dLcOut src g tt t1 g1 tt1 te ws1 (dwipe m vs) p (fun _ M2 => Q (.ref p) M2) src.1 [] (mput M1 p (.lst []))
def dLc2F (t : DTI) (g : DTG) (tt : DTT) (t1 : DTI) (g1 : DTG) (tt1 : DTT) (te : DTE) (vs ws1 : List Nat) : DTE := fun m M Q => t m M fun src M1 => src.1.length ≤ sizeLine → ∀ p, M1 p = none → dLcOut src g tt t1 g1 tt1 te ws1 (dwipe m vs) p (fun acc M2 => Q (.lst acc) (mdel M2 p)) src.1 [] (mput M1 p (.lst []))
section
variable {X : Cx} {elt tg iter tg1 iter1 : Expr} {ifs ifs1 : List Expr} {scope : Scope} {own : List (Str × Nat)} {pos : Pos} {t t1 : DTI} {g g1 : DTG} {tt tt1 : DTT} {te : DTE} {ws ws1 : List Nat}
theorem lc2_up {K : PySem.W.Frag} {vs : List Nat} (hsub : ∀ i ∈ ws, i ∈ vs) {σ : SL} {H : Hp} {Q : VK} {Qf : Addr → List D → DM → Prop}
    (fin : ∀ p acc ws M2 H2, Grow H H2 → RM K H2 M2 → H2 p = some (.lst ws) → ws.length ≤ sizeLine → RepL K H2 acc ws → M2 p = some (.lst acc) → Qf p acc M2 → Q (.ref p) H2)
    (m : DSt) (M : DM) (r : R K m M σ H) (q : t m M fun src M1 => src.1.length ≤ sizeLine → ∀ p, M1 p = none → dLcOut src g tt t1 g1 tt1 te ws1 (dwipe m vs) p (Qf p) src.1 [] (mput M1 p (.lst []))) :
    tLc2 (upI K t) (upG K ws g) (upT K tt) (upI K t1) (upG K ws1 g1) (upT K tt1) (upE K te) vs ws1 σ H Q := by
  refine ⟨m, M, _, r, q, fun src M1 H1 J g0 m1 q1 st p np => ?_⟩
  have q2 := q1 st.small p (m1.free np)
  have g2 : Grow H1 (upd H1 p (.lst [])) := .new np
  refine ⟨fun i n H2 => i + n = src.1.length ∧ Grow H1 H2 ∧ ∃ acc M2, RM K H2 M2 ∧ dLcOut src g tt t1 g1 tt1 te ws1 (dwipe m vs) p (Qf p) (src.1.drop i) acc M2,
    ⟨src.1.length, by omega, g2, [], _, m1.newLst np (Nat.zero_le _) .nil, q2⟩, ?_⟩
  rintro i n H2 ⟨hl, g3, acc, M2, m2, q3⟩
  have r2 : R K (dwipe m vs) M2 (wipe σ vs) H2 := (r.wipe vs).grow (g0.trans g3) m2
  by_cases hlt : i < src.1.length
  · rw [List.drop_eq_getElem_cons hlt] at q3
    obtain ⟨sv, q3⟩ := q3
    have so := sv.ok g3 m2
    refine .inr ⟨st.go i H2 so hlt, fun H3 => Grow H1 H3 ∧ ∃ acc M2, RM K H3 M2 ∧ dLcOut src g tt t1 g1 tt1 te ws1 (dwipe m vs) p (Qf p) (src.1.drop (i + 1)) acc M2,
      fun H3 ⟨g4, z⟩ => ⟨n - 1, by omega, by omega, g4, z⟩, fun x H3 y => ?_⟩
    obtain ⟨g4, k4, d, e4, rd⟩ := st.yld i H2 x H3 so hlt y
    have ed : d = src.1[i] := by
      rw [List.getElem?_eq_getElem hlt] at e4
      exact (Option.some.inj e4).symm
    subst ed
    refine ⟨_, _, M2, _, rd, r2.grow g4 (k4 _ m2), q3, fun m5 M5 σ5 H5 g5 r5 o5 q5 => ⟨wipe_off o5 hsub, ?_⟩⟩
    refine ⟨m5, M5, _, r5, q5, fun b M6 H6 g6 m6 q6 => ?_⟩
    have g06 : Grow H1 H6 := ((g3.trans g4).trans g5).trans g6
    have r6 := r5.grow g6 m6
    cases b with
    | true =>
      refine ⟨m5, M6, _, r6, q6, fun src1 M7 H7 J1 g7 m7 q7 st1 => ?_⟩
      have q8 := q7 st1.small
      refine ⟨fun j n H8 => j + n = src1.1.length ∧ Grow H7 H8 ∧ ∃ acc M8, RM K H8 M8 ∧ dLcIn src1 g1 tt1 te (dwipe m5 ws1) p (fun acc' M' => dLcOut src g tt t1 g1 tt1 te ws1 (dwipe m vs) p (Qf p) (src.1.drop (i + 1)) acc' M') (src1.1.drop j) acc M8,
        ⟨src1.1.length, by omega, .refl _, acc, M7, m7, q8⟩, ?_⟩
      rintro j n1 H8 ⟨hl1, g8, acc8, M8, m8, q9⟩
      have r8 : R K (dwipe m5 ws1) M8 (wipe σ5 ws1) H8 := (r6.wipe ws1).grow (g7.trans g8) m8
      by_cases hlt1 : j < src1.1.length
      · rw [List.drop_eq_getElem_cons hlt1] at q9
        obtain ⟨sv1, q9⟩ := q9
        have so1 := sv1.ok g8 m8
        refine .inr ⟨st1.go j H8 so1 hlt1, fun H9 => Grow H7 H9 ∧ ∃ acc M8, RM K H9 M8 ∧ dLcIn src1 g1 tt1 te (dwipe m5 ws1) p (fun acc' M' => dLcOut src g tt t1 g1 tt1 te ws1 (dwipe m vs) p (Qf p) (src.1.drop (i + 1)) acc' M') (src1.1.drop (j + 1)) acc M8,
          fun H9 ⟨g9, z⟩ => ⟨n1 - 1, by omega, by omega, g9, z⟩, fun x1 H9 y1 => ?_⟩
        obtain ⟨g9, k9, d1, e9, rd1⟩ := st1.yld j H8 x1 H9 so1 hlt1 y1
        have ed1 : d1 = src1.1[j] := by
          rw [List.getElem?_eq_getElem hlt1] at e9
          exact (Option.some.inj e9).symm
        subst ed1
        refine ⟨_, _, M8, _, rd1, r8.grow g9 (k9 _ m8), q9, fun mA MA σA HA gA rA oA qA => ⟨wipe_off oA (fun i h => h), ?_⟩⟩
        refine ⟨mA, MA, _, rA, qA, fun b1 MB HB gB mB qB => ?_⟩
        have g0B : Grow H7 HB := ((g8.trans g9).trans gA).trans gB
        cases b1 with
        | true =>
          refine ⟨mA, MB, _, rA.grow gB mB, qB, fun y v MC HC gC rv mC ⟨eC, hC, qC⟩ => ?_⟩
          obtain ⟨us, h8, z8, l8⟩ := mC.lst eC
          have hsz : us.length < sizeLine := by rw [← l8.length, sizeLine_eq]; exact hC
          exact ⟨us, h8, hsz, (g0B.trans gC).trans (.put h8), _, _, mC.putLst h8 (by rw [List.length_append]; exact hsz) (l8.append (.one rv)), qC⟩
        | false => exact ⟨g0B, acc8, MB, mB, qB⟩
      · have e : j = src1.1.length := by omega
        subst e
        rw [List.drop_length] at q9
        exact .inl ⟨st1.stop H8 (q9.1.ok g8 m8), (g06.trans g7).trans g8, acc8, M8, m8, q9.2.2⟩
    | false => exact ⟨g06, acc, M6, m6, q6⟩
  · have e : i = src.1.length := by omega
    subst e
    rw [List.drop_length] at q3
    obtain ⟨us, h8, z8, l8⟩ := m2.lst q3.2.1
    exact .inl ⟨st.stop H2 (q3.1.ok g3 m2), fin p acc us M2 H2 (g0.trans g3) m2 h8 z8 l8 q3.2.1 q3.2.2⟩
theorem d_lc2F (hc : X.calm = true) (hN : X.N.Nodup) (hi : DI X tg iter t) (ok : BlkOk X.N X.env.scope scope own) (hsub : ∀ i ∈ ws, i ∈ own.map (·.2)) (hsub1 : ∀ i ∈ ws1, i ∈ own.map (·.2))
    (hg : ∀ (s : Shared) (H : Hp) (C : Addr) (cl : List (Str × Addr)) (fp : List Addr), DG (X.blk s H scope (compEnvC scope cl C X.env) fp) ws tg g)
    (ht : ∀ (s : Shared) (H : Hp) (C : Addr) (cl : List (Str × Addr)) (fp : List Addr), DPTs (X.blk s H scope (compEnvC scope cl C X.env) fp) ifs tt)
    (hi1 : ∀ (s : Shared) (H : Hp) (C : Addr) (cl : List (Str × Addr)) (fp : List Addr), DI (X.blk s H scope (compEnvC scope cl C X.env) fp) tg1 iter1 t1)
    (hg1 : ∀ (s : Shared) (H : Hp) (C : Addr) (cl : List (Str × Addr)) (fp : List Addr), DG (X.blk s H scope (compEnvC scope cl C X.env) fp) ws1 tg1 g1)
    (ht1 : ∀ (s : Shared) (H : Hp) (C : Addr) (cl : List (Str × Addr)) (fp : List Addr), DPTs (X.blk s H scope (compEnvC scope cl C X.env) fp) ifs1 tt1)
    (he : ∀ (s : Shared) (H : Hp) (C : Addr) (cl : List (Str × Addr)) (fp : List Addr), DE (X.blk s H scope (compEnvC scope cl C X.env) fp) elt te)
    (hs : ∀ x, foldedSetIterable iter X.env x = pure x := by intro _; rfl) (hs1 : ∀ env x, foldedSetIterable iter1 env x = pure x := by intro _ _; rfl) :
    DE X (.ListComp elt [⟨tg, iter, ifs, 0⟩, ⟨tg1, iter1, ifs1, 0⟩] scope pos) (dLc2F t g tt t1 g1 tt1 te (own.map (·.2)) ws1) :=
  imE (pe_fz (pe_lc2 hc hN hi ok hsub1 hg ht hi1 hg1 ht1 he hs hs1)) fun σ H Q ⟨m, M, Q', r, q, k⟩ =>
    lc2_up (Qf := fun p acc M2 => Q' (.lst acc) (mdel M2 p)) hsub (fun p acc ws M2 H2 g2 m2 h8 z8 l8 _ q2 =>
      ⟨p, ws, rfl, h8, fun o => k _ _ _ _ (g2.trans (.put h8)) (.lst (.inl ⟨o, upd_same⟩) z8 (l8.grow (.put h8))) (m2.frz h8) q2⟩) m M r q
/-- name = [.. for .. for ..]: the list is frozen behind it -/
theorem ds_setLc2F {y : Str} {py spos : Pos} {i : Nat} (hc : X.calm = true) (hN : X.N.Nodup) (hy : X.N[i]? = some y) (hyl : X.env.scope.names.lookup y = some .local)
    (hsw : swapsWith (.ListComp elt [⟨tg, iter, ifs, 0⟩, ⟨tg1, iter1, ifs1, 0⟩] scope pos) (some (.Name y py)) spos.line X.env = pure true) (hi : DI X tg iter t) (ok : BlkOk X.N X.env.scope scope own) (hsub : ∀ i ∈ ws, i ∈ own.map (·.2)) (hsub1 : ∀ i ∈ ws1, i ∈ own.map (·.2))
    (hg : ∀ (s : Shared) (H : Hp) (C : Addr) (cl : List (Str × Addr)) (fp : List Addr), DG (X.blk s H scope (compEnvC scope cl C X.env) fp) ws tg g)
    (ht : ∀ (s : Shared) (H : Hp) (C : Addr) (cl : List (Str × Addr)) (fp : List Addr), DPTs (X.blk s H scope (compEnvC scope cl C X.env) fp) ifs tt)
    (hi1 : ∀ (s : Shared) (H : Hp) (C : Addr) (cl : List (Str × Addr)) (fp : List Addr), DI (X.blk s H scope (compEnvC scope cl C X.env) fp) tg1 iter1 t1)
    (hg1 : ∀ (s : Shared) (H : Hp) (C : Addr) (cl : List (Str × Addr)) (fp : List Addr), DG (X.blk s H scope (compEnvC scope cl C X.env) fp) ws1 tg1 g1)
    (ht1 : ∀ (s : Shared) (H : Hp) (C : Addr) (cl : List (Str × Addr)) (fp : List Addr), DPTs (X.blk s H scope (compEnvC scope cl C X.env) fp) ifs1 tt1)
    (he : ∀ (s : Shared) (H : Hp) (C : Addr) (cl : List (Str × Addr)) (fp : List Addr), DE (X.blk s H scope (compEnvC scope cl C X.env) fp) elt te)
    (hs : ∀ x, foldedSetIterable iter X.env x = pure x := by intro _; rfl) (hs1 : ∀ env x, foldedSetIterable iter1 env x = pure x := by intro _ _; rfl) (hil : i < X.N.length := by exact Nat.le_of_ble_eq_true rfl) :
    DS X (.Assign [.Name y py] (.ListComp elt [⟨tg, iter, ifs, 0⟩, ⟨tg1, iter1, ifs1, 0⟩] scope pos) spos) (dSet i (dLc2F t g tt t1 g1 tt1 te (own.map (·.2)) ws1)) := by
  refine ⟨fun pins s σ H Z I h => (ps_after i (ps_setLc2 (wi := upI X.K t) (g := upG X.K ws g) (tt := upT X.K tt) (wi1 := upI X.K t1) (g1 := upG X.K ws1 g1) (tt1 := upT X.K tt1) (te := upE X.K te) hc hN hy hyl hsw hi ok hsub1 hg ht hi1 hg1 ht1 he hs hs1)).run pins s σ H Z I ?_⟩
  obtain ⟨m, M, Z', r, q, k⟩ := h
  have hσ : i < σ.length := by rw [I.len]; exact hil
  refine lc2_up (Qf := fun p acc M2 => Z'.nx (m.set i (some (.lst acc))) (mdel M2 p)) hsub (fun p acc ws M2 H2 g2 m2 h8 z8 l8 _ q2 => ?_) m M r q
  refine ⟨p, ws, List.getElem?_set_self hσ, h8, fun o => k.nx _ _ _ _ (g2.trans (.put h8)) ?_ q2⟩
  exact (r.grow (g2.trans (.put h8)) (m2.frz h8)).set (.lst (.inl ⟨o, upd_same⟩) z8 (l8.grow (.put h8)))
end
end DL
namespace DL
open PySem PySem.Spec PyProof.Rows L2
/-! ### readings, by what comes -/
theorem dAdd_ii {i j : Int} {M : DM} {Q : DVK} : dAdd (.int i) (.int j) M Q = Q (.int (i + j)) M := rfl
theorem dAdd_ss {i j : Str} {M : DM} {Q : DVK} : dAdd (.str i) (.str j) M Q = (i.length + j.length ≤ 16777216 ∧ Q (.str (i ++ j)) M) := rfl
theorem dAdd_tt {i j : List D} {M : DM} {Q : DVK} : dAdd (.tup i) (.tup j) M Q = (i.length + j.length ≤ 16777216 ∧ Q (.tup (i ++ j)) M) := rfl
theorem dMulA_ii {i j : Int} {M : DM} {Q : DVK} : dMulA (.int i) (.int j) M Q = (CMulA i j ∧ Q (.int (i * j)) M) := rfl
theorem dMulA_si {z : Str} {k : Int} {M : DM} {Q : DVK} : dMulA (.str z) (.int k) M Q = ((0 ≤ k ∧ k ≤ 1000000) ∧ z.length * k.toNat ≤ 16777216 ∧ Q (.str (srep z k.toNat)) M) := rfl
theorem dIxS_str {z : Str} {y : D} {M : DM} {Q : DVK} : dIxS (.str z) y M Q = ∃ i c, y = .int i ∧ z.length ≤ 16777216 ∧ sgn z i = some c ∧ Q (.str c) M := rfl
theorem dIxS_tup {z : List D} {y : D} {M : DM} {Q : DVK} : dIxS (.tup z) y M Q = dIx (.tup z) y M Q := rfl
theorem dIxS_lst {z : List D} {y : D} {M : DM} {Q : DVK} : dIxS (.lst z) y M Q = dIx (.lst z) y M Q := rfl
theorem dIxS_ref {z : Addr} {y : D} {M : DM} {Q : DVK} : dIxS (.ref z) y M Q = dIx (.ref z) y M Q := rfl
theorem hu_40 {k : Nat} {A : Around} (hr : Room k A) : A.units + 40 < cLine := by
  have := hr.units
  omega
end DL
namespace DL
open PySem PySem.Spec PyProof.Rows L2

/-! ### plain data: == is identity -/
mutual
def pln : D → Bool
  | .non => true
  | .int _ => true
  | .str _ => true
  | .tup xs => plns xs
  | .lst xs => plns xs
  | .bl _ => false
  | .dct _ => false
  | .ref _ => false
  | .ty _ => false
def plns : List D → Bool
  | [] => true
  | x :: xs => pln x && plns xs
end
theorem plns_iff : ∀ {xs : List D}, plns xs = true ↔ ∀ x ∈ xs, pln x = true
  | [] => by simp [plns]
  | x :: xs => by simp [plns, plns_iff (xs := xs)]
mutual
theorem eqv_pl : ∀ (x y : D), pln x = true → pln y = true → (D.eqv x y = true ↔ x = y)
  | .non, y, _, hy => by cases y <;> simp_all [D.eqv, D.py, PyData.eqv, pln]
  | .int i, y, _, hy => by cases y <;> simp_all [D.eqv, D.py, PyData.eqv, pln]
  | .str i, y, _, hy => by cases y <;> simp_all [D.eqv, D.py, PyData.eqv, pln]
  | .tup xs, .tup ys, hx, hy => by
    have h := eqvs_pl xs ys (by simpa [pln] using hx) (by simpa [pln] using hy)
    simpa [D.eqv, D.py, PyData.eqv] using h
  | .lst xs, .lst ys, hx, hy => by
    have h := eqvs_pl xs ys (by simpa [pln] using hx) (by simpa [pln] using hy)
    simpa [D.eqv, D.py, PyData.eqv] using h
  | .tup xs, .non, _, hy => by simp_all [D.eqv, D.py, PyData.eqv, pln]
  | .tup xs, .bl _, _, hy => by simp_all [D.eqv, D.py, PyData.eqv, pln]
  | .tup xs, .int _, _, hy => by simp_all [D.eqv, D.py, PyData.eqv, pln]
  | .tup xs, .str _, _, hy => by simp_all [D.eqv, D.py, PyData.eqv, pln]
  | .tup xs, .lst _, _, hy => by simp_all [D.eqv, D.py, PyData.eqv, pln]
  | .tup xs, .dct _, _, hy => by simp_all [pln]
  | .tup xs, .ref _, _, hy => by simp_all [pln]
  | .tup xs, .ty _, _, hy => by simp_all [pln]
  | .lst xs, .non, _, hy => by simp_all [D.eqv, D.py, PyData.eqv, pln]
  | .lst xs, .bl _, _, hy => by simp_all [D.eqv, D.py, PyData.eqv, pln]
  | .lst xs, .int _, _, hy => by simp_all [D.eqv, D.py, PyData.eqv, pln]
  | .lst xs, .str _, _, hy => by simp_all [D.eqv, D.py, PyData.eqv, pln]
  | .lst xs, .tup _, _, hy => by simp_all [D.eqv, D.py, PyData.eqv, pln]
  | .lst xs, .dct _, _, hy => by simp_all [pln]
  | .lst xs, .ref _, _, hy => by simp_all [pln]
  | .lst xs, .ty _, _, hy => by simp_all [pln]
  | .bl _, _, hx, _ => by simp [pln] at hx
  | .dct _, _, hx, _ => by simp [pln] at hx
  | .ref _, _, hx, _ => by simp [pln] at hx
  | .ty _, _, hx, _ => by simp [pln] at hx
theorem eqvs_pl : ∀ (xs ys : List D), plns xs = true → plns ys = true → (PyData.eqvAll (D.pys xs) (D.pys ys) = true ↔ xs = ys)
  | [], [], _, _ => by simp [D.pys, PyData.eqvAll]
  | [], y :: ys, _, _ => by simp [D.pys, PyData.eqvAll]
  | x :: xs, [], _, _ => by simp [D.pys, PyData.eqvAll]
  | x :: xs, y :: ys, hx, hy => by
    rw [plns, Bool.and_eq_true] at hx hy
    have h1 := eqv_pl x y hx.1 hy.1
    have h2 := eqvs_pl xs ys hx.2 hy.2
    rw [D.eqv] at h1
    simp [D.pys, PyData.eqvAll, h1, h2]
end
theorem eqv_ne {x y : D} (hx : pln x = true) (hy : pln y = true) (h : x ≠ y) : D.eqv x y = false := by
  cases e : D.eqv x y with
  | false => rfl
  | true => exact absurd ((eqv_pl x y hx hy).mp e) h
theorem any_eqv {x : D} {ys : List D} (hx : pln x = true) (hy : plns ys = true) : (ys.any fun z => D.eqv z x) = true ↔ x ∈ ys := by
  rw [List.any_eq_true]
  refine ⟨fun ⟨z, hz, e⟩ => ?_, fun h => ⟨x, h, (eqv_pl x x hx hx).mpr rfl⟩⟩
  have := (eqv_pl z x (plns_iff.mp hy z hz) hx).mp e
  exact this ▸ hz
/-- x in words -/
theorem any_strs (x : Str) (ys : List Str) : ((ys.map D.str).any fun z => D.eqv z (.str x)) = decide (x ∈ ys) := by
  induction ys with
  | nil => rfl
  | cons y ys ih =>
    rw [List.map_cons, List.any_cons, ih, eqv_str]
    by_cases h : y = x
    · simp [h]
    · simp [h, Ne.symm h]

/-! ### heaps -/
theorem MLe.none {M N : DM} {a : Addr} (l : MLe M N) (h : N a = none) : M a = none := by
  cases e : M a with
  | none => rfl
  | some o => rw [l a o e] at h; cases h
theorem MLe.del {M N : DM} {a : Addr} (l : MLe M N) (h : M a = Option.none) : MLe M (mdel N a) := fun b o e => by
  have hb : b ≠ a := fun z => by rw [z, h] at e; cases e
  unfold mdel
  rw [if_neg hb]
  exact l b o e
theorem mput_swap {M : DM} {p q : Addr} {o o' l : DO} (h : p ≠ q) : mput (mput (mput M p o) q l) p o' = mput (mput M p o') q l := by
  rw [mput_comm h, mput_mput, mput_comm h.symm]
theorem mput_fresh {M : DM} {p q : Addr} {o : DO} (h : p ≠ q) (hp : M q = none) : mput M p o q = none := by
  rw [mput_ne h.symm]
  exact hp

/-! ### comprehensions with two clauses -/
section
variable {src : Src} {g g1 : DTG} {tt tt1 : DTT} {t1 : DTI} {te : DTE} {ws1 : List Nat} {m0 : DSt} {p : Addr} {M1 : DM}
theorem lcIn_map {β : Type} (e : β → D) (f : β → D) {Nx : List D → DM → Prop} (sv : SrcV src M1) (hp : M1 p = none) : ∀ (xs : List β) (step : ∀ x ∈ xs, ∀ M, MLe M1 M → ∀ C1 : D → DM → Prop, C1 (f x) M → g (e x) m0 M fun m1 M1 => te m1 M1 C1)
    (acc : List D), acc.length + xs.length ≤ 16777216 → Nx (acc ++ xs.map f) (mput M1 p (.lst (acc ++ xs.map f))) → dLcIn src g dYes te m0 p Nx (xs.map e) acc (mput M1 p (.lst acc))
  | [], _, acc, _, h => ⟨fun a e => MLe.put (.refl M1) hp a _ (sv a e), mput_same, by simpa using h⟩
  | x :: xs, step, acc, hl, h => by
    rw [List.length_cons] at hl
    refine ⟨fun a e => MLe.put (.refl M1) hp a _ (sv a e), step x (by simp) _ (MLe.put (.refl M1) hp) _ ⟨mput_same, by omega, ?_⟩⟩
    rw [mput_mput]
    refine lcIn_map e f sv hp xs (fun d' h' => step d' (by simp [h'])) _ (by rw [List.length_append, List.length_singleton]; omega) ?_
    simpa using h
theorem lcOut_map {α : Type} (e : α → D) (F : α → List D) {Qd : List D → DM → Prop} (sv : SrcV src M1) (hp : M1 p = none) : ∀ (xs : List α)
    (step : ∀ x ∈ xs, ∀ (acc : List D) (Cn : List D → DM → Prop), acc.length + (F x).length ≤ 16777216 → Cn (acc ++ F x) (mput M1 p (.lst (acc ++ F x))) → g (e x) m0 (mput M1 p (.lst acc)) fun m1 M2 => tt m1 M2 fun b M3 =>
      if b = true then t1 m1 M3 fun src1 M4 => src1.1.length ≤ sizeLine → dLcIn src1 g1 tt1 te (dwipe m1 ws1) p Cn src1.1 acc M4 else Cn acc M3)
    (acc : List D), acc.length + (xs.flatMap F).length ≤ 16777216 → Qd (acc ++ xs.flatMap F) (mput M1 p (.lst (acc ++ xs.flatMap F))) → dLcOut src g tt t1 g1 tt1 te ws1 m0 p Qd (xs.map e) acc (mput M1 p (.lst acc))
  | [], _, acc, _, h => ⟨fun a e => MLe.put (.refl M1) hp a _ (sv a e), mput_same, by simpa using h⟩
  | x :: xs, step, acc, hl, h => by
    rw [List.flatMap_cons, List.length_append] at hl
    refine ⟨fun a e => MLe.put (.refl M1) hp a _ (sv a e), step x (by simp) acc _ (by omega) ?_⟩
    refine lcOut_map e F sv hp xs (fun d' h' => step d' (by simp [h'])) _ (by rw [List.length_append]; omega) ?_
    rw [List.flatMap_cons] at h
    simpa using h
end
/-- loops: what is left of a list, with what is gathered -/
theorem flat_len {α β : Type} (f : α → List β) (n : Nat) : ∀ xs : List α, (∀ x ∈ xs, (f x).length ≤ n) → (xs.flatMap f).length ≤ n * xs.length
  | [], _ => by simp
  | x :: xs, h => by
    rw [List.flatMap_cons, List.length_append, List.length_cons, Nat.mul_succ]
    have := flat_len f n xs fun y hy => h y (by simp [hy])
    have := h x (by simp)
    omega
/-! ### texts -/
abbrev SS (cs : List Nat) : Str := ⟨cs.toArray⟩
theorem join_one (cs : List Nat) : Txt.join "" (cs.map fun c => SS [c]) = SS cs := by
  have z : ∀ cs : List Nat, TL.tl (Str.join "" (cs.map fun c => SS [c])) = cs := by
    intro cs
    rw [TL.tl_join]
    have e0 : TL.tl ("" : Str) = [] := by decide +kernel
    rw [e0]
    induction cs with
    | nil => rfl
    | cons c cs ih =>
      cases cs with
      | nil => rfl
      | cons d r =>
        show [c] ++ ([] ++ TL.joinL [] _) = _
        rw [show TL.joinL [] (TL.tl (SS [d]) :: List.map TL.tl (List.map (fun c => SS [c]) r)) = d :: r from ih]
        rfl
  rw [TL.join_eq]
  exact TL.ext_tl (z cs)
theorem len_one (cs : List Nat) : ((cs.map fun c => SS [c]).map (·.length)).sum = cs.length := by
  induction cs with
  | nil => rfl
  | cons c cs ih =>
    rw [List.map_cons, List.map_cons, List.sum_cons, ih, List.length_cons]
    show 1 + _ = _
    omega
end DL
/-! enumerate(a tuple); slices of texts. -/
namespace DL
open PySem PySem.Spec PyProof.Rows L2
section
variable {prog : Program} {w : World} {A : Around} {E : Value → Shared → Prop} {s : Shared}
theorem nextOf_tup {cu tp : Addr} {i : Nat} {its : Array Value} {u : Value} {Q : Value → Shared → Prop} (hc : s.heap.IsTupleIter cu tp i) (ht : s.heap.IsTuple tp its) (hu : its[i]? = some u)
    (hQ : ∀ h', h'.IsTupleIter cu tp (i + 1) → Heap.SameBut cu s.heap h' → Q u { s with heap := h' }) : wpAny (model prog w) A (Builtin.SmallTypes.nextOf (.ref cu)) Q E s := by
  obtain ⟨ob, go, gc, gd⟩ := id hc
  obtain ⟨ot, got, _, nt, gdt⟩ := ht
  unfold Builtin.SmallTypes.nextOf
  refine wpAny_bind (wpAny_callSpecial?_slot (name := Str.ofString "__next__") hc.typeIs F.slot_tuple_iterator_next (wpAny_call_entry F.slot_tuple_iterator_next hc.typeIs F.entry_tuple_iterator_next ?_ (F.args_tuple_iterator_next_1 _)))
  show wpAny _ _ (field (.ref cu) 0 >>= _) _ _ s
  refine wpAny_bind (wpAny_field go gd (x := .ref tp) rfl ?_)
  show wpAny _ _ (if (Value.ref tp == Value.none) = true then _ else _) _ _ s
  rw [if_neg (show ¬ ((Value.ref tp == Value.none) = true) from Bool.false_ne_true)]
  show wpAny _ _ (field (.ref cu) 1 >>= _) _ _ s
  refine wpAny_bind (wpAny_field go gd (x := .int i 0) rfl ?_)
  show wpAny _ _ (seqItems? (.ref tp) >>= _) _ _ s
  refine wpAny_bind (wpAny_seqItems got gdt ?_)
  simp only [Int.toNat_natCast, hu]
  refine wpAny_bind (wpAny_setField go gd (by simp) (wpAny_pure ⟨u, rfl, wpAny_pure (hQ _ ?_ (Heap.SameBut.update ..))⟩))
  exact ⟨_, Heap.get?_update_self _ go (Obj.isFreed_of_fields (Obj.data_mapFields gd _)), (Obj.cls_mapFields ..).trans gc, by rw [Obj.data_mapFields gd]; simp [rawInt]⟩
theorem nextOf_tup_end {cu tp : Addr} {i : Nat} {its : Array Value} {Q : Value → Shared → Prop} (hh : A.handled = none) (hc : s.heap.IsTupleIter cu tp i) (ht : s.heap.IsTuple tp its) (hu : its[i]? = none)
    (hE : ∀ h' e, Heap.ExtBut cu s.heap h' → (∃ o, h'.get? e = some o ∧ o.cls = .type "StopIteration") → E (.ref e) { s with heap := h' }) : wpAny (model prog w) A (Builtin.SmallTypes.nextOf (.ref cu)) Q E s := by
  obtain ⟨ob, go, gc, gd⟩ := id hc
  obtain ⟨ot, got, _, nt, gdt⟩ := ht
  unfold Builtin.SmallTypes.nextOf
  refine wpAny_bind (wpAny_callSpecial?_slot (name := Str.ofString "__next__") hc.typeIs F.slot_tuple_iterator_next (wpAny_call_entry F.slot_tuple_iterator_next hc.typeIs F.entry_tuple_iterator_next ?_ (F.args_tuple_iterator_next_1 _)))
  show wpAny _ _ (field (.ref cu) 0 >>= _) _ _ s
  refine wpAny_bind (wpAny_field go gd (x := .ref tp) rfl ?_)
  show wpAny _ _ (if (Value.ref tp == Value.none) = true then _ else _) _ _ s
  rw [if_neg (show ¬ ((Value.ref tp == Value.none) = true) from Bool.false_ne_true)]
  show wpAny _ _ (field (.ref cu) 1 >>= _) _ _ s
  refine wpAny_bind (wpAny_field go gd (x := .int i 0) rfl ?_)
  show wpAny _ _ (seqItems? (.ref tp) >>= _) _ _ s
  refine wpAny_bind (wpAny_seqItems got gdt ?_)
  simp only [Int.toNat_natCast, hu]
  refine wpAny_bind (wpAny_rule (wpAny_bind (wpAny_setField go gd (by simp) ?_)))
  (show wpAny _ _ (newExc (.type "StopIteration") [] >>= _) _ _ _); refine wpAny_bind ?_
  simp only [newExc, newTuple]; refine wpAny_bind (wpAny_newObj_type ?_ (by size_fits))
  refine wpAny_bind (m := firstArgMember _ _) (wpAny_of_eq (a := Value.none) (by first | (simp only [firstArgMember]; rfl) | rfl) ?_)
  refine wpAny_newObj_type ?_ (by size_fits); simp only [raiseNew]; refine wpAny_bind (wpAny_handled ?_)
  first | rw [hh] | rw [show A.in1.handled = none from hh]
  refine wpAny_bind (wpAny_pure (wpAny_throw ?_)); exact hE _ _ (((Heap.SameBut.update ..).extBut.push _).push _) ⟨_, Heap.get?_push_size _ rfl, rfl⟩
theorem tup_at {h h' : Heap} {tp : Addr} {its : Array Value} (x : h.IsTuple tp its) (k : ∀ o, h.get? tp = some o → h'.get? tp = some o) : h'.IsTuple tp its := let ⟨o, a, b⟩ := x; ⟨o, k o a, b⟩
theorem titer_at {h h' : Heap} {cu tp : Addr} {i : Nat} (x : h.IsTupleIter cu tp i) (k : ∀ o, h.get? cu = some o → h'.get? cu = some o) : h'.IsTupleIter cu tp i := let ⟨o, a, b⟩ := x; ⟨o, k o a, b⟩
theorem draws_tup (hh : A.handled = none) (cu tp : Addr) (hne : tp ≠ cu) (its : Array Value) :
    Draws prog w A cu [cu, tp] its.size (fun i v => its[i]? = some v) (fun i h => h.IsTupleIter cu tp i ∧ h.IsTuple tp its) where
  live := fun _ _ st => let ⟨o, ho, _⟩ := st.1; ⟨o, ho⟩
  frame := fun _ _ _ st hk => ⟨titer_at st.1 fun o e => hk cu (by simp) o e, tup_at st.2 fun o e => hk tp (by simp) o e⟩
  item := fun i s Q E hi st hQ => nextOf_tup st.1 st.2 (u := its[i]) (by simp [hi]) fun h' hc' hs' => hQ _ h' s.toks (by simp [hi]) ⟨hc', tup_at st.2 fun o e => (hs'.2 tp hne).trans e⟩ hs'
  done := fun s Q E st hE => nextOf_tup_end hh st.1 st.2 (by simp) hE
theorem new_enumT (tp : Addr) (its : Array Value) (ob : Obj) (hc : ob.cls = .type "tuple") (n : Nat) (hd : ob.data = .seq its n) :
    Meets (Builtin.«enumerate.__new__» ⟨[.type "enumerate", .ref tp], []⟩) (fun _ R s => s.heap.get? tp = some ob ∧
      R (.ok (.ret (.ref (s.heap.push { cls := .type "tuple_iterator", data := .fields #[.ref tp, .int 0 0] }).objs.size)))
        { s with heap := (s.heap.push { cls := .type "tuple_iterator", data := .fields #[.ref tp, .int 0 0] }).push { cls := .type "enumerate", data := .fields #[.none, .bool false, .ref s.heap.objs.size, rawInt 0, .none, .none] } }) :=
  .of_wp fun prog w A R s h => by
    obtain ⟨cl, dc, dt, sl⟩ := ob; simp only at hc hd; subst hc hd
    obtain ⟨hp, gs, dr, tk, os⟩ := s; obtain ⟨ht, h⟩ := h; have hsb := sub_enumerate
    have hT : Heap.IsTuple (Shared.heap ⟨hp, gs, dr, tk, os⟩) tp its := ⟨_, ht, rfl, n, rfl⟩
    wp_walk using AutoSeq1.wpAny_loadPart' ht
    refine wpAny_stack_any fun stk => wpAny_pure ?_
    split
    · rename_i c _ _ _ _ _
      cases (c == Value.type "enumerate")
      · wp_walk using AutoSeq1.wpAny_loadPart' ht, wpAny_pyIter_tuple hT
        exact ⟨_, rfl, h⟩
      · wp_walk using AutoSeq1.wpAny_loadPart' ht, wpAny_pyIter_tuple hT
        exact ⟨_, rfl, h⟩
    · wp_walk using AutoSeq1.wpAny_loadPart' ht, wpAny_pyIter_tuple hT
      exact ⟨_, rfl, h⟩
theorem call_enumT {tp : Addr} {its : Array Value} {Q : Value → Shared → Prop} (hT : s.heap.IsTuple tp its)
    (h : ∀ h', IsEnum h' (s.heap.objs.size + 1) s.heap.objs.size 0 .none → h'.IsTupleIter s.heap.objs.size tp 0 → h'.objs.size = s.heap.objs.size + 2 → (∀ b o, s.heap.get? b = some o → h'.get? b = some o) → Q (.ref (s.heap.objs.size + 1)) { s with heap := h' }) :
    wpAny (model prog w) A (call (.type "enumerate") [.ref tp]) Q E s := by
  obtain ⟨ob, ht, hc, n, hd⟩ := hT
  refine callType_new F.called_enumerate (by decide) (F.typeCall_enumerate_1 _) (F.newCall_enumerate_1 _) (fun o => F.args_object_init_2 o _) F.entry_enumerate_new (new_enumT tp its ob hc n hd) ⟨ht, ?_⟩
  have hz : (s.heap.push { cls := .type "tuple_iterator", data := .fields #[.ref tp, .int 0 0] }).objs.size = s.heap.objs.size + 1 := Heap.size_push ..
  show _ ∧ _; rw [hz]
  have he : IsEnum ((s.heap.push { cls := .type "tuple_iterator", data := .fields #[.ref tp, .int 0 0] }).push { cls := .type "enumerate", data := .fields #[.none, .bool false, .ref s.heap.objs.size, rawInt 0, .none, .none] }) (s.heap.objs.size + 1) s.heap.objs.size 0 .none := by
    have q := Heap.get?_push_size (s.heap.push { cls := .type "tuple_iterator", data := .fields #[.ref tp, .int 0 0] }) (o := { cls := .type "enumerate", data := .fields #[.none, .bool false, .ref s.heap.objs.size, rawInt 0, .none, .none] }) rfl
    rw [hz] at q; exact q
  refine ⟨⟨_, he, rfl⟩, h _ he ⟨_, Heap.get?_push_of_some _ (Heap.get?_push_size _ rfl), rfl, rfl⟩ (by rw [Heap.size_push, hz]) fun b o q => Heap.get?_push_of_some _ (Heap.get?_push_of_some _ q)⟩
end
section
variable {prog : Program} {w : World} {A : Around} {E : Value → Shared → Prop} {s : Shared}
theorem enum_endT {e cu tp : Addr} {i : Nat} {iz : Int} {old : Value} {its : Array Value} {Q : Option Value → Shared → Prop} (hh : A.handled = none) (he : IsEnum s.heap e cu iz old) (hc : s.heap.IsTupleIter cu tp i) (ht : s.heap.IsTuple tp its) (hu : its[i]? = none)
    (hQ : ∀ h', Heap.ExtBut cu s.heap h' → Q none { s with heap := h' }) : wpAny (model prog w) A (pyNext (.ref e)) Q E s := by
  have hT : s.TypeIs (.ref e) "enumerate" := ⟨_, he, rfl⟩
  unfold pyNext
  refine wpAny_bind (wpAny_attempt (wpAny_callSpecial?_slot (name := Str.ofString "__next__") hT F.slot_enumerate_next (wpAny_call_entry F.slot_enumerate_next hT F.entry_enumerate_next ?_ (F.args_enumerate_next_1 _))))
  (show wpAny _ _ (field (.ref e) 2 >>= _) _ _ _); refine wpAny_bind (wpAny_field he rfl (x := .ref cu) rfl ?_)
  refine wpAny_bind (nextOf_tup_end hh hc ht hu fun h' x eb hx => ?_)
  obtain ⟨o, ho, hcl⟩ := hx
  refine wpAny_bind (wpAny_isInstance (T := "StopIteration") (b := true) ⟨o, ho, hcl⟩ isSubtype_stop ?_); exact wpAny_pure (hQ _ eb)
end
/-- the tuple at a, each item in a new pair -/
def ItE (K : PySem.W.Frag) (a : Addr) : It :=
  ⟨fun i H => ∃ (xs : List V) (x : V), SqT K H a xs ∧ xs[i]? = some x, fun i H v H' => ∃ T x, v = .ref T ∧ H T = none ∧ H' = upd H T (.tup [.int (i : Nat), x]) ∧ ∀ xs, SqT K H a xs → xs[i]? = some x, fun i H => ∃ xs : List V, SqT K H a xs ∧ xs.length ≤ i⟩
end DL
namespace DL
open PySem PySem.Spec PyProof.Rows L2
theorem turn_enumT {P : Program} {w : World} {K : PySem.W.Frag} {elts : List Expr} {kk : Nat} {tpos : Pos} (a e cu : Addr) :
    Turn P w K (.Tuple elts kk tpos) (ItE K a) [e, cu] e (fun i h => (∃ old, IsEnum h e cu ((i : Nat) : Int) old) ∧ h.IsTupleIter cu a i ∧ e ≠ cu) where
  mem := by simp
  obj := fun i h st b hb => by
    obtain ⟨⟨old, he⟩, ⟨o, ho, hc, hd⟩, _⟩ := st
    rcases (by simpa using hb : b = e ∨ b = cu) with z | z
    · subst z
      exact ⟨_, he, fun v q => nomatch q⟩
    · subst z
      exact ⟨o, ho, fun v q => by rw [hd] at q; cases q⟩
  keep := fun i h h' st k => ⟨⟨st.1.choose, k e (by simp) _ st.1.choose_spec⟩, titer_at st.2.1 fun o q => k cu (by simp) o q, st.2.2⟩
  item := by
    intro X hP hw hK hc i pins s σ H E I hf st hg; subst hP hw hK
    obtain ⟨⟨old, he⟩, hit, hne⟩ := st
    obtain ⟨xs, x, hq, hx⟩ := hg
    obtain ⟨its, rv, p, hz⟩ := I.tuple hq
    obtain ⟨u, hu, ru⟩ := rv.get hx
    have hpt : s.heap.IsTuple a its.toArray := p
    have hel : e < s.heap.objs.size := Heap.lt_size he
    have hil : cu < s.heap.objs.size := by obtain ⟨_, q, _⟩ := hit; exact Heap.lt_size q
    have hnone : ∀ b ∈ [e, cu], H b = none := fun b hb => (hf b hb).1
    have hnc : a ≠ cu := by
      rintro rfl
      obtain ⟨o1, q1, c1, _⟩ := id hit
      obtain ⟨o2, q2, c2, _⟩ := id hpt
      rw [q1] at q2
      cases q2
      rw [c1] at c2
      exact absurd c2 (by decide)
    have hne2 : a ≠ e := by
      rintro rfl
      obtain ⟨o2, q2, c2, _⟩ := id hpt
      rw [he] at q2
      cases q2
      have c3 : Value.type "enumerate" = Value.type "tuple" := c2
      exact absurd c3 (by decide)
    have hlt : i < its.toArray.size := by
      have := (List.getElem?_eq_some_iff.mp hu).1
      simpa using this
    refine wpAny_pyNext_enum_itemD (draws_tup (A := X.A.in1) (I.ok.hd hc) cu a hnc its.toArray) he ⟨hit, hpt⟩ hlt hne (by simp [hne, Ne.symm hne2]) fun y h' tk hy ho hst hT hsz hk => ?_
    have ey : y = u := by
      have hu' : its.toArray[i]? = some u := by simpa using hu
      rw [hu'] at hy
      exact (Option.some.inj hy).symm
    subst ey
    refine ⟨_, rfl, wpAny_letOwnedTupleGo_enum (s := { s with heap := h', toks := tk + 1 }) ho fun h'' he' sb => ?_⟩
    have hT2 : h''.get? s.heap.objs.size = some { cls := .type "tuple", data := .seq #[.int i tk, y] } := (sb.2 _ (Nat.ne_of_gt hel)).trans hT
    have new : ObjOk X.prog X.w (upd H s.heap.objs.size (.tup [.int (i : Nat), x])) h'' s.heap.objs.size (.tup [.int (i : Nat), x]) := ⟨by show 2 ≤ sizeLine; decide, [.int i tk, y], .cons ⟨_, rfl⟩ (.cons ru .nil), ⟨_, hT2, rfl, _, rfl⟩⟩
    have I1 : Inv X pins σ (upd H s.heap.objs.size (.tup [.int (i : Nat), x])) { s with heap := h'', toks := tk + 1 } :=
      I.turnedNew (ch := [e, cu]) (fun b ob hb q => (sb.2 b (fun z => hb (by simp [z]))).trans (hk b ob (fun z => hb (by simp [z])) (fun z => hb (by simp [z])) q)) hf (Nat.le_refl _) new
    refine ⟨.ref s.heap.objs.size, _, I1, rfl, ⟨_, x, rfl, I.hok.fresh (Nat.le_refl _), rfl, fun ys hy => by rw [I.tuple_inj hy hq]; exact hx⟩, ⟨⟨y, ?_⟩, titer_at hst.1 fun o q => (sb.2 cu (Ne.symm hne)).trans q, hne⟩, fun b hb => ?_⟩
    · rw [show ((i + 1 : Nat) : Int) = (i : Int) + 1 by omega]; exact he'
    · have hb' : b < s.heap.objs.size := by
        rcases (by simpa using hb : b = e ∨ b = cu) with z | z
        · exact z ▸ hel
        · exact z ▸ hil
      rw [upd_ne (Nat.ne_of_lt hb')]; exact hnone b hb
  done := by
    intro X hP hw hK hc i pins s σ H E I hf st hg; subst hP hw hK
    obtain ⟨⟨old, he⟩, hit, hne⟩ := st
    obtain ⟨xs, hq, hx⟩ := hg
    obtain ⟨its, rv, p, hz⟩ := I.tuple hq
    obtain ⟨f0, f1, f2, f3, f4, f5⟩ := hf cu (by simp)
    have hl := rv.length
    exact enum_endT (I.ok.hd hc) he hit (show s.heap.IsTuple a its.toArray from p) (by simp; omega) fun h' eb => ⟨rfl, I.turned (t' := s.toks) (fun b o hb q => eb b o hb q) f0 f1 f3 f4 f5⟩
  self := fun A i s Q E st h => let ⟨⟨_, he⟩, _⟩ := st; wpAny_pyIter_enum he h
def iEnumT (K : PySem.W.Frag) (ta : TA) : TI := fun σ H R => ta σ H fun vs H1 => ∃ a xs, vs = [.ref a] ∧ SqT K H1 a xs ∧ R (ItE K a) H1
theorem pi_enumT {X : Cx} {e : Expr} {ta : TA} {p pos tpos : Pos} {elts : List Expr} {kk : Nat} (hg : Gl X "enumerate") (hm : X.mg "enumerate" = none) (ha : PA X [e] ta) (hs : starEach [e] X.env = [(false, eval e X.env)] := by rfl) :
    PI X (.Tuple elts kk tpos) (.Call (.Name "enumerate" p) [e] [] pos) (iEnumT X.K ta) := by
  refine ⟨fun pins s σ H R I h => Call_ (ld_blt I hg hm boot_enumerate (PyProof.Rows.callWith_type1 (thn (ha.run pos pins s σ H _ I h) fun us s1 ⟨vs, H1, I1, r1, q1⟩ => ?_) hs rfl))⟩
  obtain ⟨a, xs, ex, hq, q⟩ := q1; subst ex
  obtain ⟨u, rfl, r⟩ := vals1 r1
  obtain rfl : u = Value.ref a := r
  obtain ⟨its, rv, pt, hz⟩ := I1.tuple hq
  refine call_enumT (show s1.heap.IsTuple a its.toArray from pt) fun h' he hit hsz hk => wpAny_pyIter_enum he ?_
  have I2 : Inv X pins σ H1 { s1 with heap := h' } := I1.kept (t' := s1.toks) hk
  refine ⟨s1.heap.objs.size + 1, [s1.heap.objs.size + 1, s1.heap.objs.size], _, _, H1, rfl, I2, turn_enumT a (s1.heap.objs.size + 1) s1.heap.objs.size, ⟨⟨.none, he⟩, hit, Nat.succ_ne_self _⟩, fun b hb => ?_, q⟩
  have hle : s1.heap.objs.size ≤ b := by
    rcases (by simpa using hb : b = s1.heap.objs.size + 1 ∨ b = s1.heap.objs.size) with z | z
    · exact z ▸ Nat.le_succ _
    · exact z ▸ Nat.le_refl _
  exact I1.fpOk hle (I1.hok.fresh hle)
def diEnumT (t : DTA) : DTI := fun m M Q => t m M fun ds M1 => ∃ xs, ds = [.tup xs] ∧ Q (enumD 0 xs, none) M1
theorem di_enumT {X : Cx} {e : Expr} {t : DTA} {p pos tpos : Pos} {elts : List Expr} {kk : Nat} (hg : Gl X "enumerate") (hm : X.mg "enumerate" = none) (ha : DA X [e] t) (hs : starEach [e] X.env = [(false, eval e X.env)] := by rfl) :
    DI X (.Tuple elts kk tpos) (.Call (.Name "enumerate" p) [e] [] pos) (diEnumT t) :=
  imI (pi_enumT hg hm ha hs) fun σ H Q ⟨m, M, Q', r, q, k⟩ => by
    refine ⟨m, M, _, r, q, fun ds vs M1 H1 g1 r1 m1 ⟨xs, e1, q1⟩ => ?_⟩
    subst e1
    obtain ⟨v, e2, rv⟩ := repL_one r1
    subst e2
    cases rv with
    | tup hf z l =>
      refine ⟨_, _, rfl, hf, k _ M1 H1 _ g1 m1 q1 ⟨?_, fun i H2 ok hi => ?_, fun i H2 x H3 ok hi y => ?_, fun H2 ok => ?_⟩⟩
      · show (enumD 0 xs).length ≤ sizeLine
        rw [enumD_len, l.length]
        exact z
      · have hi' : i < xs.length := by rw [← enumD_len 0 xs]; exact hi
        obtain ⟨w, e3, _⟩ := l.get (List.getElem?_eq_getElem hi')
        exact ⟨_, w, sqT_grow hf ok.1, e3⟩
      · obtain ⟨T, x', e3, hT, e4, hx⟩ := y
        subst e3
        subst e4
        obtain ⟨d, e5, rd⟩ := l.get' (hx _ (sqT_grow hf ok.1))
        refine ⟨.new hT, fun M2 rm => rm.new hT, .tup [.int ((0 + i : Nat) : Int), d], ?_, ?_⟩
        · show (enumD 0 xs)[i]? = _
          rw [enumD_get, e5]
          rfl
        · rw [Nat.zero_add]
          exact .tup (.of upd_same) (by show 2 ≤ sizeLine; decide) (.cons (.int _) (.cons (rd.grow (ok.1.trans (.new hT))) .nil))
      · refine ⟨_, sqT_grow hf ok.1, ?_⟩
        show _ ≤ (enumD 0 xs).length
        rw [enumD_len, l.length]
        exact Nat.le_refl _
/-! ### slices of texts -/
def dSlS (te : DTE) (tl th : DTO) : DTE := fun m M Q => te m M fun d M1 => tl m M1 fun lo M2 => th m M2 fun hi M3 => ∃ z, d = .str z ∧ z.length ≤ 16777216 ∧ Q (.str (cutS z lo hi)) M3
theorem d_slS {X : Cx} {e : Expr} {lo hi : Option Expr} {te : DTE} {tl th : DTO} {pos p2 : Pos} (he : DE X e te) (hl : DPO X lo tl) (hh : DPO X hi th) : DE X (.Subscript e (.Slice lo hi none p2) pos) (dSlS te tl th) :=
  imE (pe_slice sl_str he hl hh) fun σ H Q ⟨m, M, Q', r, q, k⟩ => by
    refine ⟨m, M, _, r, q, fun d v M1 H1 g1 r1 m1 q1 => ?_⟩
    refine ⟨m, M1, _, r.grow g1 m1, q1, fun o1 M2 H2 g2 m2 q2 => ?_⟩
    refine ⟨m, M2, _, r.grow (g1.trans g2) m2, q2, fun o2 M3 H3 g3 m3 ⟨z, e1, hz, q3⟩ => ?_⟩
    subst e1
    cases r1
    exact ⟨z, rfl, by rw [sizeLine_eq]; exact hz, k _ _ M3 H3 ((g1.trans g2).trans g3) (.str _) m3 q3⟩
end DL
/-! sorted(a list, key=a def): the def is pure here, its keys are data -/
namespace DL
open PySem PySem.Spec PyProof.Rows L2
open PySem.W (EachIs AllAlike Sortable dataLe alike alikeAll KeepsBut keyH_end KeyedOut keyedOut_each dataKind SortsAt sorted_of_sort copyHeap copyHeap_at copyHeap_old sortingHeap sortingHeap_old)

section
variable {fs : List Addr} {H H1 : Hp} {h h1 h2 : Heap} {k a : Addr} {P : Program} {w : World} {o : HO}
theorem un_side {k' : Addr} (u : Un fs [] H H1 h h1) (hk : h.get? k = none) (hk' : h.get? k' = none) (keep : ∀ b o, b ≠ k → b ≠ k' → h1.get? b = some o → h2.get? b = some o) : Un fs [] H H1 h h2 := by
  have nk : ∀ {b : Addr} {o : Obj}, h.get? b = some o → b ≠ k := fun q z => by rw [z, hk] at q; cases q
  have nk' : ∀ {b : Addr} {o : Obj}, h.get? b = some o → b ≠ k' := fun q z => by rw [z, hk'] at q; cases q
  refine ⟨fun b o q n hb hx => keep b o (nk q) (nk' q) (u.keep b o q n hb hx), fun b o q n hb hx => ?_, u.free, fun b o q hx => ?_, u.tups, u.frzs, u.tbls⟩
  · obtain ⟨sl, e⟩ := u.slot b o q n hb hx
    exact ⟨sl, keep b _ (nk q) (nk' q) e⟩
  · obtain ⟨o', e⟩ := u.there b o q hx
    exact ⟨o', keep b _ (nk q) (nk' q) e⟩
theorem hok_side {k' : Addr} (x : HOk P w H h) (hn : H k = none) (hn' : H k' = none) (keep : ∀ b o, b ≠ k → b ≠ k' → h.get? b = some o → h2.get? b = some o) : HOk P w H h2 := fun b u e => by
  have nk : ∀ c v, H c = some v → c ≠ k := fun c v q z => by rw [z, hn] at q; cases q
  have nk' : ∀ c v, H c = some v → c ≠ k' := fun c v q z => by rw [z, hn'] at q; cases q
  refine (x b u e).stay (fun c v hc q => keep c v ?_ ?_ q) (fun _ q => q) fun _ _ q => q
  · rcases hc with z | z
    · rw [z]; exact nk b u e
    · exact nk c _ z
  · rcases hc with z | z
    · rw [z]; exact nk' b u e
    · exact nk' c _ z
theorem un_adopt (u : Un fs [] H H1 h h2) (ha : h.get? a = none) (hn : H a = none) (hn1 : H1 a = none) : Un fs [] H (upd H1 a o) h h2 where
  keep := u.keep
  slot := u.slot
  free := fun b ob q n hx => by
    rw [upd_ne (fun z => by rw [z, ha] at q; cases q)]
    exact u.free b ob q n hx
  there := u.there
  tups := fun b xs q => by
    have z := u.tups b xs q
    rw [upd_ne (ne_of_none z hn1)]
    exact z
  frzs := fun b ob x q => by
    have z := u.frzs b ob x q
    rw [upd_ne (ne_of_none z hn1)]
    exact z
  tbls := fun b ps q => by
    obtain ⟨more, z⟩ := u.tbls b ps q
    exact ⟨more, by rw [upd_ne (ne_of_none z hn1)]; exact z⟩
theorem hok_adopt (x : HOk P w H h) (hn : H a = none) (new : ObjOk P w (upd H a o) h a o) : HOk P w (upd H a o) h := fun b u e => by
  by_cases hb : b = a
  · subst hb; rw [upd_same] at e; cases e; exact new
  · rw [upd_ne hb] at e
    exact (x b u e).stay (fun c v _ q => q) (fun c q => by rw [upd_ne (ne_of_none q hn)]; exact q) fun c xs q => by rw [upd_ne (ne_of_none q hn)]; exact q
end
/-! ### lists of tuples of any lengths can be sorted, too -/
/-- as Sortable, or all are tuples (some of them empty) -/
def SortOk (ds : List PyData) : Prop := Sortable ds ∨ ∀ d ∈ ds, ∃ xs, d = .tuple xs
def ne0 : PyData → Bool
  | .tuple (_ :: _) => true
  | _ => false
theorem each_right {α β : Type} {R : α → β → Prop} : ∀ {as : List α} {bs : List β}, EachIs R as bs → ∀ b ∈ bs, ∃ a, a ∈ as ∧ R a b
  | _, _, .cons h t, b, hb => by
    rcases List.mem_cons.mp hb with rfl | hb
    · exact ⟨_, List.mem_cons_self .., h⟩
    · obtain ⟨a, ha, r⟩ := each_right t b hb
      exact ⟨a, List.mem_cons_of_mem _ ha, r⟩
section
variable {prog : Program} {w : World} {A : Around} {E : Value → Shared → Prop} {s : Shared}
theorem lt_tups {f : Bool} {xs ys : List PyData} {a b : Value} {as bs : List Addr} {Q : Bool → Shared → Prop} (ra : Reads s.heap a (.tuple xs) as) (rb : Reads s.heap b (.tuple ys) bs) (h : alike (.tuple xs) (.tuple ys) = true)
    (hu : A.units + min (PyData.tuple xs).depth (PyData.tuple ys).depth < cLine) (hq : Q (PySem.W.dataLt (.tuple xs) (.tuple ys)) s) : wpAny (model prog w) A (oneLt' f a b) Q E s := by
  cases f with
  | false => exact PySem.W.oneLt_alike (fun z => by cases z) ra rb h (fun z => by cases z) hu hq
  | true =>
    have hal : PySem.W.alikeAll xs ys = true := by simpa [alike] using h
    cases ra with
    | @tuple l o vs n _ _ h1 h2 h3 h4 =>
      cases rb with
      | @tuple l' o' vs' n' _ _ k1 k2 k3 k4 =>
        have n1 : vs.size = xs.length := by simpa using SeqAt.ReadsAll.length _ _ _ h4
        have n2 : vs'.size = ys.length := by simpa using SeqAt.ReadsAll.length _ _ _ k4
        rw [PySem.W.dataLt_tuple, ← PySem.W.firstLt_toks xs ys hal, ← n1, ← n2] at hq
        obtain ⟨cls, dd, data, sl⟩ := o
        obtain ⟨cls2, dd2, data2, sl2⟩ := o'
        simp only at h2 h3 k2 k3
        subst h2 h3 k2 k3
        rw [oneLt'_eq]
        simp only [if_true]
        refine wpAny_bind (wpAny_cRoomFor (SeqAt.room_here hu) ?_)
        refine wpAny_bind (wpAny_callSpecialIfBound?_slot (T := "tuple") ⟨_, h1, rfl⟩ PySem.F.slot_tuple_lt (call_meets PySem.F.slot_tuple_lt ⟨_, h1, rfl⟩ PySem.F.entry_tuple_lt (PySem.F.args_tuple_lt_2 _ _)
          (SeqAt.tuple_ltAt l l' vs vs' n n' dd dd2 sl sl2 (SeqAt.pairEq xs ys) fun j => PySem.W.dataLt (xs.getD j .none) (ys.getD j .none)) ⟨h1, k1, fun j j1 j2 => ?_, fun j j1 j2 hj => ?_, ?_⟩))
        · have := PySem.W.eqAt_alikeAll xs ys A.in1 s vs.toList vs'.toList _ _ h4 k4 hal (SeqAt.room_in hu) j (by simpa using j1) (by simpa using j2)
          simpa using this
        · have := PySem.W.rcLt_alikeAll xs ys A.in1 s vs.toList vs'.toList _ _ h4 k4 hal (SeqAt.room_in hu) j (by simpa using j1) (by simpa using j2) hj
          simpa using this
        · exact wpAny_truthy_bool hq
theorem firsts_ex : ∀ {vs : List Value} {ds : List PyData}, EachIs (fun v d => ∃ as, Reads s.heap v d as) vs ds → (∀ d ∈ ds, ∃ xs, d = .tuple xs) →
    ∃ fs : List (Option Value), EachIs (fun (f : Option Value) d => f.isSome = ne0 d) fs ds ∧ ∀ {A : Around} {E : Value → Shared → Prop} {Q : List (Option Value) → Shared → Prop}, Q fs s → wpAny (model prog w) A (vs.mapM firstOfTuple') Q E s
  | _, _, .nil, _ => ⟨[], .nil, fun h => by rw [List.mapM_nil]; exact wpAny_pure h⟩
  | _, _, .cons (b := d) ⟨as, r⟩ t, ht => by
    obtain ⟨fs, h1, h2⟩ := firsts_ex t fun d hd => ht d (List.mem_cons_of_mem _ hd)
    obtain ⟨xs, rfl⟩ := ht d (List.mem_cons_self ..)
    cases r with
    | @tuple a o us n _ _ ho hc hd hr =>
      refine ⟨us[0]? :: fs, .cons ?_ h1, fun {A E Q} q => ?_⟩
      · rw [← Array.getElem?_toList]
        cases e : us.toList with
        | nil =>
          rw [e] at hr
          cases hr
          rfl
        | cons f fr =>
          rw [e] at hr
          cases hr
          rfl
      · rw [List.mapM_cons]
        refine wpAny_bind ?_
        rw [PySem.W.kas_first_eq]
        refine wpAny_bind (PySem.W.Looks.here (show PySem.W.Looks _ s.heap (typeOf (.ref a)) o.cls from (PySem.W.Looks.ld ho).andThen .now) ?_)
        rw [hc, if_neg (by first | decide | simp)]
        refine wpAny_bind (listItems_at ho hd (wpAny_pure ?_))
        exact wpAny_bind (h2 (wpAny_pure q))
/-- values that read as alike tuples of any lengths can be sorted -/
theorem sortsAt_tups {vs : List Value} {ds : List PyData} (e : EachIs (fun v d => ∃ as, Reads s.heap v d as) vs ds) (hal : AllAlike ds) (hk : SortOk ds) (hu : ∀ d, d ∈ ds → A.units + d.depth < cLine) : SortsAt prog w A s (dataKind s.heap ds) vs := by
  rcases hk with hk | ht
  · exact SortsAt.data e hal hk hu
  by_cases all : ∀ d ∈ ds, ne0 d = true
  · refine SortsAt.data e hal (.inl fun d hd => ?_) hu
    obtain ⟨xs, rfl⟩ := ht d hd
    cases xs with
    | nil => exact absurd (all _ hd) (by simp [ne0])
    | cons x r => exact ⟨x, r, rfl⟩
  obtain ⟨fs, hf, hm⟩ := firsts_ex (prog := prog) (w := w) e ht
  have hnall : (fs.toArray.all fun x => x.isSome) = false := by
    rw [List.all_toArray]
    cases q : fs.all fun x => x.isSome with
    | false => rfl
    | true =>
      refine absurd (fun d hd => ?_) all
      obtain ⟨f, hfm, h⟩ := each_right hf d hd
      rw [← h]
      exact List.all_eq_true.mp q f hfm
  have lt : ∀ f : Bool, ∀ (E : Value → Shared → Prop) (x y : Value) (a b) (Q : Bool → Shared → Prop), (dataKind s.heap ds).keyOf x = some a → (dataKind s.heap ds).keyOf y = some b → Q ((dataKind s.heap ds).blt a b) s → wpAny (model prog w) A (oneLt' f x y) Q E s := by
    intro f E x y a b Q ha hb hq
    obtain ⟨d, as, hd, ra, rfl⟩ := PySem.W.dataKind_inv ha
    obtain ⟨d', as', hd', rb, rfl⟩ := PySem.W.dataKind_inv hb
    obtain ⟨x1, rfl⟩ := ht d hd
    obtain ⟨x2, rfl⟩ := ht d' hd'
    exact lt_tups ra rb (hal _ hd _ hd') (Nat.lt_of_le_of_lt (Nat.add_le_add_left (Nat.min_le_left _ _) _) (hu _ hd)) hq
  refine ⟨fun v hv => ?_, if ((fs.toArray[0]?).bind id).isSome then general' else oneType', ?_, fun h2 E Q hq => ?_⟩
  · obtain ⟨d, hd, as, r⟩ := e.left v hv
    exact ⟨_, PySem.W.dataKind_some hal hd r⟩
  · intro E x y a b Q ha hb hq
    split
    · exact lt false E x y a b Q ha hb hq
    · exact lt true E x y a b Q ha hb hq
  · rw [keyKind'_eq, List.mapM_toArray, map_eq_pure_bind]
    refine wpAny_bind (wpAny_bind (hm (wpAny_pure ?_)))
    rw [if_neg (by rw [hnall]; simp)]
    by_cases c : ((fs.toArray[0]?).bind id).isSome = true
    · rw [if_pos c] at hq ⊢
      exact wpAny_pure hq
    · rw [if_neg c] at hq ⊢
      rw [oneTypeOnly'_eq, List.mapM_toArray, map_eq_pure_bind]
      refine wpAny_bind (wpAny_bind (wpAny_bind (PySem.W.kas_mapM (r := Value.type "tuple") _ (fun v hv Q' hq => ?_) (wpAny_pure ?_))))
      · obtain ⟨d, hd, as, r⟩ := e.left v hv
        obtain ⟨xs, rfl⟩ := ht d hd
        exact (PySem.W.looks_reads r).here hq
      · obtain ⟨v₁, rest, rfl⟩ : ∃ v₁ rest, vs = v₁ :: rest := by
          cases vs with
          | nil => simp at h2
          | cons a b => exact ⟨a, b, rfl⟩
        have hall2 : ((List.map (fun _ => Value.type "tuple") (v₁ :: rest)).toArray.all fun x => x == Value.type "tuple") = true := by
          simp only [List.all_toArray, List.all_map, List.all_eq_true]
          intro _ _
          exact beq_self_eq_true _
        have h0 : (List.map (fun _ => Value.type "tuple") (v₁ :: rest)).toArray[0]? = some (Value.type "tuple") := by simp
        rw [h0]
        simp only [hall2, if_true]
        exact wpAny_pure (wpAny_pure (by simpa using hq))
end
section
variable {X : Cx}
/-- sorted(xs, key=f), f a def with the promise dsp that is pure at the items: its keys are data -/
def rSortK (dsp : DSp) : List D → DM → DVK → Prop := fun ds M Q => ∃ d xs, ∃ g : D → D, ds = [d] ∧ dItems d M = some xs ∧ d ≠ .tup xs ∧ (∀ x ∈ xs, ∀ Q' : DVK, Q' (g x) M → dsp [x] M Q') ∧ (xs.map g).all (dOk 32) = true ∧
  AllAlike ((xs.map g).map D.py) ∧ SortOk ((xs.map g).map D.py) ∧ ∀ p, M p = none → Q (.ref p) (mput M p (.lst (xs.mergeSort (dataLe false fun x => D.py (g x)))))
/-- what is so behind the i-th key -/
structure KeyInv (X : Cx) (σ : SL) (H : Hp) (M : DM) (s : Shared) (kS a : Addr) (e1 : Nat) (gs : List D) (i : Nat) (s' : Shared) : Prop where
  ex : ∃ (Hj : Hp) (kA : Array Value) (e : Nat) (ws : List V), Un (frs X.stack) [] H Hj s.heap s'.heap ∧ Grow H Hj ∧ HOk X.prog X.w Hj s'.heap ∧ RM X.K Hj M ∧ AllBare s'.gens ∧ s'.os = s.os ∧
    s'.heap.get? kS = some (seqObj "list" kA e) ∧ s'.heap.get? a = some (seqObj "list" #[] e1) ∧ Hj kS = none ∧ Hj a = none ∧ Vals ws kA.toList ∧ RepL X.K Hj (gs.take i) ws
theorem take_snoc {α : Type} {xs : List α} {i : Nat} {x : α} (h : xs[i]? = some x) : xs.take (i + 1) = xs.take i ++ [x] := by
  rw [List.take_add_one, h]
  rfl
theorem vals_snoc : ∀ {vs : List V} {us : List Value} {v : V} {u : Value}, Vals vs us → RelV v u → Vals (vs ++ [v]) (us ++ [u])
  | _, _, _, _, .nil, r => .cons r .nil
  | _, _, _, _, .cons h t, r => .cons h (vals_snoc t r)
/-- what a call of the key's def gives, in every state that it may be called in -/
def KeyRun (X : Cx) (pins : List (Addr × Obj)) (σ : SL) (H : Hp) (M : DM) (s : Shared) (f : Value) (xs : List D) (g : D → D) : Prop :=
  ∀ (Hj : Hp) (s' : Shared) (d : D) (v : V) (x : Value), d ∈ xs → Un (frs X.stack) [] H Hj s.heap s'.heap → Grow H Hj → Inv X pins σ Hj s' → RM X.K Hj M → Rep X.K Hj d v → RelV v x →
    wpAny (model X.prog X.w) X.A.in1.in1 (call f [x]) (fun v0 s'' => CE X.stack X.prog X.w Hj s' (fun v H' => Grow Hj H' ∧ Rep X.K H' (g d) v ∧ RM X.K H' M) v0 s'') (fun _ _ => False) s'
theorem key_loop {f : Value} {pins : List (Addr × Obj)} {σ : SL} {H : Hp} {M : DM} {s s0 : Shared} {kS a : Addr} {e1 : Nat} {xs : List D} {ws : List V} {vs : List Value} {g : D → D} {P : PySem.Fin → Shared → Prop} {E : Value → Shared → Prop}
    (kr : KeyRun X pins σ H M s f xs g) (I : Inv X pins σ H s) (l : RepL X.K H xs ws) (rv : Vals ws vs) (hz : vs.length ≤ sizeLine)
    (hok : (xs.map g).all (dOk 32) = true) (hal : AllAlike ((xs.map g).map D.py)) (hsk : SortOk ((xs.map g).map D.py)) (hu : X.A.in1.in1.units + 40 < cLine)
    (hkS : s.heap.objs.size ≤ kS) (ha : s.heap.objs.size ≤ a) (hka : kS ≠ a) (I0 : KeyInv X σ H M s kS a e1 (xs.map g) 0 s0)
    (h : ∀ (Hj : Hp) (s' : Shared) (out : List Value) (c : Nat), Un (frs X.stack) [] H Hj s.heap s'.heap → Grow H Hj → HOk X.prog X.w Hj s'.heap → RM X.K Hj M → AllBare s'.gens → s'.os = s.os → s'.heap.get? a = some (seqObj "list" (List.toArray out) c) → Hj a = none →
      KeyedOut false ((xs.map g).map D.py) vs out → P (.done (.ret .none)) s') :
    wpAny (model X.prog X.w) X.A.in1.in1 (ksk_rest a f false vs.toArray e1 (.ref kS)) P E s0 := by
  unfold ksk_rest
  refine wpAny_bind (wpAny_rule ?_)
  first
    | rw [List.forIn_toArray]
    | (rw [← Array.forIn_toList]; simp only [List.toList_toArray])
    | rw [← Array.forIn_toList]
  have hxl : xs.length = vs.length := l.length.trans rv.length
  have fsk : kS ∉ frs X.stack := fun z => (List.mem_cons.mp (I.stkSub _ z)).elim (fun z => absurd (Nat.lt_of_lt_of_le I.lt (by rw [← z]; exact hkS)) (Nat.lt_irrefl _)) (I.nofs hkS)
  have fsa : a ∉ frs X.stack := fun z => (List.mem_cons.mp (I.stkSub _ z)).elim (fun z => absurd (Nat.lt_of_lt_of_le I.lt (by rw [← z]; exact ha)) (Nat.lt_irrefl _)) (I.nofs ha)
  have gk : s.heap.get? kS = none := Heap.get?_none_of_le hkS
  have ga : s.heap.get? a = none := Heap.get?_none_of_le ha
  refine wpAny_bind (ksk_fold (fun i s' => KeyInv X σ H M s kS a e1 (xs.map g) i s') vs 0 s0 I0 ?step ?done)
  case step =>
    rintro j x s' hx ⟨Hj, kA, e, us, un, gr, hk, rm, bare, os, nk, na, fk, fa, vk, lk⟩
    rw [Nat.zero_add] at lk ⊢
    have hj : j < vs.length := (List.getElem?_eq_some_iff.mp hx).1
    obtain ⟨d, hd⟩ : ∃ d, xs[j]? = some d := ⟨_, List.getElem?_eq_getElem (by omega)⟩
    have hdm : d ∈ xs := List.mem_of_getElem? hd
    obtain ⟨v, hv, rd⟩ := l.get hd
    obtain ⟨u, hu', ru⟩ := rv.get hv
    rw [hx] at hu'
    cases hu'
    have J : Inv X pins σ Hj s' := I.call' (ch := []) os un hk bare (fun b z => absurd z (by simp))
    have run := kr Hj s' d v x hdm un gr J rm (rd.grow gr) ru
    refine wpAny_bind (wpAny_attempt (wpAny_mono run (fun v0 s'' he => ?_) fun _ _ hF => hF.elim))
    obtain ⟨v2, H2, os2, bare2, un2, hk2, r2, g2, rd2, rm2⟩ := he
    try dsimp only
    have nk2 : s''.heap.get? kS = some (seqObj "list" kA e) := un2.keep kS _ nk fk fsk (by simp)
    have na2 : s''.heap.get? a = some (seqObj "list" #[] e1) := un2.keep a _ na fa fsa (by simp)
    have fk2 : H2 kS = none := un2.free kS _ nk fk (by simp)
    have fa2 : H2 a = none := un2.free a _ na fa (by simp)
    have s1 := Heap.SameBut.update s''.heap kS (Obj.mapSeq (·.push v0))
    obtain ⟨c2, hc2⟩ : ∃ c2, (s''.heap.update kS (Obj.mapSeq (·.push v0))).get? kS = some (seqObj "list" (kA.push v0) c2) := ⟨_, get?_update_seq nk2 (·.push v0)⟩
    have keep : ∀ b o, b ≠ kS → b ≠ kS → s''.heap.get? b = some o → (s''.heap.update kS (Obj.mapSeq (·.push v0))).get? b = some o := fun b o hb _ e => (s1.2 b hb).trans e
    have hkl : kA.size ≤ vs.length := by
      have h1 := vk.length
      have h2 := lk.length
      have h3 : kA.toList.length = kA.size := Array.length_toList
      rw [List.length_take, List.length_map] at h2
      omega
    refine wpAny_bind (listUpdate_at nk2 rfl ?_ (Nat.le_trans hkl hz) (Nat.le_trans (Nat.le_of_eq (Array.size_push ..)) (Nat.succ_le_succ (Nat.le_trans hkl hz))))
    refine wpAny_pure ⟨rfl, ⟨H2, kA.push v0, c2, us ++ [v2], un_side (un.trans un2) gk gk keep, gr.trans g2, hok_side hk2 fk2 fk2 keep, rm2, bare2, os2.trans os, hc2, (s1.2 a hka.symm).trans na2, fk2, fa2, ?_, ?_⟩⟩
    · have ea : (kA.push v0).toList = kA.toList ++ [v0] := by simp
      rw [ea]
      exact vals_snoc vk r2
    · rw [take_snoc (x := g d) (by rw [List.getElem?_map, hd]; rfl)]
      exact (lk.grow g2).append (.one rd2)
  case done =>
    rintro s' ⟨Hj, kA, e, us, un, gr, hk, rm, bare, os, nk, na, fk, fa, vk, lk⟩
    rw [Nat.zero_add, List.take_of_length_le (by rw [List.length_map]; omega)] at lk
    have J : Inv X pins σ Hj s' := I.call' (ch := []) os un hk bare (fun b z => absurd z (by simp))
    have hk' : EachIs (fun v k => ∃ as, Reads s'.heap v k as) kA.toList ((xs.map g).map D.py) := PySem.W.each_map (R := fun v k => ∃ as, Reads s'.heap v k as) D.py (reads_each J lk vk hok)
    have hsz : kA.size = vs.length := by
      have h1 := vk.length
      have h2 := lk.length
      have h3 : kA.toList.length = kA.size := Array.length_toList
      rw [List.length_map] at h2
      omega
    obtain ⟨G, g1, g2⟩ := restrict s'.heap (fun b => decide (b ≠ kS))
    have kp : KeepsBut a G s'.heap := fun b o hb e => by
      by_cases q : b = kS
      · rw [q, g2 kS (by simp)] at e
        cases e
      · rw [g1 b (by simp [q])] at e
        exact e
    refine wpAny_bind (listItems_at nk rfl ?_)
    refine keyH_end (κ := dataKind s'.heap ((xs.map g).map D.py)) (h₁ := G) kp (g2 kS (by simp)) nk na hka (sortsAt_tups hk' hal hsk fun q hq => ?_) hsz hz fun h3 tk3 c k3 n3 => ?_
    · obtain ⟨b, hb', rfl⟩ := List.mem_map.mp hq
      have := (dOk_lay 32 b (List.all_eq_true.mp hok b hb')).2
      omega
    have keep3 : ∀ b o, b ≠ a → b ≠ kS → s'.heap.get? b = some o → h3.get? b = some o := fun b o hb hk e => k3 b o hb (by rw [g1 b (by simp [hk])]; exact e)
    exact h Hj { s' with heap := h3, toks := tk3 } _ c (un_side un ga gk keep3) gr (hok_side hk fa fk keep3) rm bare os n3 fa ⟨s'.heap, kA.toList, hal, rfl, hk'⟩
/-- sorted(xs, key=f) behind the evaluation of its arguments -/
theorem sort_core {f : Value} {pins : List (Addr × Obj)} {σ : SL} {H : Hp} {M : DM} {s : Shared} {d : D} {v : V} {u : Value} {xs : List D} {g : D → D} {Q : VK} {Q' : DVK} (I : Inv X pins σ H s) (rv : Rep X.K H d v) (r : RelV v u) (m : RM X.K H M) (hd : dItems d M = some xs) (hnt : d ≠ .tup xs)
    (hf : ∀ a : Addr, Builtin.«list.sort» ⟨[.ref a], [(Str.ofString "key", f)]⟩ = ksk_tree a f false) (kr : KeyRun X pins σ H M s f xs g) (hu : X.A.in1.in1.units + 40 < cLine) (hok : (xs.map g).all (dOk 32) = true) (hal : AllAlike ((xs.map g).map D.py)) (hsk : SortOk ((xs.map g).map D.py))
    (q : ∀ p, M p = none → Q' (.ref p) (mput M p (.lst (xs.mergeSort (dataLe false fun x => D.py (g x)))))) (kk : ∀ d v M' H', Grow H H' → Rep X.K H' d v → RM X.K H' M' → Q' d M' → Q v H') :
    wpAny (model X.prog X.w) X.A (call (.builtin "sorted") [u] [(Str.ofString "key", f)]) (EP X pins σ Q) X.xe s := by
  obtain ⟨b, xv, rfl, z, l3, h6⟩ := lst_of rv m hd hnt
  obtain ⟨its, r2, pl, _⟩ := I.list h6
  obtain rfl : u = Value.ref b := r
  have hz : its.length ≤ sizeLine := by rw [← r2.length]; exact z
  refine sorted_of_sort pl.isList hz (ksk_s1 _ _) (fun _ => ksk_l1 _ _) fun E' => ?_
  rw [hf]
  obtain ⟨a, hae⟩ : ∃ a, a = s.heap.objs.size + 1 := ⟨_, rfl⟩
  rw [← hae]
  have ho : (copyHeap s.heap its).get? a = some (seqObj "list" its.toArray 0) := by rw [hae]; exact copyHeap_at s.heap its
  have hla : a < (copyHeap s.heap its).objs.size := Heap.lt_size ho
  obtain ⟨e1, ho1⟩ : ∃ e1, ((copyHeap s.heap its).update a (Obj.mapSeq fun _ => (#[] : Array Value))).get? a = some (seqObj "list" #[] e1) := ⟨_, get?_update_seq ho fun _ => #[]⟩
  have hkS : (((copyHeap s.heap its).update a (Obj.mapSeq fun _ => (#[] : Array Value))).push (seqObj "tuple" its.toArray 0)).objs.size = (copyHeap s.heap its).objs.size + 1 := by rw [size_push', Heap.size_update]
  have old : ∀ b o, s.heap.get? b = some o → (sortingHeap (copyHeap s.heap its) a its).get? b = some o := fun b o q => sortingHeap_old (Nat.ne_of_lt (Nat.lt_of_lt_of_le (Heap.lt_size q) (by rw [hae]; exact Nat.le_succ _))) (copyHeap_old q)
  have ga : s.heap.get? a = none := Heap.get?_none_of_le (by omega)
  have fa0 : H a = none := I.hok.fresh (by omega)
  unfold ksk_tree
  refine wpAny_bind (listItems_at ho rfl ?_)
  refine wpAny_bind (listUpdate_at ho rfl ?_ (by rw [List.size_toArray]; exact hz) (Nat.zero_le _))
  refine wpAny_bind (seqEpoch_at ho1 rfl ?_)
  refine wpAny_bind (wpAny_newTuple ?_ (by show its.length ≤ _; exact hz))
  refine wpAny_bind (wpAny_newList ?_ (Nat.zero_le _))
  refine wpAny_holding ?_
  have szk : s.heap.objs.size ≤ (((copyHeap s.heap its).update a (Obj.mapSeq fun _ => (#[] : Array Value))).push (seqObj "tuple" its.toArray 0)).objs.size := by rw [hkS]; omega
  refine key_loop (kS := (((copyHeap s.heap its).update a (Obj.mapSeq fun _ => (#[] : Array Value))).push (seqObj "tuple" its.toArray 0)).objs.size) kr I l3 r2 hz hok hal hsk hu szk (by omega) (Nat.ne_of_gt (by rw [hkS]; omega))
    ⟨H, #[], 0, [], Un.kept old, .refl H, I.hok.kept old, m, I.bare, rfl, Heap.get?_push_size _ rfl, Heap.get?_push_of_some _ (Heap.get?_push_of_some _ ho1), I.hok.fresh szk, fa0, .nil, .nil⟩ fun Hj s' out c un gr hk rm bare os na fa ko => ⟨rfl, ?_⟩
  have ko' : KeyedOut false (xs.map fun x => D.py (g x)) its out := by
    rw [List.map_map] at ko
    exact ko
  obtain ⟨vs', h7, h8⟩ := each_rel (keyedOut_each (fun x => D.py (g x)) ko' (rel_each (l3.grow gr) r2))
  have hlen : vs'.length ≤ sizeLine := by
    rw [← h8.length, List.length_mergeSort, l3.length]
    exact z
  exact ⟨.ref a, upd Hj a (.lst vs'), I.call' (ch := []) os (un_adopt un ga fa0 fa) (hok_adopt hk fa ⟨hlen, out, c, h7, na⟩) bare (fun b z => absurd z (by simp)), rfl,
    kk _ _ _ _ (gr.trans (.new fa)) (.ref _) (rm.newLst fa hlen h8) (q _ (rm.free fa))⟩
theorem c_sortK {k f : Nat} {fd : FuncData} {ps : List Str} {dsp : DSp} (F : FnOk X.prog X.w X.K X.mg X.base CX0 k f fd ps (upSp X.K dsp)) (hb : Binds X.K fd ps []) (hr : Room k X.A.in1.in1) :
    CallRK X (.builtin "sorted") [Str.ofString "key"] (fun vs zs H Q => zs = [V.ref f] ∧ upC X.K (rSortK dsp) vs H Q) := by
  intro pins s σ H vs zs us ws Q I r rz ⟨ez, ds, M, Q', l, m, ⟨d, xs, g, e, hd, hnt, pure, hok, hal, hsk, q⟩, kk⟩
  subst e
  subst ez
  obtain ⟨v, e, rv⟩ := repL_one l
  subst e
  obtain ⟨u, eu, ru⟩ := vals1 r
  subst eu
  obtain ⟨w1, rfl, e1⟩ := vals1 rz
  obtain rfl : w1 = Value.ref f := e1
  have hu : X.A.in1.in1.units + 40 < cLine := by
    have := hr.un
    omega
  refine sort_core I rv ru m hd hnt (fun a => ksk_t1 _ a) (fun Hj s' d v x hdm un gr J rm rd ru => ?_) hu hok hal hsk q kk
  have hsp : upSp X.K dsp [v] Hj (fun v H' => Grow Hj H' ∧ Rep X.K H' (g d) v ∧ RM X.K H' M) E0 :=
    ⟨[d], M, fun y M' => y = g d ∧ M' = M, .one rd, rm, pure d hdm _ ⟨rfl, rfl⟩, fun y v' M' H' g1 r1 m1 ⟨h1, h2⟩ => by subst h1 h2; exact ⟨g1, r1, m1⟩⟩
  refine wpAny_call (codeAny_mono (F.run X.A.in1.in1 X.stack s' Hj ⟨[x], []⟩ [x] [v] _ E0 hr J.env0.in1.in1 (hb s' [x] J.kIn (F.len [v] Hj _ E0 hsp)) (.cons ru .nil) hsp) fun r s'' hq => ?_)
  cases r with
  | error e => exact False.elim hq
  | ok fl =>
    cases fl with
    | ret u => exact hq
    | next => exact False.elim hq
    | brk => exact False.elim hq
    | cont => exact False.elim hq
/-- sorted(e, key=x) -/
theorem d_sortK {k : Nat} {x : Str} {ps : List Str} {dsp : DSp} {e : Expr} {p p2 kp pos : Pos} {t : DTA} (C : Cal X.prog X.w X.K X.mg X.base k x ps dsp) (hr : Room k X.A.in1.in1) (hg : Gl X x) (hgs : Gl X "sorted") (hms : X.mg "sorted" = none) (ha : DA X [e] t)
    (hdb : (x == ("__debug__" : Str)) = false := by decide) (he : backTo pos (starEach [e] X.env) = [(false, eval e X.env)] := by rfl) (hpl : (backTo pos (starEach [e] X.env)).any (·.1) = false := by rfl)
    (hall : (backToKw pos (keywordEach [⟨some (Str.ofString "key"), .Name x p2, kp⟩] X.env)).all (·.1.isSome) = true := by rfl) (hnone : (backToKw pos (keywordEach [⟨some (Str.ofString "key"), .Name x p2, kp⟩] X.env)).any (·.1.isNone) = false := by rfl)
    (hks : (backToKw pos (keywordEach [⟨some (Str.ofString "key"), .Name x p2, kp⟩] X.env)).filterMap (·.1) = [Str.ofString "key"] := by rfl) :
    DE X (.Call (.Name "sorted" p) [e] [⟨some (Str.ofString "key"), .Name x p2, kp⟩] pos) (dCB (rSortK dsp) t) := by
  obtain ⟨f, fd, F, hm, hk, hb⟩ := C.ex
  refine imE (pe_callBK (c_sortK F hb hr) hgs hms boot_sorted ha (pk_cons (pe_glob (v := .ref f) hg hm rfl hdb) pk_nil) (by decide) (by decide) he hpl hall hnone hks) fun σ H Q ⟨m, M, Q', r, q, kk⟩ => ?_
  refine ⟨m, M, _, r, q, fun ds vs M1 H1 g1 l1 m1 q1 => ?_⟩
  exact ⟨rfl, ds, M1, Q', l1, m1, q1, fun d v M2 H2 g2 => kk d v M2 H2 (g1.trans g2)⟩
end
end DL
/-! reversed, zip, a tuple times a number -/
namespace DL
open PySem PySem.Spec PyProof.Rows L2

section
variable {X : Cx} {tg e e2 : Expr} {te : DTE} {t : DTA} {p p2 pos pos2 : Pos}
/-! ### for .. in reversed(a tuple or a frozen list) -/
def diRev (te : DTE) : DTI := fun m M Q => te m M fun d M1 => ∃ xs, (d = .tup xs ∨ d = .lst xs) ∧ Q (xs.reverse, none) M1
theorem rev_at {α : Type} {xs : List α} {i : Nat} (h : i < xs.length) : xs.reverse[i]? = xs[xs.length - 1 - i]? := List.getElem?_reverse h
theorem di_rev (hg : Gl X "reversed") (hm : X.mg "reversed" = none) (he : DE X e te) (hs : starEach [e] X.env = (false, eval e X.env) :: starEach [] X.env := by rfl) : DI X tg (.Call (.Name "reversed" p) [e] [] pos) (diRev te) :=
  imI (RT.pi_revA hg hm he hs) fun σ H Q ⟨m, M, Q', r, q, k⟩ => by
    refine ⟨m, M, _, r, q, fun d v M1 H1 g1 r1 m1 ⟨xs, e1, q1⟩ => ?_⟩
    rcases e1 with e1 | e1
    · subst e1
      cases r1 with
      | @tup _ a vs hf z l =>
        have hl := l.length
        refine ⟨a, vs, rfl, .inr ⟨hf, k _ M1 H1 _ g1 m1 q1 ⟨?_, fun i H2 ok hi => ?_, fun i H2 x H3 ok hi y => ?_, fun H2 ok => ?_⟩⟩⟩
        · show xs.reverse.length ≤ sizeLine
          rw [List.length_reverse, hl]
          exact z
        · have hi' : i < xs.length := by rw [← List.length_reverse (as := xs)]; exact hi
          obtain ⟨w, e3, _⟩ := l.get (i := xs.length - 1 - i) (List.getElem?_eq_getElem (by omega))
          exact ⟨by omega, vs, w, sqT_grow hf ok.1, by rw [← hl]; exact e3⟩
        · have hi' : i < xs.length := by rw [← List.length_reverse (as := xs)]; exact hi
          obtain ⟨e3, hx⟩ := y
          subst e3
          have hx' := hx vs (sqT_grow hf ok.1)
          rw [← hl] at hx'
          obtain ⟨d, e5, rd⟩ := l.get' hx'
          exact ⟨.refl _, fun _ q => q, d, by show xs.reverse[i]? = _; rw [rev_at hi']; exact e5, rd.grow ok.1⟩
        · show vs.length ≤ xs.reverse.length
          rw [List.length_reverse, hl]
          exact Nat.le_refl _
    · subst e1
      cases r1 with
      | @lst _ a vs hf z l =>
        have hl := l.length
        refine ⟨a, vs, rfl, .inl ⟨hf.seq, k _ M1 H1 _ g1 m1 q1 ⟨?_, fun i H2 ok hi => ?_, fun i H2 x H3 ok hi y => ?_, fun H2 ok => ?_⟩⟩⟩
        · show xs.reverse.length ≤ sizeLine
          rw [List.length_reverse, hl]
          exact z
        · have hi' : i < xs.length := by rw [← List.length_reverse (as := xs)]; exact hi
          obtain ⟨w, e3, _⟩ := l.get (i := xs.length - 1 - i) (List.getElem?_eq_getElem (by omega))
          exact ⟨by omega, vs, w, (hf.grow ok.1).seq, by rw [← hl]; exact e3⟩
        · have hi' : i < xs.length := by rw [← List.length_reverse (as := xs)]; exact hi
          obtain ⟨e3, hx⟩ := y
          subst e3
          have hx' := hx vs (hf.grow ok.1).seq
          rw [← hl] at hx'
          obtain ⟨d, e5, rd⟩ := l.get' hx'
          exact ⟨.refl _, fun _ q => q, d, by show xs.reverse[i]? = _; rw [rev_at hi']; exact e5, rd.grow ok.1⟩
        · show vs.length ≤ xs.reverse.length
          rw [List.length_reverse, hl]
          exact Nat.le_refl _
/-! ### tuple(reversed(a list)) -/
def dTupRev (te : DTE) : DTE := fun m M Q => te m M fun d M1 => ∃ xs, dItems d M1 = some xs ∧ d ≠ .tup xs ∧ Q (.tup xs.reverse) M1
theorem d_tupRev (hc : X.calm = true) (hg : Gl X "tuple") (hm : X.mg "tuple" = none) (hg2 : Gl X "reversed") (hm2 : X.mg "reversed" = none) (he : DE X e te)
    (hs : starEach [e] X.env = (false, eval e X.env) :: starEach [] X.env := by rfl)
    (hs2 : starEach [.Call (.Name "reversed" p2) [e] [] pos2] X.env = (false, eval (.Call (.Name "reversed" p2) [e] [] pos2) X.env) :: starEach [] X.env := by rfl) :
    DE X (.Call (.Name "tuple" p) [.Call (.Name "reversed" p2) [e] [] pos2] [] pos) (dTupRev te) :=
  imE (RT.pe_tupRev hc hg hm hg2 hm2 he hs hs2) fun σ H Q ⟨m, M, Q', r, q, k⟩ => by
    refine ⟨m, M, _, r, q, fun d v M1 H1 g1 r1 m1 ⟨xs, e1, hn, q1⟩ => ?_⟩
    obtain ⟨a, ws, rfl, z, l3, h6⟩ := lst_of r1 m1 e1 hn
    refine ⟨a, ws, rfl, h6, fun c hc => ?_⟩
    have g2 : Grow H1 (upd H1 c (.tup ws.reverse)) := .new hc
    exact k _ _ M1 _ (g1.trans g2) (.tup (.of upd_same) (by rw [List.length_reverse]; exact z) (l3.reverse.grow g2)) (m1.new hc) q1
/-! ### for (..) in zip(two tuples) -/
def zipD : List D → List D → List D
  | x :: xs, y :: ys => .tup [x, y] :: zipD xs ys
  | _, _ => []
theorem zipD_len : ∀ xs ys : List D, (zipD xs ys).length = min xs.length ys.length
  | [], ys => by simp [zipD]
  | x :: xs, [] => by simp [zipD]
  | x :: xs, y :: ys => by
    rw [zipD, List.length_cons, List.length_cons, List.length_cons, zipD_len xs ys]
    omega
theorem zipD_get : ∀ {xs ys : List D} {i : Nat} {x y : D}, xs[i]? = some x → ys[i]? = some y → (zipD xs ys)[i]? = some (.tup [x, y])
  | [], _, _, _, _, h, _ => by simp at h
  | _ :: _, [], _, _, _, _, h => by simp at h
  | x :: xs, y :: ys, 0, a, b, h1, h2 => by
    simp at h1 h2
    subst h1 h2
    rfl
  | x :: xs, y :: ys, i + 1, a, b, h1, h2 => by
    rw [zipD, List.getElem?_cons_succ]
    exact zipD_get (by simpa using h1) (by simpa using h2)
def diZip (t : DTA) : DTI := fun m M Q => t m M fun ds M1 => ∃ xs ys, ds = [.tup xs, .tup ys] ∧ Q (zipD xs ys, none) M1
theorem di_zip {elts : List Expr} {kk : Nat} {tpos : Pos} (hg : Gl X "zip") (hm : X.mg "zip" = none) (ha : DA X [e, e2] t)
    (hs : starEach [e, e2] X.env = (false, eval e X.env) :: starEach [e2] X.env := by rfl) (hpl : (backTo pos (starEach [e2] X.env)).any (·.1) = false := by rfl) :
    DI X (.Tuple elts kk tpos) (.Call (.Name "zip" p) [e, e2] [] pos) (diZip t) :=
  imI (RZ.pi_zipA hg hm ha hs hpl) fun σ H Q ⟨m, M, Q', r, q, k⟩ => by
    refine ⟨m, M, _, r, q, fun ds vs M1 H1 g1 r1 m1 ⟨xs, ys, e1, q1⟩ => ?_⟩
    subst e1
    obtain ⟨v, w, e2, rv, rw'⟩ := repL_two r1
    subst e2
    cases rv with
    | @tup _ a vs hf z l =>
      cases rw' with
      | @tup _ b ws hf2 z2 l2 =>
        have hl := l.length
        have hl2 := l2.length
        have hlen : (zipD xs ys).length = min xs.length ys.length := zipD_len xs ys
        refine ⟨a, b, vs, ws, rfl, .inr ⟨hf, hf2, k _ M1 H1 _ g1 m1 q1 ⟨?_, fun i H2 ok hi => ?_, fun i H2 x H3 ok hi y => ?_, fun H2 ok => ?_⟩⟩⟩
        · show (zipD xs ys).length ≤ sizeLine
          rw [hlen]
          omega
        · have hi' : i < min xs.length ys.length := by rw [← hlen]; exact hi
          obtain ⟨w1, e3, _⟩ := l.get (i := i) (List.getElem?_eq_getElem (by omega))
          obtain ⟨w2, e4, _⟩ := l2.get (i := i) (List.getElem?_eq_getElem (by omega))
          exact ⟨vs, ws, w1, w2, sqT_grow hf ok.1, sqT_grow hf2 ok.1, e3, e4⟩
        · obtain ⟨T, x1, y1, e3, hT, e4, hx, hy⟩ := y
          subst e3
          subst e4
          obtain ⟨d1, e5, rd1⟩ := l.get' (hx _ (sqT_grow hf ok.1))
          obtain ⟨d2, e6, rd2⟩ := l2.get' (hy _ (sqT_grow hf2 ok.1))
          refine ⟨.new hT, fun M2 rm => rm.new hT, .tup [d1, d2], zipD_get e5 e6, ?_⟩
          exact .tup (.of upd_same) (by show 2 ≤ sizeLine; decide) (.cons (rd1.grow (ok.1.trans (.new hT))) (.cons (rd2.grow (ok.1.trans (.new hT))) .nil))
        · refine ⟨vs, ws, sqT_grow hf ok.1, sqT_grow hf2 ok.1, ?_⟩
          show vs.length ≤ (zipD xs ys).length ∨ ws.length ≤ (zipD xs ys).length
          rw [hlen]
          omega
end
/-! ### a tuple, times 0 or 1 -/
theorem tuple_mul1 (l : Addr) (items : Array Value) (n : Nat) (dd : Option Addr) (sl : Array (Option Value)) (u : Tok) :
    Meets (Builtin.«tuple.__mul__» ⟨[.ref l, .int 1 u], []⟩) (fun _ R s => s.heap.get? l = some { cls := .type "tuple", dict := dd, data := .seq items n, slots := sl } ∧ R (.ok (.ret (Value.ref l))) s) :=
  .of_wp fun prog w A R s h => by
    obtain ⟨hp, g, d, tk, os⟩ := s
    obtain ⟨hl, h⟩ := h
    have f1 := AutoSeq1.idx_int
    wp_walk using wpAny_loadPart' hl
    exact ⟨_, rfl, h⟩
theorem tuple_mul0 (l : Addr) (items : Array Value) (n : Nat) (dd : Option Addr) (sl : Array (Option Value)) (u : Tok) (c1 : (items.isEmpty || (0 : Int) == 1) = false) :
    Meets (Builtin.«tuple.__mul__» ⟨[.ref l, .int 0 u], []⟩) (fun _ R s => s.heap.get? l = some { cls := .type "tuple", dict := dd, data := .seq items n, slots := sl } ∧
      R (.ok (.ret (Value.ref s.heap.objs.size))) { s with heap := s.heap.push { cls := Value.type "tuple", data := Data.seq #[] }, toks := s.toks }) :=
  .of_wp fun prog w A R s h => by
    obtain ⟨hp, g, d, tk, os⟩ := s
    obtain ⟨hl, h⟩ := h
    have f1 := AutoSeq1.idx_int
    wp_walk using wpAny_loadPart' hl
    repeat (first
      | (refine wpAny_ite_false (decide_eq_false (by rw [c1]; exact Bool.false_ne_true)) ?_; wp_walk using wpAny_loadPart' hl))
    exact ⟨_, rfl, h⟩
def rRep01 (K : PySem.W.Frag) : R2 := fun x y H Q => ∃ l k xs, x = .ref l ∧ y = .int k ∧ SqT K H l xs ∧ xs ≠ [] ∧ ((k = 1 ∧ Q (.ref l) H) ∨ (k = 0 ∧ ∀ p, H p = none → Q (.ref p) (upd H p (.tup []))))
section
variable {X : Cx}
theorem op_rep01 : OpR X (binaryOp .Mult) (rRep01 X.K) := by
  intro pins s σ H x y v u Q I rx ry h
  obtain ⟨l, k, xs, rfl, rfl, hT, hne, h⟩ := h
  cases rx
  obtain ⟨t, rfl⟩ := ry
  obtain ⟨its, r, ⟨⟨cls, dd, data, sl⟩, ho, hc, n, hd⟩, hs⟩ := I.tuple hT
  simp only at hc hd
  subst hc hd
  have hle : its.length = xs.length := r.length.symm
  have hn : its ≠ [] := fun e => hne (by
    rw [e] at hle
    exact List.eq_nil_of_length_eq_zero hle.symm)
  have hi : its.toArray.isEmpty = false := by
    cases its with
    | nil => exact absurd rfl hn
    | cons a b => rfl
  rcases h with ⟨rfl, q⟩ | ⟨rfl, q⟩
  · refine wpAny_binaryOp_repeat_ref (T := "tuple") (U := "int") (by decide) ⟨_, ho, rfl⟩ (fun s' => typeIs_int s' 1 t) noFill_tuple_mul F.fills_int_mul F.slot_int_rmul repeat_tuple F.slot_int_index.lookup
      (call_meets F.slot_int_rmul (typeIs_int s 1 t) F.entry_int_rmul (F.args_int_rmul_2 _ _) (int_rmul_tuple 1 t l its.toArray n dd sl)
        ⟨ho, rfl, ⟨_, ho, rfl⟩, call_meets F.slot_tuple_mul ⟨_, ho, rfl⟩ F.entry_tuple_mul (F.args_tuple_mul_2 _ _) (tuple_mul1 l its.toArray n dd sl t) ⟨ho, ?_⟩⟩)
    exact ⟨.ref l, H, I, rfl, q⟩
  · refine wpAny_binaryOp_repeat_ref (T := "tuple") (U := "int") (by decide) ⟨_, ho, rfl⟩ (fun s' => typeIs_int s' 0 t) noFill_tuple_mul F.fills_int_mul F.slot_int_rmul repeat_tuple F.slot_int_index.lookup
      (call_meets F.slot_int_rmul (typeIs_int s 0 t) F.entry_int_rmul (F.args_int_rmul_2 _ _) (int_rmul_tuple 0 t l its.toArray n dd sl)
        ⟨ho, rfl, ⟨_, ho, rfl⟩, call_meets F.slot_tuple_mul ⟨_, ho, rfl⟩ F.entry_tuple_mul (F.args_tuple_mul_2 _ _) (tuple_mul0 l its.toArray n dd sl t (by rw [hi]; rfl)) ⟨ho, ?_⟩⟩)
    refine ⟨.ref s.heap.objs.size, _, I.laid (t' := s.toks) (o := .tup []) (fun b ob q => Heap.get?_push_of_some _ q) (Nat.le_refl _) ?_, rfl, q _ (I.hok.fresh (Nat.le_refl _))⟩
    exact ⟨Nat.zero_le _, [], .nil, IsTup.new _ _⟩
/-- a tuple * int -/
def dMulT : DR2 := fun x y M Q => ∃ xs k, x = .tup xs ∧ y = .int k ∧ xs ≠ [] ∧ 0 ≤ k ∧ k ≤ 1000 ∧ xs.length ≤ 1000 ∧ Q (.tup (List.replicate k.toNat xs).flatten) M
theorem o_mulT : DOp X (binaryOp .Mult) dMulT := by
  intro pins s σ H x y v u Q I rx ry ⟨d, e, M, Q', r1, r2, m, ⟨xs, k, e1, e2, hne, h0, h1, hz, q⟩, kk⟩
  subst e1 e2
  cases r2
  cases r1 with
  | @tup _ a vs hf z l =>
    have hl := l.length
    have hvn : vs ≠ [] := fun e => hne (by
      rw [e] at hl
      exact List.eq_nil_of_length_eq_zero hl)
    by_cases c1 : k = 1
    · subst c1
      have er : (List.replicate (1 : Int).toNat xs).flatten = xs := by simp
      rw [er] at q
      exact op_rep01 pins s σ H _ _ v u Q I rx ry ⟨a, 1, vs, rfl, rfl, hf, hvn, .inl ⟨rfl, kk _ _ M H (.refl H) (.tup hf z l) m q⟩⟩
    · by_cases c0 : k = 0
      · subst c0
        have er : (List.replicate (0 : Int).toNat xs).flatten = [] := by simp
        rw [er] at q
        exact op_rep01 pins s σ H _ _ v u Q I rx ry ⟨a, 0, vs, rfl, rfl, hf, hvn, .inr ⟨rfl, fun p hp => kk _ _ M _ (.new hp) (.tup (.of upd_same) (Nat.zero_le _) .nil) (m.new hp) q⟩⟩
      · refine op_repT pins s σ H _ _ v u Q I rx ry ⟨a, k, vs, rfl, rfl, hf, hvn, by omega, h1, by omega, fun p hp => ?_⟩
        have g2 : Grow H (upd H p (.tup (List.replicate k.toNat vs).flatten)) := .new hp
        refine kk _ _ M _ g2 (.tup (.of upd_same) ?_ ((RepL.rep l _).grow g2)) (m.new hp) q
        rw [PyProof.Rows.lm_len_rep_flat, sizeLine_eq]
        have a1 : k.toNat * vs.length ≤ 1000 * 1000 := Nat.mul_le_mul (by omega) (by omega)
        omega
end
end DL
/-! dicts whose keys are tuples -/
namespace DL
open PySem PySem.Spec PyProof.Rows L2

/-! ### keys -/
mutual
theorem nk_inj : ∀ {a b : D}, kOk a = true → kOk b = true → nk a = nk b → a = b
  | .int i, b, _, hb, e => by cases b <;> simp_all [nk, kOk]
  | .str x, b, _, hb, e => by cases b <;> simp_all [nk, kOk]
  | .non, b, _, hb, e => by cases b <;> simp_all [nk, kOk]
  | .tup xs, .tup ys, ha, hb, e => by
    rw [nk, nk] at e
    injection e with e
    rw [nks_inj (xs := xs) (ys := ys) (by simpa [kOk] using ha) (by simpa [kOk] using hb) e]
  | .tup xs, .int _, _, _, e => by simp [nk] at e
  | .tup xs, .str _, _, _, e => by simp [nk] at e
  | .tup xs, .non, _, _, e => by simp [nk] at e
  | .tup xs, .bl _, _, hb, _ => by simp [kOk] at hb
  | .tup xs, .lst _, _, hb, _ => by simp [kOk] at hb
  | .tup xs, .dct _, _, hb, _ => by simp [kOk] at hb
  | .tup xs, .ref _, _, hb, _ => by simp [kOk] at hb
  | .tup xs, .ty _, _, hb, _ => by simp [kOk] at hb
  | .bl _, _, ha, _, _ => by simp [kOk] at ha
  | .lst _, _, ha, _, _ => by simp [kOk] at ha
  | .dct _, _, ha, _, _ => by simp [kOk] at ha
  | .ref _, _, ha, _, _ => by simp [kOk] at ha
  | .ty _, _, ha, _, _ => by simp [kOk] at ha
theorem nks_inj : ∀ {xs ys : List D}, kOks xs = true → kOks ys = true → nks xs = nks ys → xs = ys
  | [], [], _, _, _ => rfl
  | [], y :: ys, _, _, e => by simp [nks] at e
  | x :: xs, [], _, _, e => by simp [nks] at e
  | x :: xs, y :: ys, ha, hb, e => by
    rw [kOks, Bool.and_eq_true] at ha hb
    rw [nks, nks] at e
    injection e with e1 e2
    rw [nk_inj ha.1 hb.1 e1, nks_inj ha.2 hb.2 e2]
end
section
variable {X : Cx} {pins : List (Addr × Obj)} {σ : SL} {H : Hp} {s : Shared}
mutual
theorem Rep.nested (I : Inv X pins σ H s) : ∀ {d : D} {v : V} {u : Value}, Rep X.K H d v → RelV v u → kOk d = true → NestedIs s.heap (nk d) u
  | _, _, _, .non, r, _ => by cases r; exact .none
  | _, _, _, .int i, r, _ => by
    obtain ⟨t, rfl⟩ := r
    exact .int i t
  | _, _, _, .str x, r, _ => by
    obtain ⟨t, rfl⟩ := r
    exact .text x t
  | _, _, _, .tup hs z l, r, h => by
    cases r
    obtain ⟨its, rv, ⟨o, h1, h2, n, h3⟩, hz⟩ := I.tuple hs
    exact .tup h1 h2 h3 (RepL.nested I l rv (by simpa [kOk] using h))
  | _, _, _, .bl _, _, h => by simp [kOk] at h
  | _, _, _, .lst _ _ _, _, h => by simp [kOk] at h
  | _, _, _, .ref _, _, h => by simp [kOk] at h
  | _, _, _, .ty _, _, h => by simp [kOk] at h
  | _, _, _, .dct _ _ _, _, h => by simp [kOk] at h
theorem RepL.nested (I : Inv X pins σ H s) : ∀ {ds : List D} {vs : List V} {us : List Value}, RepL X.K H ds vs → Vals vs us → kOks ds = true → NestedAll s.heap (nks ds) us
  | _, _, _, .nil, .nil, _ => .nil
  | _, _, _, .cons a l, .cons r rs, h => by
    rw [kOks, Bool.and_eq_true] at h
    exact .cons (Rep.nested I a r h.1) (RepL.nested I l rs h.2)
end
/-! ### what a dict's object says -/
abbrev EsXs : List (NestedKey × Addr × V) → List (NestedKey × Addr × Value) → Prop := Paired fun p q => p.1 = q.1 ∧ p.2.1 = q.2.1 ∧ RelV p.2.2 q.2.2
theorem RepKV.is {K : PySem.W.Frag} (I : Inv X pins σ H s) (hK : K = X.K) : ∀ {kvs : List (D × D)} {es : List (NestedKey × Addr × V)} {xs : List (NestedKey × Addr × Value)}, RepKV K H kvs es → EsXs es xs → ∀ x ∈ xs, (nestedKind X.prog X.w).is s.heap x.1 x.2.1
  | _, _, _, .nil, .nil, x, hx => nomatch hx
  | _, _, _, .cons a b c d e, .cons ⟨h1, h2, _⟩ t, x, hx => by
    subst hK
    rcases List.mem_cons.mp hx with rfl | hx
    · rw [← h1, ← h2]
      exact ⟨Rep.nested I a rfl b, c⟩
    · exact RepKV.is I rfl e t x hx
theorem dict_of {a : Addr} {kvs : List (D × D)} {es : List (NestedKey × Addr × V)} (I : Inv X pins σ H s) (h : H a = some (DictO X.w a es)) (r : RepKV X.K H kvs es) :
    (a == sysModules) = false ∧ ∃ xs, EsXs es xs ∧ s.heap.DictOfH (nestedKind X.prog X.w) a xs := by
  obtain ⟨⟨xs, pr, ⟨o, ents, ep, h1, h2, h3, h4⟩, nd, hs⟩, _, _⟩ := I.hok a _ h
  exact ⟨hs, xs, pr, o, ents, ep, h1, h2, h3, h4, RepKV.is I rfl r pr, nd⟩
theorem dict_new {P : Program} {w : World} {H' : Hp} {h : Heap} {a : Addr} {es : List (NestedKey × Addr × V)} {xs : List (NestedKey × Addr × Value)} (hs : (a == sysModules) = false) (pr : EsXs es xs) (dd : h.DictOfH (nestedKind P w) a xs) : ObjOk P w H' h a (DictO w a es) := by
  obtain ⟨o, ents, ep, h1, h2, h3, h4, _, nd⟩ := dd
  refine ⟨⟨xs, pr, ⟨o, ents, ep, h1, h2, h3, h4⟩, nd, hs⟩, ⟨o, h1⟩, fun g1 g2 ⟨ys, py, ⟨o', en, e', k1, k2, k3, k4⟩, nd', hs'⟩ k => ⟨ys, py, ⟨o', en, e', k o' k1, k2, k3, k4⟩, nd', hs'⟩⟩
/-! ### looking up, storing -/
def atV (es : List (NestedKey × Addr × V)) (k : NestedKey) : Option V := (es.find? fun x => decide (x.1 = k)).map fun x => x.2.2
def dget (kvs : List (D × D)) (k : D) : Option D := (kvs.find? fun p => decide (nk p.1 = nk k)).map (·.2)
def dhas (kvs : List (D × D)) (k : D) : Bool := kvs.any fun p => decide (nk p.1 = nk k)
def dput (kvs : List (D × D)) (k v : D) : List (D × D) := if dhas kvs k = true then kvs.map fun p => if nk p.1 = nk k then (p.1, v) else p else kvs ++ [(k, v)]
def storeV (es : List (NestedKey × Addr × V)) (k : NestedKey) (b : Addr) (y : V) : List (NestedKey × Addr × V) := if (es.any fun x => decide (x.1 = k)) = true then es.map fun x => if x.1 = k then (x.1, x.2.1, y) else x else es ++ [(k, b, y)]
theorem atV_at : ∀ {es : List (NestedKey × Addr × V)} {xs : List (NestedKey × Addr × Value)} {k : NestedKey}, EsXs es xs → RelO (atV es k) ((atKey xs k).map (·.2))
  | _, _, k, .nil => by
    show RelO none none
    trivial
  | _, _, k, .cons (a := p) (b := q) ⟨h1, h2, h3⟩ t => by
    have ih := atV_at (k := k) t
    unfold atV atKey at ih ⊢
    rw [List.find?_cons, List.find?_cons, ← h1]
    cases decide (p.1 = k) with
    | true => exact h3
    | false => exact ih
theorem dget_at {K : PySem.W.Frag} : ∀ {kvs : List (D × D)} {es : List (NestedKey × Addr × V)} {k : D}, RepKV K H kvs es → (dget kvs k = none ∧ atV es (nk k) = none) ∨ ∃ d y, dget kvs k = some d ∧ atV es (nk k) = some y ∧ Rep K H d y
  | _, _, k, .nil => .inl ⟨rfl, rfl⟩
  | _, _, k, .cons (k := k1) a b c d e => by
    have ih := dget_at (k := k) e
    unfold dget atV at ih ⊢
    rw [List.find?_cons, List.find?_cons]
    show (_ ∧ _) ∨ _
    cases hk : decide (nk k1 = nk k) with
    | true => exact .inr ⟨_, _, rfl, rfl, d⟩
    | false => exact ih
theorem any_at : ∀ {es : List (NestedKey × Addr × V)} {xs : List (NestedKey × Addr × Value)} {k : NestedKey}, EsXs es xs → (atKey xs k).isSome = es.any fun x => decide (x.1 = k)
  | _, _, k, .nil => rfl
  | _, _, k, .cons (a := p) (b := q) ⟨h1, h2, h3⟩ t => by
    have ih := any_at (k := k) t
    unfold atKey at ih ⊢
    rw [List.find?_cons, List.any_cons, ← h1]
    cases decide (p.1 = k) with
    | true => rfl
    | false => exact ih
theorem EsXs.put {k : NestedKey} {y : V} {r : Value} (ry : RelV y r) : ∀ {es : List (NestedKey × Addr × V)} {xs : List (NestedKey × Addr × Value)}, EsXs es xs → EsXs (es.map fun x => if x.1 = k then (x.1, x.2.1, y) else x) (xs.map (putAt k r))
  | _, _, .nil => .nil
  | _, _, .cons (a := p) (b := q) h t => by
    refine .cons ?_ (EsXs.put ry t)
    obtain ⟨h1, h2, h3⟩ := h
    by_cases c : p.1 = k
    · have hq : q.1 = k := by rw [← h1]; exact c
      simp only [putAt, if_pos c, if_pos hq]
      exact ⟨h1, h2, ry⟩
    · have hq : ¬ q.1 = k := by rw [← h1]; exact c
      simp only [putAt, if_neg c, if_neg hq]
      exact ⟨h1, h2, h3⟩
theorem EsXs.store {es : List (NestedKey × Addr × V)} {xs : List (NestedKey × Addr × Value)} {k : NestedKey} {b : Addr} {y : V} {r : Value} (p : EsXs es xs) (ry : RelV y r) : EsXs (storeV es k b y) (storedH xs k b r) := by
  unfold storeV storedH
  rw [any_at p]
  split
  · exact EsXs.put ry p
  · exact Paired.snoc p ⟨rfl, rfl, ry⟩
theorem has_any {K : PySem.W.Frag} {k : D} : ∀ {kvs : List (D × D)} {es : List (NestedKey × Addr × V)}, RepKV K H kvs es → (es.any fun x => decide (x.1 = nk k)) = dhas kvs k
  | _, _, .nil => rfl
  | _, _, .cons _ _ _ _ e => by
    have ih := has_any (k := k) e
    unfold dhas at ih ⊢
    rw [List.any_cons, List.any_cons, ih]
theorem RepKV.len {K : PySem.W.Frag} : ∀ {kvs : List (D × D)} {es : List (NestedKey × Addr × V)}, RepKV K H kvs es → kvs.length = es.length
  | _, _, .nil => rfl
  | _, _, .cons _ _ _ _ e => by rw [List.length_cons, List.length_cons, RepKV.len e]
theorem RepKV.put {K : PySem.W.Frag} {k v : D} {y : V} (rv : Rep K H v y) : ∀ {kvs : List (D × D)} {es : List (NestedKey × Addr × V)}, RepKV K H kvs es →
    RepKV K H (kvs.map fun p => if nk p.1 = nk k then (p.1, v) else p) (es.map fun x => if x.1 = nk k then (x.1, x.2.1, y) else x)
  | _, _, .nil => .nil
  | _, _, .cons (k := k1) a b c d e => by
    rw [List.map_cons, List.map_cons]
    by_cases h : nk k1 = nk k
    · rw [if_pos h, if_pos h]
      exact .cons a b c rv (RepKV.put rv e)
    · rw [if_neg h, if_neg h]
      exact .cons a b c d (RepKV.put rv e)
theorem RepKV.snoc {K : PySem.W.Frag} {k v : D} {b : Addr} {y : V} (rk : Rep K H k (.ref b)) (hk : kOk k = true) (hd : (nk k).depth ≤ 8) (rv : Rep K H v y) : ∀ {kvs : List (D × D)} {es : List (NestedKey × Addr × V)}, RepKV K H kvs es → RepKV K H (kvs ++ [(k, v)]) (es ++ [(nk k, b, y)])
  | _, _, .nil => .cons rk hk hd rv .nil
  | _, _, .cons a b c d e => .cons a b c d (RepKV.snoc rk hk hd rv e)
theorem RepKV.store {K : PySem.W.Frag} {k v : D} {b : Addr} {y : V} {kvs : List (D × D)} {es : List (NestedKey × Addr × V)} (r : RepKV K H kvs es) (rk : Rep K H k (.ref b)) (hk : kOk k = true) (hd : (nk k).depth ≤ 8) (rv : Rep K H v y) :
    RepKV K H (dput kvs k v) (storeV es (nk k) b y) := by
  unfold dput storeV
  rw [has_any r]
  split
  · exact RepKV.put rv r
  · exact RepKV.snoc rk hk hd rv r
theorem storeV_len (es : List (NestedKey × Addr × V)) (k : NestedKey) (b : Addr) (y : V) : (storeV es k b y).length ≤ es.length + 1 := by
  unfold storeV
  split
  · rw [List.length_map]
    omega
  · rw [List.length_append, List.length_singleton]
    exact Nat.le_refl _
/-- d[k] = v -/
theorem dict_set {a b : Addr} {k : D} {y : V} {r : Value} {kvs : List (D × D)} {es : List (NestedKey × Addr × V)} {Q : Unit → Shared → Prop} {E : Value → Shared → Prop} (hu : X.A.units + 8 < cLine) (I : Inv X pins σ H s) (h : H a = some (DictO X.w a es)) (rkv : RepKV X.K H kvs es)
    (hz : es.length ≤ sizeLine) (rk : Rep X.K H k (.ref b)) (hk : kOk k = true) (hd : (nk k).depth ≤ 8) (ry : RelV y r) (cont : ∀ s', Inv X pins σ (upd H a (DictO X.w a (storeV es (nk k) b y))) s' → Q () s') :
    wpAny (model X.prog X.w) X.A (dictSet a (.ref b) r) Q E s := by
  obtain ⟨hs, xs, pr, dd⟩ := dict_of I h rkv
  have hl : xs.length ≤ sizeLine := by rw [← pr.length]; exact hz
  refine wpAny_dictSet_heap (knd := nestedKind X.prog X.w) (hsz := hl) hu ⟨Rep.nested I rk rfl hk, hd⟩ dd fun h' dd' hsb => cont _ ?_
  obtain ⟨o', _, _, ho', _⟩ := id dd'
  exact d_write I (by rw [h]; exact True.intro) hsb ⟨o', ho'⟩ (dict_new hs (EsXs.store pr ry) dd')
end
/-! ### the mutable part -/
/-- a code object is no dict -/
theorem code_ne_dict {w : World} {p : Addr} {q : Str} {es : List (NestedKey × Addr × V)} : LamX.CodeO p q ≠ DictO w p es := fun z => by
  unfold LamX.CodeO DictO at z
  injection z with z
  have hg : (⟨Array.replicate (p + 1) { cls := .none, data := .fields #[.none, .str q 0] }, {}⟩ : Heap).get? p = some { cls := .none, data := .fields #[.none, .str q 0] } := by
    show (match (Array.replicate (p + 1) ({ cls := .none, data := .fields #[.none, .str q 0] } : Obj))[p]? with | some ⟨_, _, .freed, _⟩ => none | o => o) = _
    rw [Array.getElem?_replicate, if_pos (Nat.lt_succ_self p)]
  have h1 : (fun h : Heap => ∃ (oc : Obj) (vs : Array Value) (t : Tok), h.get? p = some oc ∧ oc.data = .fields vs ∧ vs[1]? = some (.str q t)) ⟨Array.replicate (p + 1) { cls := .none, data := .fields #[.none, .str q 0] }, {}⟩ := ⟨_, _, 0, hg, rfl, rfl⟩
  rw [z] at h1
  obtain ⟨xs, _, ⟨o, ents, ep, e1, _, e3, _⟩, _⟩ := h1
  rw [hg] at e1
  cases e1
  cases e3
theorem Grow.dct {H : Hp} {w : World} {p : Addr} {es : List (NestedKey × Addr × V)} {o : HO} (h : H p = some (DictO w p es)) : Grow H (upd H p o) :=
  ⟨fun b xs e => by rw [upd_ne (ne_of e h (by intro z; cases z))]; exact e, fun b q u e => by rw [upd_ne (ne_of e h (by intro z; cases z))]; exact e, fun b q e => by
    by_cases hb : b = p
    · subst hb
      rw [h] at e
      exact absurd (Option.some.inj e).symm code_ne_dict
    · rw [upd_ne hb]
      exact e⟩
theorem RM.putDct {K : PySem.W.Frag} {H : Hp} {M : DM} {w : World} {p : Addr} {es es' : List (NestedKey × Addr × V)} {kvs : List (D × D)} (h : RM K H M) (hp : H p = some (DictO w p es)) (hz : es'.length ≤ sizeLine) (l : RepKV K H kvs es') :
    RM K (upd H p (DictO w p es')) (mput M p (.dct w kvs)) := fun a q e => by
  have g : Grow H (upd H p (DictO w p es')) := Grow.dct hp
  by_cases ha : a = p
  · subst ha
    rw [mput_same] at e
    cases e
    exact ⟨es', upd_same, hz, l.grow g⟩
  · rw [mput_ne ha] at e
    exact (h a q e).stay (upd_ne ha) g
theorem RM.newDct {K : PySem.W.Frag} {H : Hp} {M : DM} {w : World} {p : Addr} (h : RM K H M) (hp : H p = none) : RM K (upd H p (DictO w p [])) (mput M p (.dct w [])) := fun a q e => by
  by_cases ha : a = p
  · subst ha
    rw [mput_same] at e
    cases e
    exact ⟨[], upd_same, Nat.zero_le _, .nil⟩
  · rw [mput_ne ha] at e
    exact h.new hp a q e
theorem RM.dct {K : PySem.W.Frag} {H : Hp} {M : DM} {w : World} {a : Addr} {kvs : List (D × D)} (h : RM K H M) (e : M a = some (.dct w kvs)) : ∃ es, H a = some (DictO w a es) ∧ es.length ≤ sizeLine ∧ RepKV K H kvs es := h a _ e
/-! ### d.get(k) -/
section
variable {X : Cx} {o e : Expr} {apos cpos : Pos} {to te : DTE}
/-- what may be a key -/
def isKey (k : D) : Prop := (∃ xs, k = .tup xs) ∧ kOk k = true ∧ (nk k).depth ≤ 8
def dDGet1 (w : World) (to te : DTE) : DTE := fun m M Q => to m M fun d M1 => ∃ a, d = .ref a ∧ (∃ kvs, M1 a = some (.dct w kvs)) ∧ te m M1 fun k M2 => ∃ kvs, M2 a = some (.dct w kvs) ∧ isKey k ∧ Q ((dget kvs k).getD .non) M2
theorem d_dget1 {w : World} (hw : X.w = w) (hu : X.A.units + 9 < cLine) (ho : DE X o to) (he : DE X e te) (m : M1 X o "get" apos e cpos := by exact ⟨by rfl, by rfl, by rfl, by rfl⟩) : DE X (.Call (.Attribute o "get" apos) [e] [] cpos) (dDGet1 w to te) := by
  subst hw
  refine ⟨fun pins s σ H Q I ⟨m0, M, Q', r, q, kk⟩ => ?_⟩
  refine wpAny_Call_method m.base m.few m.line PySem.F.plainAttrs_dict PySem.F.slot_dict_get PySem.F.type_dict_get (thn (ho.run pins s σ H (fun x H1 => ∃ a M1, x = .ref a ∧ Grow H H1 ∧ RM X.K H1 M1 ∧ (∃ kvs, M1 a = some (.dct X.w kvs)) ∧ te m0 M1 fun k M2 => ∃ kvs, M2 a = some (.dct X.w kvs) ∧ isKey k ∧ Q' ((dget kvs k).getD .non) M2) I
    ⟨m0, M, _, r, q, fun d v M1 H1 g1 r1 m1 ⟨a, e1, h1, q1⟩ => by subst e1; cases r1; exact ⟨a, M1, rfl, g1, m1, h1, q1⟩⟩) fun u s1 ⟨x, H1, I1, rx, a, M1, ex, g1, m1, ⟨kvs, hk⟩, q1⟩ => ?_)
  subst ex
  obtain rfl : u = Value.ref a := rx
  obtain ⟨es, h1, hz, rkv⟩ := m1.dct hk
  obtain ⟨hs, xs, pr, dd⟩ := dict_of I1 h1 rkv
  refine ⟨dd.typeIs, fun b hb => ?_, ?_⟩
  · cases hb
    obtain ⟨ob, _, _, k1, k2, _⟩ := dd
    exact ⟨ob, k1, k2.2.1⟩
  rw [m.trees]
  refine Calls.callWith_builtin rfl (Calls.evalArgs_plain (Calls.spliced_cons (thn (he.run pins s1 σ H1 (fun y H2 => ∃ k M2 kvs, Rep X.K H2 k y ∧ Grow H H2 ∧ RM X.K H2 M2 ∧ M2 a = some (.dct X.w kvs) ∧ isKey k ∧ Q' ((dget kvs k).getD .non) M2) I1
    ⟨m0, M1, _, r.grow g1 m1, q1, fun d v M2 H2 g2 r2 m2 ⟨kvs, e1, ky, q2⟩ => ⟨d, M2, kvs, r2, g1.trans g2, m2, e1, ky, q2⟩⟩) fun iv s2 ⟨y, H2, I2, ry, k, M2, kvs2, r2, g2, m2, e2, ⟨⟨ks, ek⟩, hok, hdp⟩, q2⟩ => Calls.spliced_nil ?_)))
  subst ek
  cases r2 with
  | @tup _ b vs hf z l =>
    obtain rfl : iv = Value.ref b := ry
    obtain ⟨es2, h2, hz2, rkv2⟩ := m2.dct e2
    obtain ⟨hs2, xs2, pr2, dd2⟩ := dict_of I2 h2 rkv2
    have rk : Rep X.K H2 (.tup ks) (.ref b) := .tup hf z l
    refine call_meetsIn PySem.F.slot_dict_get dd2.typeIs PySem.F.entry_dict_get (PySem.F.args_dict_get_2 _ _) (meetsH_dict_get (nestedKind X.prog X.w) a b hs2) ⟨?_, nk (.tup ks), xs2, ⟨Rep.nested I2 rk rfl hok, hdp⟩, dd2, ?_⟩
    · show X.A.units + 1 + 8 < cLine
      omega
    · have ra := atV_at (k := nk (.tup ks)) pr2
      rcases dget_at (k := .tup ks) rkv2 with ⟨n1, n2⟩ | ⟨d, y', n1, n2, rd⟩
      · rw [n2] at ra
        rw [n1] at q2
        cases ha : (atKey xs2 (nk (.tup ks))).map (·.2) with
        | some v => rw [ha] at ra; exact ra.elim
        | none => exact ⟨.non, H2, I2.tok _, rfl, kk _ _ M2 H2 g2 .non m2 q2⟩
      · rw [n2] at ra
        rw [n1] at q2
        cases ha : (atKey xs2 (nk (.tup ks))).map (·.2) with
        | some v =>
          rw [ha] at ra
          exact ⟨y', H2, I2.tok _, ra, kk _ _ M2 H2 g2 rd m2 q2⟩
        | none => rw [ha] at ra; exact ra.elim
end
end DL
/-! {k: v for .. in ..}, the keys tuples -/
namespace DL
open PySem PySem.Spec PyProof.Rows L2

section
variable {X : Cx}
/-- the reading over V: D the new dict -/
def tDcN (K : PySem.W.Frag) (w : World) (wi : TI) (g : TG) (tt : TT) (tk tv : TE) (vs : List Nat) : TE := fun σ H Q => wi σ H fun J H1 => ∀ da, H1 da = none → ∃ W : Nat → Nat → Hp → Prop, (∃ m, W 0 m (upd H1 da (DictO w da []))) ∧
  ∀ i m H, W i m H → (J.stop i H ∧ Q (.ref da) H) ∨ (J.go i H ∧ ∃ Nx : Hp → Prop, (∀ H', Nx H' → ∃ m', m' < m ∧ W (i + 1) m' H') ∧ ∀ x H', J.yld i H x H' → g x (wipe σ vs) H' fun σ2 H2 => wipe σ2 vs = wipe σ vs ∧ tt σ2 H2 fun c H3 =>
    if c = true then tk σ2 H3 fun y H4 => tv σ2 H4 fun z H5 => ∃ (k : D) (b : Addr) (kvs : List (D × D)) (es : List (NestedKey × Addr × V)), y = .ref b ∧ H5 da = some (DictO w da es) ∧ RepKV K H5 kvs es ∧ es.length ≤ sizeLine ∧ Rep K H5 k (.ref b) ∧ kOk k = true ∧ (nk k).depth ≤ 8 ∧
      Nx (upd H5 da (DictO w da (storeV es (nk k) b z))) else Nx H3)
theorem empty_dict {P : Program} {w : World} {H : Hp} (h : Heap) (hb : sysModules < h.objs.size) : ObjOk P w H (h.push { cls := .type "dict", data := .dict #[] }) h.objs.size (DictO w h.objs.size []) :=
  dict_new (P := P) (beq_eq_false_iff_ne.mpr (Ne.symm (Nat.ne_of_lt hb))) .nil (Heap.DictOfH.new h)
theorem dc_core {pins : List (Addr × Obj)} {s : Shared} {σ : SL} {H : Hp} {Q : VK} {pos' : Pos} {use : Option (Value → Sem Unit)} {Qf : Value → Shared → Prop} {kx vx tg iter : Expr} {ifs : List Expr} {scope : Scope} {own : List (Str × Nat)} {pos : Pos} {wi : TI} {g : TG} {tt : TT} {tk tv : TE} (hu : X.A.units + 8 < cLine) (hc : X.calm = true) (hN : X.N.Nodup) (hi : PI X tg iter wi) (ok : BlkOk X.N X.env.scope scope own)
    (pg : ∀ (s : Shared) (H : Hp) (C : Addr) (cl : List (Str × Addr)) (fp : List Addr), PG (X.blk s H scope (compEnvC scope cl C X.env) fp) tg g)
    (pt : ∀ (s : Shared) (H : Hp) (C : Addr) (cl : List (Str × Addr)) (fp : List Addr), PTs (X.blk s H scope (compEnvC scope cl C X.env) fp) ifs tt)
    (pk : ∀ (s : Shared) (H : Hp) (C : Addr) (cl : List (Str × Addr)) (fp : List Addr), PE (X.blk s H scope (compEnvC scope cl C X.env) fp) kx tk)
    (pv : ∀ (s : Shared) (H : Hp) (C : Addr) (cl : List (Str × Addr)) (fp : List Addr), PE (X.blk s H scope (compEnvC scope cl C X.env) fp) vx tv) (hs : ∀ x, foldedSetIterable iter X.env x = pure x) (I : Inv X pins σ H s)
    (q0 : tDcN X.K X.w wi g tt tk tv (own.map (·.2)) σ H Q) (hRR : ∀ D C s' m H', Inv X pins σ H' s' → Q (.ref D) H' → s'.heap.Ns C m → FpOk X pins H' C → compPost (model X.prog X.w) X.A X.xe use Qf (.ref D) C (.ok .next) s') :
    wpAny (model X.prog X.w) X.A (comprehension (.DictComp kx vx [⟨tg, iter, ifs, 0⟩] scope pos) scope X.env pos' newDict false (eval iter X.env) use) Qf X.xe s := by
  have cap : ∀ y ∈ scope.names, y.2 = .free → ∃ c, X.env.cells.lookup y.1 = some c := by
    intro y hy e
    exact (ok.free y hy e).elim (fun z => I.ok.has _ (.inl z)) fun z => I.ok.has _ (.inr z)
  refine wpAny_comprehension_free (use := use) rfl hs (closure_ok cap) ok.kind (fun y hy e => by rw [ok.uniq y hy, e]) (thn (hi.run pins s σ H _ I q0) fun src sa wa => thn wa fun out sb wb => ?_)
  obtain ⟨itA, ch, tn, J, Hb, rfl, Ib, Tn, stb, fpb, cont⟩ := wb
  refine wpAny_newObj_type (newEnv_comp ?_)
  -- the new dict
  obtain ⟨da, eda⟩ : ∃ da, da = sb.heap.objs.size := ⟨_, rfl⟩
  have nda : Hb da = none := Ib.hok.fresh (by rw [eda]; exact Nat.le_refl _)
  obtain ⟨W, ⟨m0, w0⟩, turn⟩ := cont da nda
  obtain ⟨sc, esc⟩ : ∃ sc : Shared, sc = { sb with heap := sb.heap.push { cls := .type "dict", data := .dict #[] } } := ⟨_, rfl⟩
  obtain ⟨Hc, eHc⟩ : ∃ Hc : Hp, Hc = upd Hb da (DictO X.w da []) := ⟨_, rfl⟩
  have hsc : sc.heap = sb.heap.push { cls := .type "dict", data := .dict #[] } := by rw [esc]
  have Ic : Inv X pins σ Hc sc := by
    rw [eHc, esc, eda]
    exact Ib.laid (t' := sb.toks) (fun b o e => Heap.get?_push_of_some _ e) (Nat.le_refl _) (empty_dict sb.heap Ib.big)
  have fpc : ∀ b ∈ ch, FpOk X pins Hc b ∧ b < sc.heap.objs.size := by
    intro b hb
    obtain ⟨o, e, _⟩ := Tn.obj _ _ stb b hb
    have lt := Heap.lt_size e
    constructor
    · refine ⟨?_, (fpb b hb).2⟩
      rw [eHc, upd_ne (by rw [eda]; exact Nat.ne_of_lt lt)]
      exact (fpb b hb).1
    · rw [hsc, Heap.size_push]
      exact Nat.lt_succ_of_lt lt
  have stc : tn 0 sc.heap := Tn.keep _ _ _ stb fun b _ o e => by rw [hsc]; exact Heap.get?_push_of_some _ e
  have Id := block_start Ic ok hN fpc
  rw [← eHc] at w0
  obtain ⟨cl, ecl⟩ : ∃ cl, cl = cellsFrom (sc.heap.objs.size + 1) scope.names (cloFrom X.env.cells scope.names []) := ⟨_, rfl⟩
  obtain ⟨ce, ece⟩ : ∃ ce : Env, ce = compEnvC scope cl sc.heap.objs.size X.env := ⟨_, rfl⟩
  obtain ⟨sd, esd⟩ : ∃ sd : Shared, sd = { sc with heap := pushCells (sc.heap.push { cls := .type "dict", data := .dict #[] }) scope.names } := ⟨_, rfl⟩
  suffices main : codeAny (model X.prog X.w) X.A (.compStart (.DictComp kx vx [⟨tg, iter, ifs, 0⟩] scope pos) 0 (.ref itA) (.ref da) ce) (compPost (model X.prog X.w) X.A X.xe use Qf (.ref da) sc.heap.objs.size) sd by
    rw [ece, ecl, esd, esc, eda] at main
    exact main
  rw [← ecl, ← ece, ← esd] at Id
  have locC : ce.locals = sc.heap.objs.size := by rw [ece]; rfl
  have std : tn 0 sd.heap := Tn.keep _ _ _ stc fun b _ o e => by
    rw [esd]
    exact pushCells_keeps _ _ _ _ (Heap.get?_push_of_some _ e)
  have still : ∀ {τ : SL} {H' : Hp} {t : Shared}, Inv (X.blk sc Hc scope ce ch) [] τ H' t → (∀ b ∈ ch, H' b = none) → ∀ b ∈ ch, FpOk (X.blk sc Hc scope ce ch) [] H' b := by
    intro τ H' t J' hn b hb
    exact ⟨hn b hb, (J'.ok.exf b hb).1, J'.ok.exfs b hb, .inl hb, fun x c e => (J'.ok.exf b hb).2 x c e, fun p hp => absurd (show p ∈ ([] : List (Addr × Obj)) ++ [] from hp) (by simp)⟩
  have Pg := pg sc Hc sc.heap.objs.size cl ch
  have Pt := pt sc Hc sc.heap.objs.size cl ch
  have Pk := pk sc Hc sc.heap.objs.size cl ch
  have Pv := pv sc Hc sc.heap.objs.size cl ch
  rw [← ece] at Pg Pt Pk Pv
  have walk : codeAny (model X.prog X.w) X.A (.compLoop (.DictComp kx vx [⟨tg, iter, ifs, 0⟩] scope pos) 0 (.ref itA) (.ref da) ce) (compPost (model X.prog X.w) X.A X.xe use Qf (.ref da) sc.heap.objs.size) sd := by
    refine compLoop_anyD (fun n t => ∃ i H', Inv (X.blk sc Hc scope ce ch) [] (wipe σ (own.map (·.2))) H' t ∧ tn i t.heap ∧ (∀ b ∈ ch, H' b = none) ∧ W i n H') (fun n t ⟨i, Ht, It, stt, nt, wt⟩ => ?_) m0 ⟨0, Hc, Id, std, fun b hb => (fpc b hb).1.1, w0⟩
    rcases turn i n Ht wt with ⟨stop, fin⟩ | ⟨go, Nx, less, step⟩
    · refine thnF (Tn.done (X.blk sc Hc scope ce ch) rfl rfl rfl hc i [] t _ Ht (fun _ _ => False) It (still It nt) stt stop) fun r t1 ⟨hr, I1⟩ => ?_
      subst hr
      have I2 : Inv X pins σ Ht t1 := Ic.call' (ch := ch) I1.os I1.base I1.hok I1.bare fun b hb => by
        obtain ⟨_, f1, _, f3, f4, f5⟩ := (fpc b hb).1
        exact ⟨f3, f1, f4, f5⟩
      have nC : Ht sc.heap.objs.size = none := by
        have z : Ht ce.locals = none := I1.free
        rwa [locC] at z
      obtain ⟨mm, hm, _⟩ := I1.loc
      have hm : t1.heap.Ns ce.locals mm := hm
      rw [locC] at hm
      exact hRR da _ t1 mm Ht I2 fin hm (Ic.fpOk (Nat.le_refl _) nC)
    · refine thnF (Tn.item (X.blk sc Hc scope ce ch) rfl rfl rfl hc i [] t _ Ht (fun _ _ => False) It (still It nt) stt go) fun r t1 ⟨u, hr, hu1⟩ => ?_
      subst hr
      refine thnF hu1 fun _ t2 ⟨x, H2, I2, rx, y2, st2, n2⟩ => ?_
      refine thnF (Pg.run _ t2 _ H2 x u _ (I2.pinned (still I2 n2) (Tn.obj _ _ st2)) rx (step x H2 y2)) fun _ t3 ⟨σ3, H3, I3, hw, q3⟩ => ?_
      refine thnF (Pt.run _ t3 σ3 H3 _ I3 q3) fun c t4 ⟨H4, I4, q4⟩ => ?_
      have close : ∀ {t' : Shared} {H' : Hp}, Inv (X.blk sc Hc scope ce ch) ([] ++ pinsAt ch t2.heap) σ3 H' t' → Nx H' → ∃ m, m < n ∧ ∃ i H', Inv (X.blk sc Hc scope ce ch) [] (wipe σ (own.map (·.2))) H' t' ∧ tn i t'.heap ∧ (∀ b ∈ ch, H' b = none) ∧ W i m H' := by
        intro t' H' I' nx
        obtain ⟨m', hm, w'⟩ := less H' nx
        have held : ∀ b ∈ ch, ∀ o, t2.heap.get? b = some o → t'.heap.get? b = some o ∧ H' b = none := by
          intro b hb o e
          have z := I'.pin (b, o) (List.mem_append_right _ (List.mem_append_right _ (mem_pinsAt hb e)))
          exact ⟨z.1, z.2.1⟩
        refine ⟨m', hm, i + 1, H', (I'.unpinned (pins := [])).weak (by rw [← hw, wipe_length]) (fun j v e => ?_), Tn.keep _ _ _ st2 fun b hb o e => (held b hb o e).1, fun b hb => ?_, w'⟩
        · rw [← hw] at e
          exact (wipe_some e).1
        · obtain ⟨o, e, _⟩ := Tn.obj _ _ st2 b hb
          exact (held b hb o e).2
      cases c with
      | false =>
        simp only [Bool.false_eq_true, if_false] at q4 ⊢
        exact close I4 q4
      | true =>
        simp only [if_true] at q4 ⊢
        refine thnF (Pk.run _ t4 σ3 H4 _ I4 q4) fun z t5 ⟨yk, H5, I5, r5, q5⟩ => ?_
        refine thnF (Pv.run _ t5 σ3 H5 _ I5 q5) fun z2 t6 ⟨yv, H6, I6, r6, k, b, kvs, es, ek, h6, rkv, hz, rk, hk, hd, nx⟩ => ?_
        subst ek
        obtain rfl : z = Value.ref b := r5
        exact dict_set (X := X.blk sc Hc scope ce ch) hu I6 h6 rkv hz rk hk hd r6 fun t7 I7 => close I7 nx
  exact codeAny_compStart_dict walk (Tn.self X.A 0 _ _ _ std walk)
theorem pe_dcN {kx vx tg iter : Expr} {ifs : List Expr} {scope : Scope} {own : List (Str × Nat)} {pos : Pos} {wi : TI} {g : TG} {tt : TT} {tk tv : TE} (hu : X.A.units + 8 < cLine) (hc : X.calm = true) (hN : X.N.Nodup) (hi : PI X tg iter wi) (ok : BlkOk X.N X.env.scope scope own)
    (pg : ∀ (s : Shared) (H : Hp) (C : Addr) (cl : List (Str × Addr)) (fp : List Addr), PG (X.blk s H scope (compEnvC scope cl C X.env) fp) tg g)
    (pt : ∀ (s : Shared) (H : Hp) (C : Addr) (cl : List (Str × Addr)) (fp : List Addr), PTs (X.blk s H scope (compEnvC scope cl C X.env) fp) ifs tt)
    (pk : ∀ (s : Shared) (H : Hp) (C : Addr) (cl : List (Str × Addr)) (fp : List Addr), PE (X.blk s H scope (compEnvC scope cl C X.env) fp) kx tk)
    (pv : ∀ (s : Shared) (H : Hp) (C : Addr) (cl : List (Str × Addr)) (fp : List Addr), PE (X.blk s H scope (compEnvC scope cl C X.env) fp) vx tv) (hs : ∀ x, foldedSetIterable iter X.env x = pure x := by intro _; rfl) :
    PE X (.DictComp kx vx [⟨tg, iter, ifs, 0⟩] scope pos) (tDcN X.K X.w wi g tt tk tv (own.map (·.2))) := by
  refine ⟨fun pins s σ H Q I q0 => ?_⟩
  rw [arm_eval_DictComp]
  refine dc_core (Qf := EP X pins σ Q) hu hc hN hi ok pg pt pk pv hs I q0 fun D C s' m H' I' q hn f => ?_
  obtain ⟨f0, f1, f2, f3, f4, f5⟩ := f
  exact ⟨m, hn, fun h'' sb' => ⟨.ref D, H', I'.turned (t' := s'.toks) (fun b o hb e => (sb'.2 b hb).trans e) f0 f1 f3 f4 f5, rfl, q⟩⟩
theorem ps_setDc {i : Nat} {y : Str} {py spos : Pos} {kx vx tg iter : Expr} {ifs : List Expr} {scope : Scope} {own : List (Str × Nat)} {pos : Pos} {wi : TI} {g : TG} {tt : TT} {tk tv : TE} (hu : X.A.units + 8 < cLine) (hc : X.calm = true) (hN : X.N.Nodup) (hy : X.N[i]? = some y) (hyl : X.env.scope.names.lookup y = some .local)
    (hsw : swapsWith (.DictComp kx vx [⟨tg, iter, ifs, 0⟩] scope pos) (some (.Name y py)) spos.line X.env = pure true) (hi : PI X tg iter wi) (ok : BlkOk X.N X.env.scope scope own)
    (pg : ∀ (s : Shared) (H : Hp) (C : Addr) (cl : List (Str × Addr)) (fp : List Addr), PG (X.blk s H scope (compEnvC scope cl C X.env) fp) tg g)
    (pt : ∀ (s : Shared) (H : Hp) (C : Addr) (cl : List (Str × Addr)) (fp : List Addr), PTs (X.blk s H scope (compEnvC scope cl C X.env) fp) ifs tt)
    (pk : ∀ (s : Shared) (H : Hp) (C : Addr) (cl : List (Str × Addr)) (fp : List Addr), PE (X.blk s H scope (compEnvC scope cl C X.env) fp) kx tk)
    (pv : ∀ (s : Shared) (H : Hp) (C : Addr) (cl : List (Str × Addr)) (fp : List Addr), PE (X.blk s H scope (compEnvC scope cl C X.env) fp) vx tv) (hs : ∀ x, foldedSetIterable iter X.env x = pure x := by intro _; rfl) :
    PS X (.Assign [.Name y py] (.DictComp kx vx [⟨tg, iter, ifs, 0⟩] scope pos) spos) (tAsg (tDcN X.K X.w wi g tt tk tv (own.map (·.2))) (gName i)) := by
  refine ⟨fun pins s σ H D I h => ?_⟩
  rw [exec_Assign_Name_used _ _ _ _ hsw]
  refine wpAny_bind (wpAny_standAt (wpAny_bind ?_))
  show wpAny _ X.A (do let _ ← comprehension (.DictComp kx vx [⟨tg, iter, ifs, 0⟩] scope pos) scope X.env (firstIterPos [⟨tg, iter, ifs, 0⟩] pos) newDict false (eval iter X.env) (some (assign (.Name y py) X.env))) _ _ s
  have h : tDcN X.K X.w wi g tt tk tv (own.map (·.2)) σ H (fun x H1 => gName i x σ H1 D.nx) := h
  refine wpAny_bind (thn (dc_core (Qf := fun _ s' => SP X pins D .next s') hu hc hN hi ok pg pt pk pv hs I h fun L C s' m H' I' q hn f => ?_) fun _ s' hq => wpAny_pure (wpAny_pure hq))
  show wpAny _ _ (assign (.Name y py) X.env (.ref L)) _ _ _
  refine wpAny_assign_Name (store_ok2 (v := V.ref L) I' hN hy (.inl hyl) rfl (fun s2 I2 ⟨a, sb, ha⟩ => ?_) (.inr hyl))
  obtain ⟨f0, f1, f2, f3, f4, f5⟩ := f
  have haC : C ≠ a := by
    rcases ha with z | z
    · rw [z]; exact f1
    · exact fun e => f4 y a z e.symm
  refine ⟨m, hn.sameBut sb haC, fun h3 sb3 => ?_⟩
  exact ⟨_, H', I2.turned (t' := s2.toks) (fun b o hb e => (sb3.2 b hb).trans e) f0 f1 f3 f4 f5, q⟩
theorem sw_trueD {kx vx : Expr} {gs : List Comprehension} {scope : Scope} {pos py : Pos} {y : Str} {l : Nat} {env : Env} (hk : env.scope.kind = .function) (hy : env.scope.names.lookup y = some .local) (hl : (py.line == pos.line) = true)
    (ha : (scope.names.any fun (n, k) => n == y && (k == .local || k == .cell)) = false) : swapsWith (.DictComp kx vx gs scope pos) (some (.Name y py)) l env = pure true := by
  have ky : env.kindOf y = some .local := hy
  have hb : env.blockKind = .function := by unfold Env.blockKind; rw [hk]; rfl
  unfold swapsWith
  simp only [hb, ky, ha, Expr.pos, hl]
  rfl
end
/-! ### over deep values -/
def dDcGo (w : World) (src : Src) (g : DTG) (tt : DTT) (tk tv : DTE) (m0 : DSt) (p : Addr) (Qd : List (D × D) → DM → Prop) : List D → List (D × D) → DM → Prop
  | [], acc, M => SrcV src M ∧ Qd acc M
  | d :: ds, acc, M => SrcV src M ∧ g d m0 M fun m1 M1 => tt m1 M1 fun b M2 =>
      if b = true then tk m1 M2 fun k M3 => tv m1 M3 fun v M4 => M4 p = some (.dct w acc) ∧ isKey k ∧ dDcGo w src g tt tk tv m0 p Qd ds (dput acc k v) (mput M4 p (.dct w (dput acc k v)))
      else M2 p = some (.dct w acc) ∧ dDcGo w src g tt tk tv m0 p Qd ds acc M2
def dDc (w : World) (t : DTI) (g : DTG) (tt : DTT) (tk tv : DTE) (vs : List Nat) : DTE := fun m M Q => t m M fun src M1 => src.1.length ≤ sizeLine → ∀ p, M1 p = none → dDcGo w src g tt tk tv (dwipe m vs) p (fun _ M2 => Q (.ref p) M2) src.1 [] (mput M1 p (.dct w []))
theorem dput_len (kvs : List (D × D)) (k v : D) : (dput kvs k v).length ≤ kvs.length + 1 := by
  unfold dput
  split
  · rw [List.length_map]
    omega
  · rw [List.length_append, List.length_singleton]
    exact Nat.le_refl _
section
variable {X : Cx} {kx vx tg iter : Expr} {ifs : List Expr} {scope : Scope} {own : List (Str × Nat)} {pos : Pos} {t : DTI} {g : DTG} {tt : DTT} {tk tv : DTE} {ws : List Nat}
theorem dc_up {σ : SL} {H : Hp} {m : DSt} {M : DM} {Qv : VK} {Qf : Addr → DM → Prop} {w : World} (hw : X.w = w) (hsub : ∀ i ∈ ws, i ∈ own.map (·.2)) (r : R X.K m M σ H)
    (q : t m M fun src M1 => src.1.length ≤ sizeLine → ∀ p, M1 p = none → dDcGo w src g tt tk tv (dwipe m (own.map (·.2))) p (fun _ M2 => Qf p M2) src.1 [] (mput M1 p (.dct w [])))
    (k : ∀ p M2 H2, Grow H H2 → RM X.K H2 M2 → Qf p M2 → Qv (.ref p) H2) : tDcN X.K X.w (upI X.K t) (upG X.K ws g) (upT X.K tt) (upE X.K tk) (upE X.K tv) (own.map (·.2)) σ H Qv := by
  subst hw
  refine ⟨m, M, _, r, q, fun src M1 H1 J g1 m1 q1 st p np => ?_⟩
  have q2 := q1 st.small p (m1.free np)
  have g2 : Grow H1 (upd H1 p (DictO X.w p [])) := .new np
  refine ⟨fun i n H2 => i + n = src.1.length ∧ Grow H1 H2 ∧ ∃ acc M2, acc.length ≤ i ∧ M2 p = some (.dct X.w acc) ∧ RM X.K H2 M2 ∧ dDcGo X.w src g tt tk tv (dwipe m (own.map (·.2))) p (fun _ M2 => Qf p M2) (src.1.drop i) acc M2,
    ⟨src.1.length, by omega, g2, [], _, Nat.le_refl _, mput_same, m1.newDct np, q2⟩, ?_⟩
  rintro i n H2 ⟨hl, g3, acc, M2, ha, hp, m2, q3⟩
  have r2 : R X.K (dwipe m (own.map (·.2))) M2 (wipe σ (own.map (·.2))) H2 := (r.wipe _).grow (g1.trans g3) m2
  by_cases hlt : i < src.1.length
  · rw [List.drop_eq_getElem_cons hlt] at q3
    obtain ⟨sv, q3⟩ := q3
    have so := sv.ok g3 m2
    refine .inr ⟨st.go i H2 so hlt, fun H3 => Grow H1 H3 ∧ ∃ acc M2, acc.length ≤ i + 1 ∧ M2 p = some (.dct X.w acc) ∧ RM X.K H3 M2 ∧ dDcGo X.w src g tt tk tv (dwipe m (own.map (·.2))) p (fun _ M2 => Qf p M2) (src.1.drop (i + 1)) acc M2,
      fun H3 ⟨g4, z⟩ => ⟨n - 1, by omega, by omega, g4, z⟩, fun x H3 y => ?_⟩
    obtain ⟨g4, k4, d, e4, rd⟩ := st.yld i H2 x H3 so hlt y
    have ed : d = src.1[i] := by
      rw [List.getElem?_eq_getElem hlt] at e4
      exact (Option.some.inj e4).symm
    subst ed
    refine ⟨_, _, M2, _, rd, r2.grow g4 (k4 _ m2), q3, fun m5 M5 σ5 H5 g5 r5 o5 q5 => ⟨wipe_off o5 hsub, ?_⟩⟩
    refine ⟨m5, M5, _, r5, q5, fun b M6 H6 g6 m6 q6 => ?_⟩
    have g06 : Grow H1 H6 := ((g3.trans g4).trans g5).trans g6
    cases b with
    | true =>
      refine ⟨m5, M6, _, r5.grow g6 m6, q6, fun kd kv M7 H7 g7 rk m7 q7 => ?_⟩
      refine ⟨m5, M7, _, (r5.grow g6 m6).grow g7 m7, q7, fun vd vv M8 H8 g8 rv m8 ⟨e8, ⟨⟨ks, ek⟩, hok, hdp⟩, q8⟩ => ?_⟩
      subst ek
      obtain ⟨es, h8, hz8, rkv⟩ := m8.dct e8
      cases rk with
      | @tup _ b vs hf z l =>
        have rk8 : Rep X.K H8 (.tup ks) (.ref b) := Rep.grow (.tup hf z l) g8
        have hlen : es.length < sizeLine := by
          rw [← rkv.len]
          exact Nat.lt_of_le_of_lt ha (Nat.lt_of_lt_of_le hlt st.small)
        have hz9 : (storeV es (nk (.tup ks)) b vv).length ≤ sizeLine := Nat.le_trans (storeV_len ..) hlen
        have ge : Grow H8 (upd H8 p (DictO X.w p (storeV es (nk (.tup ks)) b vv))) := Grow.dct h8
        refine ⟨.tup ks, b, acc, es, rfl, h8, rkv, hz8, rk8, hok, hdp, ((g06.trans g7).trans g8).trans ge, dput acc (.tup ks) vd, _, Nat.le_trans (dput_len ..) (Nat.succ_le_succ ha), mput_same, m8.putDct h8 hz9 (rkv.store rk8 hok hdp rv), q8⟩
    | false =>
      have q6' : M6 p = some (.dct X.w acc) ∧ dDcGo X.w src g tt tk tv (dwipe m (own.map (·.2))) p (fun _ M2 => Qf p M2) (src.1.drop (i + 1)) acc M6 := q6
      exact ⟨g06, acc, M6, by omega, q6'.1, m6, q6'.2⟩
  · have e : i = src.1.length := by omega
    subst e
    rw [List.drop_length] at q3
    exact .inl ⟨st.stop H2 (q3.1.ok g3 m2), k _ M2 H2 (g1.trans g3) m2 q3.2⟩
theorem d_dc {w : World} (hw : X.w = w) (hu : X.A.units + 8 < cLine) (hc : X.calm = true) (hN : X.N.Nodup) (hi : DI X tg iter t) (ok : BlkOk X.N X.env.scope scope own) (hsub : ∀ i ∈ ws, i ∈ own.map (·.2))
    (hg : ∀ (s : Shared) (H : Hp) (C : Addr) (cl : List (Str × Addr)) (fp : List Addr), DG (X.blk s H scope (compEnvC scope cl C X.env) fp) ws tg g)
    (ht : ∀ (s : Shared) (H : Hp) (C : Addr) (cl : List (Str × Addr)) (fp : List Addr), DPTs (X.blk s H scope (compEnvC scope cl C X.env) fp) ifs tt)
    (hk : ∀ (s : Shared) (H : Hp) (C : Addr) (cl : List (Str × Addr)) (fp : List Addr), DE (X.blk s H scope (compEnvC scope cl C X.env) fp) kx tk)
    (hv : ∀ (s : Shared) (H : Hp) (C : Addr) (cl : List (Str × Addr)) (fp : List Addr), DE (X.blk s H scope (compEnvC scope cl C X.env) fp) vx tv)
    (hs : ∀ x, foldedSetIterable iter X.env x = pure x := by intro _; rfl) : DE X (.DictComp kx vx [⟨tg, iter, ifs, 0⟩] scope pos) (dDc w t g tt tk tv (own.map (·.2))) := by
  subst hw
  exact imE (pe_dcN (wi := upI X.K t) (g := upG X.K ws g) (tt := upT X.K tt) (tk := upE X.K tk) (tv := upE X.K tv) hu hc hN hi ok hg ht hk hv hs) fun σ H Q ⟨m, M, Q', r, q, k⟩ =>
    dc_up rfl hsub r q fun p M2 H2 g2 m2 q2 => k _ _ M2 H2 g2 (.ref p) m2 q2
/-- name = {.. for ..} on one line -/
theorem ds_setDc {w : World} {y : Str} {py spos : Pos} {i : Nat} (hw : X.w = w) (hu : X.A.units + 8 < cLine) (hc : X.calm = true) (hN : X.N.Nodup) (hy : X.N[i]? = some y) (hyl : X.env.scope.names.lookup y = some .local)
    (hsw : swapsWith (.DictComp kx vx [⟨tg, iter, ifs, 0⟩] scope pos) (some (.Name y py)) spos.line X.env = pure true) (hi : DI X tg iter t) (ok : BlkOk X.N X.env.scope scope own) (hsub : ∀ i ∈ ws, i ∈ own.map (·.2))
    (hg : ∀ (s : Shared) (H : Hp) (C : Addr) (cl : List (Str × Addr)) (fp : List Addr), DG (X.blk s H scope (compEnvC scope cl C X.env) fp) ws tg g)
    (ht : ∀ (s : Shared) (H : Hp) (C : Addr) (cl : List (Str × Addr)) (fp : List Addr), DPTs (X.blk s H scope (compEnvC scope cl C X.env) fp) ifs tt)
    (hk : ∀ (s : Shared) (H : Hp) (C : Addr) (cl : List (Str × Addr)) (fp : List Addr), DE (X.blk s H scope (compEnvC scope cl C X.env) fp) kx tk)
    (hv : ∀ (s : Shared) (H : Hp) (C : Addr) (cl : List (Str × Addr)) (fp : List Addr), DE (X.blk s H scope (compEnvC scope cl C X.env) fp) vx tv)
    (hs : ∀ x, foldedSetIterable iter X.env x = pure x := by intro _; rfl) : DS X (.Assign [.Name y py] (.DictComp kx vx [⟨tg, iter, ifs, 0⟩] scope pos) spos) (dSet i (dDc w t g tt tk tv (own.map (·.2)))) := by
  subst hw
  exact imS (ps_setDc (wi := upI X.K t) (g := upG X.K ws g) (tt := upT X.K tt) (tk := upE X.K tk) (tv := upE X.K tv) hu hc hN hy hyl hsw hi ok hg ht hk hv hs) fun Z σ H ⟨m, M, Z', r, q, k⟩ =>
    dc_up (Qf := fun p M2 => Z'.nx (m.set i (some (.ref p))) M2) rfl hsub r q fun p M2 H2 g2 m2 q2 => k.nx _ M2 _ H2 g2 ((r.grow g2 m2).set (.ref p)) q2
end
theorem hu_8 {k : Nat} {A : Around} (hr : Room k A) : A.units + 8 < cLine := by
  have := hu_40 hr
  omega
theorem hu_9 {k : Nat} {A : Around} (hr : Room k A) : A.units + 9 < cLine := by
  have := hu_40 hr
  omega
/-- a comprehension over what is left, with what is gathered -/
theorem dc_ind {w : World} {src : Src} {g : DTG} {tt : DTT} {tk tv : DTE} {m0 : DSt} {p : Addr} {Qd : List (D × D) → DM → Prop} (V : List D → List (D × D) → DM → Prop) (fin : ∀ acc M, V [] acc M → SrcV src M ∧ Qd acc M)
    (step : ∀ d ds acc M (Cn : List (D × D) → DM → Prop), (∀ acc' M', V ds acc' M' → Cn acc' M') → V (d :: ds) acc M → SrcV src M ∧ g d m0 M fun m1 M1 => tt m1 M1 fun b M2 =>
      if b = true then tk m1 M2 fun k M3 => tv m1 M3 fun v M4 => M4 p = some (.dct w acc) ∧ isKey k ∧ Cn (dput acc k v) (mput M4 p (.dct w (dput acc k v))) else M2 p = some (.dct w acc) ∧ Cn acc M2) :
    ∀ ds acc M, V ds acc M → dDcGo w src g tt tk tv m0 p Qd ds acc M
  | [], acc, M, h => fin acc M h
  | d :: ds, acc, M, h => step d ds acc M (dDcGo w src g tt tk tv m0 p Qd ds) (dc_ind V fin step ds) h
theorem dput_new {kvs : List (D × D)} {k v : D} (h : dhas kvs k = false) : dput kvs k v = kvs ++ [(k, v)] := by
  unfold dput
  rw [h]
  rfl
end DL
/-! < and > of data -/
namespace DL
open PySem PySem.Spec PyProof.Rows L2
section
variable {X : Cx}
theorem py_none {d : D} (h : d ≠ .non) (k : dOk 64 d = true) : d.py ≠ .none := by
  cases d <;> simp_all [D.py, dOk]
/-- x < y, of data that are alike -/
def dLtD : DR2 := fun x y M Q => (dOk 64 x = true ∧ dOk 64 y = true) ∧ x ≠ .non ∧ PySem.W.alike x.py y.py = true ∧ Q (.bl (PySem.W.dataLt x.py y.py)) M
def dGtD : DR2 := fun x y M Q => (dOk 64 x = true ∧ dOk 64 y = true) ∧ x ≠ .non ∧ PySem.W.alike x.py y.py = true ∧ Q (.bl (PySem.W.dataLt y.py x.py)) M
theorem o_ltD (hu : X.A.units + 64 < cLine) : DOp X (compareOp .Lt) dLtD := by
  intro pins s σ H x y v u Q I rx ry ⟨d, e, M, Q', r1, r2, m, ⟨⟨h1, h2⟩, hn, ha, q⟩, k⟩
  obtain ⟨as, q1⟩ := Dp.reads I _ x v (r1.dp h1) rx
  obtain ⟨bs, q2⟩ := Dp.reads I _ y u (r2.dp h2) ry
  have hd := (dOk_lay 64 d h1).2
  exact PySem.W.lt_data q1 q2 ha (py_none hn h1) (Nat.lt_of_le_of_lt (Nat.add_le_add_left (Nat.le_trans (Nat.min_le_left _ _) hd) _) hu) ⟨.bl _, H, I, rfl, k _ _ M H (.refl H) (.bl _) m q⟩
theorem o_gtD (hu : X.A.units + 64 < cLine) : DOp X (compareOp .Gt) dGtD := by
  intro pins s σ H x y v u Q I rx ry ⟨d, e, M, Q', r1, r2, m, ⟨⟨h1, h2⟩, hn, ha, q⟩, k⟩
  obtain ⟨as, q1⟩ := Dp.reads I _ x v (r1.dp h1) rx
  obtain ⟨bs, q2⟩ := Dp.reads I _ y u (r2.dp h2) ry
  have hd := (dOk_lay 64 d h1).2
  exact PySem.W.gt_data q1 q2 ha (py_none hn h1) (Nat.lt_of_le_of_lt (Nat.add_le_add_left (Nat.le_trans (Nat.min_le_left _ _) hd) _) hu) ⟨.bl _, H, I, rfl, k _ _ M H (.refl H) (.bl _) m q⟩
end
end DL
/-! list(a dict), a text's upper() -/
namespace DL
open PySem PySem.Spec PyProof.Rows L2
theorem RepKV.keys {K : PySem.W.Frag} {H : Hp} : ∀ {kvs : List (D × D)} {es : List (NestedKey × Addr × V)}, RepKV K H kvs es → RepL K H (kvs.map (·.1)) (es.map fun x => V.ref x.2.1)
  | _, _, .nil => .nil
  | _, _, .cons a _ _ _ e => .cons a (RepKV.keys e)
theorem refs_at : ∀ {us : List Value} {es : List (NestedKey × Addr × V)}, us.length = es.length → (∀ (j : Nat) (v : Value), us[j]? = some v → ∃ x, es[j]? = some x ∧ v = .ref x.2.1) → Vals (es.map fun x => V.ref x.2.1) us
  | [], [], _, _ => .nil
  | [], _ :: _, hl, _ => by simp at hl
  | _ :: _, [], hl, _ => by simp at hl
  | u :: us, q :: es, hl, h => by
    obtain ⟨x, e1, e2⟩ := h 0 u rfl
    have e1' : q = x := Option.some.inj e1
    subst e1'
    rw [List.map_cons]
    refine .cons e2 (refs_at (by simpa using hl) fun j v e => ?_)
    exact h (j + 1) v (by rw [List.getElem?_cons_succ]; exact e)
theorem esxs_at : ∀ {es : List (NestedKey × Addr × V)} {xs : List (NestedKey × Addr × Value)} {j : Nat} {x : NestedKey × Addr × Value}, EsXs es xs → xs[j]? = some x → ∃ y, es[j]? = some y ∧ y.2.1 = x.2.1
  | _, _, j, _, .nil, e => by simp at e
  | _, _, 0, _, .cons r _, e => by
    simp at e
    subst e
    exact ⟨_, rfl, r.2.1⟩
  | _, _, j + 1, x, .cons _ r, e => esxs_at (j := j) r (by simpa using e)
theorem esxs_len : ∀ {es : List (NestedKey × Addr × V)} {xs : List (NestedKey × Addr × Value)}, EsXs es xs → es.length = xs.length
  | _, _, .nil => rfl
  | _, _, .cons _ r => congrArg (· + 1) (esxs_len r)
section
variable {X : Cx}
def rListK (w : World) : DCR := fun ds M Q => ∃ a kvs, ds = [.ref a] ∧ M a = some (.dct w kvs) ∧ ∀ p, M p = none → Q (.ref p) (mput M p (.lst (kvs.map (·.1))))
theorem c_listK {w : World} (hw : X.w = w) (hcalm : X.calm = true) : DCall X (.type "list") (rListK w) := by
  subst hw
  intro pins s σ H vs us Q I r ⟨ds, M, Q', l, m, ⟨a, kvs, e, h, q⟩, k⟩
  subst e
  obtain ⟨v, e, rv⟩ := repL_one l
  subst e
  cases rv
  obtain ⟨u, eu, rx⟩ := vals1 r
  subst eu
  obtain rfl : u = Value.ref a := rx
  obtain ⟨es, h1, hz, rkv⟩ := m.dct h
  obtain ⟨⟨xs, pr, ⟨o, ents, ep, k1, k2, k3, k4⟩, nd, lo⟩, _, _⟩ := I.hok a _ h1
  have hxl := esxs_len pr
  have hel : ents.size = xs.length := by
    have := congrArg List.length k4
    rwa [Array.length_toList, List.length_map] at this
  refine PySem.W.kdl_call (KdlSrc.rawDict (es := ents) (ep := ep) lo) (I.ok.hd hcalm) ⟨o, k1, k2, k3⟩ (by rw [hel, ← hxl]; exact hz) fun h' tk acc c' hk hD hacc => ?_
  have hv : Vals (es.map fun x => V.ref x.2.1) acc.toList := by
    refine refs_at (by rw [Array.length_toList, hacc.1, hel, hxl]) fun j v e => ?_
    obtain ⟨hi, hv⟩ := hacc.2 j v (by rw [← Array.getElem?_toList]; exact e)
    have hj : ents.toList[j]? = some ents[j] := by rw [Array.getElem?_toList, Array.getElem?_eq_getElem hi]
    rw [k4, List.getElem?_map] at hj
    cases hx : xs[j]? with
    | none => rw [hx] at hj; cases hj
    | some x =>
      rw [hx] at hj
      obtain ⟨y, e1, e2⟩ := esxs_at pr hx
      have hj' := Option.some.inj hj
      exact ⟨y, e1, by rw [hv, ← hj', e2]⟩
  have hp := I.hok.fresh (Nat.le_refl s.heap.objs.size)
  exact ⟨.ref s.heap.objs.size, upd H s.heap.objs.size (.lst (es.map fun x => V.ref x.2.1)), I.laid (t' := tk) hk (Nat.le_refl _) ⟨by rw [List.length_map]; exact hz, acc.toList, c', hv, by rw [Array.toArray_toList]; exact hD⟩, rfl,
    k _ _ _ _ (.new hp) (.ref _) (m.newLst hp (by rw [List.length_map]; exact hz) rkv.keys) (q _ (m.free hp))⟩
variable {o : Expr} {apos cpos : Pos} {to : DTE}
def dUpper (to : DTE) : DTE := fun m M Q => to m M fun d M1 => ∃ z, d = .str z ∧ z.length ≤ 5592405 ∧ Q (.str (Txt.upper z)) M1
theorem d_upper (ho : DE X o to) (hbase : attributeBase o "upper" X.env (eval o X.env) = eval o X.env := by rfl) (hline : (apos.endLine == cpos.line) = true := by rfl) : DE X (.Call (.Attribute o "upper" apos) [] [] cpos) (dUpper to) := by
  refine ⟨fun pins s σ H Q I ⟨m0, M, Q', r, q, kk⟩ => ?_⟩
  refine J1.ev_upper hbase hline (thn (ho.run pins s σ H (fun x H1 => ∃ z, x = .str z ∧ z.length ≤ 5592405 ∧ Q (.str (Txt.upper z)) H1) I
    ⟨m0, M, _, r, q, fun d v M1 H1 g1 r1 m1 ⟨z, e1, hz, q1⟩ => by subst e1; cases r1; exact ⟨z, rfl, hz, kk _ _ M1 H1 g1 (.str _) m1 q1⟩⟩) fun u s1 ⟨x, H1, I1, rx, z, ex, hz, q1⟩ => ?_)
  subst ex
  obtain ⟨t, rfl⟩ := rx
  exact ⟨z, t, rfl, hz, fun t' k => ⟨.str (Txt.upper z), H1, I1.tok _, ⟨t', rfl⟩, q1⟩⟩
end
end DL
/-! the signs of a text: for, in -/
namespace DL
open PySem PySem.Spec PyProof.Rows L2
/-- the signs, each a text -/
def sgsD (z : Str) : List D := z.cps.toList.map fun c => D.str ⟨#[c]⟩
theorem stream_str {K : PySem.W.Frag} {H0 : Hp} {z : Str} (hz : z.length ≤ 16777216) : Stream K (Its z) (sgsD z, none) H0 := by
  have hl : (sgsD z).length = z.cps.size := by simp [sgsD]
  refine ⟨by rw [show (sgsD z, (none : Option Addr)).1 = sgsD z from rfl, hl, sizeLine_eq]; exact hz, fun i H ok hi => ?_, fun i H x H' ok hi y => ?_, fun H ok => ?_⟩
  · exact (by rw [← hl]; exact hi : i < z.cps.size)
  · obtain ⟨e1, c, e2, e3⟩ := y
    subst e1
    subst e3
    refine ⟨.refl _, fun _ q => q, .str ⟨#[c]⟩, ?_, .str _⟩
    show (sgsD z)[i]? = _
    unfold sgsD
    rw [List.getElem?_map, Array.getElem?_toList, e2]
    rfl
  · show z.cps.size ≤ (sgsD z).length
    omega
section
variable {X : Cx} {tg l : Expr} {te : DTE}
def diStr (te : DTE) : DTI := fun m M Q => te m M fun d M1 => ∃ z, d = .str z ∧ z.length ≤ 16777216 ∧ Q (sgsD z, none) M1
theorem di_str (h : DE X l te) : DI X tg l (diStr te) :=
  imI (pi_str h) fun σ H Q ⟨m, M, Q', r, q, k⟩ => by
    refine ⟨m, M, _, r, q, fun d v M1 H1 g1 r1 m1 ⟨z, e, hz, q1⟩ => ?_⟩
    subst e
    cases r1
    exact ⟨z, rfl, k _ M1 H1 _ g1 m1 q1 (stream_str hz)⟩
/-- one sign among those of a text -/
def dInS : DR2 := fun x y M Q => ∃ (c : Nat) (z : Str), x = .str ⟨#[c]⟩ ∧ y = .str z ∧ Q (.bl (decide (c ∈ z.cps.toList))) M
theorem o_inS : DOp X (compareOp .In) dInS := by
  intro pins s σ H x y v u Q I rx ry ⟨d, e, M, Q', r1, r2, m, ⟨c, z, h1, h2, q⟩, k⟩
  subst h1 h2
  cases r1
  cases r2
  exact op_in_sign pins s σ H _ _ v u Q I rx ry ⟨c, z, rfl, rfl, k _ _ M H (.refl H) (.bl _) m q⟩
end
end DL
/-! sorted(xs, key=lambda x: ..) -/
namespace DL
open PySem PySem.Spec PyProof.Rows L2
open PySem.W (EachIs AllAlike Sortable dataLe alike alikeAll)
abbrev lamQ (x : Str) : Str := x ++ ".<locals>." ++ "<lambda>"
section
variable {X : Cx} {pins : List (Addr × Obj)} {σ : SL} {H : Hp} {s : Shared}
/-- a lambda is made: its code object is new, or found in the table -/
theorem lam_make {c P : Addr} {params : Arguments} {body : Expr} {scope : Scope} {pos : Pos} {E : Value → Shared → Prop} {Q : Value → Shared → Prop} (I : Inv X pins σ H s) (TB : LamX.TabB X.base X.mg c P) (hcode : X.env.code = .ref c)
    (hT : LamX.TabS H P (X.env.qual ++ "<lambda>")) (hdef : defaultsOf params X.env = ([], [])) (hfree : ∀ y ∈ scope.names, y.2 = .free → ∃ c, X.env.cells.lookup y.1 = some c)
    (h : ∀ (f c' : Addr) (pm ctv : Value) (H1 : Hp) (s' : Shared), Inv X pins σ H1 s' → (∀ b o, b ≠ P → H b = some o → H1 b = some o) → LamX.TabS H1 P (X.env.qual ++ "<lambda>") →
      s'.heap.get? f = some (PySem.W.kla_obj "<lambda>" (X.env.qual ++ "<lambda>") params body scope (cloFrom X.env.cells scope.names []) pm c' ctv) → H1 f = none → f ∉ frs X.stack → H1 c' = some (LamX.CodeO c' (X.env.qual ++ "<lambda>")) → Q (.ref f) s') :
    wpAny (model X.prog X.w) X.A (eval (.Lambda params body scope pos) X.env) Q E s := by
  obtain ⟨ps, hP, ht, ha⟩ := hT
  refine PySem.W.kla_eval hdef ?_
  have bP : s.heap.BuiltinsAt X.mg P := TB.bm.keeps I.bk
  have hP' : s.heap.get? P = some { cls := .none, data := .fields ps } := I.hok P _ hP
  have nofr : ∀ f, s.heap.objs.size ≤ f → f ∉ frs X.stack := fun f hf z => by
    rcases List.mem_cons.mp (I.stkSub _ z) with e | e
    · have h1 := I.lt
      rw [← e] at h1
      exact Nat.lt_irrefl _ (Nat.lt_of_lt_of_le h1 hf)
    · exact I.nofs hf e
  cases hc : codeAmong pos ps.toList with
  | none =>
    refine PySem.W.kla_makeFunction (mg := X.mg) (c := c) (P := P) (ps := ps) (closure_ok hfree) I.ok.glob (I.mod.glob.keeps I.bk) hcode (TB.code.keeps I.bk) hP' ht hc TB.gP bP fun c' ctv h' tk hx hge hlt hrec htb => ?_
    obtain ⟨c2, oc, vs, t, e2, hoc, hd, hv⟩ := hrec
    cases e2
    have hsz : s.heap.objs.size ≤ h'.objs.size := Nat.le_trans hge (Nat.le_of_lt hlt)
    have nC : H c' = none := I.hok.fresh hge
    have I1 := LamX.inv_table (t' := tk) (more := #[rawInt pos.line, rawInt pos.col, .ref c']) (h' := h'.push (PySem.W.kla_obj "<lambda>" (X.env.qual ++ "<lambda>") params body scope (cloFrom X.env.cells scope.names []) ((X.mg "__name__").getD .none) c' ctv)) I hP
      (fun b o hb e => Heap.get?_push_of_some _ (hx b o hb e)) (Heap.get?_push_of_some _ htb) hge ⟨oc, vs, t, Heap.get?_push_of_some _ hoc, hd, hv⟩
    have keep : ∀ b o, b ≠ P → H b = some o → upd (upd H P (.tbl (ps ++ #[rawInt pos.line, rawInt pos.col, .ref c']))) c' (LamX.CodeO c' (X.env.qual ++ "<lambda>")) b = some o := fun b o n e => by
      rw [upd_ne (ne_of_none e nC), upd_ne n]
      exact e
    have eL : (ps ++ #[rawInt pos.line, rawInt pos.col, .ref c']).toList = ps.toList ++ [rawInt pos.line, rawInt pos.col, .ref c'] := by simp
    refine h h'.objs.size c' ((X.mg "__name__").getD .none) ctv _ _ I1 keep ?_ (Heap.get?_push_size _ rfl) ?_ (nofr _ hsz) upd_same
    · refine ⟨_, by rw [upd_ne (ne_of_none hP nC), upd_same], by rw [eL]; exact PySem.TriplesOk_snoc _ _ _ _ ht, fun p' cv hcv => ?_⟩
      rw [eL] at hcv
      rcases LamX.among_app _ ht hcv with z | z
      · obtain ⟨c0, e1, e2⟩ := ha p' cv z
        exact ⟨c0, e1, keep _ _ (fun z => by rw [z, hP] at e2; exact LamX.codeO_ne _ (Option.some.inj e2).symm) e2⟩
      · exact ⟨c', z, upd_same⟩
    · have n1 : h'.objs.size ≠ c' := Nat.ne_of_gt hlt
      have n2 : h'.objs.size ≠ P := Nat.ne_of_gt (Nat.lt_of_lt_of_le (Heap.lt_size hP') hsz)
      rw [upd_ne n1, upd_ne n2]
      exact I.hok.fresh hsz
  | some cv =>
    obtain ⟨c', e, hco⟩ := ha pos cv hc
    subst e
    refine PySem.W.kla_makeFunctionHit (mg := X.mg) (c := c) (P := P) (ps := ps) (closure_ok hfree) I.ok.glob (I.mod.glob.keeps I.bk) hcode (TB.code.keeps I.bk) hP' ht hc bP fun ctv h' tk hx hsz => ?_
    have I1 : Inv X pins σ H { s with heap := h'.push (PySem.W.kla_obj "<lambda>" (X.env.qual ++ "<lambda>") params body scope (cloFrom X.env.cells scope.names []) ((X.mg "__name__").getD .none) c' ctv), toks := tk } := I.kept fun b o e => Heap.get?_push_of_some _ (hx b o e)
    exact h h'.objs.size c' ((X.mg "__name__").getD .none) ctv H _ I1 (fun b o _ e => e) ⟨ps, hP, ht, ha⟩ (Heap.get?_push_size _ rfl) (I.hok.fresh hsz) (nofr _ hsz) hco
/-- the lambda of one parameter as the key -/
theorem lam_run {H1 : Hp} {s1 : Shared} {M : DM} {k : Nat} {f c' : Addr} {q a : Str} {params : Arguments} {body : Expr} {scope : Scope} {pm ctv : Value} {te : DTE} {xs : List D} {g : D → D} (S : FnScope [a] [a] scope) (hr : Room (k + 1) X.A.in1.in1)
    (hf : s1.heap.get? f = some (PySem.W.kla_obj "<lambda>" q params body scope [] pm c' ctv)) (hfn : H1 f = none) (hfr : f ∉ frs X.stack) (hco : H1 c' = some (LamX.CodeO c' q))
    (hbind : ∀ (x : Value), bindArgs (PySem.W.kla_fn "<lambda>" q params body scope [] pm (.ref c') ctv) ⟨[x], []⟩ = pure [(a, x)])
    (hbody : ∀ (A : Around) (outer : List Env) (s : Shared) (H : Hp), Room k (A.deeper (envOfC q scope s.heap.objs.size f (.ref c'))) → DE (cxOf CX0 X.prog X.w X.K X.mg X.base [a] q scope f (.ref c') A outer s H E0).nox body te)
    (pure' : ∀ x ∈ xs, ∀ Q' : DVK, Q' (g x) M → te [some x] M Q') : KeyRun X pins σ H1 M s1 (.ref f) xs g := by
  intro Hj s' d v x hdm un gr J rm rd ru
  have of1 : s'.heap.get? f = some (PySem.W.kla_obj "<lambda>" q params body scope [] pm c' ctv) := un.keep f _ hf hfn hfr (by simp)
  obtain ⟨⟨oc, vs, t, hoc, hdc, hvc⟩, _, _⟩ := J.hok c' _ (gr.cods _ _ hco)
  have lim : s'.heap.NoLimit := J.nolimit
  have hkind : ∀ y ∈ [(a, x)], scope.names.lookup y.1 = some .local ∨ (scope.names.lookup y.1 = some .cell ∧ ((cellsFrom (s'.heap.objs.size + 1) scope.names []).lookup y.1).isSome = true) := fun y hy => by
    have e : y = (a, x) := by simpa using hy
    rw [e]
    rcases S.par a (by simp) with z | z
    · exact .inl z
    · exact .inr ⟨z, PySem.W.cellsFrom_some _ _ _ (.inl z)⟩
  have rc : codeAny (model X.prog X.w) X.A.in1.in1 (.call (.ref f) ⟨[x], []⟩) (CR CX0 X.stack X.prog X.w Hj s' (fun v H' => Grow Hj H' ∧ Rep X.K H' (g d) v ∧ RM X.K H' M) E0) s' := by
    refine PySem.W.kla_callFunE hr.depth of1 rfl S.co S.gen rfl ⟨c', oc, vs, t, rfl, hoc, hdc, hvc⟩ ?_
    rw [hbind]
    refine wpAny_pure (wpAny_newFunctionEnv_cells S.kind hkind fun env he s2 x2 => ?_)
    subst he
    refine ⟨lim.keeps x2.toInCall.keep, PySem.W.kla_codeExpr ?_⟩
    have Jn : Inv (cxOf CX0 X.prog X.w X.K X.mg X.base [a] q scope f (.ref c') X.A.in1.in1 X.stack s' Hj E0) [] (L2.start [a] [v]) Hj s2 := inv_start S hr.hd J.env0.in1.in1 rfl (.cons ru .nil) x2
    have hb := (hbody X.A.in1.in1 X.stack s' Hj (hr.deeper _)).nox
    refine wpAny_mono (hb.run [] s2 (L2.start [a] [v]) Hj (fun v H' => Grow Hj H' ∧ Rep X.K H' (g d) v ∧ RM X.K H' M) Jn ⟨dstart [a] [d], M, fun y M' => y = g d ∧ M' = M, ⟨by simp [dstart, L2.start], fun i d e => start_slot (.one rd) e, rm⟩, pure' d hdm _ ⟨rfl, rfl⟩, fun y v' M' H' g1 r1 m1 ⟨h1, h2⟩ => by subst h1 h2; exact ⟨g1, r1, m1⟩⟩) (fun v s'' hq => ?_) fun e s'' hq => hq
    obtain ⟨w', H', J', rv, q⟩ := hq
    exact ⟨w', H', J'.os, J'.bare, J'.base, J'.hok, rv, q⟩
  refine wpAny_call (codeAny_mono rc fun r s'' hq => ?_)
  cases r with
  | error e => exact False.elim hq
  | ok fl =>
    cases fl with
    | ret u => exact hq
    | next => exact False.elim hq
    | brk => exact False.elim hq
    | cont => exact False.elim hq
/-- sorted(e, key=lambda a: ..): the maker's table is at P -/
def dSortL (P : Addr) (q : Str) (te : DTE) (t : DTA) : DTE := fun m M Q => t m M fun ds M1 => ∃ d xs, ∃ g : D → D, ds = [d] ∧ dItems d M1 = some xs ∧ d ≠ .tup xs ∧ M1 P = some (.tab q) ∧ (∀ x ∈ xs, ∀ Q' : DVK, Q' (g x) M1 → te [some x] M1 Q') ∧ (xs.map g).all (dOk 32) = true ∧
  AllAlike ((xs.map g).map D.py) ∧ SortOk ((xs.map g).map D.py) ∧ ∀ p, M1 p = none → Q (.ref p) (mput M1 p (.lst (xs.mergeSort (dataLe false fun x => D.py (g x)))))
theorem rm_lam {K : PySem.W.Frag} {H1 : Hp} {M : DM} {P : Addr} {q : Str} (m : RM K H M) (h : M P = some (.tab q)) (keep : ∀ b o, b ≠ P → H b = some o → H1 b = some o) (T : LamX.TabS H1 P q) : Grow H H1 ∧ RM K H1 M := by
  obtain ⟨ps, hP, _⟩ := m P _ h
  have ne : ∀ {b : Addr} {o : HO}, H b = some o → (∀ ps, o ≠ .tbl ps) → b ≠ P := fun {b o} e n z => by
    rw [z, hP] at e
    exact n ps (Option.some.inj e).symm
  have gr : Grow H H1 := ⟨fun b xs e => keep b _ (ne e (fun _ z => by cases z)) e, fun b o u e => keep b _ (ne e (fun _ z => by cases z)) e, fun b q e => keep b _ (ne e LamX.codeO_ne) e⟩
  refine ⟨gr, fun a o e => ?_⟩
  by_cases ha : a = P
  · subst ha
    rw [h] at e
    cases e
    exact T
  · have z := m a o e
    obtain ⟨u, hu⟩ : ∃ u, H a = some u := by
      cases q : H a with
      | none => exact absurd q z.some
      | some u => exact ⟨u, rfl⟩
    exact z.stay ((keep a u ha hu).trans hu.symm) gr
theorem d_sortL {k : Nat} {a x : Str} {c P : Addr} {params : Arguments} {body : Expr} {scope : Scope} {te : DTE} {e : Expr} {p lpos kp pos : Pos} {t : DTA} (TB : LamX.TabB X.base X.mg c P) (hcode : X.env.code = .ref c) (hqual : X.env.qual = x ++ ".<locals>.") (S : FnScope [a] [a] scope) (hr : Room (k + 1) X.A.in1.in1)
    (hgs : Gl X "sorted") (hms : X.mg "sorted" = none) (ha : DA X [e] t)
    (hbody : ∀ (A : Around) (outer : List Env) (s : Shared) (H : Hp) (f : Addr) (cdv : Value), Room k (A.deeper (envOfC (lamQ x) scope s.heap.objs.size f cdv)) → DE (cxOf CX0 X.prog X.w X.K X.mg X.base [a] (lamQ x) scope f cdv A outer s H E0).nox body te)
    (hdef : defaultsOf params X.env = ([], []) := by rfl) (hclo : cloFrom X.env.cells scope.names [] = [] := by rfl)
    (hbind : ∀ (pm cv ctv y : Value), bindArgs (PySem.W.kla_fn "<lambda>" (lamQ x) params body scope [] pm cv ctv) ⟨[y], []⟩ = pure [(a, y)] := by intro _ _ _ _; rfl)
    (he : backTo pos (starEach [e] X.env) = [(false, eval e X.env)] := by rfl) (hpl : (backTo pos (starEach [e] X.env)).any (·.1) = false := by rfl)
    (hall : (backToKw pos (keywordEach [⟨some (Str.ofString "key"), .Lambda params body scope lpos, kp⟩] X.env)).all (·.1.isSome) = true := by rfl) (hnone : (backToKw pos (keywordEach [⟨some (Str.ofString "key"), .Lambda params body scope lpos, kp⟩] X.env)).any (·.1.isNone) = false := by rfl)
    (hks : (backToKw pos (keywordEach [⟨some (Str.ofString "key"), .Lambda params body scope lpos, kp⟩] X.env)).filterMap (·.1) = [Str.ofString "key"] := by rfl) :
    DE X (.Call (.Name "sorted" p) [e] [⟨some (Str.ofString "key"), .Lambda params body scope lpos, kp⟩] pos) (dSortL P (lamQ x) te t) := by
  refine ⟨fun pins s σ H Q I ⟨m, M, Q', r, h, kk⟩ => ?_⟩
  have hq : X.env.qual ++ "<lambda>" = lamQ x := by rw [hqual]
  refine wpAny_Call_Name_kw (ld_blt I hgs hms boot_sorted ?_ (by decide) (by decide))
  refine PyProof.Rows.callWith_kw (thn (ha.run pos pins s σ H (fun vs H1 => ∃ ds M1, Grow H H1 ∧ RepL X.K H1 ds vs ∧ RM X.K H1 M1 ∧ ∃ d xs, ∃ g : D → D, ds = [d] ∧ dItems d M1 = some xs ∧ d ≠ .tup xs ∧ M1 P = some (.tab (lamQ x)) ∧ (∀ x ∈ xs, ∀ Q' : DVK, Q' (g x) M1 → te [some x] M1 Q') ∧ (xs.map g).all (dOk 32) = true ∧
    AllAlike ((xs.map g).map D.py) ∧ SortOk ((xs.map g).map D.py) ∧ ∀ p, M1 p = none → Q' (.ref p) (mput M1 p (.lst (xs.mergeSort (dataLe false fun x => D.py (g x)))))) I ⟨m, M, _, r, h, fun ds vs M1 H1 g1 l1 m1 q1 => ⟨ds, M1, g1, l1, m1, q1⟩⟩) fun us s1 ⟨vs, H1, I1, r1, ds, M1, g1, l1, m1, d, xs, g, ed, hd, hnt, hM, pure', hok, hal, hsk, q⟩ => ?_) he hpl hall hnone
  subst ed
  obtain ⟨v, ev, rv⟩ := repL_one l1
  subst ev
  obtain ⟨u, eu, ru⟩ := vals1 r1
  subst eu
  have hT := m1 P _ hM
  show wpAny _ _ (evalAll ((do let v ← eval (.Lambda params body scope lpos) X.env; standAt pos; pure v) :: [])) _ _ s1
  refine wpAny_evalAll_cons (wpAny_bind (lam_make I1 TB hcode (by rw [hq]; exact hT) hdef (fun y hy e => absurd e (S.nofree y hy)) fun f c' pm ctv H2 s2 I2 keep T2 hf hfn hfr hco => wpAny_bind (wpAny_standAt (wpAny_pure ?_))))
  refine wpAny_evalAll_nil ?_
  rw [hks]
  rw [hclo, hq] at hf
  rw [hq] at T2 hco
  obtain ⟨g2, m2⟩ := rm_lam m1 hM keep T2
  have hu : X.A.in1.in1.units + 40 < cLine := by
    have := hr.un
    omega
  exact sort_core I2 (rv.grow g2) ru m2 hd hnt (fun a => ksk_t1 _ a) (lam_run S hr hf hfn hfr hco (hbind _ _ _) (fun A outer s H hr2 => hbody A outer s H f _ hr2) pure') hu hok hal hsk q fun d v M' H' g3 => kk d v M' H' ((g1.trans g2).trans g3)
end
end DL
/-! defs that hold a lambda: their code's table; the law's start and end with tables -/
namespace DL
open PySem PySem.Spec PyProof.Rows L2
section
variable {P : Program} {w : World} {K : PySem.W.Frag} {mg : Str → Option Value} {base : Heap} {k : Nat} {x q : Str} {ps N : List Str} {dsp : DSp} {st : Stmt} {c Pt : Addr}
/-- the def x, its code object at c -/
structure FunC (K : PySem.W.Frag) (x : Str) (st : Stmt) (f : Addr) (fd : FuncData) (c : Addr) : Prop where
  ex : ∃ (oc : Value) (od : Option Addr) (kV doc pm : Value) (an : Option Addr) (ct : Value) (osl : Array (Option Value)),
    fd = PySem.W.fnOf x x (defArgs st) (defBody st) (defScope st) .none kV doc pm an (.ref c) ct ∧ K.lookup f = some ⟨oc, od, .func fd, osl⟩ ∧ PySem.W.codeIn K (.ref c) x = true
  kp : PySem.W.keepIn K (.ref f) = true
structure DefC (K : PySem.W.Frag) (mg : Str → Option Value) (x : Str) (st : Stmt) (ps : List Str) (c : Addr) : Prop where
  ex : ∃ f fd, FunC K x st f fd c ∧ mg x = some (.ref f) ∧ Binds K fd ps []
theorem funC_mk {x : Str} {st : Stmt} {f : Addr} {oc : Value} {od an : Option Addr} {osl : Array (Option Value)} {kV doc pm ct : Value} (l : K.lookup f = some ⟨oc, od, .func (PySem.W.fnOf x x (defArgs st) (defBody st) (defScope st) .none kV doc pm an (.ref c) ct), osl⟩)
    (h : PySem.W.codeIn K (.ref c) x = true) (k : PySem.W.keepIn K (.ref f) = true) : FunC K x st f (PySem.W.fnOf x x (defArgs st) (defBody st) (defScope st) .none kV doc pm an (.ref c) ct) c := ⟨⟨oc, od, kV, doc, pm, an, ct, osl, rfl, l, h⟩, k⟩
theorem DefC.cal (F : DefC K mg x st ps c) (S : FnScope N ps (defScope st)) (len : ∀ ds M Q, dsp ds M Q → ds.length = ps.length) {t : DTS}
    (body : ∀ (f : Addr) (A : Around) (outer : List Env) (s : Shared) (H : Hp) (E : XK), Room k (A.deeper (envOfC x (defScope st) s.heap.objs.size f (.ref c))) → DSs (Ctx P w K mg base N x st f (.ref c) A outer s H E) (defBody st) t)
    (rd : ∀ ds M Q, dsp ds M Q → t (dEnds Q) (dstart N ds) M) : Cal P w K mg base (k + 1) x ps dsp := by
  obtain ⟨f, fd, F, hm, hb⟩ := F.ex
  have kp := F.kp
  obtain ⟨oc, od, kV, doc, pm, an, ct, osl, rfl, lk, hcd⟩ := F.ex
  refine ⟨f, _, fn_of lk hcd S (fun vs H Q E ⟨ds, M, Q', l, _, q, _⟩ => by rw [← l.length]; exact len ds M Q' q) (fun A outer s H vs Q E hr ⟨ds, M, Q', l, m, q, kk⟩ => ?_), hm, kp, hb⟩
  refine ⟨_, (body f A outer s H E hr).nox, dstart N ds, M, dEnds Q', ⟨?_, fun i d e => start_slot l e, m⟩, rd ds M Q' q,
    ⟨fun m1 M1 σ1 H1 g1 r1 ⟨M0, le, q1⟩ => kk _ _ M0 H1 g1 .non (r1.mem.le le) q1, fun _ _ _ _ _ _ z => z.elim, fun _ _ _ _ _ _ z => z.elim, fun d v M1 H1 g1 r1 m1 ⟨M0, le, q1⟩ => kk d v M0 H1 g1 r1 (m1.le le) q1⟩⟩
  simp [dstart, L2.start, l.length]
/-- a list is frozen ahead of the statements -/
theorem pss_before {X : Cx} {sts : List Stmt} {t : TS} (h : PSs X sts t) : PSs X sts (fun D σ H => ∃ p vs, H p = some (.lst vs) ∧ ∀ o, t D σ (upd H p (.frz o (.lst vs)))) := by
  refine ⟨fun pins s σ H D I ⟨p, vs, e, q⟩ => ?_⟩
  obtain ⟨o, I2⟩ := inv_frz I e
  exact h.run pins s σ _ D I2 (q o)
/-- the law's promise, where tables of code objects are known -/
def sp_lawT (T : List (Addr × Str)) : DSp := ar1 fun a M Q => (∀ p ∈ T, M p.1 = some (.tab p.2)) ∧ ∃ ns : List Int, ns.length ≤ 63 ∧ a = .lst (ns.map D.int) ∧ ∀ M', Q (.bl true) M'
def lawSp (K : PySem.W.Frag) (T : List (Addr × Str)) : Sp := fun vs H Q _ => ∃ (a : Addr) (ns : List Int), vs = [.ref a] ∧ ns.length ≤ 63 ∧ SqL K H a (ns.map V.int) ∧ (∀ p ∈ T, H p.1 = some (.tbl #[])) ∧ ∀ v H', v = V.bl true → Q v H'
theorem tabsM : ∀ {T : List (Addr × Str)}, (T.map (·.1)).Nodup → ∃ M : DM, (∀ p ∈ T, M p.1 = some (.tab p.2)) ∧ ∀ b o, M b = some o → ∃ p ∈ T, b = p.1 ∧ o = .tab p.2
  | [], _ => ⟨fun _ => none, fun _ h => absurd h (by simp), fun _ _ e => nomatch e⟩
  | z :: T, h => by
    rw [List.map_cons, List.nodup_cons] at h
    obtain ⟨M, h1, h2⟩ := tabsM h.2
    refine ⟨mput M z.1 (.tab z.2), fun p hp => ?_, fun b o e => ?_⟩
    · rcases List.mem_cons.mp hp with rfl | hp
      · exact mput_same
      · rw [mput_ne (fun e => h.1 (List.mem_map.mpr ⟨p, hp, e⟩))]
        exact h1 p hp
    · by_cases hb : b = z.1
      · rw [hb, mput_same] at e
        exact ⟨z, by simp, hb, (Option.some.inj e).symm⟩
      · rw [mput_ne hb] at e
        obtain ⟨p, hp, r⟩ := h2 b o e
        exact ⟨p, by simp [hp], r⟩
theorem fn_okT {f : Addr} {fd : FuncData} {T : List (Addr × Str)} (hT : (T.map (·.1)).Nodup) (F : Fun K x x st f fd) (S : FnScope N ["script"] (defScope st)) {t : DTS}
    (body : ∀ (f : Addr) (cdv : Value) (A : Around) (outer : List Env) (s : Shared) (H : Hp) (E : XK), Room k (A.deeper (envOfC x (defScope st) s.heap.objs.size f cdv)) → DSs (Ctx P w K mg base N x st f cdv A outer s H E) (defBody st) t)
    (rd : ∀ ds M Q, sp_lawT T ds M Q → t (dEnds Q) (dstart N ds) M) : FnOk P w K mg base CX0 (k + 1) f fd ["script"] (lawSp K T) := by
  refine F.ok S (fun vs H Q E ⟨a, ns, e, _⟩ => by rw [e]; rfl) (fun cdv A outer s H vs Q E hr ⟨a, ns, e, hns, hS, hTb, hQ⟩ => ?_)
  subst e
  have hz : (ns.map V.int).length ≤ sizeLine := by
    rw [List.length_map]
    have := sizeLine_eq
    omega
  obtain ⟨M, hM1, hM2⟩ := tabsM hT
  have rm : ∀ H' : Hp, (∀ p ∈ T, H' p.1 = some (.tbl #[])) → RM K H' M := fun H' hh b o e => by
    obtain ⟨p, hp, rfl, rfl⟩ := hM2 b o e
    exact LamX.TabS.nil (hh p hp)
  have ends : ∀ H' : Hp, EndsOk K H' (dEnds fun d _ => d = .bl true) { nx := fun _ H' => Q .non H', rt := Q } := fun H' =>
    ⟨fun m1 M1 σ1 H1 g1 r1 ⟨M0, le, q1⟩ => (by cases q1), fun _ _ _ _ _ _ z => z.elim, fun _ _ _ _ _ _ z => z.elim, fun d v M1 H1 g1 r1 m1 ⟨M0, le, q1⟩ => hQ _ _ (by
      have q1 : d = .bl true := q1
      subst q1
      cases r1
      rfl)⟩
  have rd' := rd [.lst (ns.map D.int)] M (fun d _ => d = .bl true) ⟨_, rfl, hM1, ns, hns, rfl, fun _ => rfl⟩
  have go : ∀ H' : Hp, (∀ p ∈ T, H' p.1 = some (.tbl #[])) → FrzL K H' a (ns.map V.int) → upS K t { nx := fun _ H' => Q .non H', rt := Q } (L2.start N [.ref a]) H' := fun H' hh hf =>
    ⟨dstart N [.lst (ns.map D.int)], M, _, ⟨by simp [dstart, L2.start], fun i d e => start_slot (.one (.lst hf hz (repL_ints ns))) e, rm H' hh⟩, rd', ends H'⟩
  rcases hS with (h | ⟨o, h⟩) | h
  · refine ⟨_, pss_before (body f cdv A outer s H E hr), a, _, h, fun o => go _ (fun p hp => ?_) (.inl ⟨o, upd_same⟩)⟩
    rw [upd_ne (fun z => by rw [← z] at h; rw [hTb p hp] at h; cases h)]
    exact hTb p hp
  · exact ⟨_, body f cdv A outer s H E hr, go H hTb (.inl ⟨o, h⟩)⟩
  · exact ⟨_, body f cdv A outer s H E hr, go H hTb (.inr h)⟩
/-- what a code object's fields are asked -/
def codeFields (ce : Value) (vs : Array Value) : Bool := (match ce with | .type n => n == "code" | _ => false) && (match vs.getD 18 .none with | .str _ _ => true | _ => false) && (match vs.getD 7 .none with | .int _ _ => true | _ => false) &&
  (match vs.getD 9 .none with | .bool _ => true | _ => false) && (match vs.getD 10 .none with | .int _ _ => true | _ => false)
theorem codeHd_of {h : Heap} {ce : Value} {dd : Option Addr} {vs : Array Value} {sl : Array (Option Value)} (X : K.In h) (e : K.lookup c = some ⟨ce, dd, .fields vs, sl⟩) (t : vs[11]? = some (.ref Pt)) (f : codeFields ce vs = true) (n : K.lookup Pt = none) : PySem.W.CodeHd h c Pt := by
  unfold codeFields at f
  simp only [Bool.and_eq_true] at f
  obtain ⟨⟨⟨⟨f1, f2⟩, f3⟩, f4⟩, f5⟩ := f
  have hce : ce = .type "code" := by
    cases ce <;> simp at f1
    rw [f1]
  subst hce
  have hne : c ≠ Pt := fun z => by rw [z, n] at e; cases e
  cases e1 : vs.getD 18 .none <;> rw [e1] at f2 <;> try cases f2
  cases e2 : vs.getD 7 .none <;> rw [e2] at f3 <;> try cases f3
  cases e3 : vs.getD 9 .none <;> rw [e3] at f4 <;> try cases f4
  cases e4 : vs.getD 10 .none <;> rw [e4] at f5 <;> try cases f5
  refine ⟨_, vs, _, _, _, _, _, _, _, X _ _ e, rfl, rfl, t, ?_, e1, e2, e3, e4, hne⟩
  rw [Array.getD_eq_getD_getElem?, t]
  rfl
end
/-- the end: the tables of all defs of the text are empty -/
theorem walk_ofAny {l : PySem.W.OpenLaw} {n k : Nat} {q : Program} {loose : List Str} {XP : (Str → Option Value) → Heap → Prop} {YP : World → Heap → Prop} {d : DefRec} {K : Params → PySem.W.Frag} {CX : World → CXT} {x : Str}
    (hn : l.most = some n) (hn2 : n ≤ sizeLine) (hdf : d.params.defaults = []) (hr : Room k callerA) (hY : ∀ (w : World) (h : Heap), YP w h → (K w.params).In h)
    (F : ∀ (w : World) (mg : Str → Option Value) (fa : Addr) (h : Heap), (K w.params).In h → h.Ns mainGlobals mg → mg d.name = some (.ref fa) → (∀ (y : Str) (fy : Addr), ((recsOf q).any fun e => e.name == y) = true → mg y = some (.ref fy) → LamX.OwnTab (K w.params) fy h) → LamX.LawAtS l w (K w.params) (CX w) k n x mg fa h)
    (hCX : ∀ (w : World) (H : Hp) (s : Shared) (e : Value) (s' : Shared), CX w [] H s (fun _ _ _ => False) e s' → False) :
    PySem.W.WalkO q loose XP YP l.row.toRowW d [] (fun f vs => PySem.call f vs) := by
  refine Att.attach_callB hn hdf fun w s₀ s₁ mg mb fa o pm cd doc a vs ns G Y ho hd hcd hmg hobj hints hlen hbits hg => ?_
  have KX := hY w _ Y
  have own : ∀ (y : Str) (fy : Addr), ((recsOf q).any fun e => e.name == y) = true → mg y = some (.ref fy) → LamX.OwnTab (K w.params) fy s₁.heap := fun y fy hrec hmy c P o1 fd1 e dd vs1 sl k1 k2 k3 k4 k5 => by
    obtain ⟨dL, hm, hn1⟩ := List.any_eq_true.mp hrec
    have hn2 : dL.name = y := beq_iff_eq.mp hn1
    obtain ⟨a', o', fd', c', P', h1, h2, h3, h4, h5, h6⟩ := G.T.tab dL hm
    rw [hn2, hmy] at h1
    cases h1
    have g1 := KX _ _ k1
    rw [g1] at h2
    cases h2
    rw [k2] at h3
    cases h3
    rw [k3] at h4
    cases h4
    obtain ⟨⟨oc, vc, e1, _, e3, e4⟩, hP⟩ := h6
    have g2 := KX _ _ k4
    rw [g2] at e1
    cases e1
    cases e3
    rw [k5] at e4
    cases e4
    exact hP
  obtain ⟨fd, cs, sp, hT, nT, C, hb, hsp, hF⟩ := F w mg fa _ KX G.T.g hmg own
  exact LamX.law_callTs KX G.T.g G.T.b G.T.builtins G.T.nolimit hg hT nT C G.T.bmain hobj hints (Nat.le_trans hlen hn2) hr hF hb (fun H hH hS => hsp H a ns hlen hbits hH hS) fun H e s' => hCX w H s₁ e s'
end DL
/-! sorted(set(a list of ints)) -/
namespace DL
open PySem PySem.Spec PyProof.Rows L2
section
variable {P : Program} {w : World} {A : Around} {E : Value → Shared → Prop} {s : Shared}
set_option maxHeartbeats 3200000 in
/-- set(xs), a list of ints: with what a walk over it wants to know -/
theorem call_set_listI {l : Addr} {items : Array Value} (ns : List Int) {Q : Value → Shared → Prop} (hh : A.handled = none) (hl : s.heap.IsList l items) (hit : IntsAre items.toList ns) (hb : ns.length + 1 < scanBound)
    (h : ∀ (h' : Heap) (tk c : Nat), SetR w h' s.heap.objs.size (fun j => decide (j ∈ ns)) c → c ≤ ns.length → (∀ b o, s.heap.get? b = some o → h'.get? b = some o) → Q (.ref s.heap.objs.size) { s with heap := h', toks := tk }) :
    wpAny (model P w) A (call (.type "set") [.ref l]) Q E s := by
  have hisz : items.size = ns.length := by
    have q := IntsAre.length hit
    rwa [Array.length_toList] at q
  obtain ⟨c, tl, hmro⟩ := F.called_set.mro
  have hmade := F.called_set.made
  have hsub := F.called_set.sub
  refine wpAny_call (codeAny_of_tree ?_)
  show wpAny _ _ (callAny (.type "set") _) _ _ _
  refine wpAny_pure ⟨Code.quiet_builtin _ (by decide +kernel), codeAny_builtin F.entry_type_call ?_⟩
  rw [Around.under_plain (weight_type_call_type "set" [.ref l] []) rfl]
  have h1 := F.called_set.notType
  have h2 := F.called_set.canCreate
  have hct := F.typeCall_set_1 (.ref l)
  repeat (any_goals (first | assumption | wp_step))
  refine codeAny_mono (code_set_led1 (.ref l) (E := E) (Q₁ := fun obj s₁ => obj = .ref s.heap.objs.size ∧ s₁ = { s with heap := s.heap.push { cls := .type "set", dict := none, data := .set #[] 0 (.fresh 0 0 (!w.params.followText "set-order")) } }) ⟨rfl, rfl⟩) fun r s₁ hr => ?_
  cases r with
  | error e => exact hr
  | ok fl =>
    cases fl with
    | ret obj =>
      obtain ⟨rfl, rfl⟩ := hr
      have hS : (s.heap.push { cls := .type "set", dict := none, data := .set #[] 0 (.fresh 0 0 (!w.params.followText "set-order")) }).get? s.heap.objs.size = some { cls := .type "set", dict := none, data := .set #[] 0 (.fresh 0 0 (!w.params.followText "set-order")) } := Heap.get?_push_size _ rfl
      have hT : Shared.TypeIs { s with heap := s.heap.push { cls := .type "set", dict := none, data := .set #[] 0 (.fresh 0 0 (!w.params.followText "set-order")) } } (.ref s.heap.objs.size) "set" := ⟨_, hS, rfl⟩
      have hli := F.called_set.init.lookup
      have hbi := F.called_set.init.bind (.ref s.heap.objs.size)
      repeat (any_goals (first | assumption | wp_step))
      refine codeAny_mono (codeAny_call_builtin (R := wants (fun r s₂ => r = .none ∧ ∃ h' tk c, s₂ = { s with heap := h', toks := tk } ∧ SetR w h' s.heap.objs.size (fun j => decide (j ∈ ns)) c ∧ c ≤ ns.length ∧
          (∀ b o, s.heap.get? b = some o → h'.get? b = some o)) E) F.called_set.init.plain F.entry_set_init (check_set_init_1 hT ?_)) fun r₂ s₂ hr₂ => ?_
      · obtain ⟨ol, hol, hcl, nl, hdl⟩ := hl
        obtain ⟨ocls, odict, odata, oslots⟩ := ol
        simp only at hcl hdl
        subst hcl hdl
        have hol' : (s.heap.push { cls := .type "set", dict := none, data := .set #[] 0 (.fresh 0 0 (!w.params.followText "set-order")) }).get? l = some { cls := .type "list", dict := odict, data := .seq items nl, slots := oslots } := Heap.get?_push_of_some _ hol
        have hsls := F.sub_list_set
        have hslf := F.sub_list_frozenset
        have hne : (Value.type "list" == Value.type "dict") = false := by decide
        have hl1 : (s.heap.push { cls := .type "set", dict := none, data := .set #[] 0 (.fresh 0 0 (!w.params.followText "set-order")) }).IsList l items := ⟨_, hol', rfl, nl, rfl⟩
        unfold Builtin.«set.__init__» noKeywords Builtin.Frozenset.updateFrom
        generalize hPI : pyIter = PI
        wp_walk
        subst hPI
        refine wpAny_pyIter_list hl1 ?_
        refine wpAny_bind (wpAny_runValue ?_)
        have hlS : l < s.heap.objs.size := Heap.lt_size hol
        have hh3 : A.in1.in1.in1.handled = none := by simp [hh]
        have hneI : l ≠ (s.heap.push { cls := .type "set", dict := none, data := .set #[] 0 (.fresh 0 0 (!w.params.followText "set-order")) }).objs.size := by
          rw [Heap.size_push]; exact Nat.ne_of_lt (Nat.lt_succ_of_lt hlS)
        have hSf : s.heap.objs.size ∉ [(s.heap.push { cls := .type "set", dict := none, data := .set #[] 0 (.fresh 0 0 (!w.params.followText "set-order")) }).objs.size, l] := by
          rw [Heap.size_push]; simp only [List.mem_cons, List.mem_singleton, List.not_mem_nil, or_false, not_or]
          exact ⟨Nat.ne_of_lt (Nat.lt_succ_self _), Nat.ne_of_gt hlS⟩
        have hval : ∀ (i : Nat) (v : Value), items[i]? = some v → ∃ k t, ns[i]? = some k ∧ v = .int k t := fun i v hv => by
          have hi : i < ns.length := by rw [← hisz]; exact (Array.getElem?_eq_some_iff.mp hv).1
          obtain ⟨t, e⟩ := PyProof.Rows.IntsAre.int_at hit i v (by rw [Array.getElem?_toList]; exact hv)
          refine ⟨ns[i], t, List.getElem?_eq_getElem hi, ?_⟩
          rw [e, List.getD_eq_getElem?_getD, List.getElem?_eq_getElem hi] <;> rfl
        refine set_update_ints ((Walks.list hh3 _ l hneI items).toS) s.heap.objs.size
          hSf ns hisz hb hval (items.size - 0) 0 _ (by omega) (Nat.zero_le _)
          ⟨⟨_, Heap.get?_push_size _ rfl, rfl, rfl⟩, (hl1.push _)⟩ ?hS0 ?hR
        case hS0 =>
          have hget : ((s.heap.push { cls := .type "set", dict := none, data := .set #[] 0 (.fresh 0 0 (!w.params.followText "set-order")) }).push { cls := .type "list_iterator", data := .fields #[.ref l, .int 0 0] }).get? s.heap.objs.size
              = some { cls := .type "set", dict := none, data := .set #[] 0 (.fresh 0 0 (!w.params.followText "set-order")) } := Heap.get?_push_of_some _ hS
          exact ⟨0, Nat.le_refl 0, setR_new_at hget⟩
        case hR =>
          intro s' c' hm hc' hS'
          obtain ⟨h', g2, d', tk', os'⟩ := s'
          have eg : g2 = s.gens := hm.gens
          have ed : d' = s.drawn := hm.drawn
          have eo : os' = s.os := hm.os
          subst eg; subst ed; subst eo
          show wpAny _ _ _ _ _ _
          refine wpAny_pure ?_
          show wpAny _ _ (PySem.ret Value.none) _ _ _
          rw [hisz] at hc'
          refine wpAny_pure ⟨rfl, h', tk', c', rfl, hS', hc', fun b o e => ?_⟩
          have hb0 : b < s.heap.objs.size := Heap.lt_size e
          have hb1 : b ≠ s.heap.objs.size := Nat.ne_of_lt hb0
          have hb2 : b ≠ (s.heap.push { cls := .type "set", dict := none, data := .set #[] 0 (.fresh 0 0 (!w.params.followText "set-order")) }).objs.size := by
            rw [Heap.size_push]; exact Nat.ne_of_lt (Nat.lt_succ_of_lt hb0)
          exact hm.heap b o (by simp only [List.mem_cons, List.mem_singleton, List.not_mem_nil, or_false, not_or]; exact ⟨hb1, hb2⟩) (Heap.get?_push_of_some _ (Heap.get?_push_of_some _ e))
      · cases r₂ with
        | error e => exact hr₂
        | ok fl₂ =>
          cases fl₂ with
          | ret r =>
            obtain ⟨rfl, h', tk, c', rfl, hS', hc', hk'⟩ := hr₂
            repeat (any_goals (first | assumption | wp_step))
            exact h _ _ _ hS' hc' hk'
          | _ => exact hr₂.elim
    | _ => exact hr.elim
/-- sorted(a set of ints), of any size -/
theorem sorted_setI {a : Addr} {S : Int → Bool} {n : Nat} {Q : Value → Shared → Prop} (R : SetR w s.heap a S n) (hh : A.handled = none) (hu : A.units + 40 < cLine)
    (hQ : ∀ s' p (out : Array Value) (c : Nat) (ns : List Int), (∀ b o, s.heap.get? b = some o → s'.heap.get? b = some o) → s'.gens = s.gens → s'.os = s.os → s.heap.objs.size ≤ p →
      s'.heap.get? p = some (seqObj "list" out c) → IntsAre out.toList ns → ns.Pairwise (· < ·) → (∀ k, k ∈ ns ↔ S k = true) → ns.length = n → Q (.ref p) s') :
    wpAny (model P w) A (call (.builtin "sorted") [.ref a]) Q E s := by
  obtain ⟨o, es, ep, t, ho, hex, hd, g, nd, hm, hb, hf, hn, hr, hl⟩ := R
  refine Calls.call_function_entry kind_sorted plain_sorted entry_sorted (args_sorted1 _) ?_
  unfold Builtin.«sorted»
  refine wpAny_bind (m := checkCount "sorted" 1 1 _) (wpAny_pure ?_)
  refine wpAny_bind (collect_set (A := A.in1) hh ⟨o, ho, hex.1, hd⟩ hf hb hr hl fun s1 vs k1 hz g1 o1 pm => ?_)
  have hvl : vs.length = n := by rw [pm.length_eq, List.length_map, Array.length_toList]; exact hn
  have hnl : n ≤ sizeLine := by
    rw [← hn, sizeLine_eq]
    unfold scanBound at hb
    omega
  have hI : IntsAre vs (vs.map Builtin.Re.reRawOf) := ints_of vs fun v hv => by
    obtain ⟨e, he, q⟩ := List.mem_map.mp (pm.mem_iff.mp hv)
    obtain ⟨k, tk, h1, _⟩ := g e he
    exact ⟨k, tk, by rw [← q]; exact h1⟩
  have pk : (vs.map Builtin.Re.reRawOf).Perm (es.toList.map keyOf) := by
    have q := pm.map Builtin.Re.reRawOf
    rw [List.map_map] at q
    exact q
  refine wpAny_bind (wpAny_newList ?_ (by rw [hvl]; exact hnl))
  have hoL : (s1.heap.push (seqObj "list" vs.toArray 0)).get? s1.heap.objs.size = some (seqObj "list" vs.toArray 0) := Heap.get?_push_size _ rfl
  generalize hbs : vs.map Builtin.Re.reRawOf = bs at hI pk
  have eachI : ∀ {us : List Value} {ks : List Int}, IntsAre us ks → PySem.W.EachIs (fun v k => ∃ t, v = Value.int k t) us ks := by
    intro us ks h
    induction h with
    | nil => exact .nil
    | cons k t _ ih => exact .cons ⟨t, rfl⟩ ih
  have intsE : ∀ {us : List Value} {ks : List Int}, PySem.W.EachIs (fun v k => ∃ t, v = Value.int k t) us ks → IntsAre us ks := by
    intro us ks h
    induction h with
    | nil => exact .nil
    | cons r _ ih =>
      obtain ⟨t, rfl⟩ := r
      exact .cons _ t ih
  have hbl : bs.length = n := by rw [← hI.length, hvl]
  refine wpAny_bind (wpAny_holding (PySem.W.list_sort_data (enc := fun k : Int => .int k) (bs := bs) (R := fun v k => ∃ t, v = Value.int k t) hoL (eachI hI) ((eachI hI).mono fun v k ⟨t, e⟩ => ⟨[], by rw [e]; exact .int k t, by simp⟩)
    (PySem.W.AllAlike.of fun _ _ => by simp [PySem.W.alike]) (PySem.W.Sortable.others fun _ => ⟨(fun z => by cases z), fun _ z => by cases z⟩) (by rw [hbl]; exact hnl) (fun b _ => by
      simp only [PyData.depth]
      show A.units + 1 + 1 + 0 < cLine
      omega) fun out hol ho2 => ?_))
  have ho3 := intsE ho2
  obtain ⟨c, hc⟩ := sortedHeap_at (vs := vs) (out := List.toArray out) hoL
  have hperm : (bs.mergeSort (PySem.W.dataLe false fun k : Int => .int k)).Perm bs := List.mergeSort_perm _ _
  have pn := hperm.trans pk
  have hle : (bs.mergeSort (PySem.W.dataLe false fun k : Int => .int k)).Pairwise (· ≤ ·) := by
    have e : PySem.W.dataLe false (fun k : Int => PyData.int k) = fun a b => decide (a ≤ b) := PySem.W.dataLe_int fun k => k
    rw [e]
    have := List.pairwise_mergeSort (le := fun a b : Int => decide (a ≤ b)) (fun a b c h1 h2 => by simp at *; omega) (fun a b => by simp; omega) bs
    exact this.imp fun h => by simpa using h
  refine wpAny_pure ⟨_, rfl, hQ _ s1.heap.objs.size (List.toArray out) c _ (fun b u e => ?_) g1 o1 hz hc (by simpa using ho3) (lt_of_le_nodup _ hle (pn.nodup_iff.mpr nd)) (fun k => by rw [pn.mem_iff, ← hm k]) ?_⟩
  · have q := k1 b u e
    have hlt := Heap.lt_size q
    show (sortedHeap (s1.heap.push (seqObj "list" vs.toArray 0)) s1.heap.objs.size vs (List.toArray out)).get? b = some u
    rw [sortedHeap_old (Nat.ne_of_lt hlt) (by rw [size_push']; exact Nat.lt_succ_of_lt hlt)]
    exact Heap.get?_push_of_some _ q
  · rw [hperm.length_eq, hbl]
end
section
variable {X : Cx}
/-- sorted(set(e)), e a list of ints -/
def dSortSet (te : DTE) : DTE := fun m M Q => te m M fun d M1 => ∃ ns : List Int, dItems d M1 = some (ns.map D.int) ∧ d ≠ .tup (ns.map D.int) ∧ ns.length ≤ 4000 ∧ ∀ (rs : List Int) (p : Addr), rs.Pairwise (· < ·) → (∀ k, k ∈ rs ↔ k ∈ ns) → rs.length ≤ ns.length → M1 p = none → Q (.ref p) (mput M1 p (.lst (rs.map D.int)))
theorem repL_intsV {K : PySem.W.Frag} {H : Hp} : ∀ {ns : List Int} {vs : List V}, RepL K H (ns.map D.int) vs → vs = ns.map V.int
  | [], _, .nil => rfl
  | n :: ns, _, .cons a r => by
    cases a
    rw [List.map_cons, repL_intsV r]
theorem d_sortSet {e : Expr} {te : DTE} {p p2 q pos : Pos} (hc : X.calm = true) (hu : X.A.units + 64 < cLine) (hg : Gl X "sorted") (hm : X.mg "sorted" = none) (hg2 : Gl X "set") (hm2 : X.mg "set" = none) (he : DE X e te)
    (na : starEach [e] X.env = (false, eval e X.env) :: starEach [] X.env := by rfl) : DE X (.Call (.Name "sorted" p) [.Call (.Name "set" p2) [e] [] q] [] pos) (dSortSet te) := by
  refine ⟨fun pins s σ H Q I ⟨m, M, Q', r, h, kk⟩ => ?_⟩
  refine Call_ (ld_blt I hg hm boot_sorted ?_)
  refine PyProof.Rows.callWith_builtin1 (PyProof.Rows.args_cons ?_ rfl) rfl rfl
  refine Call_ (ld_blt I hg2 hm2 boot_set ?_)
  refine PyProof.Rows.callWith_type1 (PyProof.Rows.args_cons (thn (he.run pins s σ H (fun v H1 => ∃ d M1, Grow H H1 ∧ Rep X.K H1 d v ∧ RM X.K H1 M1 ∧ ∃ ns : List Int, dItems d M1 = some (ns.map D.int) ∧ d ≠ .tup (ns.map D.int) ∧ ns.length ≤ 4000 ∧ ∀ (rs : List Int) (p : Addr), rs.Pairwise (· < ·) → (∀ k, k ∈ rs ↔ k ∈ ns) → rs.length ≤ ns.length → M1 p = none → Q' (.ref p) (mput M1 p (.lst (rs.map D.int)))) I
    ⟨m, M, _, r, h, fun d v M1 H1 g1 r1 m1 q1 => ⟨d, M1, g1, r1, m1, q1⟩⟩) fun v s1 ⟨x, H1, I1, r1, d, M1, g1, rd, m1, ns, hd, hnt, hl, q1⟩ => PyProof.Rows.args_nil ?_) na) na rfl
  obtain ⟨l, vs, rfl, hz, rl, hS⟩ := lst_of rd m1 hd hnt
  have evs := repL_intsV rl
  subst evs
  cases r1
  obtain ⟨its, ri, pl, _⟩ := I1.list hS
  refine call_set_listI ns (I1.ok.hd hc) pl.isList (by simpa using RZ.intsAre_vals ri) (by unfold scanBound; omega) fun h' tk c hR hcl hk => ?_
  refine PyProof.Rows.args_nil ?_
  have I2 : Inv X pins σ H1 { s1 with heap := h', toks := tk } := I1.kept hk
  have hR2 : SetR X.w ({ s1 with heap := h', toks := tk } : Shared).heap s1.heap.objs.size (fun j => decide (j ∈ ns)) c := hR
  generalize hs2 : ({ s1 with heap := h', toks := tk } : Shared) = s2 at I2 hR2 ⊢
  refine sorted_setI (s := s2) hR2 (I2.ok.hd hc) (by omega) fun s' p out c2 rs k g o hp hg hi hs hm hln => ?_
  have hlen : (rs.map V.int).length ≤ sizeLine := by rw [List.length_map, hln, sizeLine_eq]; omega
  have hn : H1 p = none := I2.hok.fresh hp
  have J : Inv X pins σ (upd H1 p (.lst (rs.map V.int))) { s2 with heap := s'.heap, gens := s'.gens, drawn := s'.drawn, toks := s'.toks } :=
    I2.call (ch := []) (Un.laid k hp hn) (I2.hok.laid k hp ⟨hlen, out.toList, c2, vals_of_ints hi, hg⟩) (by rw [g]; exact I2.bare) (fun _ z => nomatch z)
  have e : s' = { s2 with heap := s'.heap, gens := s'.gens, drawn := s'.drawn, toks := s'.toks } := by
    cases s'
    cases s2
    cases o
    rfl
  rw [e]
  exact ⟨.ref p, _, J, rfl, kk _ _ _ _ (g1.trans (.new hn)) (.ref _) (m1.newLst hn hlen (repL_ints rs)) (q1 rs p hs (fun k => by rw [hm k, decide_eq_true_iff]) (by omega) (m1.free hn))⟩
end
end DL
/-! [*a, .., *b], a and b tuples -/
namespace DL
open PySem PySem.Spec PyProof.Rows L2
section
variable {X : Cx} {e : Expr} {es : List Expr} {te : DTE} {t : DTA} {p : Pos}
def dStar (te : DTE) (t : DTA) : DTA := fun m M Q => te m M fun d M1 => ∃ ds, d = .tup ds ∧ t m M1 fun es M2 => Q (ds ++ es) M2
theorem da_star (he : DE X e te) (hr : DA X es t) (hs : starEach (.Starred e p :: es) X.env = (true, eval e X.env) :: starEach es X.env := by rfl) : DA X (.Starred e p :: es) (dStar te t) :=
  imA (StX.pa_star he hr hs) fun σ H Q ⟨m, M, Q', r, q, k⟩ => by
    refine ⟨m, M, _, r, q, fun d v M1 H1 g1 r1 m1 ⟨ds, e1, q1⟩ => ?_⟩
    subst e1
    cases r1 with
    | tup h z l =>
      refine ⟨_, _, rfl, .inl h, m, M1, _, r.grow g1 m1, q1, fun ds2 vs2 M2 H2 g2 r2 m2 q2 => ?_⟩
      exact k _ _ M2 H2 (g1.trans g2) (RepL.append (l.grow g2) r2) m2 q2
end
end DL
/-! str(an int), int(a text) -/
namespace DL
open PySem PySem.Spec PyProof.Rows L2
section
variable {X : Cx}
def rIntS : DCR := fun ds M Q => ∃ z n, ds = [.str z] ∧ PySem.intText? z = some n ∧ z.length ≤ 640 ∧ Q (.int n) M
theorem c_intS : DCall X (.type "int") rIntS := by
  intro pins s σ H vs us Q I r ⟨ds, M, Q', l, m, ⟨z, n, e, h, hl, q⟩, k⟩
  subst e
  obtain ⟨v, e, rv⟩ := repL_one l
  subst e
  cases rv
  exact call_int_str pins s σ H _ us Q I r ⟨z, n, rfl, h, hl, k _ _ M H (.refl H) (.int _) m q⟩
def rStrI : DCR := fun ds M Q => ∃ i : Int, ds = [.int i] ∧ i.natAbs.log2 < 1920 ∧ Q (.str (toString i)) M
theorem c_strI : DCall X (.type "str") rStrI := by
  intro pins s σ H vs us Q I r ⟨ds, M, Q', l, m, ⟨i, e, h, q⟩, k⟩
  subst e
  obtain ⟨v, e, rv⟩ := repL_one l
  subst e
  cases rv
  exact call_str_int pins s σ H _ us Q I r ⟨i, rfl, h, k _ _ M H (.refl H) (.str _) m q⟩
end
theorem int_str {i : Int} (h : i.natAbs < 10 ^ 300) : PySem.intText? (Str.ofString (toString i)) = some i ∧ (Str.ofString (toString i)).length ≤ 640 := by
  cases i with
  | ofNat n =>
    have hn : n < 10 ^ 300 := h
    have hl := TL.numL_len (by decide) hn
    refine ⟨TL.int_num (by omega), ?_⟩
    rw [TL.len_tl, show TL.tl (Str.ofString (toString (Int.ofNat n))) = TL.numL n from TL.tl_num n]
    omega
  | negSucc n =>
    have hn : n + 1 < 10 ^ 300 := h
    have hl := TL.numL_len (by decide) hn
    have e1 : toString (Int.negSucc n) = "-" ++ toString ((n + 1 : Nat) : Int) := rfl
    have e2 : TL.tl (Str.ofString (toString (Int.negSucc n))) = 45 :: TL.numL (n + 1) := by
      have q := TL.tl_num (n + 1)
      rw [TL.tl_ofString] at q
      rw [e1, TL.tl_ofString, String.toList_append, List.map_append, q]
      rfl
    have hlen : (Str.ofString (toString (Int.negSucc n))).length ≤ 640 := by
      rw [TL.len_tl, e2, List.length_cons]
      omega
    refine ⟨?_, hlen⟩
    rw [intText_neg (x := Str.ofString (toString (Int.negSucc n))) (cs := TL.numL (n + 1)) e2 (TL.numL_digits _) (TL.numL_ne _) (by omega), TL.numL_val]
    rfl
theorem log2_lt {n : Nat} (h : n < 10 ^ 300) : n.log2 < 1920 := by
  by_cases c : n = 0
  · subst c
    decide
  · rw [Nat.log2_lt c]
    refine Nat.lt_of_lt_of_le h ?_
    decide +kernel
end DL
/-! dicts whose keys are ints and texts: in the mutable part (DO.dk), or frozen: plain data (D.dct) -/
namespace DL
open PySem PySem.Spec PyProof.Rows L2

/-! ### keys -/
def isKb : D → Bool
  | .int _ => true
  | .str _ => true
  | _ => false
theorem isKb_int (i : Int) : isKb (.int i) = true := rfl
theorem isKb_str (x : Str) : isKb (.str x) = true := rfl
theorem isKb_kD (k : Key) : isKb (kD k) = true := by cases k <;> rfl
theorem isKb_ex {d : D} (h : isKb d = true) : ∃ k, d = kD k := by
  cases d with
  | int i => exact ⟨.inl i, rfl⟩
  | str x => exact ⟨.inr x, rfl⟩
  | _ => cases h
theorem nk_kD {a b : Key} : nk (kD a) = nk (kD b) ↔ a = b := by
  constructor
  · intro h
    cases a <;> cases b <;> simp [kD, nk] at h <;> simp [h]
  · intro h
    rw [h]
theorem rep_kD {K : PySem.W.Frag} {H : Hp} (k : Key) : Rep K H (kD k) (kV k) := by
  cases k with
  | inl i => exact .int i
  | inr x => exact .str x
theorem rep_kV {K : PySem.W.Frag} {H : Hp} {k : Key} {v : V} (r : Rep K H (kD k) v) : v = kV k := by
  cases k <;> cases r <;> rfl
/-- what the dict holds -/
def dDict : D → DM → Option (List (D × D))
  | .dct kvs, _ => some kvs
  | .ref a, M => match M a with
    | some (.dk kvs) => some kvs
    | _ => none
  | _, _ => none
@[simp] theorem dDict_dct {kvs : List (D × D)} {M : DM} : dDict (.dct kvs) M = some kvs := rfl
theorem dDict_ref {kvs : List (D × D)} {M : DM} {a : Addr} (h : M a = some (.dk kvs)) : dDict (.ref a) M = some kvs := by
  simp [dDict, h]
theorem dDict_put {kvs : List (D × D)} {M : DM} {a : Addr} : dDict (.ref a) (mput M a (.dk kvs)) = some kvs := dDict_ref mput_same
theorem dDict_rf {M : DM} {a : Addr} : dDict (.ref a) M = match M a with
    | some (.dk kvs) => some kvs
    | _ => none := rfl
section
variable {K : PySem.W.Frag} {H H' : Hp} {M : DM}
theorem RepK.length : ∀ {kvs : List (D × D)} {es : List (Key × V)}, RepK K H kvs es → kvs.length = es.length
  | _, _, .nil => rfl
  | _, _, .cons _ l => congrArg (· + 1) l.length
theorem RepK.get : ∀ {kvs : List (D × D)} {es : List (Key × V)} {i : Nat} {k : Key} {v : V}, RepK K H kvs es → es[i]? = some (k, v) → ∃ d, kvs[i]? = some (kD k, d) ∧ Rep K H d v
  | _, _, _, _, _, .nil, e => by simp at e
  | _, _, 0, _, _, .cons h _, e => by
    simp at e
    obtain ⟨rfl, rfl⟩ := e
    exact ⟨_, rfl, h⟩
  | _, _, i + 1, _, _, .cons _ l, e => by
    obtain ⟨d, h1, h2⟩ := RepK.get (i := i) l (by simpa using e)
    exact ⟨d, by simpa using h1, h2⟩
theorem RepK.val {k : Key} : ∀ {kvs : List (D × D)} {es : List (Key × V)}, RepK K H kvs es → (dget kvs (kD k) = none ∧ valV es k = none) ∨ ∃ d y, dget kvs (kD k) = some d ∧ valV es k = some y ∧ Rep K H d y
  | _, _, .nil => .inl ⟨rfl, rfl⟩
  | _, _, .cons (k := k1) (d := d) h l => by
    have ih := RepK.val (k := k) l
    by_cases c : k1 = k
    · subst c
      refine .inr ⟨d, _, ?_, valV_pos rfl, h⟩
      unfold dget
      rw [List.find?_cons, decide_eq_true rfl]
      rfl
    · rw [valV_neg (p := (k1, _)) c]
      unfold dget at ih ⊢
      rw [List.find?_cons, decide_eq_false (fun z => c (nk_kD.mp z))]
      exact ih
theorem RepK.has {k : Key} : ∀ {kvs : List (D × D)} {es : List (Key × V)}, RepK K H kvs es → (es.any fun kv => decide (kv.1 = k)) = dhas kvs (kD k)
  | _, _, .nil => rfl
  | _, _, .cons (k := k1) h l => by
    have ih := RepK.has (k := k) l
    unfold dhas at ih ⊢
    rw [List.any_cons, List.any_cons, ih]
    congr 1
    by_cases c : k1 = k
    · rw [decide_eq_true c, decide_eq_true (nk_kD.mpr c)]
    · rw [decide_eq_false c, decide_eq_false (fun z => c (nk_kD.mp z))]
theorem RepK.map {k : Key} {d : D} {y : V} (rd : Rep K H d y) : ∀ {kvs : List (D × D)} {es : List (Key × V)}, RepK K H kvs es → RepK K H (kvs.map fun p => if nk p.1 = nk (kD k) then (p.1, d) else p) (es.map fun kv => if kv.1 = k then (kv.1, y) else kv)
  | _, _, .nil => .nil
  | _, _, .cons (k := k1) h l => by
    rw [List.map_cons, List.map_cons]
    by_cases c : k1 = k
    · rw [if_pos (show (k1, _).1 = k from c), if_pos (show nk (kD k1, _).1 = nk (kD k) from nk_kD.mpr c)]
      exact .cons rd (RepK.map rd l)
    · rw [if_neg (show ¬ (k1, _).1 = k from c), if_neg (show ¬ nk (kD k1, _).1 = nk (kD k) from fun z => c (nk_kD.mp z))]
      exact .cons h (RepK.map rd l)
theorem RepK.snoc {k : Key} {d : D} {y : V} (rd : Rep K H d y) : ∀ {kvs : List (D × D)} {es : List (Key × V)}, RepK K H kvs es → RepK K H (kvs ++ [(kD k, d)]) (es ++ [(k, y)])
  | _, _, .nil => .cons rd .nil
  | _, _, .cons h l => .cons h (RepK.snoc rd l)
theorem RepK.put {k : Key} {d : D} {y : V} {kvs : List (D × D)} {es : List (Key × V)} (l : RepK K H kvs es) (rd : Rep K H d y) : RepK K H (dput kvs (kD k) d) (putK es k y) := by
  unfold dput putK
  rw [l.has]
  split
  · exact l.map rd
  · exact l.snoc rd
theorem RepK.keys : ∀ {kvs : List (D × D)} {es : List (Key × V)}, RepK K H kvs es → RepL K H (kvs.map (·.1)) (es.map fun x => kV x.1)
  | _, _, .nil => .nil
  | _, _, .cons (k := k) _ l => .cons (rep_kD k) (RepK.keys l)
theorem dict_at {d : D} {v : V} {kvs : List (D × D)} (r : Rep K H d v) (m : RM K H M) (e : dDict d M = some kvs) : ∃ a es, v = .ref a ∧ Rd H a (.dK es) ∧ es.length ≤ sizeLine ∧ RepK K H kvs es := by
  cases r with
  | dct h z l =>
    cases e
    exact ⟨_, _, rfl, .inr ⟨_, h⟩, z, l⟩
  | ref a =>
    cases q : M a with
    | none => simp [dDict, q] at e
    | some o =>
      cases o with
      | dk ks =>
        simp [dDict, q] at e
        subst e
        obtain ⟨es, h, z, l⟩ := m a _ q
        exact ⟨a, es, rfl, .inl h, z, l⟩
      | _ => simp [dDict, q] at e
  | _ => cases e
theorem Grow.dk {p : Addr} {es : List (Key × V)} {o : HO} (h : H p = some (.dK es)) : Grow H (upd H p o) :=
  ⟨fun b xs e => by rw [upd_ne (ne_of e h (by intro z; cases z))]; exact e, fun b q u e => by rw [upd_ne (ne_of e h (by intro z; cases z))]; exact e, fun b q e => by rw [upd_ne (ne_of e h (by intro z; cases z))]; exact e⟩
theorem RM.putDk {p : Addr} {es es' : List (Key × V)} {kvs : List (D × D)} (h : RM K H M) (hp : H p = some (.dK es)) (hz : es'.length ≤ sizeLine) (l : RepK K H kvs es') : RM K (upd H p (.dK es')) (mput M p (.dk kvs)) := fun a q e => by
  have g : Grow H (upd H p (.dK es')) := Grow.dk hp
  by_cases ha : a = p
  · subst ha
    rw [mput_same] at e
    cases e
    exact ⟨es', upd_same, hz, l.grow g⟩
  · rw [mput_ne ha] at e
    exact (h a q e).stay (upd_ne ha) g
theorem RM.newDk {p : Addr} {es : List (Key × V)} {kvs : List (D × D)} (h : RM K H M) (hp : H p = none) (hz : es.length ≤ sizeLine) (l : RepK K H kvs es) : RM K (upd H p (.dK es)) (mput M p (.dk kvs)) := fun a q e => by
  by_cases ha : a = p
  · subst ha
    rw [mput_same] at e
    cases e
    exact ⟨es, upd_same, hz, l.grow (.new hp)⟩
  · rw [mput_ne ha] at e
    exact h.new hp a q e
theorem RM.dk {a : Addr} {kvs : List (D × D)} (h : RM K H M) (e : M a = some (.dk kvs)) : ∃ es, H a = some (.dK es) ∧ es.length ≤ sizeLine ∧ RepK K H kvs es := h a _ e
theorem RM.frzDk {p : Addr} {es : List (Key × V)} {o : Obj} (h : RM K H M) (hp : H p = some (.dK es)) : RM K (upd H p (.frz o (.dK es))) (mdel M p) := fun a q e => by
  have ha : a ≠ p := fun z => by
    subst z
    unfold mdel at e
    simp at e
  have e' : M a = some q := by
    unfold mdel at e
    rw [if_neg ha] at e
    exact e
  exact (h a q e').stay (upd_ne ha) (Grow.dk hp)
end
theorem dput_len' (kvs : List (D × D)) (k v : D) : (dput kvs k v).length ≤ kvs.length + 1 := dput_len kvs k v

section
variable {X : Cx} {o e a b f : Expr} {pos apos cpos : Pos} {to te tf ta tb : DTE}
/-! ### d[k], k in d, k not in d -/
def dKIx (to te : DTE) : DTE := fun m M Q => to m M fun x M1 => te m M1 fun y M2 => ∃ kvs v, dDict x M2 = some kvs ∧ isKb y = true ∧ dget kvs y = some v ∧ Q v M2
theorem d_kix (hu : X.A.units + 1 < cLine) (ho : DE X o to) (he : DE X e te) (hs : NoSl e) : DE X (.Subscript o e pos) (dKIx to te) :=
  imE (pe_dget hu ho he hs) fun σ H Q ⟨m, M, Q', r, q, kk⟩ => by
    refine ⟨m, M, _, r, q, fun x v1 M1 H1 g1 r1 m1 q1 => ⟨m, M1, _, r.grow g1 m1, q1, fun y v2 M2 H2 g2 r2 m2 ⟨kvs, v, e1, e2, e3, q2⟩ => ?_⟩⟩
    obtain ⟨p, es, rfl, hr, z, l⟩ := dict_at (r1.grow g2) m2 e1
    obtain ⟨k, rfl⟩ := isKb_ex e2
    obtain rfl := rep_kV r2
    rcases l.val (k := k) with ⟨n1, _⟩ | ⟨d, y, n1, n2, rd⟩
    · rw [n1] at e3
      cases e3
    · rw [n1] at e3
      cases e3
      exact ⟨p, y, rfl, .inl ⟨es, k, hr, rfl, n2.symm⟩, kk _ _ M2 H2 (g1.trans g2) rd m2 q2⟩
def dKIn : DR2 := fun x y M Q => ∃ kvs, dDict y M = some kvs ∧ isKb x = true ∧ Q (.bl (dhas kvs x)) M
def dKNotIn : DR2 := fun x y M Q => ∃ kvs, dDict y M = some kvs ∧ isKb x = true ∧ Q (.bl (!dhas kvs x)) M
theorem has_val {K : PySem.W.Frag} {H : Hp} {kvs : List (D × D)} {es : List (Key × V)} (l : RepK K H kvs es) (k : Key) : (valV es k).isSome = dhas kvs (kD k) := by
  rw [← valV_any, l.has]
theorem o_inK (hu : X.A.units + 1 < cLine) : DOp X (compareOp .In) dKIn := by
  intro pins s σ H x y v u Q I rx ry ⟨d, e, M, Q', r1, r2, m, ⟨kvs, e1, e2, q⟩, k⟩
  obtain ⟨p, es, rfl, hr, z, l⟩ := dict_at r2 m e1
  obtain ⟨key, rfl⟩ := isKb_ex e2
  obtain rfl := rep_kV r1
  obtain rfl : u = Value.ref p := ry
  refine d_in hu I (.inl ⟨es, key, hr, rfl, rfl⟩) rx fun s' I' => ?_
  rw [has_val l]
  exact ⟨.bl _, H, I', rfl, k _ _ M H (.refl H) (.bl _) m q⟩
theorem o_notinK (hu : X.A.units + 1 < cLine) : DOp X (compareOp .NotIn) dKNotIn := by
  intro pins s σ H x y v u Q I rx ry ⟨d, e, M, Q', r1, r2, m, ⟨kvs, e1, e2, q⟩, k⟩
  obtain ⟨p, es, rfl, hr, z, l⟩ := dict_at r2 m e1
  obtain ⟨key, rfl⟩ := isKb_ex e2
  obtain rfl := rep_kV r1
  obtain rfl : u = Value.ref p := ry
  refine d_notIn hu I (.inl ⟨es, key, hr, rfl, rfl⟩) rx fun s' I' => ?_
  rw [has_val l]
  exact ⟨.bl _, H, I', rfl, k _ _ M H (.refl H) (.bl _) m q⟩
/-! ### len(d) -/
def rLenK : DCR := fun ds M Q => ∃ d kvs, ds = [d] ∧ dDict d M = some kvs ∧ Q (.int kvs.length) M
theorem c_lenK : DCall X (.builtin "len") rLenK := by
  intro pins s σ H vs us Q I r ⟨ds, M, Q', l, m, ⟨d, kvs, e, h, q⟩, k⟩
  subst e
  obtain ⟨v, e, rv⟩ := repL_one l
  subst e
  obtain ⟨p, es, rfl, hr, z, l2⟩ := dict_at rv m h
  obtain ⟨u, eu, rx⟩ := vals1 r
  subst eu
  obtain rfl : u = Value.ref p := rx
  refine d_len I hr fun t s' I' => ⟨.int es.length, H, I', ⟨t, rfl⟩, ?_⟩
  rw [← l2.length]
  exact k _ _ M H (.refl H) (.int _) m q
/-! ### {}, freezing -/
def dKNew : DTE := fun _ M Q => ∀ p, M p = none → Q (.ref p) (mput M p (.dk []))
theorem d_knew : DE X (.Dict [] [] pos) dKNew :=
  imE pe_dnewK fun σ H Q ⟨m, M, Q', r, q, kk⟩ p hp => kk _ _ _ _ (.new hp) (.ref p) (r.mem.newDk hp (Nat.zero_le _) .nil) (q p (r.mem.free hp))
theorem inv_frzD {pins : List (Addr × Obj)} {σ : SL} {H : Hp} {s : Shared} {p : Addr} {es : List (Key × V)} (I : Inv X pins σ H s) (h : H p = some (.dK es)) : ∃ ob, Inv X pins σ (upd H p (.frz ob (.dK es))) s := I.lock h True.intro
def tFzK (t : TE) : TE := fun σ H Q => t σ H fun v H1 => ∃ p es, v = .ref p ∧ H1 p = some (.dK es) ∧ ∀ ob, Q v (upd H1 p (.frz ob (.dK es)))
theorem pe_fzK {t : TE} (h : PE X e t) : PE X e (tFzK t) := by
  refine ⟨fun pins s σ H Q I q => thn (h.run pins s σ H _ I q) fun u s1 ⟨v, H1, I1, r1, p, es, e1, e2, q1⟩ => ?_⟩
  obtain ⟨ob, I2⟩ := inv_frzD I1 e2
  exact ⟨v, _, I2, r1, q1 ob⟩
/-- the dict that comes is frozen -/
def dFzK (t : DTE) : DTE := fun m M Q => t m M fun d M1 => ∃ p kvs, d = .ref p ∧ M1 p = some (.dk kvs) ∧ Q (.dct kvs) (mdel M1 p)
theorem d_fzK (h : DE X e te) : DE X e (dFzK te) :=
  imE (pe_fzK h) fun σ H Q ⟨m, M, Q', r, q, k⟩ => by
    refine ⟨m, M, _, r, q, fun d v M1 H1 g1 r1 m1 ⟨p, kvs, e1, e2, q1⟩ => ?_⟩
    subst e1
    cases r1
    obtain ⟨es, h1, z, l⟩ := m1.dk e2
    exact ⟨p, es, rfl, h1, fun ob => k _ _ _ _ (g1.trans (.dk h1)) (.dct upd_same z (l.grow (.dk h1))) (m1.frzDk h1) q1⟩
/-! ### d[k] = v -/
def dKPut (to te tv : DTE) : DTS := fun Z m M => tv m M fun v M1 => to m M1 fun x M2 => te m M2 fun y M3 => ∃ p kvs, x = .ref p ∧ M3 p = some (.dk kvs) ∧ isKb y = true ∧ kvs.length < sizeLine ∧ Z.nx m (mput M3 p (.dk (dput kvs y v)))
theorem ds_kput {value : Expr} {spos : Pos} {tv : DTE} (hu : X.A.units + 1 < cLine) (hv : DE X value tv) (ho : DE X o to) (he : DE X e te) (hs : swapsWith value (some (.Subscript o e pos)) spos.line X.env = pure false := by rfl) : DS X (.Assign [.Subscript o e pos] value spos) (dKPut to te tv) :=
  imS (ps_dput hu ho he hv hs) fun Z σ H ⟨m, M, Z', r, q, k⟩ => by
    refine ⟨m, M, _, r, q, fun v v0 M1 H1 g1 r1 m1 q1 => ⟨m, M1, _, r.grow g1 m1, q1, fun x v1 M2 H2 g2 r2 m2 q2 => ⟨m, M2, _, (r.grow g1 m1).grow g2 m2, q2, fun y v2 M3 H3 g3 r3 m3 ⟨p, kvs, e1, e2, e3, e4, q3⟩ => ?_⟩⟩⟩
    subst e1
    cases r2
    obtain ⟨es, h3, z, l⟩ := m3.dk e2
    obtain ⟨key, rfl⟩ := isKb_ex e3
    obtain rfl := rep_kV r3
    have hlen : es.length < sizeLine := by rw [← l.length]; exact e4
    have hz : (putK es key v0).length ≤ sizeLine := by have := length_putK es key v0; omega
    have g4 : Grow H3 (upd H3 p (.dK (putK es key v0))) := Grow.dk h3
    exact ⟨p, _, rfl, .inl ⟨es, key, h3, rfl, hlen, rfl⟩, k.nx _ _ _ _ (((g1.trans g2).trans g3).trans g4) (((r.grow g1 m1).grow g2 m2).grow (g3.trans g4) (m3.putDk h3 hz (l.put ((r1.grow g2).grow g3)))) q3⟩
end
end DL
/-! dicts whose keys are ints and texts: walked, by comprehension, get, setdefault, list -/
namespace DL
open PySem PySem.Spec PyProof.Rows L2
section
variable {K : PySem.W.Frag} {H : Hp}
theorem RepK.get' : ∀ {kvs : List (D × D)} {es : List (Key × V)} {i : Nat} {k : Key} {v : V}, RepK K H kvs es → es[i]? = some (k, v) → (kvs.map (·.1))[i]? = some (kD k) := fun {kvs es i k v} l e => by
  obtain ⟨d, h1, _⟩ := l.get e
  rw [List.getElem?_map, h1]
  rfl
/-- what is walked stays: frozen -/
theorem frz_ok {H0 H : Hp} {a : Addr} {ob : Obj} {es : List (Key × V)} (h : H0 a = some (.frz ob (.dK es))) (g : Grow H0 H) : H a = some (.frz ob (.dK es)) := g.frzs _ _ _ h
theorem stream_keys {a : Addr} {ob : Obj} {kvs : List (D × D)} {es : List (Key × V)} (h : H a = some (.frz ob (.dK es))) (hz : es.length ≤ sizeLine) (l : RepK K H kvs es) : Stream K (Itk a ob es) (kvs.map (·.1), none) H := by
  have hl : (kvs.map (·.1)).length = es.length := by rw [List.length_map, l.length]
  refine ⟨by show (kvs.map (·.1)).length ≤ sizeLine; rw [hl]; exact hz, fun i H1 ok hi => ⟨frz_ok h ok.1, ?_⟩, fun i H1 x H2 ok hi y => ?_, fun H1 ok => ⟨frz_ok h ok.1, ?_⟩⟩
  · rw [← hl]; exact hi
  · obtain ⟨e1, k, v, e2, e3⟩ := y
    subst e1
    subst e3
    exact ⟨.refl _, fun _ q => q, kD k, l.get' e2, rep_kD k⟩
  · show es.length ≤ (kvs.map (·.1)).length
    omega
theorem stream_vals {a : Addr} {ob : Obj} {kvs : List (D × D)} {es : List (Key × V)} (h : H a = some (.frz ob (.dK es))) (hz : es.length ≤ sizeLine) (l : RepK K H kvs es) : Stream K (Itd a ob es) (kvs.map (·.2), none) H := by
  have hl : (kvs.map (·.2)).length = es.length := by rw [List.length_map, l.length]
  refine ⟨by show (kvs.map (·.2)).length ≤ sizeLine; rw [hl]; exact hz, fun i H1 ok hi => ⟨frz_ok h ok.1, ?_⟩, fun i H1 x H2 ok hi y => ?_, fun H1 ok => ⟨frz_ok h ok.1, ?_⟩⟩
  · rw [← hl]; exact hi
  · obtain ⟨e1, k, e2⟩ := y
    subst e1
    obtain ⟨d, h1, h2⟩ := l.get e2
    exact ⟨.refl _, fun _ q => q, d, by rw [List.getElem?_map, h1]; rfl, h2.grow ok.1⟩
  · show es.length ≤ (kvs.map (·.2)).length
    omega
def pairD (p : D × D) : D := .tup [p.1, p.2]
theorem stream_items {a : Addr} {ob : Obj} {kvs : List (D × D)} {es : List (Key × V)} (h : H a = some (.frz ob (.dK es))) (hz : es.length ≤ sizeLine) (l : RepK K H kvs es) : Stream K (Iti a ob es) (kvs.map pairD, none) H := by
  have hl : (kvs.map pairD).length = es.length := by rw [List.length_map, l.length]
  refine ⟨by show (kvs.map pairD).length ≤ sizeLine; rw [hl]; exact hz, fun i H1 ok hi => ⟨frz_ok h ok.1, ?_⟩, fun i H1 x H2 ok hi y => ?_, fun H1 ok => ⟨frz_ok h ok.1, ?_⟩⟩
  · rw [← hl]; exact hi
  · obtain ⟨T, k, v, e2, e3, e4, e5⟩ := y
    subst e3
    subst e5
    obtain ⟨d, h1, h2⟩ := l.get e2
    refine ⟨.new e4, fun _ q => q.new e4, pairD (kD k, d), by rw [List.getElem?_map, h1]; rfl, ?_⟩
    exact .tup (.of upd_same) (by show 2 ≤ sizeLine; rw [sizeLine_eq]; omega) (.cons (rep_kD k) (.cons ((h2.grow ok.1).grow (.new e4)) .nil))
  · show es.length ≤ (kvs.map pairD).length
    omega
end
section
variable {X : Cx} {tg e o f : Expr} {te to tf : DTE} {pos apos cpos : Pos}
def diKeys (te : DTE) : DTI := fun m M Q => te m M fun d M1 => ∃ kvs, d = .dct kvs ∧ Q (kvs.map (·.1), none) M1
def diVals (te : DTE) : DTI := fun m M Q => te m M fun d M1 => ∃ kvs, d = .dct kvs ∧ Q (kvs.map (·.2), none) M1
def diItems (te : DTE) : DTI := fun m M Q => te m M fun d M1 => ∃ kvs, d = .dct kvs ∧ Q (kvs.map pairD, none) M1
theorem di_keys (he : DE X e te) : DI X tg e (diKeys te) :=
  imI (pi_keys he) fun σ H Q ⟨m, M, Q', r, q, k⟩ => by
    refine ⟨m, M, _, r, q, fun d v M1 H1 g1 r1 m1 ⟨kvs, e, q1⟩ => ?_⟩
    subst e
    cases r1 with
    | dct h z l => exact ⟨_, _, rfl, .inl ⟨_, h, k _ M1 H1 _ g1 m1 q1 (stream_keys h z l)⟩⟩
theorem di_keysM (he : DE X e te) (hbase : attributeBase e "keys" X.env (eval e X.env) = eval e X.env := by rfl) (hline : (apos.endLine == cpos.line) = true := by rfl) : DI X tg (.Call (.Attribute e "keys" apos) [] [] cpos) (diKeys te) :=
  imI (pi_keysM he hbase hline) fun σ H Q ⟨m, M, Q', r, q, k⟩ => by
    refine ⟨m, M, _, r, q, fun d v M1 H1 g1 r1 m1 ⟨kvs, e, q1⟩ => ?_⟩
    subst e
    cases r1 with
    | dct h z l => exact ⟨_, _, _, rfl, h, k _ M1 H1 _ g1 m1 q1 (stream_keys h z l)⟩
theorem di_vals (he : DE X e te) (hbase : attributeBase e "values" X.env (eval e X.env) = eval e X.env := by rfl) (hline : (apos.endLine == cpos.line) = true := by rfl) : DI X tg (.Call (.Attribute e "values" apos) [] [] cpos) (diVals te) :=
  imI (pi_values he hbase hline) fun σ H Q ⟨m, M, Q', r, q, k⟩ => by
    refine ⟨m, M, _, r, q, fun d v M1 H1 g1 r1 m1 ⟨kvs, e, q1⟩ => ?_⟩
    subst e
    cases r1 with
    | dct h z l => exact ⟨_, _, _, rfl, h, k _ M1 H1 _ g1 m1 q1 (stream_vals h z l)⟩
theorem di_items {elts : List Expr} {kk : Nat} {tpos : Pos} (he : DE X e te) (hbase : attributeBase e "items" X.env (eval e X.env) = eval e X.env := by rfl) (hline : (apos.endLine == cpos.line) = true := by rfl) :
    DI X (.Tuple elts kk tpos) (.Call (.Attribute e "items" apos) [] [] cpos) (diItems te) :=
  imI (pi_items he hbase hline) fun σ H Q ⟨m, M, Q', r, q, k⟩ => by
    refine ⟨m, M, _, r, q, fun d v M1 H1 g1 r1 m1 ⟨kvs, e, q1⟩ => ?_⟩
    subst e
    cases r1 with
    | dct h z l => exact ⟨_, _, _, rfl, h, k _ M1 H1 _ g1 m1 q1 (stream_items h z l)⟩
/-- the dict in the slot i is frozen ahead of the statement -/
def dFzD (i : Nat) (t : DTS) : DTS := fun Z m M => ∃ p kvs, m[i]? = some (some (.ref p)) ∧ M p = some (.dk kvs) ∧ t Z (m.set i (some (.dct kvs))) (mdel M p)
theorem ds_fzD {st : Stmt} {t : DTS} (i : Nat) (h : DS X st t) : DS X st (dFzD i t) := by
  refine ⟨fun pins s σ H Z I ⟨m, M, Z', r, ⟨p, kvs, e1, e2, q⟩, k⟩ => ?_⟩
  obtain ⟨v, hv, rv⟩ := r.slot i _ e1
  cases rv
  obtain ⟨es, h1, z, l⟩ := r.mem.dk e2
  obtain ⟨ob, I2⟩ := inv_frzD I h1
  have g : Grow H (upd H p (.frz ob (.dK es))) := Grow.dk h1
  have r2 : R X.K m (mdel M p) σ (upd H p (.frz ob (.dK es))) := r.grow g (r.mem.frzDk h1)
  have r3 := r2.set (i := i) (d := .dct kvs) (v := .ref p) (.dct upd_same z (l.grow g))
  have es' : σ.set i (some (V.ref p)) = σ := by
    refine List.ext_getElem? fun j => ?_
    by_cases c : i = j
    · subst c
      by_cases hi : i < σ.length
      · rw [List.getElem?_set_self hi, hv]
      · rw [List.getElem?_eq_none (by omega)] at hv
        cases hv
    · rw [List.getElem?_set_ne c]
  rw [es'] at r3
  exact h.run pins s σ _ Z I2 ⟨_, _, Z', r3, q, k.grow g⟩
/-! ### d.get(k), d.get(k, x) -/
theorem dict_is {K : PySem.W.Frag} {H : Hp} {a : Addr} {es : List (Key × V)} (h : Rd H a (.dK es)) : IsD H a := .inl ⟨es, h⟩
def dKGet1 (to te : DTE) : DTE := fun m M Q => to m M fun x M1 => (∃ kvs, dDict x M1 = some kvs) ∧ te m M1 fun y M2 => ∃ kvs, dDict x M2 = some kvs ∧ isKb y = true ∧ Q ((dget kvs y).getD .non) M2
theorem d_kget1 (hu : X.A.units + 1 < cLine) (ho : DE X o to) (he : DE X e te) (m : M1 X o "get" apos e cpos := by exact ⟨by rfl, by rfl, by rfl, by rfl⟩) : DE X (.Call (.Attribute o "get" apos) [e] [] cpos) (dKGet1 to te) :=
  imE (pe_dget1 hu ho he m) fun σ H Q ⟨m, M, Q', r, q, kk⟩ => by
    refine ⟨m, M, _, r, q, fun x v1 M1 H1 g1 r1 m1 ⟨⟨kvs0, e0⟩, q1⟩ => ?_⟩
    obtain ⟨p, es0, rfl, hr0, _, _⟩ := dict_at r1 m1 e0
    refine ⟨p, rfl, .inl ⟨_, hr0⟩, m, M1, _, r.grow g1 m1, q1, fun y v2 M2 H2 g2 r2 m2 ⟨kvs, e1, e2, q2⟩ => ?_⟩
    obtain ⟨p', es, e3, hr, z, l⟩ := dict_at (r1.grow g2) m2 e1
    cases e3
    obtain ⟨k, rfl⟩ := isKb_ex e2
    obtain rfl := rep_kV r2
    refine ⟨valV es k, .inl ⟨es, k, hr, rfl, rfl⟩, ?_⟩
    rcases l.val (k := k) with ⟨n1, n2⟩ | ⟨d, y, n1, n2, rd⟩
    · rw [n1] at q2
      rw [n2]
      exact kk _ _ M2 H2 (g1.trans g2) .non m2 q2
    · rw [n1] at q2
      rw [n2]
      exact kk _ _ M2 H2 (g1.trans g2) rd m2 q2
def dKGet2 (to te tf : DTE) : DTE := fun m M Q => to m M fun x M1 => (∃ kvs, dDict x M1 = some kvs) ∧ te m M1 fun y M2 => tf m M2 fun z M3 => ∃ kvs, dDict x M3 = some kvs ∧ isKb y = true ∧ Q ((dget kvs y).getD z) M3
theorem d_kget2 (hu : X.A.units + 1 < cLine) (ho : DE X o to) (he : DE X e te) (hf : DE X f tf) (m : M2 X o "get" apos e f cpos := by exact ⟨by rfl, by rfl, by rfl, by rfl⟩) : DE X (.Call (.Attribute o "get" apos) [e, f] [] cpos) (dKGet2 to te tf) :=
  imE (pe_dget2 hu ho he hf m) fun σ H Q ⟨m, M, Q', r, q, kk⟩ => by
    refine ⟨m, M, _, r, q, fun x v1 M1 H1 g1 r1 m1 ⟨⟨kvs0, e0⟩, q1⟩ => ?_⟩
    obtain ⟨p, es0, rfl, hr0, _, _⟩ := dict_at r1 m1 e0
    refine ⟨p, rfl, .inl ⟨_, hr0⟩, m, M1, _, r.grow g1 m1, q1, fun y v2 M2 H2 g2 r2 m2 q2 => ?_⟩
    refine ⟨m, M2, _, (r.grow g1 m1).grow g2 m2, q2, fun w v3 M3 H3 g3 r3 m3 ⟨kvs, e1, e2, q3⟩ => ?_⟩
    obtain ⟨p', es, e3, hr, z, l⟩ := dict_at ((r1.grow g2).grow g3) m3 e1
    cases e3
    obtain ⟨k, rfl⟩ := isKb_ex e2
    obtain rfl := rep_kV r2
    refine ⟨valV es k, .inl ⟨es, k, hr, rfl, rfl⟩, ?_⟩
    rcases l.val (k := k) with ⟨n1, n2⟩ | ⟨d, y, n1, n2, rd⟩
    · rw [n1] at q3
      rw [n2]
      exact kk _ _ M3 H3 ((g1.trans g2).trans g3) r3 m3 q3
    · rw [n1] at q3
      rw [n2]
      exact kk _ _ M3 H3 ((g1.trans g2).trans g3) rd m3 q3
end
/-! ### {k: v for ..} -/
def dKcGo (src : Src) (g : DTG) (tt : DTT) (tk tv : DTE) (m0 : DSt) (p : Addr) (Qd : List (D × D) → DM → Prop) : List D → List (D × D) → DM → Prop
  | [], acc, M => SrcV src M ∧ Qd acc M
  | d :: ds, acc, M => SrcV src M ∧ g d m0 M fun m1 M1 => tt m1 M1 fun b M2 =>
      if b = true then tk m1 M2 fun k M3 => tv m1 M3 fun v M4 => M4 p = some (.dk acc) ∧ isKb k = true ∧ dKcGo src g tt tk tv m0 p Qd ds (dput acc k v) (mput M4 p (.dk (dput acc k v)))
      else M2 p = some (.dk acc) ∧ dKcGo src g tt tk tv m0 p Qd ds acc M2
def dKc (t : DTI) (g : DTG) (tt : DTT) (tk tv : DTE) (vs : List Nat) : DTE := fun m M Q => t m M fun src M1 => src.1.length ≤ sizeLine → ∀ p, M1 p = none → dKcGo src g tt tk tv (dwipe m vs) p (fun _ M2 => Q (.ref p) M2) src.1 [] (mput M1 p (.dk []))
section
variable {X : Cx} {kx vx tg iter : Expr} {ifs : List Expr} {scope : Scope} {own : List (Str × Nat)} {pos : Pos} {t : DTI} {g : DTG} {tt : DTT} {tk tv : DTE} {ws : List Nat}
theorem kc_up {σ : SL} {H : Hp} {m : DSt} {M : DM} {Qv : VK} {Qf : Addr → DM → Prop} (hsub : ∀ i ∈ ws, i ∈ own.map (·.2)) (r : R X.K m M σ H)
    (q : t m M fun src M1 => src.1.length ≤ sizeLine → ∀ p, M1 p = none → dKcGo src g tt tk tv (dwipe m (own.map (·.2))) p (fun _ M2 => Qf p M2) src.1 [] (mput M1 p (.dk [])))
    (k : ∀ p M2 H2, Grow H H2 → RM X.K H2 M2 → Qf p M2 → Qv (.ref p) H2) : tDc (upI X.K t) (upG X.K ws g) (upT X.K tt) (upE X.K tk) (upE X.K tv) (own.map (·.2)) σ H Qv := by
  refine ⟨m, M, _, r, q, fun src M1 H1 J g1 m1 q1 st p np => ?_⟩
  have q2 := q1 st.small p (m1.free np)
  have g2 : Grow H1 (upd H1 p (.dK [])) := .new np
  refine ⟨fun i n H2 => i + n = src.1.length ∧ Grow H1 H2 ∧ ∃ acc M2, acc.length ≤ i ∧ M2 p = some (.dk acc) ∧ RM X.K H2 M2 ∧ dKcGo src g tt tk tv (dwipe m (own.map (·.2))) p (fun _ M2 => Qf p M2) (src.1.drop i) acc M2,
    ⟨src.1.length, by omega, g2, [], _, Nat.le_refl _, mput_same, m1.newDk np (Nat.zero_le _) .nil, q2⟩, ?_⟩
  rintro i n H2 ⟨hl, g3, acc, M2, ha, hp, m2, q3⟩
  have r2 : R X.K (dwipe m (own.map (·.2))) M2 (wipe σ (own.map (·.2))) H2 := (r.wipe _).grow (g1.trans g3) m2
  by_cases hlt : i < src.1.length
  · rw [List.drop_eq_getElem_cons hlt] at q3
    obtain ⟨sv, q3⟩ := q3
    have so := sv.ok g3 m2
    refine .inr ⟨st.go i H2 so hlt, fun H3 => Grow H1 H3 ∧ ∃ acc M2, acc.length ≤ i + 1 ∧ M2 p = some (.dk acc) ∧ RM X.K H3 M2 ∧ dKcGo src g tt tk tv (dwipe m (own.map (·.2))) p (fun _ M2 => Qf p M2) (src.1.drop (i + 1)) acc M2,
      fun H3 ⟨g4, z⟩ => ⟨n - 1, by omega, by omega, g4, z⟩, fun x H3 y => ?_⟩
    obtain ⟨g4, k4, d, e4, rd⟩ := st.yld i H2 x H3 so hlt y
    have ed : d = src.1[i] := by
      rw [List.getElem?_eq_getElem hlt] at e4
      exact (Option.some.inj e4).symm
    subst ed
    refine ⟨_, _, M2, _, rd, r2.grow g4 (k4 _ m2), q3, fun m5 M5 σ5 H5 g5 r5 o5 q5 => ⟨wipe_off o5 hsub, ?_⟩⟩
    refine ⟨m5, M5, _, r5, q5, fun b M6 H6 g6 m6 q6 => ?_⟩
    have g06 : Grow H1 H6 := ((g3.trans g4).trans g5).trans g6
    cases b with
    | true =>
      refine ⟨m5, M6, _, r5.grow g6 m6, q6, fun kd kv M7 H7 g7 rk m7 q7 => ?_⟩
      refine ⟨m5, M7, _, (r5.grow g6 m6).grow g7 m7, q7, fun vd vv M8 H8 g8 rv m8 ⟨e8, hk, q8⟩ => ?_⟩
      obtain ⟨key, rfl⟩ := isKb_ex hk
      obtain rfl := rep_kV rk
      obtain ⟨es, h8, hz8, rkv⟩ := m8.dk e8
      have hlen : es.length < sizeLine := by
        rw [← rkv.length]
        exact Nat.lt_of_le_of_lt ha (Nat.lt_of_lt_of_le hlt st.small)
      have hz9 : (putK es key vv).length ≤ sizeLine := by have := length_putK es key vv; omega
      have ge : Grow H8 (upd H8 p (.dK (putK es key vv))) := Grow.dk h8
      exact ⟨es, key, rfl, h8, hlen, ((g06.trans g7).trans g8).trans ge, dput acc (kD key) vd, _, Nat.le_trans (dput_len ..) (Nat.succ_le_succ ha), mput_same, m8.putDk h8 hz9 (rkv.put rv), q8⟩
    | false =>
      have q6' : M6 p = some (.dk acc) ∧ dKcGo src g tt tk tv (dwipe m (own.map (·.2))) p (fun _ M2 => Qf p M2) (src.1.drop (i + 1)) acc M6 := q6
      exact ⟨g06, acc, M6, by omega, q6'.1, m6, q6'.2⟩
  · have e : i = src.1.length := by omega
    subst e
    rw [List.drop_length] at q3
    exact .inl ⟨st.stop H2 (q3.1.ok g3 m2), k _ M2 H2 (g1.trans g3) m2 q3.2⟩
theorem d_kc (hc : X.calm = true) (hN : X.N.Nodup) (hi : DI X tg iter t) (ok : BlkOk X.N X.env.scope scope own) (hsub : ∀ i ∈ ws, i ∈ own.map (·.2))
    (hg : ∀ (s : Shared) (H : Hp) (C : Addr) (cl : List (Str × Addr)) (fp : List Addr), DG (X.blk s H scope (compEnvC scope cl C X.env) fp) ws tg g)
    (ht : ∀ (s : Shared) (H : Hp) (C : Addr) (cl : List (Str × Addr)) (fp : List Addr), DPTs (X.blk s H scope (compEnvC scope cl C X.env) fp) ifs tt)
    (hk : ∀ (s : Shared) (H : Hp) (C : Addr) (cl : List (Str × Addr)) (fp : List Addr), DE (X.blk s H scope (compEnvC scope cl C X.env) fp) kx tk)
    (hv : ∀ (s : Shared) (H : Hp) (C : Addr) (cl : List (Str × Addr)) (fp : List Addr), DE (X.blk s H scope (compEnvC scope cl C X.env) fp) vx tv)
    (hs : ∀ x, foldedSetIterable iter X.env x = pure x := by intro _; rfl) : DE X (.DictComp kx vx [⟨tg, iter, ifs, 0⟩] scope pos) (dKc t g tt tk tv (own.map (·.2))) :=
  imE (pe_dc (wi := upI X.K t) (g := upG X.K ws g) (tt := upT X.K tt) (tk := upE X.K tk) (tv := upE X.K tv) hc hN hi ok hg ht hk hv hs) fun σ H Q ⟨m, M, Q', r, q, k⟩ =>
    kc_up hsub r q fun p M2 H2 g2 m2 q2 => k _ _ M2 H2 g2 (.ref p) m2 q2
theorem ps_setKc {i : Nat} {y : Str} {py spos : Pos} {wi : TI} {g : TG} {tt : TT} {tk tv : TE} (hc : X.calm = true) (hN : X.N.Nodup) (hy : X.N[i]? = some y) (hyl : X.env.scope.names.lookup y = some .local)
    (hsw : swapsWith (.DictComp kx vx [⟨tg, iter, ifs, 0⟩] scope pos) (some (.Name y py)) spos.line X.env = pure true) (hi : PI X tg iter wi) (ok : BlkOk X.N X.env.scope scope own)
    (pg : ∀ (s : Shared) (H : Hp) (C : Addr) (cl : List (Str × Addr)) (fp : List Addr), PG (X.blk s H scope (compEnvC scope cl C X.env) fp) tg g)
    (pt : ∀ (s : Shared) (H : Hp) (C : Addr) (cl : List (Str × Addr)) (fp : List Addr), PTs (X.blk s H scope (compEnvC scope cl C X.env) fp) ifs tt)
    (pk : ∀ (s : Shared) (H : Hp) (C : Addr) (cl : List (Str × Addr)) (fp : List Addr), PE (X.blk s H scope (compEnvC scope cl C X.env) fp) kx tk)
    (pv : ∀ (s : Shared) (H : Hp) (C : Addr) (cl : List (Str × Addr)) (fp : List Addr), PE (X.blk s H scope (compEnvC scope cl C X.env) fp) vx tv) (hs : ∀ x, foldedSetIterable iter X.env x = pure x := by intro _; rfl) :
    PS X (.Assign [.Name y py] (.DictComp kx vx [⟨tg, iter, ifs, 0⟩] scope pos) spos) (tAsg (tDc wi g tt tk tv (own.map (·.2))) (gName i)) := by
  refine ⟨fun pins s σ H D I h => ?_⟩
  rw [exec_Assign_Name_used _ _ _ _ hsw]
  refine wpAny_bind (wpAny_standAt (wpAny_bind ?_))
  show wpAny _ X.A (do let _ ← comprehension (.DictComp kx vx [⟨tg, iter, ifs, 0⟩] scope pos) scope X.env (firstIterPos [⟨tg, iter, ifs, 0⟩] pos) newDict false (eval iter X.env) (some (assign (.Name y py) X.env))) _ _ s
  have h : tDc wi g tt tk tv (own.map (·.2)) σ H (fun x H1 => gName i x σ H1 D.nx) := h
  refine wpAny_bind (thn (L2.dc_core (Qf := fun _ s' => SP X pins D .next s') hc hN I hi ok pg pt pk pv hs h fun L C s' m H' I' q hn f => ?_) fun _ s' hq => wpAny_pure (wpAny_pure hq))
  show wpAny _ _ (assign (.Name y py) X.env (.ref L)) _ _ _
  refine wpAny_assign_Name (store_ok2 (v := V.ref L) I' hN hy (.inl hyl) rfl (fun s2 I2 ⟨a, sb, ha⟩ => ?_) (.inr hyl))
  obtain ⟨f0, f1, f2, f3, f4, f5⟩ := f
  have haC : C ≠ a := by
    rcases ha with z | z
    · rw [z]; exact f1
    · exact fun e => f4 y a z e.symm
  refine ⟨m, hn.sameBut sb haC, fun h3 sb3 => ?_⟩
  exact ⟨_, H', I2.turned (t' := s2.toks) (fun b o hb e => (sb3.2 b hb).trans e) f0 f1 f3 f4 f5, q⟩
/-- name = {.. for ..} on one line -/
theorem ds_setKc {y : Str} {py spos : Pos} {i : Nat} (hc : X.calm = true) (hN : X.N.Nodup) (hy : X.N[i]? = some y) (hyl : X.env.scope.names.lookup y = some .local)
    (hsw : swapsWith (.DictComp kx vx [⟨tg, iter, ifs, 0⟩] scope pos) (some (.Name y py)) spos.line X.env = pure true) (hi : DI X tg iter t) (ok : BlkOk X.N X.env.scope scope own) (hsub : ∀ i ∈ ws, i ∈ own.map (·.2))
    (hg : ∀ (s : Shared) (H : Hp) (C : Addr) (cl : List (Str × Addr)) (fp : List Addr), DG (X.blk s H scope (compEnvC scope cl C X.env) fp) ws tg g)
    (ht : ∀ (s : Shared) (H : Hp) (C : Addr) (cl : List (Str × Addr)) (fp : List Addr), DPTs (X.blk s H scope (compEnvC scope cl C X.env) fp) ifs tt)
    (hk : ∀ (s : Shared) (H : Hp) (C : Addr) (cl : List (Str × Addr)) (fp : List Addr), DE (X.blk s H scope (compEnvC scope cl C X.env) fp) kx tk)
    (hv : ∀ (s : Shared) (H : Hp) (C : Addr) (cl : List (Str × Addr)) (fp : List Addr), DE (X.blk s H scope (compEnvC scope cl C X.env) fp) vx tv)
    (hs : ∀ x, foldedSetIterable iter X.env x = pure x := by intro _; rfl) : DS X (.Assign [.Name y py] (.DictComp kx vx [⟨tg, iter, ifs, 0⟩] scope pos) spos) (dSet i (dKc t g tt tk tv (own.map (·.2)))) :=
  imS (ps_setKc (wi := upI X.K t) (g := upG X.K ws g) (tt := upT X.K tt) (tk := upE X.K tk) (tv := upE X.K tv) hc hN hy hyl hsw hi ok hg ht hk hv hs) fun Z σ H ⟨m, M, Z', r, q, k⟩ =>
    kc_up (Qf := fun p M2 => Z'.nx (m.set i (some (.ref p))) M2) hsub r q fun p M2 H2 g2 m2 q2 => k.nx _ M2 _ H2 g2 ((r.grow g2 m2).set (.ref p)) q2
end
theorem hu_1 {k : Nat} {A : Around} (hr : Room k A) : A.units + 1 < cLine := by
  have := hu_40 hr
  omega
/-- a comprehension over what is left, with what is gathered -/
theorem kc_ind {src : Src} {g : DTG} {tt : DTT} {tk tv : DTE} {m0 : DSt} {p : Addr} {Qd : List (D × D) → DM → Prop} (V : List D → List (D × D) → DM → Prop) (fin : ∀ acc M, V [] acc M → SrcV src M ∧ Qd acc M)
    (step : ∀ d ds acc M (Cn : List (D × D) → DM → Prop), (∀ acc' M', V ds acc' M' → Cn acc' M') → V (d :: ds) acc M → SrcV src M ∧ g d m0 M fun m1 M1 => tt m1 M1 fun b M2 =>
      if b = true then tk m1 M2 fun k M3 => tv m1 M3 fun v M4 => M4 p = some (.dk acc) ∧ isKb k = true ∧ Cn (dput acc k v) (mput M4 p (.dk (dput acc k v))) else M2 p = some (.dk acc) ∧ Cn acc M2) :
    ∀ ds acc M, V ds acc M → dKcGo src g tt tk tv m0 p Qd ds acc M
  | [], acc, M, h => fin acc M h
  | d :: ds, acc, M, h => step d ds acc M (dKcGo src g tt tk tv m0 p Qd ds) (kc_ind V fin step ds) h
end DL
/-! xs.insert(i, y), xs.pop(i), list of a dict -/
namespace DL
open PySem PySem.Spec PyProof.Rows L2
section
variable {X : Cx}
def mInsert : DMR := fun d ds M Q => ∃ (a : Addr) (xs : List D) (i : Int) (y : D), d = .ref a ∧ ds = [.int i, y] ∧ M a = some (.lst xs) ∧ xs.length < sizeLine ∧ 0 ≤ i ∧ i < 9223372036854775808 ∧ Q .non (mput M a (.lst (xs.take i.toNat ++ [y] ++ xs.drop i.toNat)))
theorem m_insert : MtR X "list.insert" (upM X.K mInsert) := by
  intro pins s σ H x vs v us Q I rx rv ⟨d, ds, M, Q', r1, l, m, ⟨a, xs, i, y, e1, e2, h, hz, h0, h9, q⟩, k⟩
  subst e1
  subst e2
  cases r1
  cases l with
  | cons ri l =>
    cases ri
    obtain ⟨w, rfl, rw'⟩ := repL_one l
    obtain ⟨ws, h1, z, l1⟩ := m.lst h
    have hl := l1.length
    refine mt_insert pins s σ H _ _ v us Q I rx rv ⟨a, ws, i, w, rfl, rfl, h1, by omega, h0, h9, ?_⟩
    have g : Grow H (upd H a (.lst (ws.take i.toNat ++ [w] ++ ws.drop i.toNat))) := .put h1
    refine k _ _ _ _ g .non (m.putLst h1 ?_ (((l1.take _).append (.one rw')).append (l1.drop _))) q
    rw [List.length_append, List.length_append, List.length_take, List.length_drop, List.length_singleton]
    omega
def mPopAt : DMR := fun d ds M Q => ∃ (a : Addr) (xs : List D) (i : Nat) (y : D), d = .ref a ∧ ds = [.int (i : Int)] ∧ M a = some (.lst xs) ∧ xs[i]? = some y ∧ Q y (mput M a (.lst (xs.eraseIdx i)))
theorem m_popAt : MtR X "list.pop" (upM X.K mPopAt) := by
  intro pins s σ H x vs v us Q I rx rv ⟨d, ds, M, Q', r1, l, m, ⟨a, xs, i, y, e1, e2, h, hy, q⟩, k⟩
  subst e1
  subst e2
  cases r1
  obtain ⟨w0, rfl, r0⟩ := repL_one l
  cases r0
  obtain ⟨ws, h1, z, l1⟩ := m.lst h
  obtain ⟨w, h2, h3⟩ := l1.get hy
  have hi : i < ws.length := by
    rcases Nat.lt_or_ge i ws.length with c | c
    · exact c
    · rw [List.getElem?_eq_none c] at h2
      cases h2
  have hsz : ws.length ≤ 16777216 := by rw [sizeLine_eq] at z; exact z
  have hk : seqIndex? (i : Int) ws.length = some i := by
    unfold seqIndex?
    simp
    omega
  have g : Grow H (upd H a (.lst (ws.eraseIdx i))) := .put h1
  refine mt_popAt pins s σ H _ _ v us Q I rx rv ⟨a, ws, i, i, w, rfl, rfl, h1, by omega, by omega, hk, h2, ?_⟩
  have hle : (ws.eraseIdx i).length ≤ ws.length := (List.length_eraseIdx_le ..)
  exact k _ _ _ _ g (h3.grow g) (m.putLst h1 (by omega) (l1.eraseIdx i)) q
end
end DL
/-! a comprehension each of whose items takes draws -/
namespace DL
open PySem PySem.Spec PyProof.Rows L2
theorem lc_draw {src : Src} {g : DTG} {te : DTE} {m0 : DSt} {Qd : Addr → List D → DM → Prop} {M : DM} {p : Addr} {o1 : DO} (P : D → Prop) (hsrc : src.2 = none) (ho : DrO o1)
    (step : ∀ d ∈ src.1, ∀ (r : Addr) (l : DO) (o : DO), p ≠ r → M r = none → DrO o → ∀ C1 : D → DM → Prop, (∀ o' y, DrO o' → P y → C1 y (mput (mput M p o') r l)) → g d m0 (mput (mput M p o) r l) fun m1 M1 => te m1 M1 C1)
    (fin : ∀ r o acc, p ≠ r → mput M p o r = none → DrO o → acc.length = src.1.length → (∀ y ∈ acc, P y) → Qd r acc (mput (mput M p o) r (.lst acc))) :
    ∀ r, mput M p o1 r = none → dLcGo src g dYes te m0 r (Qd r) src.1 [] (mput (mput M p o1) r (.lst [])) := fun r hr => by
  have hpr : p ≠ r := ne_of_fresh mput_same hr
  have hrM : M r = none := by rw [mput_ne hpr.symm] at hr; exact hr
  have key : ∀ (its : List D) (acc : List D) (o : DO), (∀ d ∈ its, d ∈ src.1) → DrO o → (∀ y ∈ acc, P y) → acc.length + its.length = src.1.length → dLcGo src g dYes te m0 r (Qd r) its acc (mput (mput M p o) r (.lst acc)) := by
    intro its
    induction its with
    | nil =>
      intro acc o _ ho ha hl
      refine ⟨fun a e => ?_, fin r o acc hpr (by rw [mput_ne hpr.symm]; exact hrM) ho (by simpa using hl) ha⟩
      rw [hsrc] at e
      cases e
    | cons d its ih =>
      intro acc o hs ho ha hl
      refine ⟨fun a e => (by rw [hsrc] at e; cases e), ?_⟩
      have z := step d (hs d (by simp)) r (.lst acc) o hpr hrM ho (fun y M3 => M3 r = some (.lst acc) ∧ dLcGo src g dYes te m0 r (Qd r) its (acc ++ [y]) (mput M3 r (.lst (acc ++ [y])))) fun o' y ho' hy => ⟨mput_same, by
        rw [mput_mput]
        refine ih _ o' (fun x hx => hs x (by simp [hx])) ho' (fun x hx => ?_) (by rw [List.length_append, List.length_singleton]; rw [List.length_cons] at hl; omega)
        rcases List.mem_append.mp hx with hx | hx
        · exact ha x hx
        · rw [List.mem_singleton.mp hx]
          exact hy⟩
      exact z
  exact key src.1 [] o1 (fun _ h => h) ho (by simp) (by simp)
def ar7 (p : D → D → D → D → D → D → D → DM → DVK → Prop) : DSp := fun ds M Q => ∃ a b c d e f g, ds = [a, b, c, d, e, f, g] ∧ p a b c d e f g M Q
def ar8 (p : D → D → D → D → D → D → D → D → DM → DVK → Prop) : DSp := fun ds M Q => ∃ a b c d e f g h, ds = [a, b, c, d, e, f, g, h] ∧ p a b c d e f g h M Q
theorem len7 {p} {ds : List D} {M : DM} {Q : DVK} (h : ar7 p ds M Q) : ds.length = 7 := by obtain ⟨_, _, _, _, _, _, _, rfl, _⟩ := h; rfl
theorem len8 {p} {ds : List D} {M : DM} {Q : DVK} (h : ar8 p ds M Q) : ds.length = 8 := by obtain ⟨_, _, _, _, _, _, _, _, rfl, _⟩ := h; rfl
theorem rangeD0 (n : Nat) : rangeD 0 n = (List.range n).map fun k => D.int ((k : Nat) : Int) := by simp [rangeD]
theorem rangeD_cons (lo : Int) (n : Nat) : rangeD lo (n + 1) = D.int lo :: rangeD (lo + 1) n := by
  simp only [rangeD, List.range_succ_eq_map, List.map_cons, List.map_map, Function.comp_def, Int.natCast_zero, Int.add_zero]
  congr 1
  refine List.map_congr_left fun i _ => ?_
  congr 1
  simp
  omega
theorem mem_rangeD {lo : Int} {n : Nat} {d : D} (h : d ∈ rangeD lo n) : ∃ i : Nat, i < n ∧ d = .int (lo + (i : Nat)) := by
  unfold rangeD at h
  obtain ⟨i, hi, rfl⟩ := List.mem_map.mp h
  exact ⟨i, List.mem_range.mp hi, rfl⟩
theorem rangeD_len (n : Int) : (rangeD 0 n.toNat).length = n.toNat := by simp [rangeD]
end DL
/-! sets of texts: sorted(set(xs)), len(set(xs)) of a list of texts -/
namespace DL
open PySem PySem.Spec PyProof.Rows L2
/-- what a set's element is told by -/
def decS (v : Value) : Str := match v with
  | .str x _ => x
  | _ => Str.empty
theorem decS_is {P : Program} {w : World} {k : Str} {v : Value} (h : (PySem.strKind P w).is k v = true) : decS v = k := by
  obtain ⟨t, rfl⟩ := Value.isStrOf_shape (show Value.isStrOf k v = true from h)
  rfl
theorem is_decS {P : Program} {w : World} {k : Str} (t : Tok) : (PySem.strKind P w).is k (.str k t) = true := by
  show Value.isStrOf k (.str k t) = true
  simp [Value.isStrOf]
/-- the elements: texts with their hashes -/
def ElS (w : World) (e : Int × Value) : Prop := ∃ x t, e.2 = Value.str x t ∧ e.1 = hashStr w x
def keyS (e : Int × Value) : Str := decS e.2
/-- the set of texts at a -/
def SetT (w : World) (h : Heap) (a : Addr) (S : Str → Bool) (n : Nat) : Prop :=
  ∃ o es ep t, h.get? a = some o ∧ o.ExactSet ∧ o.data = .set es ep t ∧ (∀ e ∈ es.toList, ElS w e) ∧ (es.toList.map keyS).Nodup ∧ (∀ k, S k = true ↔ k ∈ es.toList.map keyS) ∧
    es.size < scanBound ∧ t.fits es.size = true ∧ es.size = n ∧ Ris t.place.toList ∧ (w.params.followText "set-order" = true ∨ t.led = true)
section
variable {P : Program} {w : World} {h h' : Heap} {a : Addr} {S : Str → Bool} {n : Nat}
theorem SetT.at (R : SetT w h a S n) (k : ∀ o, h.get? a = some o → h'.get? a = some o) : SetT w h' a S n := let ⟨o, es, ep, t, ho, r⟩ := R; ⟨o, es, ep, t, k o ho, r⟩
theorem SetT.congr {S' : Str → Bool} (R : SetT w h a S n) (e : ∀ k, S' k = S k) : SetT w h a S' n := by
  rw [show S' = S from funext e]
  exact R
theorem elS_elems {l : List (Int × Value)} (g : ∀ e ∈ l, ElS w e) : ElemsOf (PySem.strKind P w) l := fun e he => by
  obtain ⟨x, t, h1, h2⟩ := g e he
  refine ⟨⟨x, ?_, h2⟩, ?_⟩
  · rw [h1]
    exact is_decS t
  · rw [h1]
    rfl
theorem elS_is {e : Int × Value} (g : ElS w e) (k : Str) : (PySem.strKind P w).is k e.2 = true ↔ keyS e = k := by
  obtain ⟨x, t, h1, _⟩ := g
  unfold keyS
  rw [h1]
  constructor
  · intro z
    exact decS_is (P := P) (w := w) z
  · intro z
    have z : x = k := z
    rw [← z]
    exact is_decS t
theorem elS_mem {l : List (Int × Value)} (g : ∀ e ∈ l, ElS w e) (k : Str) : k ∈ l.map keyS ↔ ∃ e ∈ l, (PySem.strKind P w).is k e.2 = true := by
  rw [List.mem_map]
  exact ⟨fun ⟨e, he, q⟩ => ⟨e, he, (elS_is (g e he) k).2 q⟩, fun ⟨e, he, q⟩ => ⟨e, he, (elS_is (P := P) (g e he) k).1 q⟩⟩
theorem setT_new {h : Heap} {a : Addr} (ho : h.get? a = some { cls := .type "set", dict := none, data := .set #[] 0 (.fresh 0 0 (!w.params.followText "set-order")) }) : SetT w h a (fun _ => false) 0 := by
  refine ⟨_, #[], 0, _, ho, ⟨rfl, rfl, rfl⟩, rfl, fun e he => by simp at he, by simp, fun k => by simp, by decide, rfl, rfl, List.Pairwise.nil, ?_⟩
  show _ ∨ (!w.params.followText "set-order") = true
  cases w.params.followText "set-order"
  · exact .inr rfl
  · exact .inl rfl
end
section
variable {P : Program} {w : World} {A : Around} {E : Value → Shared → Prop} {s : Shared} {a : Addr} {S : Str → Bool} {n : Nat}
/-- what is stored, and the table laid anew where it is too full -/
theorem setT_tail {g : Bool → Sem Unit} (hg : ∀ (b : Bool) (s₁ : Shared) (Q' : Unit → Shared → Prop), Q' () s₁ → wpAny (model P w) A (g b) Q' E s₁)
    {o : Obj} {es es1 : Array (Int × Value)} {ep : Nat} {t t2 : SetTable} (ho : s.heap.get? a = some o) (hex : o.ExactSet) (hd : o.data = .set es ep t)
    {S' : Str → Bool} (g1 : ∀ e ∈ es1.toList, ElS w e) (nd1 : (es1.toList.map keyS).Nodup) (m1 : ∀ k, S' k = true ↔ k ∈ es1.toList.map keyS)
    (hb1 : es1.size < scanBound) (hf2 : t2.fits es1.size = true) (hr : Ris t2.place.toList) (hl : w.params.followText "set-order" = true ∨ t2.led = true) {wasDummy : Bool} {R : Option Bool → Shared → Prop}
    (hR : ∀ h', Heap.SameBut a s.heap h' → SetT w h' a S' es1.size → R (some true) { s with heap := h' }) :
    wpAny (model P w) A (do
        storeSet a es1 t2
        if (!wasDummy && t2.tooFull) = true then do
            g (relayAll t2 es1 (SetTable.grown es1.size)).2.2
            storeSet a (relayAll t2 es1 (SetTable.grown es1.size)).1 (relayAll t2 es1 (SetTable.grown es1.size)).2.1
            pure (some true)
          else pure (some true)) R E s := by
  have first := store_at (es' := es1) (t' := t2) ho hd
  have same := Heap.SameBut.update s.heap a (Obj.putSet es1 t2)
  refine wpAny_bind (wpAny_storeSet_of ho hd ?_ (fits_of_scanBound hb1))
  split
  · have pm := relayAll_perm t2 es1 (SetTable.grown es1.size)
    have hf3 := relayAll_fits t2 es1 (SetTable.grown es1.size)
    have hr3 := relayAll_ris t2 es1 (SetTable.grown es1.size)
    have hl3 := relayAll_led t2 es1 (SetTable.grown es1.size)
    generalize relayAll t2 es1 (SetTable.grown es1.size) = Z at pm hf3 hr3 hl3 ⊢
    obtain ⟨es2, t3, gave⟩ := Z
    dsimp only at pm hf3 hr3 hl3 ⊢
    have sz : es2.size = es1.size := by rw [← Array.length_toList, pm.length_eq, Array.length_toList]
    have bd : es2.size < scanBound := by rw [sz]; exact hb1
    refine wpAny_bind (hg _ _ _ (wpAny_bind (wpAny_storeSet_of first rfl ?_ (fits_of_scanBound bd))))
    refine wpAny_pure (hR _ (same.trans (Heap.SameBut.update _ a _)) ⟨_, es2, _, t3, store_at (es' := es2) (t' := t3) first rfl, hex, rfl, fun e he => g1 e (pm.mem_iff.mp he), (pm.map keyS).nodup_iff.mpr nd1, fun k => (m1 k).trans (pm.map keyS).mem_iff.symm, bd, hf3, sz, hr3, ?_⟩)
    rcases hl with z | z
    · exact .inl z
    · exact .inr (by rw [hl3]; exact z)
  · exact wpAny_pure (hR _ same ⟨_, es1, _, t2, first, hex, rfl, g1, nd1, m1, hb1, hf2, rfl, hr, hl⟩)
theorem setT_add {k : Str} {tk : Tok} {Q : Bool → Shared → Prop} (R : SetT w s.heap a S n) (room : n + 1 < scanBound)
    (hQ : ∀ h', Heap.SameBut a s.heap h' → SetT w h' a (fun j => S j || decide (j = k)) (if S k = true then n else n + 1) → Q (!S k) { s with heap := h' }) :
    wpAny (model P w) A (setAddHashed a (.str k tk) ((PySem.strKind P w).hash k)) Q E s := by
  obtain ⟨o, es, ep, t, ho, hex, hd, g, nd, hm, hb, hf, hn, hr, hl⟩ := R
  have hkey : (PySem.strKind P w).is k (.str k tk) = true := is_decS tk
  have hsc : (Value.str k tk).scannable = true := rfl
  have hel : ElemsOf (PySem.strKind P w) es.toList := elS_elems g
  unfold setAddHashed setAddHashedIn
  refine wpAny_holding (wpAny_bind (wpAny_setState_of ho hd hf ?_))
  dsimp only
  rw [byScan_of hsc hb hel]
  simp only [↓reduceIte]
  unfold setAddByScan
  refine wpAny_bind (wpAny_bind (wpAny_rule (wpAny_bind (wpAny_setScan_of hkey ho hd hf hel ?_))))
  cases hfi : List.findIdx? (fun e => (PySem.strKind P w).is k e.2) es.toList with
  | some j =>
    dsimp only
    obtain ⟨hj, pj, _⟩ := List.findIdx?_eq_some_iff_getElem.mp hfi
    have there : S k = true := (hm k).2 ((elS_mem (P := P) (w := w) g k).2 ⟨es.toList[j], List.getElem_mem hj, pj⟩)
    have q := hQ s.heap (Heap.SameBut.refl a s.heap) ⟨o, es, ep, t, ho, hex, hd, g, nd, fun i => by
      rw [Bool.or_eq_true, decide_eq_true_eq, ← hm i]
      exact ⟨fun z => z.elim id (fun e => e ▸ there), .inl⟩, hb, hf, by rw [if_pos there]; exact hn, hr, hl⟩
    rw [there] at q
    exact wpAny_pure (wpAny_pure q)
  | none =>
    dsimp only
    have out : k ∉ es.toList.map keyS := fun z => by
      obtain ⟨e, he, q⟩ := (elS_mem (P := P) (w := w) g k).1 z
      have c := List.findIdx?_eq_none_iff.mp hfi e he
      rw [q] at c
      cases c
    have notS : S k = false := by
      cases q : S k with
      | false => rfl
      | true => exact absurd ((hm k).1 q) out
    have gave1 : ∀ (b : Bool) {s₁ : Shared} {Q' : Unit → Shared → Prop}, Q' () s₁ → wpAny (model P w) A (match b with | true => rule "set.scan.the-table-gave-way" | false => pure ()) Q' E s₁ :=
      fun b s₁ Q' q => by cases b <;> first | exact wpAny_pure q | exact wpAny_rule q
    have pm := layNew_perm t es ((PySem.strKind P w).hash k) (.str k tk)
    have hf1 := layNew_fits t es ((PySem.strKind P w).hash k) (.str k tk)
    have hr1 := layNew_ris t es ((PySem.strKind P w).hash k) (.str k tk) hr
    have hl1 := layNew_led t es ((PySem.strKind P w).hash k) (.str k tk)
    generalize layNew t es ((PySem.strKind P w).hash k) (.str k tk) = Z at pm hf1 hr1 hl1 ⊢
    obtain ⟨es1, t1, wasDummy, gave⟩ := Z
    dsimp only at pm hf1 hr1 hl1 ⊢
    rw [Array.toList_push] at pm
    have pc : es1.toList.Perm (((PySem.strKind P w).hash k, Value.str k tk) :: es.toList) := pm.trans (List.perm_append_singleton _ _)
    have pk : (es1.toList.map keyS).Perm (k :: es.toList.map keyS) := pc.map keyS
    have g1 : ∀ e ∈ es1.toList, ElS w e := fun e he => by
      rcases List.mem_cons.mp (pc.mem_iff.mp he) with z | z
      · rw [z]
        exact ⟨k, tk, rfl, rfl⟩
      · exact g e z
    have nd1 : (es1.toList.map keyS).Nodup := pk.nodup_iff.mpr (List.nodup_cons.mpr ⟨out, nd⟩)
    have m1 : ∀ i, (S i || decide (i = k)) = true ↔ i ∈ es1.toList.map keyS := fun i => by
      rw [Bool.or_eq_true, decide_eq_true_eq, hm i, pk.mem_iff, List.mem_cons]
      exact Or.comm
    have sz : es1.size = n + 1 := by rw [← Array.length_toList, pc.length_eq, List.length_cons, Array.length_toList, hn]
    have bd : es1.size < scanBound := by rw [sz]; exact room
    have hled : w.params.followText "set-order" = true ∨ t1.led = true := by
      rcases hl with z | z
      · exact .inl z
      · exact .inr (by rw [hl1]; exact z)
    have fin : ∀ h', Heap.SameBut a s.heap h' → SetT w h' a (fun j => S j || decide (j = k)) es1.size → Q true { s with heap := h' } := fun h' sb r => by
      have q := hQ h' sb
      rw [notS] at q
      rw [sz] at r
      exact q r
    refine wpAny_bind (gave1 _ ?_)
    split
    · refine wpAny_bind ?_
      rw [hashByValue_scannable 8 hsc]
      refine wpAny_pure (setT_tail (fun b s₁ Q' q => by cases b <;> first | exact wpAny_pure q | exact wpAny_rule q) ho hex hd g1 nd1 m1 bd ?_ ?_ ?_ fun h' sb r => ?_)
      · first | (split <;> first | exact hf1 | exact SetTable.fits_plain_off hf1) | exact hf1
      · first | (split <;> exact hr1) | exact hr1
      · first | (split <;> exact hled) | exact hled
      · dsimp only
        exact wpAny_pure (fin h' sb r)
    · refine wpAny_bind (wpAny_pure ?_)
      simp only [↓reduceIte]
      refine setT_tail (fun b s₁ Q' q => by cases b <;> first | exact wpAny_pure q | exact wpAny_rule q) ho hex hd g1 nd1 m1 bd hf1 hr1 hled fun h' sb r => ?_
      dsimp only
      exact wpAny_pure (fin h' sb r)
end
section
variable {P : Program} {w : World} {A : Around} {E : Value → Shared → Prop} {s : Shared}
/-- the loop of set(xs): what stands behind the i-th draw -/
theorem setT_update {I : Addr} {fp wr : List Addr} {G : Array GenState → Array GenState → Prop} {n : Nat} {Pv : Nat → Value → Prop} {St : Nat → Shared → Prop} {R : Result → Shared → Prop}
    (W : WalksS P w A.in1 I fp wr G n Pv St) (S : Addr) (hSf : S ∉ fp) (xs : List Str) (hn : n = xs.length) (hb : xs.length + 1 < scanBound) (hval : ∀ i v, Pv i v → ∃ x t, xs[i]? = some x ∧ v = .str x t) :
    ∀ (k i : Nat) (s : Shared), n - i = k → i ≤ n → St i s → (∃ c, c ≤ i ∧ SetT w s.heap S (fun j => decide (j ∈ xs.take i)) c) →
      (∀ s' c, Moved (S :: wr) G s s' → c ≤ n → SetT w s'.heap S (fun j => decide (j ∈ xs)) c → R (.ok (.ret .none)) s') →
      codeAny (model P w) A (.builtin "set.update.loop" ⟨[.ref S, .ref I], []⟩) R s := by
  have hSw : S ∉ wr := fun z => hSf (W.sub _ z)
  have more : ∀ b ∈ wr, b ∈ S :: wr := fun b z => List.mem_cons_of_mem _ z
  intro k
  induction k with
  | zero =>
    intro i s hk hi hst ⟨c, hc, hS⟩ hR
    obtain rfl : i = n := by omega
    refine codeAny_builtin F.entry_set_update_loop ?_
    rw [Around.under_plainId F.plain_set_update_loop _]
    refine wpAny_bind (m := pyNext (.ref I)) (W.done s _ _ hst fun s' hm => ?_)
    rw [List.take_of_length_le (by omega)] at hS
    exact wpAny_pure (hR s' c (hm.mono more) hc (hS.at fun o e => hm.heap S o hSw e))
  | succ k ih =>
    intro i s hk hi hst ⟨c, hc, hS⟩ hR
    have lt : i < n := by omega
    refine codeAny_builtin F.entry_set_update_loop ?_
    rw [Around.under_plainId F.plain_set_update_loop _]
    refine wpAny_bind (m := pyNext (.ref I)) (W.item i s _ _ lt hst fun v s' hP hst' hm => ?_)
    obtain ⟨x, t, hx, rfl⟩ := hval i v hP
    have hS1 : SetT w s'.heap S (fun j => decide (j ∈ xs.take i)) c := hS.at fun o e => hm.heap S o hSw e
    refine wpAny_bind (m := holding [Value.str x t] (setAdd S (.str x t))) (wpAny_holding ?_)
    unfold setAdd
    refine wpAny_holding (wpAny_bind ((PySem.strKind P w).pyHash (k := x) (is_decS t) ?_))
    refine setT_add (s := { s' with toks := s'.toks + 1 }) hS1 (by omega) fun h' hsb hS2 => ?_
    have hS3 : SetT w h' S (fun j => decide (j ∈ xs.take (i + 1))) (if decide (x ∈ xs.take i) = true then c else c + 1) := hS2.congr fun j => by
      rw [List.take_add_one, hx]
      simp [List.mem_append]
    have hc3 : (if decide (x ∈ xs.take i) = true then c else c + 1) ≤ i + 1 := by split <;> omega
    refine wpAny_pure ⟨plainId_quiet F.plain_set_update_loop _, ih (i + 1) _ (by omega) lt (W.frame _ s' _ _ hst' (Nat.le_succ _) fun b hb o e => ?_) ⟨_, hc3, hS3⟩ fun s'' c2 hm2 hc2 hS4 => ?_⟩
    · rw [hsb.2 b (fun z : b = S => hSf (by rw [← z]; exact hb))]
      exact e
    · refine hR s'' c2 (Moved.trans W.gtrans ((hm.mono more).then_heap (Nat.le_succ _) fun b o hb e => ?_) hm2) hc2 hS4
      rw [hsb.2 b (fun z : b = S => hb (by rw [z]; exact List.mem_cons_self))]
      exact e
set_option maxHeartbeats 3200000 in
/-- set(xs), a list of texts -/
theorem call_set_listT {l : Addr} {items : Array Value} (xs : List Str) {Q : Value → Shared → Prop} (hh : A.handled = none) (hl : s.heap.IsList l items) (hsz : items.size = xs.length) (hval : ∀ (i : Nat) (v : Value), items[i]? = some v → ∃ x t, xs[i]? = some x ∧ v = .str x t) (hb : xs.length + 1 < scanBound)
    (h : ∀ (h' : Heap) (tk c : Nat), SetT w h' s.heap.objs.size (fun j => decide (j ∈ xs)) c → c ≤ xs.length → (∀ b o, s.heap.get? b = some o → h'.get? b = some o) → Q (.ref s.heap.objs.size) { s with heap := h', toks := tk }) :
    wpAny (model P w) A (call (.type "set") [.ref l]) Q E s := by
  obtain ⟨c, tl, hmro⟩ := F.called_set.mro
  have hmade := F.called_set.made
  have hsub := F.called_set.sub
  have h1 := F.called_set.notType
  have h2 := F.called_set.canCreate
  have hct := F.typeCall_set_1 (.ref l)
  refine wpAny_call (codeAny_of_tree (show wpAny _ _ (callAny (.type "set") _) _ _ _ from wpAny_pure ⟨Code.quiet_builtin _ (by decide +kernel), codeAny_builtin F.entry_type_call ?_⟩))
  rw [Around.under_plain (weight_type_call_type "set" [.ref l] []) rfl]
  repeat (any_goals (first | assumption | wp_step))
  obtain ⟨nw, hnw⟩ : ∃ nw : Obj, nw = { cls := .type "set", dict := none, data := .set #[] 0 (.fresh 0 0 (!w.params.followText "set-order")) } := ⟨_, rfl⟩
  refine codeAny_mono (code_set_led1 (.ref l) (E := E) (Q₁ := fun obj s₁ => obj = .ref s.heap.objs.size ∧ s₁ = { s with heap := s.heap.push nw }) ⟨rfl, by rw [hnw]⟩) fun r s₁ hr => ?_
  cases r with
  | error e => exact hr
  | ok fl =>
    cases fl with
    | ret obj =>
      obtain ⟨rfl, rfl⟩ := hr
      have hS : (s.heap.push nw).get? s.heap.objs.size = some nw := Heap.get?_push_size _ (by rw [hnw]; rfl)
      have hT : Shared.TypeIs { s with heap := s.heap.push nw } (.ref s.heap.objs.size) "set" := ⟨_, hS, by rw [hnw]⟩
      have hli := F.called_set.init.lookup
      have hbi := F.called_set.init.bind (.ref s.heap.objs.size)
      repeat (any_goals (first | assumption | wp_step))
      refine codeAny_mono (codeAny_call_builtin (R := wants (fun r s₂ => r = .none ∧ ∃ h' tk c, s₂ = { s with heap := h', toks := tk } ∧ SetT w h' s.heap.objs.size (fun j => decide (j ∈ xs)) c ∧ c ≤ xs.length ∧
          (∀ b o, s.heap.get? b = some o → h'.get? b = some o)) E) F.called_set.init.plain F.entry_set_init (check_set_init_1 hT ?_)) fun r₂ s₂ hr₂ => ?_
      · obtain ⟨ol, hol, hcl, nl, hdl⟩ := hl
        obtain ⟨ocls, odict, odata, oslots⟩ := ol
        simp only at hcl hdl
        subst hcl hdl
        have hol' : (s.heap.push nw).get? l = some { cls := .type "list", dict := odict, data := .seq items nl, slots := oslots } := Heap.get?_push_of_some _ hol
        have hsls := F.sub_list_set
        have hslf := F.sub_list_frozenset
        have hne : (Value.type "list" == Value.type "dict") = false := by decide
        have hl1 : (s.heap.push nw).IsList l items := ⟨_, hol', rfl, nl, rfl⟩
        have hlS : l < s.heap.objs.size := Heap.lt_size hol
        have hnone : A.in1.in1.in1.handled = none := by simp [hh]
        have szp : (s.heap.push nw).objs.size = s.heap.objs.size + 1 := Heap.size_push _ _
        have hneI : l ≠ (s.heap.push nw).objs.size := by
          rw [szp]
          exact Nat.ne_of_lt (Nat.lt_succ_of_lt hlS)
        have hSf : s.heap.objs.size ∉ [(s.heap.push nw).objs.size, l] := by
          simp only [List.mem_cons, List.not_mem_nil, or_false, not_or]
          rw [szp]
          exact ⟨Nat.ne_of_lt (Nat.lt_succ_self _), Nat.ne_of_gt hlS⟩
        subst hnw
        unfold Builtin.«set.__init__» noKeywords Builtin.Frozenset.updateFrom
        generalize hPI : pyIter = PI
        wp_walk
        subst hPI
        refine wpAny_pyIter_list hl1 ?_
        refine wpAny_bind (wpAny_runValue ?_)
        refine setT_update ((Walks.list hnone _ l hneI items).toS) s.heap.objs.size hSf xs hsz hb hval (items.size - 0) 0 _ (by omega) (Nat.zero_le _) ⟨⟨_, Heap.get?_push_size _ rfl, rfl, rfl⟩, (hl1.push _)⟩ ?hS0 ?hR
        case hS0 =>
          refine ⟨0, Nat.le_refl 0, (setT_new (w := w) ?_).congr fun k => by simp⟩
          exact Heap.get?_push_of_some _ hS
        case hR =>
          intro s' c' hm hc' hS'
          obtain ⟨h', g2, d', tk', os'⟩ := s'
          obtain rfl : g2 = s.gens := hm.gens
          obtain rfl : d' = s.drawn := hm.drawn
          obtain rfl : os' = s.os := hm.os
          rw [hsz] at hc'
          refine wpAny_pure (wpAny_pure ⟨rfl, h', tk', c', rfl, hS', hc', fun b o e => ?_⟩)
          have hb0 : b < s.heap.objs.size := Heap.lt_size e
          refine hm.heap b o ?_ (Heap.get?_push_of_some _ (Heap.get?_push_of_some _ e))
          simp only [List.mem_cons, List.not_mem_nil, or_false, not_or]
          rw [szp]
          exact ⟨Nat.ne_of_lt hb0, Nat.ne_of_lt (Nat.lt_succ_of_lt hb0)⟩
      · cases r₂ with
        | error e => exact hr₂
        | ok fl₂ =>
          cases fl₂ with
          | ret r =>
            obtain ⟨rfl, h', tk, c', rfl, hS', hc', hk'⟩ := hr₂
            repeat (any_goals (first | assumption | wp_step))
            exact h _ _ _ hS' hc' hk'
          | _ => exact hr₂.elim
    | _ => exact hr.elim
end
end DL
/-! sorted(set(a list of texts)), len(set(a list of texts)) -/
namespace DL
open PySem PySem.Spec PyProof.Rows L2
/-- texts in their order -/
abbrev LeS (a b : Str) : Prop := a.cps.toList ≤ b.cps.toList
theorem leS_trans {a b c : Str} (h : LeS a b) (k : LeS b c) : LeS a c := List.le_trans h k
theorem leS_total (a b : Str) : LeS a b ∨ LeS b a := List.le_total _ _
theorem leS_anti {a b : Str} (h : LeS a b) (k : LeS b a) : a = b := by
  have e : a.cps.toList = b.cps.toList := List.le_antisymm h k
  cases a
  cases b
  simp only [Str.mk.injEq]
  exact Array.toList_inj.mp e
theorem sortedS_uniq : ∀ {as bs : List Str}, as.Pairwise LeS → bs.Pairwise LeS → as.Nodup → bs.Nodup → (∀ k, k ∈ as ↔ k ∈ bs) → as = bs
  | [], [], _, _, _, _, _ => rfl
  | [], b :: bs, _, _, _, _, h => by
    have := (h b).mpr (by simp)
    cases this
  | a :: as, [], _, _, _, _, h => by
    have := (h a).mp (by simp)
    cases this
  | a :: as, b :: bs, h1, h2, n1, n2, h => by
    rw [List.pairwise_cons] at h1 h2
    rw [List.nodup_cons] at n1 n2
    have e : a = b := by
      rcases List.mem_cons.mp ((h a).mp (by simp)) with e | ha
      · exact e
      · rcases List.mem_cons.mp ((h b).mpr (by simp)) with e | hb
        · exact e.symm
        · exact leS_anti (h1.1 b hb) (h2.1 a ha)
    subst e
    congr 1
    refine sortedS_uniq h1.2 h2.2 n1.2 n2.2 fun k => ⟨fun hk => ?_, fun hk => ?_⟩
    · rcases List.mem_cons.mp ((h k).mp (by simp [hk])) with e | z
      · exact absurd (e ▸ hk) n1.1
      · exact z
    · rcases List.mem_cons.mp ((h k).mpr (by simp [hk])) with e | z
      · exact absurd (e ▸ hk) n2.1
      · exact z
section
variable {P : Program} {w : World} {A : Around} {E : Value → Shared → Prop} {s : Shared}
inductive TxtsAre : List Value → List Str → Prop
  | nil : TxtsAre [] []
  | cons (x : Str) (t : Tok) {us : List Value} {xs : List Str} : TxtsAre us xs → TxtsAre (Value.str x t :: us) (x :: xs)
theorem TxtsAre.length : ∀ {us : List Value} {xs : List Str}, TxtsAre us xs → us.length = xs.length
  | _, _, .nil => rfl
  | _, _, .cons _ _ h => congrArg (· + 1) h.length
theorem txts_of : ∀ (us : List Value), (∀ v ∈ us, ∃ x t, v = Value.str x t) → TxtsAre us (us.map decS)
  | [], _ => .nil
  | u :: us, h => by
    obtain ⟨x, t, rfl⟩ := h u (by simp)
    exact .cons x t (txts_of us fun v hv => h v (by simp [hv]))
theorem txts_each {us : List Value} {xs : List Str} (h : TxtsAre us xs) : PySem.W.EachIs (fun v k => ∃ t, v = Value.str k t) us xs := by
  induction h with
  | nil => exact .nil
  | cons k t _ ih => exact .cons ⟨t, rfl⟩ ih
theorem each_txts {us : List Value} {xs : List Str} (h : PySem.W.EachIs (fun v k => ∃ t, v = Value.str k t) us xs) : TxtsAre us xs := by
  induction h with
  | nil => exact .nil
  | cons r _ ih =>
    obtain ⟨t, rfl⟩ := r
    exact .cons _ t ih
/-- sorted(a set of texts) -/
theorem sorted_setT {a : Addr} {S : Str → Bool} {n : Nat} {Q : Value → Shared → Prop} (R : SetT w s.heap a S n) (hh : A.handled = none) (hu : A.units + 40 < cLine)
    (hQ : ∀ s' p (out : Array Value) (c : Nat) (xs : List Str), (∀ b o, s.heap.get? b = some o → s'.heap.get? b = some o) → s'.gens = s.gens → s'.os = s.os → s.heap.objs.size ≤ p →
      s'.heap.get? p = some (seqObj "list" out c) → TxtsAre out.toList xs → xs.Pairwise LeS → xs.Nodup → (∀ k, k ∈ xs ↔ S k = true) → xs.length = n → Q (.ref p) s') :
    wpAny (model P w) A (call (.builtin "sorted") [.ref a]) Q E s := by
  obtain ⟨o, es, ep, t, ho, hex, hd, g, nd, hm, hb, hf, hn, hr, hl⟩ := R
  refine Calls.call_function_entry kind_sorted plain_sorted entry_sorted (args_sorted1 _) ?_
  unfold Builtin.«sorted»
  refine wpAny_bind (m := checkCount "sorted" 1 1 _) (wpAny_pure ?_)
  refine wpAny_bind (collect_set (A := A.in1) hh ⟨o, ho, hex.1, hd⟩ hf hb hr hl fun s1 vs k1 hz g1 o1 pm => ?_)
  have hvl : vs.length = n := by rw [pm.length_eq, List.length_map, Array.length_toList]; exact hn
  have hnl : n ≤ sizeLine := by
    rw [← hn, sizeLine_eq]
    unfold scanBound at hb
    omega
  have hT := txts_of vs fun v hv => by
    obtain ⟨e, he, q⟩ := List.mem_map.mp (pm.mem_iff.mp hv)
    obtain ⟨x, tk, h1, _⟩ := g e he
    exact ⟨x, tk, by rw [← q]; exact h1⟩
  have pk : (vs.map decS).Perm (es.toList.map keyS) := by
    have q := pm.map decS
    rw [List.map_map] at q
    exact q
  have hoL : (s1.heap.push (seqObj "list" vs.toArray 0)).get? s1.heap.objs.size = some (seqObj "list" vs.toArray 0) := Heap.get?_push_size _ rfl
  generalize hbs : vs.map decS = bs at hT pk
  have hbl : bs.length = n := by rw [← hT.length, hvl]
  refine wpAny_bind (wpAny_newList ?_ (by rw [hvl]; exact hnl))
  refine wpAny_bind (wpAny_holding (PySem.W.list_sort_data (enc := fun k : Str => .str k) (bs := bs) (R := fun v k => ∃ t, v = Value.str k t) hoL (txts_each hT) ((txts_each hT).mono fun v k ⟨t, e⟩ => ⟨[], by rw [e]; exact .str k t, by simp⟩)
    (PySem.W.AllAlike.of fun _ _ => by simp [PySem.W.alike]) (PySem.W.Sortable.others fun _ => ⟨(fun z => by cases z), fun _ z => by cases z⟩) (by rw [hbl]; exact hnl) (fun b _ => by
      simp only [PyData.depth]
      show A.units + 1 + 1 + 0 < cLine
      omega) fun out hol ho2 => ?_))
  have ho3 := each_txts ho2
  obtain ⟨c, hc⟩ := sortedHeap_at (vs := vs) (out := List.toArray out) hoL
  have hperm : (bs.mergeSort (PySem.W.dataLe false fun k : Str => .str k)).Perm bs := List.mergeSort_perm _ _
  have pn := hperm.trans pk
  have hle : (bs.mergeSort (PySem.W.dataLe false fun k : Str => .str k)).Pairwise LeS := by
    have e : PySem.W.dataLe false (fun k : Str => PyData.str k) = fun a b => decide (a.cps.toList ≤ b.cps.toList) := PySem.W.dataLe_str fun k => k
    rw [e]
    have := List.pairwise_mergeSort (le := fun a b : Str => decide (a.cps.toList ≤ b.cps.toList)) (fun a b c h1 h2 => decide_eq_true (leS_trans (of_decide_eq_true h1) (of_decide_eq_true h2))) (fun a b => by
      rcases leS_total a b with z | z
      · rw [decide_eq_true (show a.cps.toList ≤ b.cps.toList from z)]; rfl
      · rw [decide_eq_true (show b.cps.toList ≤ a.cps.toList from z), Bool.or_true]) bs
    exact this.imp fun h => of_decide_eq_true h
  refine wpAny_pure ⟨_, rfl, hQ _ s1.heap.objs.size (List.toArray out) c _ (fun b u e => ?_) g1 o1 hz hc (by simpa using ho3) hle (pn.nodup_iff.mpr nd) (fun k => by rw [pn.mem_iff, ← hm k]) ?_⟩
  · have q := k1 b u e
    have hlt := Heap.lt_size q
    show (sortedHeap (s1.heap.push (seqObj "list" vs.toArray 0)) s1.heap.objs.size vs (List.toArray out)).get? b = some u
    rw [sortedHeap_old (Nat.ne_of_lt hlt) (by rw [size_push']; exact Nat.lt_succ_of_lt hlt)]
    exact Heap.get?_push_of_some _ q
  · rw [hperm.length_eq, hbl]
end
section
variable {X : Cx}
/-- sorted(set(e)), e a list of texts -/
def dSortSetT (te : DTE) : DTE := fun m M Q => te m M fun d M1 => ∃ xs : List Str, dItems d M1 = some (xs.map D.str) ∧ d ≠ .tup (xs.map D.str) ∧ xs.length ≤ 4000 ∧ ∀ (rs : List Str) (p : Addr), rs.Pairwise LeS → rs.Nodup → (∀ k, k ∈ rs ↔ k ∈ xs) → rs.length ≤ xs.length → M1 p = none → Q (.ref p) (mput M1 p (.lst (rs.map D.str)))
theorem vals_texts : ∀ {its : List Value} {xs : List Str}, Vals (xs.map V.str) its → its.length = xs.length ∧ ∀ (i : Nat) (v : Value), its[i]? = some v → ∃ x t, xs[i]? = some x ∧ v = Value.str x t
  | [], [], _ => ⟨rfl, fun i v e => by simp at e⟩
  | u :: us, x :: xs, .cons h l => by
    obtain ⟨t, rfl⟩ := (show ∃ t, u = Value.str x t from h)
    obtain ⟨h1, h2⟩ := vals_texts (its := us) (xs := xs) l
    refine ⟨by rw [List.length_cons, List.length_cons, h1], fun i v e => ?_⟩
    cases i with
    | zero =>
      simp at e
      exact ⟨x, t, rfl, e.symm⟩
    | succ i => exact h2 i v (by simpa using e)
theorem txts_vals : ∀ {us : List Value} {xs : List Str}, TxtsAre us xs → Vals (xs.map V.str) us
  | _, _, .nil => .nil
  | _, _, .cons x t h => .cons ⟨t, rfl⟩ (txts_vals h)
theorem repL_strs {K : PySem.W.Frag} {H : Hp} : ∀ {xs : List Str}, RepL K H (xs.map D.str) (xs.map V.str)
  | [] => .nil
  | x :: xs => .cons (.str x) repL_strs
/-- set(e) has come, e a list of texts: the walk goes on with the set at its place -/
theorem set_texts {pins : List (Addr × Obj)} {σ : SL} {H1 : Hp} {M1 : DM} {s1 : Shared} {d : D} {v : Value} {x : V} {xs : List Str} {Q : Value → Shared → Prop} {A : Around} {E : Value → Shared → Prop} (I1 : Inv X pins σ H1 s1) (r1 : RelV x v) (rd : Rep X.K H1 d x) (m1 : RM X.K H1 M1) (hd : dItems d M1 = some (xs.map D.str)) (hnt : d ≠ .tup (xs.map D.str)) (hl : xs.length ≤ 4000) (hA : A.handled = none)
    (h : ∀ (h' : Heap) (tk c : Nat), SetT X.w h' s1.heap.objs.size (fun j => decide (j ∈ xs)) c → c ≤ xs.length → Inv X pins σ H1 { s1 with heap := h', toks := tk } → Q (.ref s1.heap.objs.size) { s1 with heap := h', toks := tk }) :
    wpAny (model X.prog X.w) A (call (.type "set") [v]) Q E s1 := by
  obtain ⟨l, vs, rfl, hz, rl, hS⟩ := lst_of rd m1 hd hnt
  have evs := strs_rep rl
  subst evs
  cases r1
  obtain ⟨its, ri, pl, _⟩ := I1.list hS
  obtain ⟨e1, e2⟩ := vals_texts ri
  refine call_set_listT xs hA pl.isList (by simpa using e1) (fun i v e => e2 i v (by simpa using e)) (by unfold scanBound; omega) fun h' tk c hR hcl hk => h h' tk c hR hcl (I1.kept hk)
theorem d_sortSetT {e : Expr} {te : DTE} {p p2 q pos : Pos} (hc : X.calm = true) (hu : X.A.units + 64 < cLine) (hg : Gl X "sorted") (hm : X.mg "sorted" = none) (hg2 : Gl X "set") (hm2 : X.mg "set" = none) (he : DE X e te)
    (na : starEach [e] X.env = (false, eval e X.env) :: starEach [] X.env := by rfl) : DE X (.Call (.Name "sorted" p) [.Call (.Name "set" p2) [e] [] q] [] pos) (dSortSetT te) := by
  refine ⟨fun pins s σ H Q I ⟨m, M, Q', r, h, kk⟩ => ?_⟩
  refine Call_ (ld_blt I hg hm boot_sorted ?_)
  refine PyProof.Rows.callWith_builtin1 (PyProof.Rows.args_cons ?_ rfl) rfl rfl
  refine Call_ (ld_blt I hg2 hm2 boot_set ?_)
  refine PyProof.Rows.callWith_type1 (PyProof.Rows.args_cons (thn (he.run pins s σ H (fun v H1 => ∃ d M1, Grow H H1 ∧ Rep X.K H1 d v ∧ RM X.K H1 M1 ∧ ∃ xs : List Str, dItems d M1 = some (xs.map D.str) ∧ d ≠ .tup (xs.map D.str) ∧ xs.length ≤ 4000 ∧ ∀ (rs : List Str) (p : Addr), rs.Pairwise LeS → rs.Nodup → (∀ k, k ∈ rs ↔ k ∈ xs) → rs.length ≤ xs.length → M1 p = none → Q' (.ref p) (mput M1 p (.lst (rs.map D.str)))) I
    ⟨m, M, _, r, h, fun d v M1 H1 g1 r1 m1 q1 => ⟨d, M1, g1, r1, m1, q1⟩⟩) fun v s1 ⟨x, H1, I1, r1, d, M1, g1, rd, m1, xs, hd, hnt, hl, q1⟩ => PyProof.Rows.args_nil ?_) na) na rfl
  refine set_texts I1 r1 rd m1 hd hnt hl (I1.ok.hd hc) fun h' tk c hR hcl I2 => ?_
  refine PyProof.Rows.args_nil ?_
  generalize hs2 : ({ s1 with heap := h', toks := tk } : Shared) = s2 at I2 ⊢
  have hR2 : SetT X.w s2.heap s1.heap.objs.size (fun j => decide (j ∈ xs)) c := by rw [← hs2]; exact hR
  refine sorted_setT (s := s2) hR2 (I2.ok.hd hc) (by omega) fun s' p out c2 rs k g o hp hg hi hs hnd hmm hln => ?_
  have hlen : (rs.map V.str).length ≤ sizeLine := by rw [List.length_map, hln, sizeLine_eq]; omega
  have hn : H1 p = none := I2.hok.fresh hp
  have J : Inv X pins σ (upd H1 p (.lst (rs.map V.str))) { s2 with heap := s'.heap, gens := s'.gens, drawn := s'.drawn, toks := s'.toks } :=
    I2.call (ch := []) (Un.laid k hp hn) (I2.hok.laid k hp ⟨hlen, out.toList, c2, txts_vals hi, hg⟩) (by rw [g]; exact I2.bare) (fun _ z => nomatch z)
  have e : s' = { s2 with heap := s'.heap, gens := s'.gens, drawn := s'.drawn, toks := s'.toks } := by
    cases s'
    cases s2
    cases o
    rfl
  rw [e]
  exact ⟨.ref p, _, J, rfl, kk _ _ _ _ (g1.trans (.new hn)) (.ref _) (m1.newLst hn hlen repL_strs) (q1 rs p hs hnd (fun k => by rw [hmm k, decide_eq_true_iff]) (by omega) (m1.free hn))⟩
/-- len(set(e)), e a list of texts -/
def dLenSetT (te : DTE) : DTE := fun m M Q => te m M fun d M1 => ∃ xs : List Str, dItems d M1 = some (xs.map D.str) ∧ d ≠ .tup (xs.map D.str) ∧ xs.length ≤ 4000 ∧ ∀ (rs : List Str), rs.Nodup → (∀ k, k ∈ rs ↔ k ∈ xs) → Q (.int rs.length) M1
theorem d_lenSetT {e : Expr} {te : DTE} {p p2 q pos : Pos} (hc : X.calm = true) (hg : Gl X "len") (hm : X.mg "len" = none) (hg2 : Gl X "set") (hm2 : X.mg "set" = none) (he : DE X e te)
    (na : starEach [e] X.env = (false, eval e X.env) :: starEach [] X.env := by rfl) : DE X (.Call (.Name "len" p) [.Call (.Name "set" p2) [e] [] q] [] pos) (dLenSetT te) := by
  refine ⟨fun pins s σ H Q I ⟨m, M, Q', r, h, kk⟩ => ?_⟩
  refine Call_ (ld_blt I hg hm boot_len ?_)
  refine PyProof.Rows.callWith_builtin1 (PyProof.Rows.args_cons ?_ rfl) rfl rfl
  refine Call_ (ld_blt I hg2 hm2 boot_set ?_)
  refine PyProof.Rows.callWith_type1 (PyProof.Rows.args_cons (thn (he.run pins s σ H (fun v H1 => ∃ d M1, Grow H H1 ∧ Rep X.K H1 d v ∧ RM X.K H1 M1 ∧ ∃ xs : List Str, dItems d M1 = some (xs.map D.str) ∧ d ≠ .tup (xs.map D.str) ∧ xs.length ≤ 4000 ∧ ∀ (rs : List Str), rs.Nodup → (∀ k, k ∈ rs ↔ k ∈ xs) → Q' (.int rs.length) M1) I
    ⟨m, M, _, r, h, fun d v M1 H1 g1 r1 m1 q1 => ⟨d, M1, g1, r1, m1, q1⟩⟩) fun v s1 ⟨x, H1, I1, r1, d, M1, g1, rd, m1, xs, hd, hnt, hl, q1⟩ => PyProof.Rows.args_nil ?_) na) na rfl
  refine set_texts I1 r1 rd m1 hd hnt hl (I1.ok.hd hc) fun h' tk c hR hcl I2 => ?_
  refine PyProof.Rows.args_nil ?_
  generalize hs2 : ({ s1 with heap := h', toks := tk } : Shared) = s2 at I2 ⊢
  have hR2 : SetT X.w s2.heap s1.heap.objs.size (fun j => decide (j ∈ xs)) c := by rw [← hs2]; exact hR
  obtain ⟨o, es, ep, t, ho, hex, hdt, g, nd, hmm, hb, hf, hn, _⟩ := hR2
  have hq := q1 (es.toList.map keyS) nd fun k => by rw [← hmm k, decide_eq_true_iff]
  rw [List.length_map, Array.length_toList] at hq
  refine call_len_set ho hex hdt hf (by unfold scanBound at hb; omega) ?_
  exact ⟨.int es.size, H1, (I2.tok _).tok _, ⟨_, rfl⟩, kk _ _ _ _ g1 (.int _) m1 hq⟩
end
end DL
/-! DL31: dicts whose keys are tuples: d[k], k in d, d[k] = v, {}, len. -/
namespace DL
open PySem PySem.Spec PyProof.Rows L2
section
variable {X : Cx} {pos : Pos}
/-- d[k] -/
def dDIx (w : World) : DR2 := fun x y M Q => ∃ a kvs v, x = .ref a ∧ M a = some (.dct w kvs) ∧ isKey y ∧ dget kvs y = some v ∧ Q v M
theorem x_dix {w : World} (hw : X.w = w) (hu : X.A.units + 9 < cLine) : IxR X (upR2 X.K (dDIx w)) := by
  subst hw
  intro value slice pins s σ H x y v u Q I rx ry ⟨d, e, M, Q', r1, r2, m, ⟨a, kvs, v0, h1, h2, ⟨⟨ks, ek⟩, hok, hdp⟩, h3, q⟩, k⟩ hop
  subst h1
  subst ek
  cases r1
  obtain rfl : v = Value.ref a := rx
  cases r2 with
  | @tup _ b vs hf z l =>
    obtain rfl : u = Value.ref b := ry
    obtain ⟨es, g1, hz, rkv⟩ := m.dct h2
    obtain ⟨hs, xs, pr, dd⟩ := dict_of I g1 rkv
    have rk : Rep X.K H (.tup ks) (.ref b) := .tup hf z l
    rcases dget_at (k := .tup ks) rkv with ⟨n1, n2⟩ | ⟨d, y', n1, n2, rd⟩
    · rw [n1] at h3
      cases h3
    · rw [n1] at h3
      cases h3
      have ra := atV_at (k := nk (.tup ks)) pr
      rw [n2] at ra
      cases ha : atKey xs (nk (.tup ks)) with
      | none => rw [ha] at ra; exact ra.elim
      | some p =>
        rw [ha] at ra
        refine subscriptTail_builtinR (x := p.2) dd.typeIs PySem.F.slot_dict_getitem.lookup (wpAny_getItem_heap (knd := nestedKind X.prog X.w) (Q := fun r s' => r = p.2 ∧ EP X pins σ Q r s') ?_ ⟨Rep.nested I rk rfl hok, hdp⟩ dd ha ⟨rfl, y', H, I.tok _, ra, k _ _ M H (.refl H) rd m q⟩) hop
        show X.A.units + 1 + 8 < cLine
        omega
def dDIn (w : World) : DR2 := fun x y M Q => ∃ a kvs, y = .ref a ∧ M a = some (.dct w kvs) ∧ isKey x ∧ Q (.bl (dhas kvs x)) M
def dDNotIn (w : World) : DR2 := fun x y M Q => ∃ a kvs, y = .ref a ∧ M a = some (.dct w kvs) ∧ isKey x ∧ Q (.bl (!dhas kvs x)) M
theorem o_inD {w : World} (hw : X.w = w) (hu : X.A.units + 9 < cLine) : DOp X (compareOp .In) (dDIn w) := by
  subst hw
  intro pins s σ H x y v u Q I rx ry ⟨d, e, M, Q', r1, r2, m, ⟨a, kvs, h1, h2, ⟨⟨ks, ek⟩, hok, hdp⟩, q⟩, k⟩
  subst h1
  subst ek
  cases r2
  obtain rfl : u = Value.ref a := ry
  cases r1 with
  | @tup _ b vs hf z l =>
    obtain rfl : v = Value.ref b := rx
    obtain ⟨es, g1, hz, rkv⟩ := m.dct h2
    obtain ⟨hs, xs, pr, dd⟩ := dict_of I g1 rkv
    have rk : Rep X.K H (.tup ks) (.ref b) := .tup hf z l
    refine wpAny_in_heap (knd := nestedKind X.prog X.w) ?_ ⟨Rep.nested I rk rfl hok, hdp⟩ hs dd ?_
    · show X.A.units + 1 + 8 < cLine
      omega
    · rw [any_at pr, has_any rkv]
      exact ⟨.bl _, H, I.tok _, rfl, k _ _ M H (.refl H) (.bl _) m q⟩
theorem o_notinD {w : World} (hw : X.w = w) (hu : X.A.units + 9 < cLine) : DOp X (compareOp .NotIn) (dDNotIn w) := by
  subst hw
  intro pins s σ H x y v u Q I rx ry ⟨d, e, M, Q', r1, r2, m, ⟨a, kvs, h1, h2, ⟨⟨ks, ek⟩, hok, hdp⟩, q⟩, k⟩
  subst h1
  subst ek
  cases r2
  obtain rfl : u = Value.ref a := ry
  cases r1 with
  | @tup _ b vs hf z l =>
    obtain rfl : v = Value.ref b := rx
    obtain ⟨es, g1, hz, rkv⟩ := m.dct h2
    obtain ⟨hs, xs, pr, dd⟩ := dict_of I g1 rkv
    have rk : Rep X.K H (.tup ks) (.ref b) := .tup hf z l
    refine wpAny_notIn_heap (knd := nestedKind X.prog X.w) ?_ ⟨Rep.nested I rk rfl hok, hdp⟩ hs dd ?_
    · show X.A.units + 1 + 8 < cLine
      omega
    · rw [any_at pr, has_any rkv]
      exact ⟨.bl _, H, I.tok _, rfl, k _ _ M H (.refl H) (.bl _) m q⟩
/-- d[k] = v -/
def dSetD (w : World) : D → D → D → DM → (DM → Prop) → Prop := fun o i v M Q => ∃ a kvs, o = .ref a ∧ M a = some (.dct w kvs) ∧ isKey i ∧ (dput kvs i v).length ≤ sizeLine ∧ Q (mput M a (.dct w (dput kvs i v)))
theorem s_dct {w : World} (hw : X.w = w) (hu : X.A.units + 9 < cLine) : DSet X (dSetD w) := by
  subst hw
  intro pins s σ H o i v ov iv u Q I ro ri rv ⟨d, e, y, M, Q', r1, r2, r3, m, ⟨a, kvs, h1, h2, ⟨⟨ks, ek⟩, hok, hdp⟩, hsz, q⟩, k⟩
  subst h1
  subst ek
  cases r1
  obtain rfl : ov = Value.ref a := ro
  cases r2 with
  | @tup _ b vs hf z l =>
    obtain rfl : iv = Value.ref b := ri
    obtain ⟨es, g1, hz, rkv⟩ := m.dct h2
    obtain ⟨hs, xs, pr, dd⟩ := dict_of I g1 rkv
    have rk : Rep X.K H (.tup ks) (.ref b) := .tup hf z l
    have hl : xs.length ≤ sizeLine := by rw [← pr.length]; exact hz
    have rkv2 := rkv.store rk hok hdp r3
    refine wpAny_setItem_heap (knd := nestedKind X.prog X.w) (hsz := hl) ?_ ⟨Rep.nested I rk rfl hok, hdp⟩ dd fun h' dd' hsb => ?_
    · show X.A.units + 1 + 8 < cLine
      omega
    obtain ⟨o', _, _, ho', _⟩ := id dd'
    refine ⟨_, d_write I (by rw [g1]; exact True.intro) hsb ⟨o', ho'⟩ (dict_new hs (EsXs.store pr rv) dd'), k _ _ (.dct g1) (m.putDct g1 (by rw [← rkv2.len]; exact hsz) rkv2) q⟩
/-- {} -/
def dDNew (w : World) : DTE := fun _ M Q => ∀ p, M p = none → Q (.ref p) (mput M p (.dct w []))
theorem pe_dnewH {w : World} (hw : X.w = w) : PE X (.Dict [] [] pos) (fun _ H Q => ∀ p, H p = none → Q (.ref p) (upd H p (DictO w p []))) := by
  subst hw
  exact ⟨fun pins s σ H Q I h => wpAny_Dict_empty ⟨.ref s.heap.objs.size, _, I.laid (a := s.heap.objs.size) (o := DictO X.w s.heap.objs.size []) (t' := s.toks) (fun _ _ q => Heap.get?_push_of_some _ q) (Nat.le_refl _) (empty_dict s.heap I.big), rfl, h _ (I.hok.fresh (Nat.le_refl _))⟩⟩
theorem d_dnew {w : World} (hw : X.w = w) : DE X (.Dict [] [] pos) (dDNew w) :=
  imE (pe_dnewH hw) fun σ H Q ⟨m, M, Q', r, q, kk⟩ p hp => kk _ _ _ _ (.new hp) (.ref p) (r.mem.newDct hp) (q p (r.mem.free hp))
end
end DL
/-! DL32: a comprehension whose items take draws, item by item. -/
namespace DL
open PySem PySem.Spec PyProof.Rows L2
theorem lc_drawT {α β : Type} (f : α → D) (k : β → D) (R : α → β → Prop) {xs : List α} {src : Src} {g : DTG} {te : DTE} {m0 : DSt} {Qd : Addr → List D → DM → Prop} {M : DM} {p : Addr} {o1 : DO} (hx : src.1 = xs.map f) (hsrc : src.2 = none) (ho : DrO o1)
    (step : ∀ x ∈ xs, ∀ (r : Addr) (l : DO) (o : DO), p ≠ r → M r = none → DrO o → ∀ C1 : D → DM → Prop, (∀ o' y, DrO o' → R x y → C1 (k y) (mput (mput M p o') r l)) → g (f x) m0 (mput (mput M p o) r l) fun m1 M1 => te m1 M1 C1)
    (fin : ∀ r o ys, p ≠ r → mput M p o r = none → DrO o → Paired R xs ys → Qd r (ys.map k) (mput (mput M p o) r (.lst (ys.map k)))) :
    ∀ r, mput M p o1 r = none → dLcGo src g dYes te m0 r (Qd r) src.1 [] (mput (mput M p o1) r (.lst [])) := fun r hr => by
  have hpr : p ≠ r := ne_of_fresh mput_same hr
  have hrM : M r = none := by rw [mput_ne hpr.symm] at hr; exact hr
  have key : ∀ (rest dn : List α) (ys : List β) (o : DO), dn ++ rest = xs → DrO o → Paired R dn ys → dLcGo src g dYes te m0 r (Qd r) (rest.map f) (ys.map k) (mput (mput M p o) r (.lst (ys.map k))) := by
    intro rest
    induction rest with
    | nil =>
      intro dn ys o hd ho hp
      rw [List.append_nil] at hd
      subst hd
      refine ⟨fun a e => ?_, fin r o ys hpr (by rw [mput_ne hpr.symm]; exact hrM) ho hp⟩
      rw [hsrc] at e
      cases e
    | cons x rest ih =>
      intro dn ys o hd ho hp
      refine ⟨fun a e => (by rw [hsrc] at e; cases e), ?_⟩
      have z := step x (by rw [← hd]; simp) r (.lst (ys.map k)) o hpr hrM ho (fun y M3 => M3 r = some (.lst (ys.map k)) ∧ dLcGo src g dYes te m0 r (Qd r) (rest.map f) (ys.map k ++ [y]) (mput M3 r (.lst (ys.map k ++ [y])))) fun o' y ho' hy => ⟨mput_same, by
        rw [mput_mput]
        have e : ys.map k ++ [k y] = (ys ++ [y]).map k := by rw [List.map_append]; rfl
        rw [e]
        exact ih (dn ++ [x]) (ys ++ [y]) o' (by rw [← hd]; simp) ho' (hp.snoc hy)⟩
      exact z
  rw [hx]
  exact key xs [] [] o1 rfl ho .nil
theorem Paired.len {α β : Type} {R : α → β → Prop} : ∀ {xs : List α} {ys : List β}, Paired R xs ys → xs.length = ys.length
  | _, _, .nil => rfl
  | _, _, .cons _ t => congrArg (· + 1) (Paired.len t)
theorem Paired.mem_right {α β : Type} {R : α → β → Prop} : ∀ {xs : List α} {ys : List β}, Paired R xs ys → ∀ y ∈ ys, ∃ x ∈ xs, R x y
  | _, _, .nil, y, h => by cases h
  | _, _, .cons a t, y, h => by
    rcases List.mem_cons.mp h with rfl | h
    · exact ⟨_, by simp, a⟩
    · obtain ⟨x, h1, h2⟩ := Paired.mem_right t y h
      exact ⟨x, by simp [h1], h2⟩
theorem Paired.map_eq {α β γ : Type} {R : α → β → Prop} (f : α → γ) (g : β → γ) (h : ∀ x y, R x y → g y = f x) : ∀ {xs : List α} {ys : List β}, Paired R xs ys → ys.map g = xs.map f
  | _, _, .nil => rfl
  | _, _, .cons a t => by rw [List.map_cons, List.map_cons, h _ _ a, Paired.map_eq f g h t]
theorem srcV_it {a : D} {xs : List D} {M : DM} (h : dItems a M = some xs) : SrcV (xs, dAt a) M := by
  intro p hp
  cases a with
  | ref q =>
    have e : q = p := Option.some.inj hp
    subst e
    rw [dItems_rf] at h
    cases c : M q with
    | none => rw [c] at h; cases h
    | some o =>
      rw [c] at h
      cases o with
      | lst ys =>
        cases h
        rfl
      | _ => cases h
  | _ => cases hp
theorem items_up {M N : DM} {b : D} {xs : List D} (h : dItems b M = some xs) (l : MLe M N) : dItems b N = some xs := by
  cases b with
  | ref r =>
    cases q : M r with
    | none => simp [dItems, q] at h
    | some o =>
      cases o with
      | lst ys =>
        simp [dItems, q] at h
        exact dItems_ref (by rw [l _ _ q, h])
      | _ => simp [dItems, q] at h
  | _ => first | exact h | cases h
theorem range_gets {α β : Type} (f : α → β) (d : α) (l : List α) : (List.range l.length).map (fun k => f (l.getD k d)) = l.map f := by
  refine List.ext_getElem (by rw [List.length_map, List.length_range, List.length_map]) fun i h1 h2 => ?_
  rw [List.length_map, List.length_range] at h1
  rw [List.getElem_map, List.getElem_range, List.getElem_map]
  simp [List.getD_eq_getElem?_getD, List.getElem?_eq_getElem h1]
end DL
/-! DL33: the order of data; sorted(xs, key=len). -/
namespace DL
open PySem PySem.Spec PyProof.Rows L2
open PySem.W (dataLt dataLe keyToks alike)
/-! ### the order -/
def dlt (a b : D) : Bool := dataLt a.py b.py
theorem dlt_irr (a : D) : dlt a a = false := PySem.W.dataLt_self _
theorem dlt_trans {a b c : D} (h : dlt a b = true) (k : dlt b c = true) : dlt a c = true := lex_trans _ _ _ h k
theorem dlt_neg {a b c : D} (h : dlt a c = true) : dlt a b = true ∨ dlt b c = true := lex_negTrans _ _ _ h
theorem dlt_asym {a b : D} (h : dlt a b = true) : dlt b a = false := by
  cases e : dlt b a with
  | false => rfl
  | true =>
    have := dlt_trans h e
    rw [dlt_irr] at this
    cases this
/-- not less: transitive -/
theorem dle_trans {a b c : D} (h : dlt b a = false) (k : dlt c b = false) : dlt c a = false := by
  cases e : dlt c a with
  | false => rfl
  | true =>
    rcases dlt_neg (b := b) e with z | z
    · rw [k] at z
      cases z
    · rw [h] at z
      cases z
theorem dlt_le {a b c : D} (h : dlt a b = true) (k : dlt c b = false) : dlt a c = true := by
  rcases dlt_neg (b := c) h with z | z
  · exact z
  · rw [k] at z
    cases z
theorem dle_lt {a b c : D} (h : dlt b a = false) (k : dlt b c = true) : dlt a c = true := by
  rcases dlt_neg (b := a) k with z | z
  · rw [h] at z
    cases z
  · exact z
/-- three ways -/
theorem dlt_tri {a b : D} (ha : alike a.py b.py = true) (h : dlt a b = false) (k : dlt b a = false) : D.eqv a b = true := by
  cases e : D.eqv a b with
  | true => rfl
  | false =>
    have z := (PySem.W.toks_eqv a.py b.py ha).2 e
    have et : keyToks a.py = keyToks b.py := lex_total _ _ h k
    have z1 := z [] [Sum.inl 0]
    rw [et, PySem.W.lex_pre] at z1
    have y2 : PyProof.Rows.lexLt PyProof.Rows.itemOrd (keyToks b.py) (keyToks b.py) = false := lex_irrefl _
    rw [y2] at z1
    cases z1
theorem sort_pair {α : Type} (g : α → D) (xs : List α) : (xs.mergeSort (dataLe false fun x => (g x).py)).Pairwise fun a b => dlt (g b) (g a) = false := by
  have e : ∀ a b : α, dataLe false (fun x => (g x).py) a b = !dlt (g b) (g a) := fun a b => rfl
  have z := List.pairwise_mergeSort (le := dataLe false fun x => (g x).py) (fun a b c h k => by
    rw [e] at h k ⊢
    rw [Bool.not_eq_true'] at h k ⊢
    exact dle_trans h k) (fun a b => by
    rw [e, e]
    cases h : dlt (g b) (g a) with
    | false => rfl
    | true => rw [dlt_asym h]; rfl) xs
  exact z.imp fun {a b} h => by
    rw [e, Bool.not_eq_true'] at h
    exact h
/-! ### sorted(xs, key=len), the items tuples -/
def gLen : D → D
  | .tup ys => .int (ys.length : Nat)
  | _ => .non
section
variable {X : Cx}
theorem lenKeyRun {pins : List (Addr × Obj)} {σ : SL} {H : Hp} {M : DM} {s : Shared} {xs : List D} (hx : ∀ x ∈ xs, ∃ ys, x = .tup ys) : KeyRun X pins σ H M s (.builtin "len") xs gLen := by
  intro Hj s' d v x hdm un gr J rm rd ru
  obtain ⟨ys, rfl⟩ := hx d hdm
  cases rd with
  | @tup _ b vs hf z l =>
    obtain rfl : x = Value.ref b := ru
    obtain ⟨its, r', pl, hz⟩ := J.tuple hf
    have hlen := r'.length
    have hn := line63
    refine PyProof.Rows.len_tuple pl (by simp only [List.size_toArray]; omega) ⟨.int ys.length, Hj, rfl, J.bare, Un.refl, J.hok, ⟨s'.toks + 1, ?_⟩, .refl _, .int _, rm⟩
    rw [List.size_toArray, ← hlen, ← l.length]
def sortLenB (Q : DVK) (d : D) (M1 : DM) : Prop := ∃ xs : List (List D), dItems d M1 = some (xs.map D.tup) ∧ d ≠ .tup (xs.map D.tup) ∧ ∀ p, M1 p = none → Q (.ref p) (mput M1 p (.lst ((xs.map D.tup).mergeSort (dataLe false fun x => D.py (gLen x)))))
def dSortLen (t : DTE) : DTE := fun m M Q => t m M (sortLenB Q)
def sortLenP (Q : DVK) : List D → DM → Prop
  | [d], M1 => sortLenB Q d M1
  | _, _ => False
theorem d_sortLen {k : Nat} {e : Expr} {p p2 kp pos : Pos} {t : DTE} (hr : Room k X.A.in1.in1) (hg : Gl X "len") (hm : X.mg "len" = none) (hgs : Gl X "sorted") (hms : X.mg "sorted" = none) (ha : DE X e t)
    (he : backTo pos (starEach [e] X.env) = [(false, eval e X.env)] := by rfl) (hpl : (backTo pos (starEach [e] X.env)).any (·.1) = false := by rfl)
    (hall : (backToKw pos (keywordEach [⟨some (Str.ofString "key"), .Name "len" p2, kp⟩] X.env)).all (·.1.isSome) = true := by rfl) (hnone : (backToKw pos (keywordEach [⟨some (Str.ofString "key"), .Name "len" p2, kp⟩] X.env)).any (·.1.isNone) = false := by rfl)
    (hks : (backToKw pos (keywordEach [⟨some (Str.ofString "key"), .Name "len" p2, kp⟩] X.env)).filterMap (·.1) = [Str.ofString "key"] := by rfl)
    (hs0 : starEach [e] X.env = [(false, eval e X.env)] := by rfl) :
    DE X (.Call (.Name "sorted" p) [e] [⟨some (Str.ofString "key"), .Name "len" p2, kp⟩] pos) (dSortLen t) := by
  have hu : X.A.in1.in1.units + 40 < cLine := by
    have := hr.un
    omega
  refine ⟨fun pins s σ H Q I ⟨m, M, Q', r, q, kk⟩ => ?_⟩
  refine wpAny_Call_Name_kw (ld_blt I hgs hms boot_sorted ?_ (by decide) (by decide))
  refine PyProof.Rows.callWith_kw (thn ((da_cons ha da_nil hs0 : DA X [e] _).run pos pins s σ H (fun vs H1 => ∃ ds M1, Grow H H1 ∧ RepL X.K H1 ds vs ∧ RM X.K H1 M1 ∧ sortLenP Q' ds M1) I
    ⟨m, M, sortLenP Q', r, q, fun ds vs M1 H1 g1 l1 m1 q1 => ⟨ds, M1, g1, l1, m1, q1⟩⟩) fun us s1 ⟨vs, H1, I1, r1, ds, M1, g1, l1, m1, q1⟩ => ?_) he hpl hall hnone
  obtain ⟨d, rfl, q1⟩ : ∃ d, ds = [d] ∧ sortLenB Q' d M1 := by
    match ds, q1 with
    | [d], q1 => exact ⟨d, rfl, q1⟩
  obtain ⟨xs, hd, hnt, q1⟩ := q1
  obtain ⟨v, rfl, rv⟩ := repL_one l1
  obtain ⟨u, rfl, ru⟩ := vals1 r1
  show wpAny _ _ (evalAll ((do let v ← eval (.Name "len" p2) X.env; standAt pos; pure v) :: [])) _ _ s1
  refine wpAny_evalAll_cons (wpAny_bind (ld_blt I1 hg hm boot_len (wpAny_bind (wpAny_standAt (wpAny_pure ?_)))))
  refine wpAny_evalAll_nil ?_
  rw [hks]
  have hxt : ∀ x ∈ xs.map D.tup, ∃ ys, x = .tup ys := fun x hx => by
    obtain ⟨y, _, rfl⟩ := List.mem_map.mp hx
    exact ⟨y, rfl⟩
  have hxk : ∀ x ∈ (xs.map D.tup).map gLen, ∃ n : Int, x = .int n := fun x hx => by
    obtain ⟨y, hy, rfl⟩ := List.mem_map.mp hx
    obtain ⟨ys, rfl⟩ := hxt y hy
    exact ⟨_, rfl⟩
  refine sort_core I1 rv ru m1 hd hnt (fun a => ksk_t4 _ a) (lenKeyRun hxt) hu ?_ ?_ ?_ q1 fun d v M' H' g3 => kk d v M' H' (g1.trans g3)
  · refine List.all_eq_true.mpr fun x hx => ?_
    obtain ⟨n, rfl⟩ := hxk x hx
    simp
  · intro d hd d' hd'
    obtain ⟨x, hx, rfl⟩ := List.mem_map.mp hd
    obtain ⟨y, hy, rfl⟩ := List.mem_map.mp hd'
    obtain ⟨n, rfl⟩ := hxk x hx
    obtain ⟨k, rfl⟩ := hxk y hy
    simp [D.py, alike]
  · refine .inl (.inr fun d hd => ?_)
    obtain ⟨x, hx, rfl⟩ := List.mem_map.mp hd
    obtain ⟨n, rfl⟩ := hxk x hx
    exact ⟨(fun z => by cases z), fun xs z => by cases z⟩
end
end DL
/-! DL34: sorted of tuples of any lengths. -/
namespace DL
open PySem PySem.Spec PyProof.Rows L2
open PySem.W
theorem sorted_dataO {β : Type} {prog : Program} {w : World} {A : Around} {E : Value → Shared → Prop} {s : Shared} {vs : List Value} {bs : List β} {R : Value → β → Prop} {enc : β → PyData} {l : Addr} {Q : Value → Shared → Prop} (hl : s.heap.IsList l vs.toArray) (e : EachIs R vs bs) (er : EachIs (fun v b => ∃ as, Reads s.heap v (enc b) as) vs bs) (hal : AllAlike (bs.map enc)) (hk : SortOk (bs.map enc)) (hL : bs.length ≤ sizeLine)
    (hu : ∀ b, b ∈ bs → A.units + 2 + (enc b).depth < cLine) (h : ∀ out, out.length = bs.length → EachIs R out (bs.mergeSort (dataLe false enc)) → Q (.ref (s.heap.objs.size + 1)) { s with heap := sortedAll s.heap vs (List.toArray out) }) :
    wpAny (model prog w) A (call (.builtin "sorted") [.ref l]) Q E s := by
  have er' : EachIs (fun v b => ∃ as, Reads (sortingHeap (copyHeap s.heap vs) (s.heap.objs.size + 1) vs) v (enc b) as) vs bs := er.mono fun _ _ ⟨as, r⟩ => ⟨as, PyProof.Rows.Reads.keeps (fun _ _ => sorting_copy_old) r⟩
  exact sorted_vals hl (sortsAt_tups (s := { s with heap := sortingHeap (copyHeap s.heap vs) (s.heap.objs.size + 1) vs }) (each_map (R := fun v d => ∃ as, Reads (sortingHeap (copyHeap s.heap vs) (s.heap.objs.size + 1) vs) v d as) enc er') hal hk (bound_map hu)) (by rw [e.length]; exact hL)
    (h _ (by rw [sortVals_length false rfl]; exact e.length) (sortVals_data false e er' hal))
variable {X : Cx}
def rSortO : DCR := fun ds M Q => ∃ d xs, ds = [d] ∧ dItems d M = some xs ∧ d ≠ .tup xs ∧ xs.all (dOk 32) = true ∧ AllAlike (xs.map D.py) ∧ SortOk (xs.map D.py) ∧ ∀ p, M p = none → Q (.ref p) (mput M p (.lst (srtD xs)))
theorem c_sortO (hu : X.A.units + 40 < cLine) : DCall X (.builtin "sorted") rSortO := by
  intro pins s σ H vs us Q I r ⟨ds, M, Q', l, m, ⟨d, xs, e, h, h2, h3, h4, h5, q⟩, k⟩
  subst e
  obtain ⟨v, e, rv⟩ := repL_one l
  subst e
  obtain ⟨a, ws, rfl, z, l3, h6⟩ := lst_of rv m h h2
  obtain ⟨its, r2, pl, _⟩ := I.list h6
  rw [Vals.ref1 r]
  have hz : xs.length ≤ sizeLine := by rw [l3.length]; exact z
  refine sorted_dataO (vs := its) (bs := xs) (enc := D.py) pl.isList (rel_each l3 r2) (reads_each I l3 r2 h3) h4 h5 hz (fun b hb => ?_) fun out ho hr => ?_
  · have := (dOk_lay 32 b (List.all_eq_true.mp h3 b hb)).2
    omega
  · obtain ⟨vs', h7, h8⟩ := each_rel hr
    obtain ⟨ep, he'⟩ := PyProof.Rows.sortedAll_at s.heap its out.toArray
    have hlen : vs'.length ≤ sizeLine := by rw [← h8.length, List.length_mergeSort]; exact hz
    have hp := I.hok.fresh (Nat.le_succ s.heap.objs.size)
    refine ⟨.ref _, upd H (s.heap.objs.size + 1) (.lst vs'), I.laid (t' := s.toks) (fun _ _ => PyProof.Rows.sortedAll_old) (Nat.le_succ _) ⟨hlen, out, ep, h7, he'⟩, rfl, ?_⟩
    exact k _ _ _ _ (.new hp) (.ref _) (m.newLst hp hlen h8) (q _ (m.free hp))
end DL
namespace Law
open PySem PySem.Spec PyProof.Rows L2 DL
local macro_rules | `(tactic| walk_at "rd") => `(tactic| simp only [dSeq, dSet, dIf, dTst, dOp, dVar, dC, dRet, dRetN, dNext, dDrop, dBreak, dCont, dAnd, dOr, dNot, dAndV, dOrV, dNotV, dIfE, dTup, dLstF, dLst, dCons, dNil, dCB, dCall, dUn, dNegI,
  dI, dI0, dEq, dNe, dIs, dIsNot, dIn, dNotIn, dIx, isN_non, isN_bl, isN_int, isN_str, isN_tup, isN_lst, isN_rf, DL.rLen, rInt, rAbs, rMax2, rMin2, DL.rGcd, rTuple, rList, rIs, rIsT, ar0, ar1, ar2, ar3, ar4, ar5, ar6, ar7, ar8, dEnds, dMt, dMt0, mAppend, mPop, mReverse, dSetL, dPut, dAsg, dgName, dgTup, dgCons, dgNil,
  dFor, diSeq, diRng1, diRng2, dLcF, dLc, dwipe, dFz,
  dstart, List.map_cons, List.map_nil, List.length_cons, List.length_nil, List.cons_append, List.nil_append, List.append_nil, List.replicate, Nat.reduceAdd, Nat.reduceSub, Nat.reduceLeDiff, Int.reduceNeg, List.set_cons_zero, List.set_cons_succ,
  List.getElem?_cons_zero, List.getElem?_cons_succ, Option.some.injEq, exists_eq_left', exists_eq_left, exists_eq_right, exists_eq, exists_and_left, exists_and_right, D.int.injEq, D.bl.injEq, D.str.injEq, D.tup.injEq, D.lst.injEq, D.ref.injEq, D.ty.injEq, D.dct.injEq,
  List.cons.injEq, and_assoc, and_true, true_and, and_self, reduceCtorEq, false_and, and_false, if_true, if_false, if_pos, ite_true, ite_false, Bool.false_eq_true, decide_eq_true_eq, Bool.not_eq_true', decide_eq_false_iff_not, Bool.not_true, Bool.not_false, decide_true, decide_false,
  eqv_int, eqv_str, eqv_bl, dOk_int, dOk_bl, dOk_non, dOk_tup, dOk_lst, dOk_str, List.all_cons, List.all_nil, Bool.and_true, Bool.true_and, Bool.and_self, dItems_tup, dItems_lst, dItems_rf, CMulA, CDivA, CPowA, Int.reduceLT, Int.reduceLE, Int.reducePow, Int.reduceToNat, Int.reduceMul, Int.reduceAdd, Int.reduceSub, Nat.reducePow, true_or, or_true, ne_eq, not_false_eq_true, not_true_eq_false, dAt_tup, dAt_lst, dAt_rf, dLenOf_tup, dLenOf_lst, dLenOf_rf, dLenOf_str, dTyN_non, dTyN_bl, dTyN_int, dTyN_str, dTyN_tup, dTyN_lst, dTyN_dct, dTyN_rf, dIntOf_int, dIntOf_bl, knownT, subT, atI_0, atI_1, atI_2, atI_3, atI_4, atI_5, atI_neg1, mput_same, mput_mput, eqv_non, tyNames, Option.map_some, String.reduceBEq, Bool.or_true, Bool.true_or, Bool.or_false, Bool.false_or, Bool.false_and, Bool.and_false, beq_self_eq_true, BEq.rfl, List.any_cons, List.any_nil, sizeLine_eq, rLenB, Bool.true_eq_false, implies_true, Nat.zero_le, Bool.or_self, String.reduceEq, dAdd_ii, dAdd_ss, dAdd_tt, dMulA_ii, dMulA_si, dIxS_str, dIxS_tup, dIxS_lst, dIxS_ref, dCat, dCatF, dRep, dSl, dNoP, dPart, dJoin, mExtend, mIndex, rAnyL, rAllL, rSumL, rMaxL, rMinL, dLRg, diEnum, rSortD, dLc2F, dLc2, dYes, diEnumT, dSlS, rSortK, dFzS, dTupRev, diRev, diZip, dMulT, zipD, dDc, dDGet1, dLtD, dGtD, rListK, dUpper, diStr, dInS, dSortL, dSortSet, dSortSetT, dLenSetT, dStar, rIntS, rStrI, dKIx, dKIn, dKNotIn, rLenK, dKNew, dFzK, dFzD, dKPut, diKeys, diVals, diItems, mInsert, mPopAt, dKGet1, dKGet2, dKc, dDict_dct, dDict_put, isKb_int, isKb_str, true_implies, false_implies, dDIx, dDIn, dDNotIn, dSetD, dDNew, dSortLen, sortLenB, rSortO])
local macro_rules | `(tactic| walk_at "st") => `(tactic| (refine seq_i ?_; simp only [dSet, dIf, dTst, dOp, dVar, dC, dRet, dRetN, dNext, dDrop, dBreak, dCont, dAnd, dOr, dNot, dAndV, dOrV, dNotV, dIfE, dTup, dLstF, dLst, dCons, dNil, dCB, dCall, dUn, dNegI,
  dI, dI0, dEq, dNe, dIs, dIsNot, dIn, dNotIn, dIx, isN_non, isN_bl, isN_int, isN_str, isN_tup, isN_lst, isN_rf, DL.rLen, rInt, rAbs, rMax2, rMin2, DL.rGcd, rTuple, rList, rIs, rIsT, ar0, ar1, ar2, ar3, ar4, ar5, ar6, ar7, ar8, dEnds, dMt, dMt0, mAppend, mPop, mReverse, dSetL, dPut, dAsg, dgName, dgTup, dgCons, dgNil,
  dFor, diSeq, diRng1, diRng2, dLcF, dLc, dwipe, dFz,
  dstart, List.map_cons, List.map_nil, List.length_cons, List.length_nil, List.cons_append, List.nil_append, List.append_nil, List.replicate, Nat.reduceAdd, Nat.reduceSub, Nat.reduceLeDiff, Int.reduceNeg, List.set_cons_zero, List.set_cons_succ,
  List.getElem?_cons_zero, List.getElem?_cons_succ, Option.some.injEq, exists_eq_left', exists_eq_left, exists_eq_right, exists_eq, exists_and_left, exists_and_right, D.int.injEq, D.bl.injEq, D.str.injEq, D.tup.injEq, D.lst.injEq, D.ref.injEq, D.ty.injEq, D.dct.injEq,
  List.cons.injEq, and_assoc, and_true, true_and, and_self, reduceCtorEq, false_and, and_false, if_true, if_false, if_pos, ite_true, ite_false, Bool.false_eq_true, decide_eq_true_eq, Bool.not_eq_true', decide_eq_false_iff_not, Bool.not_true, Bool.not_false, decide_true, decide_false,
  eqv_int, eqv_str, eqv_bl, dOk_int, dOk_bl, dOk_non, dOk_tup, dOk_lst, dOk_str, List.all_cons, List.all_nil, Bool.and_true, Bool.true_and, Bool.and_self, dItems_tup, dItems_lst, dItems_rf, CMulA, CDivA, CPowA, Int.reduceLT, Int.reduceLE, Int.reducePow, Int.reduceToNat, Int.reduceMul, Int.reduceAdd, Int.reduceSub, Nat.reducePow, true_or, or_true, ne_eq, not_false_eq_true, not_true_eq_false, dAt_tup, dAt_lst, dAt_rf, dLenOf_tup, dLenOf_lst, dLenOf_rf, dLenOf_str, dTyN_non, dTyN_bl, dTyN_int, dTyN_str, dTyN_tup, dTyN_lst, dTyN_dct, dTyN_rf, dIntOf_int, dIntOf_bl, knownT, subT, atI_0, atI_1, atI_2, atI_3, atI_4, atI_5, atI_neg1, mput_same, mput_mput, eqv_non, tyNames, Option.map_some, String.reduceBEq, Bool.or_true, Bool.true_or, Bool.or_false, Bool.false_or, Bool.false_and, Bool.and_false, beq_self_eq_true, BEq.rfl, List.any_cons, List.any_nil, sizeLine_eq, rLenB, Bool.true_eq_false, implies_true, Nat.zero_le, Bool.or_self, String.reduceEq, dAdd_ii, dAdd_ss, dAdd_tt, dMulA_ii, dMulA_si, dIxS_str, dIxS_tup, dIxS_lst, dIxS_ref, dCat, dCatF, dRep, dSl, dNoP, dPart, dJoin, mExtend, mIndex, rAnyL, rAllL, rSumL, rMaxL, rMinL, dLRg, diEnum, rSortD, dLc2F, dLc2, dYes, diEnumT, dSlS, rSortK, dFzS, dTupRev, diRev, diZip, dMulT, zipD, dDc, dDGet1, dLtD, dGtD, rListK, dUpper, diStr, dInS, dSortL, dSortSet, dSortSetT, dLenSetT, dStar, rIntS, rStrI, dKIx, dKIn, dKNotIn, rLenK, dKNew, dFzK, dFzD, dKPut, diKeys, diVals, diItems, mInsert, mPopAt, dKGet1, dKGet2, dKc, dDict_dct, dDict_put, isKb_int, isKb_str, true_implies, false_implies, dDIx, dDIn, dDNotIn, dSetD, dDNew, dSortLen, sortLenB, rSortO]))
local macro_rules | `(tactic| walk_at "p") => `(tactic| simp only [dRet, dOp, dVar, dCall, dCB, dCons, dNil, ar0, ar1, ar2, ar3, ar4, ar5, DL.rLen, dIx, dEnds, dstart, List.map_cons, List.map_nil, List.length_cons, List.length_nil, List.cons_append, List.nil_append, List.replicate, Nat.reduceAdd, Nat.reduceSub, Nat.reduceLeDiff, List.getElem?_cons_zero, List.getElem?_cons_succ, Option.some.injEq, exists_eq_left', exists_eq_left, exists_and_left, exists_and_right, List.cons.injEq, and_assoc, and_true, true_and, D.ref.injEq, D.int.injEq])
local macro_rules | `(tactic| walk_at "s1") => `(tactic| simp only [dSet, dIf, dTst, dOp, dVar, dC, dRet, dRetN, dNext, dDrop, dBreak, dCont, dAnd, dOr, dNot, dAndV, dOrV, dNotV, dIfE, dTup, dLstF, dLst, dCons, dNil, dCB, dCall, dUn, dNegI,
  dI, dI0, dEq, dNe, dIs, dIsNot, dIn, dNotIn, dIx, isN_non, isN_bl, isN_int, isN_str, isN_tup, isN_lst, isN_rf, DL.rLen, rInt, rAbs, rMax2, rMin2, DL.rGcd, rTuple, rList, rIs, rIsT, ar0, ar1, ar2, ar3, ar4, ar5, ar6, ar7, ar8, dEnds, dMt, dMt0, mAppend, mPop, mReverse, dSetL, dPut, dAsg, dgName, dgTup, dgCons, dgNil,
  dFor, diSeq, diRng1, diRng2, dLcF, dLc, dwipe, dFz,
  dstart, List.map_cons, List.map_nil, List.length_cons, List.length_nil, List.cons_append, List.nil_append, List.append_nil, List.replicate, Nat.reduceAdd, Nat.reduceSub, Nat.reduceLeDiff, Int.reduceNeg, List.set_cons_zero, List.set_cons_succ,
  List.getElem?_cons_zero, List.getElem?_cons_succ, Option.some.injEq, exists_eq_left', exists_eq_left, exists_eq_right, exists_eq, exists_and_left, exists_and_right, D.int.injEq, D.bl.injEq, D.str.injEq, D.tup.injEq, D.lst.injEq, D.ref.injEq, D.ty.injEq, D.dct.injEq,
  List.cons.injEq, and_assoc, and_true, true_and, and_self, reduceCtorEq, false_and, and_false, if_true, if_false, if_pos, ite_true, ite_false, Bool.false_eq_true, decide_eq_true_eq, Bool.not_eq_true', decide_eq_false_iff_not, Bool.not_true, Bool.not_false, decide_true, decide_false,
  eqv_int, eqv_str, eqv_bl, dOk_int, dOk_bl, dOk_non, dOk_tup, dOk_lst, dOk_str, List.all_cons, List.all_nil, Bool.and_true, Bool.true_and, Bool.and_self, dItems_tup, dItems_lst, dItems_rf, CMulA, CDivA, CPowA, Int.reduceLT, Int.reduceLE, Int.reducePow, Int.reduceToNat, Int.reduceMul, Int.reduceAdd, Int.reduceSub, Nat.reducePow, true_or, or_true, ne_eq, not_false_eq_true, not_true_eq_false, dAt_tup, dAt_lst, dAt_rf, dLenOf_tup, dLenOf_lst, dLenOf_rf, dLenOf_str, dTyN_non, dTyN_bl, dTyN_int, dTyN_str, dTyN_tup, dTyN_lst, dTyN_dct, dTyN_rf, dIntOf_int, dIntOf_bl, knownT, subT, atI_0, atI_1, atI_2, atI_3, atI_4, atI_5, atI_neg1, mput_same, mput_mput, eqv_non, tyNames, Option.map_some, String.reduceBEq, Bool.or_true, Bool.true_or, Bool.or_false, Bool.false_or, Bool.false_and, Bool.and_false, beq_self_eq_true, BEq.rfl, List.any_cons, List.any_nil, sizeLine_eq, rLenB, Bool.true_eq_false, implies_true, Nat.zero_le, Bool.or_self, String.reduceEq, dAdd_ii, dAdd_ss, dAdd_tt, dMulA_ii, dMulA_si, dIxS_str, dIxS_tup, dIxS_lst, dIxS_ref, dCat, dCatF, dRep, dSl, dNoP, dPart, dJoin, mExtend, mIndex, rAnyL, rAllL, rSumL, rMaxL, rMinL, dLRg, diEnum, rSortD, dLc2F, dLc2, dYes, diEnumT, dSlS, rSortK, dFzS, dTupRev, diRev, diZip, dMulT, zipD, dDc, dDGet1, dLtD, dGtD, rListK, dUpper, diStr, dInS, dSortL, dSortSet, dSortSetT, dLenSetT, dStar, rIntS, rStrI, dKIx, dKIn, dKNotIn, rLenK, dKNew, dFzK, dFzD, dKPut, diKeys, diVals, diItems, mInsert, mPopAt, dKGet1, dKGet2, dKc, dDict_dct, dDict_put, isKb_int, isKb_str, true_implies, false_implies, dDIx, dDIn, dDNotIn, dSetD, dDNew, dSortLen, sortLenB, rSortO])
section
variable {P : Program} {w : World} {K : PySem.W.Frag} {mg : Str → Option Value} {base : Heap} {tb : Addr}
def topS (i : Nat) : Stmt := PySem.Challenge.pw_doubtbook_k57_likeliest_settlings.main.body.getD i (.Pass ⟨0, 0, 0, 0⟩)
abbrev s_indexed : Stmt := topS 1
abbrev N_indexed : List Str := ["doubts", "reasons", "pairs", "doubt", "mark", "options", "option", "row", "weight", "reason", "pair"]
theorem sc_indexed : FnScope N_indexed ["doubts", "reasons"] (defScope s_indexed) := ⟨rfl, rfl, rfl, by decide +kernel, rfl, by decide +kernel, by decide +kernel⟩
abbrev s_told_settling : Stmt := topS 2
abbrev N_told_settling : List Str := ["doubts", "options", "doubt", "option"]
theorem sc_told_settling : FnScope N_told_settling ["doubts", "options"] (defScope s_told_settling) := ⟨rfl, rfl, rfl, by decide +kernel, rfl, by decide +kernel, by decide +kernel⟩
abbrev s_has_all : Stmt := topS 3
abbrev N_has_all : List Str := ["reason", "other", "pair"]
theorem sc_has_all : FnScope N_has_all ["reason", "other"] (defScope s_has_all) := ⟨rfl, rfl, rfl, by decide +kernel, rfl, by decide +kernel, by decide +kernel⟩
abbrev s_settled : Stmt := topS 4
abbrev N_settled : List Str := ["reasons", "doubt", "option", "shortened", "others", "reason", "kept", "pair", "part"]
theorem sc_settled : FnScope N_settled ["reasons", "doubt", "option"] (defScope s_settled) := ⟨rfl, rfl, rfl, by decide +kernel, rfl, by decide +kernel, by decide +kernel⟩
abbrev s_standing : Stmt := topS 5
abbrev N_standing : List Str := ["reasons", "reason", "pair"]
theorem sc_standing : FnScope N_standing ["reasons"] (defScope s_standing) := ⟨rfl, rfl, rfl, by decide +kernel, rfl, by decide +kernel, by decide +kernel⟩
abbrev s_settled_wholes : Stmt := topS 7
abbrev N_settled_wholes : List Str := ["wholes", "doubt", "option", "whole"]
theorem sc_settled_wholes : FnScope N_settled_wholes ["wholes", "doubt", "option"] (defScope s_settled_wholes) := ⟨rfl, rfl, rfl, by decide +kernel, rfl, by decide +kernel, by decide +kernel⟩
abbrev s_can_become : Stmt := topS 8
abbrev N_can_become : List Str := ["wholes", "truth", "whole", "seen"]
theorem sc_can_become : FnScope N_can_become ["wholes", "truth"] (defScope s_can_become) := ⟨rfl, rfl, rfl, by decide +kernel, rfl, by decide +kernel, by decide +kernel⟩
abbrev s_heaviest : Stmt := topS 9
abbrev N_heaviest : List Str := ["doubts", "wholes", "truth", "found"]
theorem sc_heaviest : FnScope N_heaviest ["doubts", "wholes", "truth"] (defScope s_heaviest) := ⟨rfl, rfl, rfl, by decide +kernel, rfl, by decide +kernel, by decide +kernel⟩
abbrev s_heaviest_from : Stmt := topS 10
abbrev N_heaviest_from : List Str := ["doubts", "doubt", "wholes", "truth", "known", "key", "best", "option", "rest", "product"]
theorem sc_heaviest_from : FnScope N_heaviest_from ["doubts", "doubt", "wholes", "truth", "known"] (defScope s_heaviest_from) := ⟨rfl, rfl, rfl, by decide +kernel, rfl, by decide +kernel, by decide +kernel⟩
abbrev s_options_to_try : Stmt := topS 11
abbrev N_options_to_try : List Str := ["doubts", "doubt", "wholes", "weights", "row", "weight", "whole"]
theorem sc_options_to_try : FnScope N_options_to_try ["doubts", "doubt", "wholes"] (defScope s_options_to_try) := ⟨rfl, rfl, rfl, by decide +kernel, rfl, by decide +kernel, by decide +kernel⟩
abbrev s_likeliest : Stmt := topS 13
abbrev N_likeliest : List Str := ["doubts", "reasons", "options"]
theorem sc_likeliest : FnScope N_likeliest ["doubts", "reasons"] (defScope s_likeliest) := ⟨rfl, rfl, rfl, by decide +kernel, rfl, by decide +kernel, by decide +kernel⟩
abbrev s_l_draws : Stmt := topS 15
abbrev N_l_draws : List Str := ["script", "many", "cells", "left", "draws", "k", "place", "mixed", "cell"]
theorem sc_l_draws : FnScope N_l_draws ["script", "many"] (defScope s_l_draws) := ⟨rfl, rfl, rfl, by decide +kernel, rfl, by decide +kernel, by decide +kernel⟩
abbrev s_l_take : Stmt := topS 16
abbrev N_l_take : List Str := ["draws", "many"]
theorem sc_l_take : FnScope N_l_take ["draws", "many"] (defScope s_l_take) := ⟨rfl, rfl, rfl, by decide +kernel, rfl, by decide +kernel, by decide +kernel⟩
abbrev s_l_pick : Stmt := topS 17
abbrev N_l_pick : List Str := ["draws", "row"]
theorem sc_l_pick : FnScope N_l_pick ["draws", "row"] (defScope s_l_pick) := ⟨rfl, rfl, rfl, by decide +kernel, rfl, by decide +kernel, by decide +kernel⟩
abbrev s_l_same : Stmt := topS 18
abbrev N_l_same : List Str := ["actual", "due", "k"]
theorem sc_l_same : FnScope N_l_same ["actual", "due"] (defScope s_l_same) := ⟨rfl, rfl, rfl, by decide +kernel, rfl, by decide +kernel, by decide +kernel⟩
abbrev s_l_words : Stmt := topS 19
abbrev N_l_words : List Str := ["draws", "many", "words", "k", "size", "word", "j", "other"]
theorem sc_l_words : FnScope N_l_words ["draws", "many"] (defScope s_l_words) := ⟨rfl, rfl, rfl, by decide +kernel, rfl, by decide +kernel, by decide +kernel⟩
abbrev s_l_value_key : Stmt := topS 20
abbrev N_l_value_key : List Str := ["value"]
theorem sc_l_value_key : FnScope N_l_value_key ["value"] (defScope s_l_value_key) := ⟨rfl, rfl, rfl, by decide +kernel, rfl, by decide +kernel, by decide +kernel⟩
abbrev s_l_row_key : Stmt := topS 21
abbrev N_l_row_key : List Str := ["row", "value"]
theorem sc_l_row_key : FnScope N_l_row_key ["row"] (defScope s_l_row_key) := ⟨rfl, rfl, rfl, by decide +kernel, rfl, by decide +kernel, by decide +kernel⟩
abbrev s_l_sorted_rows : Stmt := topS 22
abbrev N_l_sorted_rows : List Str := ["rows", "found", "row"]
theorem sc_l_sorted_rows : FnScope N_l_sorted_rows ["rows"] (defScope s_l_sorted_rows) := ⟨rfl, rfl, rfl, by decide +kernel, rfl, by decide +kernel, by decide +kernel⟩
abbrev s_l_mark_key : Stmt := topS 23
abbrev N_l_mark_key : List Str := ["mark"]
theorem sc_l_mark_key : FnScope N_l_mark_key ["mark"] (defScope s_l_mark_key) := ⟨rfl, rfl, rfl, by decide +kernel, rfl, by decide +kernel, by decide +kernel⟩
abbrev s_l_is_part : Stmt := topS 24
abbrev N_l_is_part : List Str := ["small", "large", "part"]
theorem sc_l_is_part : FnScope N_l_is_part ["small", "large"] (defScope s_l_is_part) := ⟨rfl, rfl, rfl, by decide +kernel, rfl, by decide +kernel, by decide +kernel⟩
abbrev s_l_pair_key : Stmt := topS 25
abbrev N_l_pair_key : List Str := ["pair"]
theorem sc_l_pair_key : FnScope N_l_pair_key ["pair"] (defScope s_l_pair_key) := ⟨rfl, rfl, rfl, by decide +kernel, rfl, by decide +kernel, by decide +kernel⟩
abbrev s_l_reason_key : Stmt := topS 26
abbrev N_l_reason_key : List Str := ["reason", "pair"]
theorem sc_l_reason_key : FnScope N_l_reason_key ["reason"] (defScope s_l_reason_key) := ⟨rfl, rfl, rfl, by decide +kernel, rfl, by decide +kernel, by decide +kernel⟩
abbrev s_l_all_settlings : Stmt := topS 27
abbrev N_l_all_settlings : List Str := ["doubts", "found", "doubt", "grown", "settling", "option"]
theorem sc_l_all_settlings : FnScope N_l_all_settlings ["doubts"] (defScope s_l_all_settlings) := ⟨rfl, rfl, rfl, by decide +kernel, rfl, by decide +kernel, by decide +kernel⟩
abbrev s_l_member_key : Stmt := topS 28
abbrev N_l_member_key : List Str := ["member"]
theorem sc_l_member_key : FnScope N_l_member_key ["member"] (defScope s_l_member_key) := ⟨rfl, rfl, rfl, by decide +kernel, rfl, by decide +kernel, by decide +kernel⟩
abbrev s_l_thin : Stmt := topS 29
abbrev N_l_thin : List Str := ["members", "found", "member", "other"]
theorem sc_l_thin : FnScope N_l_thin ["members"] (defScope s_l_thin) := ⟨rfl, rfl, rfl, by decide +kernel, rfl, by decide +kernel, by decide +kernel⟩
abbrev s_l_pool_of : Stmt := topS 30
abbrev N_l_pool_of : List Str := ["draws", "words", "number"]
theorem sc_l_pool_of : FnScope N_l_pool_of ["draws", "words"] (defScope s_l_pool_of) := ⟨rfl, rfl, rfl, by decide +kernel, rfl, by decide +kernel, by decide +kernel⟩
abbrev s_l_drawn_weight : Stmt := topS 31
abbrev N_l_drawn_weight : List Str := ["draws", "weight"]
theorem sc_l_drawn_weight : FnScope N_l_drawn_weight ["draws"] (defScope s_l_drawn_weight) := ⟨rfl, rfl, rfl, by decide +kernel, rfl, by decide +kernel, by decide +kernel⟩
abbrev s_l_drawn_options : Stmt := topS 32
abbrev N_l_drawn_options : List Str := ["draws", "key", "others", "pool", "many", "start", "rows", "k", "rest", "i", "row"]
theorem sc_l_drawn_options : FnScope N_l_drawn_options ["draws", "key", "others", "pool", "many"] (defScope s_l_drawn_options) := ⟨rfl, rfl, rfl, by decide +kernel, rfl, by decide +kernel, by decide +kernel⟩
abbrev s_l_drawn_doubts : Stmt := topS 33
abbrev N_l_drawn_doubts : List Str := ["draws", "words", "many", "most", "pool", "near", "great", "forms", "k", "doubts", "j", "form", "key", "turn", "mark", "doubt"]
theorem sc_l_drawn_doubts : FnScope N_l_drawn_doubts ["draws", "words", "many", "most"] (defScope s_l_drawn_doubts) := ⟨rfl, rfl, rfl, by decide +kernel, rfl, by decide +kernel, by decide +kernel⟩
abbrev s_l_doubt_key : Stmt := topS 34
abbrev N_l_doubt_key : List Str := ["doubt"]
theorem sc_l_doubt_key : FnScope N_l_doubt_key ["doubt"] (defScope s_l_doubt_key) := ⟨rfl, rfl, rfl, by decide +kernel, rfl, by decide +kernel, by decide +kernel⟩
abbrev s_l_drawn_reason : Stmt := topS 35
abbrev N_l_drawn_reason : List Str := ["draws", "doubts", "width", "left", "chosen", "k", "at"]
theorem sc_l_drawn_reason : FnScope N_l_drawn_reason ["draws", "doubts", "width"] (defScope s_l_drawn_reason) := ⟨rfl, rfl, rfl, by decide +kernel, rfl, by decide +kernel, by decide +kernel⟩
abbrev s_l_drawn_reasons : Stmt := topS 36
abbrev N_l_drawn_reasons : List Str := ["draws", "doubts", "many", "width", "kind", "k"]
theorem sc_l_drawn_reasons : FnScope N_l_drawn_reasons ["draws", "doubts", "many", "width"] (defScope s_l_drawn_reasons) := ⟨rfl, rfl, rfl, by decide +kernel, rfl, by decide +kernel, by decide +kernel⟩
abbrev s_l_all_weights : Stmt := topS 37
abbrev N_l_all_weights : List Str := ["doubts", "found", "doubt", "grown", "weight", "option"]
theorem sc_l_all_weights : FnScope N_l_all_weights ["doubts"] (defScope s_l_all_weights) := ⟨rfl, rfl, rfl, by decide +kernel, rfl, by decide +kernel, by decide +kernel⟩
abbrev s_l_given : Stmt := topS 38
abbrev N_l_given : List Str := ["doubts", "settling", "k"]
theorem sc_l_given : FnScope N_l_given ["doubts", "settling"] (defScope s_l_given) := ⟨rfl, rfl, rfl, by decide +kernel, rfl, by decide +kernel, by decide +kernel⟩
abbrev s_l_holds : Stmt := topS 39
abbrev N_l_holds : List Str := ["reasons", "given", "reason"]
theorem sc_l_holds : FnScope N_l_holds ["reasons", "given"] (defScope s_l_holds) := ⟨rfl, rfl, rfl, by decide +kernel, rfl, by decide +kernel, by decide +kernel⟩
abbrev s_l_truths : Stmt := topS 40
abbrev N_l_truths : List Str := ["doubts", "reasons", "settling"]
theorem sc_l_truths : FnScope N_l_truths ["doubts", "reasons"] (defScope s_l_truths) := ⟨rfl, rfl, rfl, by decide +kernel, rfl, by decide +kernel, by decide +kernel⟩
abbrev s_l_named : Stmt := topS 41
abbrev N_l_named : List Str := ["doubts", "reasons", "marks", "reason", "doubt", "pair"]
theorem sc_l_named : FnScope N_l_named ["doubts", "reasons"] (defScope s_l_named) := ⟨rfl, rfl, rfl, by decide +kernel, rfl, by decide +kernel, by decide +kernel⟩
abbrev s_l_best_free : Stmt := topS 42
abbrev N_l_best_free : List Str := ["doubt", "most", "option"]
theorem sc_l_best_free : FnScope N_l_best_free ["doubt"] (defScope s_l_best_free) := ⟨rfl, rfl, rfl, by decide +kernel, rfl, by decide +kernel, by decide +kernel⟩
abbrev s_l_due_likeliest : Stmt := topS 43
abbrev N_l_due_likeliest : List Str := ["doubts", "reasons", "named", "settlings", "weights", "truths", "most", "best", "rows", "doubt", "k", "one"]
theorem sc_l_due_likeliest : FnScope N_l_due_likeliest ["doubts", "reasons"] (defScope s_l_due_likeliest) := ⟨rfl, rfl, rfl, by decide +kernel, rfl, by decide +kernel, by decide +kernel⟩
abbrev s_law : Stmt := topS 44
abbrev N_law : List Str := ["script", "draws", "words", "shape", "doubts", "left", "few", "k", "sole", "each", "first", "reasons", "option", "doubt"]
theorem sc_law : FnScope N_law ["script"] (defScope s_law) := ⟨rfl, rfl, rfl, by decide +kernel, rfl, by decide +kernel, by decide +kernel⟩

structure Bi (K : PySem.W.Frag) (mg : Str → Option Value) : Prop where
  b_all : mg "all" = none
  b_any : mg "any" = none
  b_bool : mg "bool" = none
  b_enumerate : mg "enumerate" = none
  b_int : mg "int" = none
  b_isinstance : mg "isinstance" = none
  b_len : mg "len" = none
  b_list : mg "list" = none
  b_max : mg "max" = none
  b_range : mg "range" = none
  b_set : mg "set" = none
  b_sorted : mg "sorted" = none
  b_str : mg "str" = none
  b_tuple : mg "tuple" = none
  b_zip : mg "zip" = none
structure Im (mg : Str → Option Value) : Prop where
  i_ok : True
/-! ### draws -/
abbrev sp_l_draws : DSp := ar2 fun a b M Q => ∃ (ns : List Int) (n : Int), a = .lst (ns.map D.int) ∧ b = .int n ∧ 0 ≤ n ∧ n ≤ 4000 ∧ ∀ p o, M p = none → DrO o → Q (.ref p) (mput M p o)
theorem ok_l_draws (F : Def K mg "_law_draws" s_l_draws ["script", "many"]) (B : Bi K mg) (I : Im mg)  : Cal P w K mg base 1 "_law_draws" ["script", "many"] sp_l_draws := by
  have sc := sc_l_draws
  refine F.cal sc (fun ds M Q h => len2 h) (fun f cdv A outer s H E hr => (ds_cons (ds_setLc (i := 2) rfl sc.nd rfl rfl (sw_true rfl rfl rfl (by decide +kernel)) (own := [("cell", 8)]) (di_seq (d_v 0)) (blkOk_by (N := N_l_draws) (sc := defScope s_l_draws) (by decide +kernel)) (by decide) (fun _ _ _ _ _ => (dg_name (i := 8) sc.nd rfl (Or.inl rfl))) (fun _ _ _ _ _ => dts_nil) (fun _ _ _ _ _ => (d_ct c_int rfl B.b_int boot_int (da_cons (d_v 8) da_nil))))
    (ds_cons (ds_if (dt_cmp (o_eq (hu_eq hr)) (d_cb c_len rfl B.b_len boot_len (da_cons (d_v 2) da_nil)) d_int (nomark _))
    (ds_one (ds_expr (d_mt PySem.F.slot_list_append PySem.F.type_list_append m_append (d_v 2) (da_cons d_int da_nil))))
    ds_nil)
    (ds_cons (ds_set (i := 3) sc.nd rfl (Or.inl rfl) (d_ct c_list rfl B.b_list boot_list (da_cons (d_v 2) da_nil)))
    (ds_cons (ds_set (i := 4) sc.nd rfl (Or.inl rfl) (d_lst da_nil))
    (ds_cons (ds_for PassesOwn.never rfl (di_range1 rfl B.b_range (da_cons (d_v 1) da_nil)) (dg_name (i := 5) sc.nd rfl (Or.inl rfl))
    (ds_cons (ds_set (i := 6) sc.nd rfl (Or.inl rfl) (d_op o_mod (d_v 5) (d_cb c_len rfl B.b_len boot_len (da_cons (d_v 2) da_nil))))
    (ds_one (ds_if (dt_cmp o_ge (d_ix x_ix (d_v 2) (d_v 6) (fun _ _ => rfl)) (d_op o_pow d_int d_int) (nomark _))
    (ds_cons (ds_expr (d_mt PySem.F.slot_list_append PySem.F.type_list_append m_append (d_v 4) (da_cons (d_op o_mod (d_ct c_int rfl B.b_int boot_int (da_cons (d_ix x_ix (d_v 3) (d_v 6) (fun _ _ => rfl)) da_nil)) d_int) da_nil)))
    (ds_one (ds_put (d_op o_div (d_ix x_ix (d_v 3) (d_v 6) (fun _ _ => rfl)) d_int) (d_v 3) (d_v 6) s_lst)))
    (ds_cons (ds_set (i := 7) sc.nd rfl (Or.inl rfl) (d_op o_mod (d_ct c_int rfl B.b_int boot_int (da_cons (d_op o_add (d_op o_add (d_op o_mul (d_ix x_ix (d_v 2) (d_v 6) (fun _ _ => rfl)) d_int) (d_op o_mul (d_v 5) d_int)) d_int) da_nil)) d_int))
    (ds_one (ds_expr (d_mt PySem.F.slot_list_append PySem.F.type_list_append m_append (d_v 4) (da_cons (d_op o_mod (d_ct c_int rfl B.b_int boot_int (da_cons (d_op o_add (d_op o_add (d_op o_mul (d_v 7) (d_v 7)) (d_op o_mul d_int (d_v 7))) (d_v 5)) da_nil)) d_int) da_nil)))))))))
    (ds_cons (ds_expr (d_mt0 PySem.F.slot_list_reverse PySem.F.type_list_reverse m_reverse (d_v 4)))
    (ds_one (ds_ret (d_v 4)))))))))) (fun ds M Q h => ?_)
  obtain ⟨a, b, rfl, ns, n, rfl, rfl, h0, h1, h⟩ := h
  walk_at "st"
  intro _
  refine lc_map ns D.int D.int rfl srcV_none (fun x hx M l C1 h1 => by walk_at "s1"; exact h1) fun c hc => ?_
  refine seq_cut (fun m1 M1 => ∃ cs : List Int, cs ≠ [] ∧ M1 c = some (.lst (cs.map D.int)) ∧ MLe M M1 ∧ m1 = [some (.lst (ns.map D.int)), some (.int n), some (.ref c), none, none, none, none, none, none]) (fun Cn hC => ?_) ?_
  · walk_at "s1"
    split
    · next e =>
      refine ⟨⟨_, rfl⟩, _, rfl, ?_⟩
      have e2 : ns = [] := by
        rw [List.length_map] at e
        exact List.eq_nil_of_length_eq_zero (by omega)
      subst e2
      exact ⟨by decide, hC _ _ ⟨[0], by simp, by rw [mput_same]; rfl, MLe.put (.refl M) hc, rfl⟩⟩
    · next e =>
      refine hC _ _ ⟨ns, fun z => e ?_, mput_same, MLe.put (.refl M) hc, rfl⟩
      rw [z]
      rfl
  rintro _ M1 ⟨cs, hcs, hM1, le1, rfl⟩
  walk_at "st"
  refine ⟨_, by rw [hM1], fun l hl => ?_⟩
  have hcl : c ≠ l := ne_of_fresh hM1 hl
  walk_at "st"
  intro d hd
  have hM2 : mput M1 l (.lst (cs.map D.int)) c = some (.lst (cs.map D.int)) := by rw [mput_ne hcl]; exact hM1
  have hcd : c ≠ d := ne_of_fresh hM2 hd
  have hld : l ≠ d := ne_of_fresh mput_same hd
  have hMl : M l = none := by
    cases q : M l with
    | none => rfl
    | some o => rw [le1 l o q] at hl; cases hl
  have hMd : M d = none := by
    cases q : M d with
    | none => rfl
    | some o => rw [mput_ne hld.symm, le1 d o q] at hd; cases hd
  walk_at "st"
  refine ⟨by omega, by omega, fun _ => ?_⟩
  have hpos : (0 : Int) < (cs.length : Int) := by
    cases cs with
    | nil => exact absurd rfl hcs
    | cons x r => rw [List.length_cons]; omega
  refine for_ind (fun items m1 M2 => ∃ (ls ks : List Int) (x5 x6 x7 x8 : Option D), m1 = [some (.lst (ns.map D.int)), some (.int n), some (.ref c), some (.ref l), some (.ref d), x5, x6, x7, x8] ∧
    M2 c = some (.lst (cs.map D.int)) ∧ M2 l = some (.lst (ls.map D.int)) ∧ ls.length = cs.length ∧ M2 d = some (.lst (ks.map D.int)) ∧ ks.length + items.length ≤ 4000 ∧ MLe M M2 ∧ ∀ z ∈ items, ∃ k : Int, z = .int k ∧ 0 ≤ k ∧ k < 4000) ?_ ?_ _ _ _ ?_
  · rintro m1 M2 ⟨ls, ks, x5, x6, x7, x8, rfl, e1, e2, e3, e4, e5, e6, _⟩
    refine ⟨srcV_none, ?_⟩
    walk_at "rd"
    rw [e4]
    refine ⟨⟨_, rfl⟩, _, rfl, ?_⟩
    rw [← List.map_reverse]
    exact ret_le (MLe.with (MLe.put e6 hMd) mput_same) (h d _ hMd ⟨_, rfl⟩)
  · rintro z items m1 M2 Cn hC ⟨ls, ks, x5, x6, x7, x8, rfl, e1, e2, e3, e4, e5, e6, e7⟩
    refine ⟨srcV_none, ?_⟩
    obtain ⟨k, rfl, k0, k1⟩ := e7 z (by simp)
    rw [List.length_cons] at e5
    have hksz : ks.length < 16777216 := by omega
    have e7' : ∀ z ∈ items, ∃ k : Int, z = .int k ∧ 0 ≤ k ∧ k < 4000 := fun z hz => e7 z (by simp [hz])
    walk_at "st"
    rw [e1]
    refine ⟨_, rfl, by rw [List.length_map]; exact hpos, ?_⟩
    rw [List.length_map]
    have p0 : 0 ≤ k % (cs.length : Int) := Int.emod_nonneg _ (by omega)
    have p1 : k % (cs.length : Int) < cs.length := Int.emod_lt_of_pos _ hpos
    generalize k % (cs.length : Int) = pl at p0 p1
    obtain ⟨cv, _, hcv⟩ := atI_lt p0 p1
    obtain ⟨lv, _, hlv⟩ := atI_lt (xs := ls) p0 (by rw [e3]; exact p1)
    walk_at "s1"
    refine ⟨_, by rw [atI_map, hcv]; rfl, _, rfl, ?_⟩
    split
    · walk_at "st"
      rw [e2, e4]
      refine ⟨⟨_, rfl⟩, _, rfl, _, by rw [atI_map, hlv]; rfl, _, rfl, _, rfl, by rw [List.length_map]; exact hksz, ?_⟩
      have e2' : mput M2 d (.lst (ks.map D.int ++ [.int (lv % 1000)])) l = some (.lst (ls.map D.int)) := by rw [mput_ne hld]; exact e2
      rw [e2']
      refine ⟨_, rfl, _, by rw [atI_map, hlv]; rfl, _, rfl, _, rfl, _, ixN_lt p0 (by rw [List.length_map, e3]; exact p1), ?_⟩
      refine fg_of (hC _ _ ⟨ls.set pl.toNat (lv / 1000), ks ++ [lv % 1000], _, _, _, _, rfl, ?_, ?_, by rw [List.length_set]; exact e3, ?_, by rw [List.length_append, List.length_singleton]; omega, MLe.put (MLe.put e6 hMd) hMl, e7'⟩)
      · rw [mput_ne hcl, mput_ne hcd]
        exact e1
      · rw [mput_same, List.map_set]
      · rw [mput_ne hld.symm, mput_same, List.map_append]
        rfl
    · walk_at "st"
      rw [e1]
      refine ⟨_, rfl, _, by rw [atI_map, hcv]; rfl, _, rfl, ?_⟩
      have m0 : 0 ≤ (cv * 48271 + k * 69621 + 11) % 2147483647 := Int.emod_nonneg _ (by omega)
      have m1 : (cv * 48271 + k * 69621 + 11) % 2147483647 < 2147483647 := Int.emod_lt_of_pos _ (by omega)
      generalize (cv * 48271 + k * 69621 + 11) % 2147483647 = mx at m0 m1
      rw [e4]
      refine ⟨⟨_, rfl⟩, .inl ⟨by omega, by omega⟩, _, rfl, by rw [List.length_map]; exact hksz, ?_⟩
      refine fg_of (hC _ _ ⟨ls, ks ++ [(mx * mx + 3 * mx + k) % 1000003], _, _, _, _, rfl, ?_, ?_, e3, ?_, by rw [List.length_append, List.length_singleton]; omega, MLe.put e6 hMd, e7'⟩)
      · rw [mput_ne hcd]
        exact e1
      · rw [mput_ne hld]
        exact e2
      · rw [mput_same, List.map_append]
        rfl
  · refine ⟨cs, [], _, _, _, _, rfl, ?_, ?_, rfl, mput_same, ?_, MLe.put (MLe.put le1 hMl) hMd, fun z hz => ?_⟩
    · rw [mput_ne hcd]
      exact hM2
    · rw [mput_ne hld]
      exact mput_same
    · simp [rangeD]
      omega
    · simp only [rangeD, List.mem_map, List.mem_range] at hz
      obtain ⟨i, hi, rfl⟩ := hz
      exact ⟨_, rfl, by omega, by omega⟩
/-- the next draw -/
abbrev sp_l_take : DSp := ar2 fun a b M Q => ∃ (p : Addr) (n : Int), a = .ref p ∧ b = .int n ∧ Dr M p ∧ 0 < n ∧ ∀ (o : DO) (r : Int), DrO o → 0 ≤ r → r < n → Q (.int r) (mput M p o)
theorem ok_l_take (F : Def K mg "_law_take" s_l_take ["draws", "many"]) (B : Bi K mg) (I : Im mg)  : Cal P w K mg base 1 "_law_take" ["draws", "many"] sp_l_take := by
  have sc := sc_l_take
  refine F.cal sc (fun ds M Q h => len2 h) (fun f cdv A outer s H E hr => (ds_cons (ds_if (dt_cmp (o_eq (hu_eq hr)) (d_cb c_len rfl B.b_len boot_len (da_cons (d_v 0) da_nil)) d_int (nomark _))
    (ds_one (ds_ret d_int))
    ds_nil)
    (ds_one (ds_ret (d_op o_mod (d_ct c_int rfl B.b_int boot_int (da_cons (d_mt0 PySem.F.slot_list_pop PySem.F.type_list_pop m_pop (d_v 0)) da_nil)) (d_v 1)))))) (fun ds M Q h => ?_)
  obtain ⟨a, b, rfl, p, n, rfl, rfl, ⟨_, e, ks, rfl⟩, hn, h⟩ := h
  walk_at "rd"
  rw [e]
  refine ⟨_, rfl, ?_⟩
  split
  · have z := h _ 0 ⟨ks, rfl⟩ (by omega) hn
    rw [mput_self e] at z
    exact ret_of z
  · next ne =>
    cases q : ks.getLast? with
    | none =>
      rw [List.getLast?_eq_none_iff] at q
      subst q
      exact absurd rfl ne
    | some k =>
      refine ⟨⟨_, rfl⟩, _, rfl, _, by rw [List.getLast?_map, q]; rfl, _, rfl, hn, ?_⟩
      rw [← List.map_dropLast]
      exact ret_of (h _ _ ⟨_, rfl⟩ (Int.emod_nonneg _ (by omega)) (Int.emod_lt_of_pos _ hn))
/-- one of a row -/
abbrev sp_l_pick : DSp := ar2 fun a b M Q => ∃ (p : Addr) (row : List D), a = .ref p ∧ dItems b M = some row ∧ b ≠ .ref p ∧ Dr M p ∧ row ≠ [] ∧
  ∀ (o : DO) (x : D), DrO o → x ∈ row → Q x (mput M p o)
theorem ok_l_pick (F : Def K mg "_law_pick" s_l_pick ["draws", "row"]) (B : Bi K mg) (I : Im mg) (c_l_take : Cal P w K mg base 1 "_law_take" ["draws", "many"] sp_l_take) : Cal P w K mg base 2 "_law_pick" ["draws", "row"] sp_l_pick := by
  have sc := sc_l_pick
  refine F.cal sc (fun ds M Q h => len2 h) (fun f cdv A outer s H E hr => (ds_one (ds_ret (d_ix x_ix (d_v 1) (d_call c_l_take (hr.mono (by first | decide | omega)) rfl (da_cons (d_v 0) (da_cons (d_cb c_len rfl B.b_len boot_len (da_cons (d_v 1) da_nil)) da_nil))) (fun _ _ => rfl))))) (fun ds M Q h => ?_)
  obtain ⟨a, b, rfl, p, row, rfl, hb, hne, e, hr, h⟩ := h
  walk_at "p"
  have hl := len_items hb
  have hpos : (0 : Int) < (row.length : Int) := by
    cases row with
    | nil => exact absurd rfl hr
    | cons x r => rw [List.length_cons]; omega
  refine ⟨_, hl, e, hpos, fun o r ho r0 r1 => ?_⟩
  obtain ⟨x, hx, hat⟩ := atI_lt r0 r1
  exact ⟨row, by rw [items_put hne]; exact hb, x, hat, ret_of (h o x ho hx)⟩

/-- equal values of the same kinds -/
def spS (n : Nat) : DSp := ar2 fun a b M Q => a = b ∧ dOk n b = true ∧ Q (.bl true) M
def spS' : Nat → DSp
  | 0 => fun _ _ _ => False
  | n + 1 => spS n
abbrev sp_l_same : DSp := ar2 fun a b M Q => a = b ∧ dOk 24 b = true ∧ Q (.bl true) M
theorem l_same_list {n : Nat} {b : D} {xs : List D} (hb : ∀ M, dItems b M = some xs) (hd : dOk (n + 1) b = true) (hx : xs.all (dOk n) = true) {j : Nat} {M : DM} {C1 : D → DM → Prop} (hj : j < xs.length) (q : C1 (.bl true) M) (m : DSt) (h0 : m[0]? = some (some b)) (h1 : m[1]? = some (some b)) (h2 : m[2]? = some (some (.int j))) :
    dCall (spS n) (dCons (dOp dIx (dVar 0) (dVar 2)) (dCons (dOp dIx (dVar 1) (dVar 2)) dNil)) m M C1 := by
  have ho : dOk n xs[j] = true := List.all_eq_true.mp hx _ (List.getElem_mem hj)
  have hi : atI xs (j : Int) = some xs[j] := by rw [atI_n, List.getElem?_eq_getElem hj]
  refine ⟨b, h0, .int j, h2, xs, j, xs[j], hb M, rfl, hi, b, h1, .int j, h2, xs, j, xs[j], hb M, rfl, hi, xs[j], xs[j], rfl, rfl, ho, q⟩
theorem ok_l_same_step (F : Def K mg "_law_same" s_l_same ["actual", "due"]) (B : Bi K mg) (I : Im mg) (n : Nat) (c_l_same : Cal P w K mg base n "_law_same" ["actual", "due"] (spS' n)) : Cal P w K mg base (n + 1) "_law_same" ["actual", "due"] (spS n) := by
  have sc := sc_l_same
  refine F.cal sc (fun ds M Q h => len2 h) (fun f cdv A outer s H E hr => (ds_cons (ds_if (dt_val (d_cb c_isT rfl B.b_isinstance boot_isinstance (da_cons (d_v 1) (da_cons (d_tup (da_cons (d_ty rfl B.b_tuple boot_tuple) (da_cons (d_ty rfl B.b_list boot_list) da_nil))) da_nil))))
    (ds_cons (ds_if (dt_w (dw_or (dt_cmp (o_ne (hu_eq hr)) (d_cb c_is rfl B.b_isinstance boot_isinstance (da_cons (d_v 0) (da_cons (d_ty rfl B.b_tuple boot_tuple) da_nil))) (d_cb c_is rfl B.b_isinstance boot_isinstance (da_cons (d_v 1) (da_cons (d_ty rfl B.b_tuple boot_tuple) da_nil))) (nomark _)) (dw_or1 (dt_cmp (o_ne (hu_eq hr)) (d_cb c_is rfl B.b_isinstance boot_isinstance (da_cons (d_v 0) (da_cons (d_ty rfl B.b_list boot_list) da_nil))) (d_cb c_is rfl B.b_isinstance boot_isinstance (da_cons (d_v 1) (da_cons (d_ty rfl B.b_list boot_list) da_nil))) (nomark _)))))
    (ds_one (ds_ret d_bl))
    ds_nil)
    (ds_cons (ds_if (dt_cmp (o_ne (hu_eq hr)) (d_cb c_len rfl B.b_len boot_len (da_cons (d_v 0) da_nil)) (d_cb c_len rfl B.b_len boot_len (da_cons (d_v 1) da_nil)) (nomark _))
    (ds_one (ds_ret d_bl))
    ds_nil)
    (ds_one (ds_ret (d_cmp (o_notin (hu_in hr)) d_bl (d_lcF rfl sc.nd (own := [("k", 2)]) (di_range1 rfl B.b_range (da_cons (d_cb c_lenB rfl B.b_len boot_len (da_cons (d_v 1) da_nil)) da_nil)) (blkOk_by (N := N_l_same) (sc := defScope s_l_same) (by decide +kernel)) (by decide) (fun _ _ _ _ _ => (dg_name (i := 2) sc.nd rfl (Or.inl rfl))) (fun _ _ _ _ _ => dts_nil) (fun _ _ _ _ _ => (d_call c_l_same (hr.mono (by first | decide | omega)) rfl (da_cons (d_ix x_ix (d_v 0) (d_v 2) (fun _ _ => rfl)) (da_cons (d_ix x_ix (d_v 1) (d_v 2) (fun _ _ => rfl)) da_nil))))) rfl)))))
    ds_nil)
    (ds_cons (ds_if (dt_w (dw_or (dt_cmp (o_ne (hu_eq hr)) (d_cb c_is rfl B.b_isinstance boot_isinstance (da_cons (d_v 0) (da_cons (d_ty rfl B.b_bool boot_bool) da_nil))) (d_cb c_is rfl B.b_isinstance boot_isinstance (da_cons (d_v 1) (da_cons (d_ty rfl B.b_bool boot_bool) da_nil))) (nomark _)) (dw_or1 (dt_cmp (o_ne (hu_eq hr)) (d_cb c_is rfl B.b_isinstance boot_isinstance (da_cons (d_v 0) (da_cons (d_ty rfl B.b_int boot_int) da_nil))) (d_cb c_is rfl B.b_isinstance boot_isinstance (da_cons (d_v 1) (da_cons (d_ty rfl B.b_int boot_int) da_nil))) (nomark _)))))
    (ds_one (ds_ret d_bl))
    ds_nil)
    (ds_cons (ds_if (dt_w (dw_or (dt_cmp (o_ne (hu_eq hr)) (d_cb c_is rfl B.b_isinstance boot_isinstance (da_cons (d_v 0) (da_cons (d_ty rfl B.b_str boot_str) da_nil))) (d_cb c_is rfl B.b_isinstance boot_isinstance (da_cons (d_v 1) (da_cons (d_ty rfl B.b_str boot_str) da_nil))) (nomark _)) (dw_or1 (dt_cmp (o_ne (hu_eq hr)) (d_cmp o_is (d_v 0) d_non (nomark _)) (d_cmp o_is (d_v 1) d_non (nomark _)) (nomark _)))))
    (ds_one (ds_ret d_bl))
    ds_nil)
    (ds_one (ds_ret (d_cmp (o_eq (hu_eq hr)) (d_v 0) (d_v 1) (nomark _)))))))) (fun ds M Q h => ?_)
  obtain ⟨b, _, rfl, rfl, hb, h⟩ := h
  cases b with
  | non =>
    walk_at "rd"
    exact ret_of h
  | bl i =>
    walk_at "rd"
    exact ret_of h
  | int i =>
    walk_at "rd"
    exact ret_of h
  | str x =>
    have hx : PyData.strOk x = true := by
      rw [dOk_str] at hb
      exact hb
    walk_at "rd"
    exact ⟨hx, hx, ret_of h⟩
  | tup xs =>
    cases n with
    | zero => cases hb
    | succ n =>
      have hx : xs.all (dOk n) = true := hb
      walk_at "rd"
      intro hz
      refine ⟨by omega, by omega, fun _ => ?_⟩
      refine lc_map (List.range xs.length) (fun i => D.int (0 + (i : Nat))) (fun _ => .bl true) (by simp [rangeD]) srcV_none (fun x hx' M l C1 h1 => ?_) fun p hp => ?_
      · exact l_same_list (fun _ => rfl) hb hx (List.mem_range.mp hx') h1 _ rfl rfl (by simp)
      · simp only [mdel_mput hp]
        refine ⟨by simp, ?_⟩
        have e : (List.map (fun _ : Nat => D.bl true) (List.range xs.length)).any (fun z => z.eqv (D.bl false)) = false := by
          rw [List.any_map]
          simp [eqv_bl]
        rw [e]
        exact ret_of h
  | lst xs =>
    cases n with
    | zero => cases hb
    | succ n =>
      have hx : xs.all (dOk n) = true := hb
      walk_at "rd"
      intro hz
      refine ⟨by omega, by omega, fun _ => ?_⟩
      refine lc_map (List.range xs.length) (fun i => D.int (0 + (i : Nat))) (fun _ => .bl true) (by simp [rangeD]) srcV_none (fun x hx' M l C1 h1 => ?_) fun p hp => ?_
      · exact l_same_list (fun _ => rfl) hb hx (List.mem_range.mp hx') h1 _ rfl rfl (by simp)
      · simp only [mdel_mput hp]
        refine ⟨by simp, ?_⟩
        have e : (List.map (fun _ : Nat => D.bl true) (List.range xs.length)).any (fun z => z.eqv (D.bl false)) = false := by
          rw [List.any_map]
          simp [eqv_bl]
        rw [e]
        exact ret_of h
  | dct _ => cases n <;> cases hb
  | ref _ => cases n <;> cases hb
  | ty _ => cases n <;> cases hb
theorem ok_l_same (F : Def K mg "_law_same" s_l_same ["actual", "due"]) (B : Bi K mg) (I : Im mg) : Cal P w K mg base 25 "_law_same" ["actual", "due"] sp_l_same := by
  have z : ∀ n : Nat, Cal P w K mg base (n + 1) "_law_same" ["actual", "due"] (spS n) := by
    intro n
    induction n with
    | zero => exact ok_l_same_step F B I 0 F.nil
    | succ n ih => exact ok_l_same_step F B I (n + 1) ih
  exact z 24
/-! ### words -/
def wok (B : Nat) (w : Str) : Prop := 1 ≤ w.length ∧ w.length ≤ B ∧ (∀ c ∈ w.cps.toList, 97 ≤ c ∧ c ≤ 122) ∧ (w.length ≤ 25 ∨ ∀ c ∈ w.cps.toList, c = 122)
theorem wok_mono {A B : Nat} {w : Str} (h : wok A w) (l : A ≤ B) : wok B w := ⟨h.1, Nat.le_trans h.2.1 l, h.2.2⟩
theorem wok_str {B : Nat} {w : Str} (h : wok B w) : PyData.strOk w = true := by
  unfold PyData.strOk
  rw [← Array.all_toList]
  refine List.all_eq_true.mpr fun c hc => ?_
  have := (h.2.2.1 c hc).2
  exact decide_eq_true (by omega)
theorem alpha_sgn {i : Int} (h0 : 0 ≤ i) (h1 : i < 26) : ∃ c : Nat, sgn "abcdefghijklmnopqrstuvwxyz" i = some (SS [c]) ∧ 97 ≤ c ∧ c ≤ 122 := by
  have z : ∀ n : Fin 26, ∃ c : Nat, sgn "abcdefghijklmnopqrstuvwxyz" ((n.val : Nat) : Int) = some (SS [c]) ∧ 97 ≤ c ∧ c ≤ 122 := by
    intro n
    refine ⟨97 + n.val, ?_, by omega, by omega⟩
    revert n
    decide +kernel
  obtain ⟨n, rfl⟩ := Int.eq_ofNat_of_zero_le h0
  exact z ⟨n, by omega⟩
theorem ss_len (cs : List Nat) : (SS cs).length = cs.length := by simp [Str.length]
theorem srep_z {n c : Nat} (h : c ∈ (srep (Str.ofString "z") n).cps.toList) : c = 122 := by
  have e : (Str.ofString "z").cps.toList = [122] := by decide +kernel
  have h' : c ∈ (List.replicate n [122]).flatten := by simpa [srep, e] using h
  obtain ⟨l, hl, hc⟩ := List.mem_flatten.mp h'
  rw [(List.mem_replicate.mp hl).2] at hc
  simpa using hc
abbrev sp_l_words : DSp := ar2 fun a b M Q => ∃ (p : Addr) (n : Nat), a = .ref p ∧ b = .int n ∧ n ≤ 100 ∧ Dr M p ∧ ∀ (o : DO) (ws : List Str), DrO o → ws.length = n → ws.Nodup → (∀ w ∈ ws, wok (25 + n) w) → Q (.lst (ws.map D.str)) (mput M p o)
theorem ok_l_words (F : Def K mg "_law_words" s_l_words ["draws", "many"]) (B : Bi K mg) (I : Im mg) (c_l_take : Cal P w K mg base 1 "_law_take" ["draws", "many"] sp_l_take) : Cal P w K mg base 2 "_law_words" ["draws", "many"] sp_l_words := by
  have sc := sc_l_words
  refine F.cal sc (fun ds M Q h => len2 h) (fun f cdv A outer s H E hr => (ds_cons (ds_set (i := 2) sc.nd rfl (Or.inl rfl) (d_lst da_nil))
    (ds_cons (ds_for PassesOwn.never rfl (di_range1 rfl B.b_range (da_cons (d_v 1) da_nil)) (dg_name (i := 3) sc.nd rfl (Or.inl rfl))
    (ds_cons (ds_set (i := 4) sc.nd rfl (Or.inl rfl) (d_op o_add d_int (d_call c_l_take (hr.mono (by first | decide | omega)) rfl (da_cons (d_v 0) (da_cons d_int da_nil)))))
    (ds_cons (ds_if (dt_cmp (o_eq (hu_eq hr)) (d_call c_l_take (hr.mono (by first | decide | omega)) rfl (da_cons (d_v 0) (da_cons d_int da_nil))) d_int (nomark _))
    (ds_one (ds_set (i := 4) sc.nd rfl (Or.inl rfl) (d_op o_add (d_op o_add (d_v 4) d_int) (d_call c_l_take (hr.mono (by first | decide | omega)) rfl (da_cons (d_v 0) (da_cons d_int da_nil))))))
    ds_nil)
    (ds_cons (ds_set (i := 5) sc.nd rfl (Or.inl rfl) (d_join d_str (da_cons (d_lcF rfl sc.nd (own := [("j", 6)]) (di_range1 rfl B.b_range (da_cons (d_v 4) da_nil)) (blkOk_by (N := N_l_words) (sc := defScope s_l_words) (by decide +kernel)) (by decide) (fun _ _ _ _ _ => (dg_name (i := 6) sc.nd rfl (Or.inl rfl))) (fun _ _ _ _ _ => dts_nil) (fun _ _ _ _ _ => (d_ix x_ixS d_str (d_call c_l_take (hr.mono (by first | decide | omega)) rfl (da_cons (d_v 0) (da_cons d_int da_nil))) (fun _ _ => rfl)))) da_nil)))
    (ds_cons (ds_if (dt_cmp (o_in (hu_in hr)) (d_v 5) (d_v 2) rfl)
    (ds_one (ds_set (i := 5) sc.nd rfl (Or.inl rfl) (d_op o_mulA d_str (d_op o_add d_int (d_cb (c_max rfl) rfl B.b_max boot_max (da_cons (d_lcF rfl sc.nd (own := [("other", 7)]) (di_seq (d_v 2)) (blkOk_by (N := N_l_words) (sc := defScope s_l_words) (by decide +kernel)) (by decide) (fun _ _ _ _ _ => (dg_name (i := 7) sc.nd rfl (Or.inl rfl))) (fun _ _ _ _ _ => dts_nil) (fun _ _ _ _ _ => (d_cb c_len rfl B.b_len boot_len (da_cons (d_v 7) da_nil)))) da_nil))))))
    ds_nil)
    (ds_one (ds_expr (d_mt PySem.F.slot_list_append PySem.F.type_list_append m_append (d_v 2) (da_cons (d_v 5) da_nil)))))))))
    (ds_one (ds_ret (d_fz (d_v 2))))))) (fun ds M Q h => ?_)
  obtain ⟨a, b, rfl, p, n, rfl, rfl, hn, ⟨o0, e0, ho0⟩, h⟩ := h
  walk_at "st"
  intro q hq
  have hpq : p ≠ q := ne_of_fresh e0 hq
  walk_at "st"
  refine ⟨by omega, by omega, fun _ => ?_⟩
  have hl : (rangeD 0 ((n : Int)).toNat).length = n := by simp [rangeD]
  generalize rangeD 0 ((n : Int)).toNat = items at hl
  refine for_ind (fun items m1 M1 => ∃ (o : DO) (ws : List Str) (x3 x4 x5 x6 x7 : Option D), m1 = [some (.ref p), some (.int n), some (.ref q), x3, x4, x5, x6, x7] ∧ DrO o ∧ M1 = mput (mput M p o) q (.lst (ws.map D.str)) ∧
    ws.length + items.length = n ∧ ws.Nodup ∧ ∀ w ∈ ws, wok (25 + ws.length) w) ?_ ?_ _ _ _ ?_
  · rintro m1 M1 ⟨o, ws, x3, x4, x5, x6, x7, rfl, ho, rfl, e1, e2, e3⟩
    refine ⟨srcV_none, ?_⟩
    walk_at "rd"
    have e1' : ws.length = n := by simpa using e1
    refine ⟨_, rfl, ?_⟩
    rw [mdel_mput (mput_fresh hpq hq)]
    exact ret_of (h o ws ho e1' e2 (by rw [← e1']; exact e3))
  · rintro z items m1 M1 Cn hC ⟨o, ws, x3, x4, x5, x6, x7, rfl, ho, rfl, e1, e2, e3⟩
    refine ⟨srcV_none, ?_⟩
    rw [List.length_cons] at e1
    walk_at "st"
    refine ⟨dr_ne (dr_put ho) hpq, fun o1 r1 ho1 r10 r11 => ?_⟩
    rw [mput_swap hpq]
    have hd : ∀ o', DrO o' → Dr (mput (mput M p o') q (.lst (ws.map D.str))) p := fun o' ho' => dr_ne (dr_put ho') hpq
    refine seq_cut (fun m2 M2 => ∃ (o2 : DO) (s : Nat), DrO o2 ∧ 1 ≤ s ∧ s ≤ 25 ∧ M2 = mput (mput M p o2) q (.lst (ws.map D.str)) ∧ m2 = [some (.ref p), some (.int n), some (.ref q), some z, some (.int s), x5, x6, x7]) (fun Cn2 hC2 => ?_) ?_
    · walk_at "s1"
      refine ⟨hd o1 ho1, fun o2 r2 ho2 r20 r21 => ?_⟩
      rw [mput_swap hpq]
      split
      · refine ⟨hd o2 ho2, fun o3 r3 ho3 r30 r31 => ?_⟩
        rw [mput_swap hpq]
        refine hC2 _ _ ⟨o3, (1 + r1 + 3 + r3).toNat, ho3, by omega, by omega, rfl, ?_⟩
        have e : (((1 + r1 + 3 + r3).toNat : Nat) : Int) = 1 + r1 + 3 + r3 := by omega
        rw [e]
      · refine hC2 _ _ ⟨o2, (1 + r1).toNat, ho2, by omega, by omega, rfl, ?_⟩
        have e : (((1 + r1).toNat : Nat) : Int) = 1 + r1 := by omega
        rw [e]
    rintro m2 M2 ⟨o2, s, ho2, s0, s1, rfl, rfl⟩
    walk_at "st"
    refine ⟨by omega, by omega, fun _ r hr => ?_⟩
    have hpr : p ≠ r := by
      obtain ⟨o', e', _⟩ := hd o2 ho2
      exact ne_of_fresh e' hr
    have hqr : q ≠ r := ne_of_fresh mput_same hr
    have hrM : M r = none := by
      rw [mput_ne hqr.symm, mput_ne hpr.symm] at hr
      exact hr
    have hl2 : (rangeD 0 ((s : Int)).toNat).length = s := by simp [rangeD]
    generalize rangeD 0 ((s : Int)).toNat = its at hl2
    refine lc_ind (fun its acc M3 => ∃ (o3 : DO) (cs : List Nat), DrO o3 ∧ M3 = mput (mput (mput M p o3) q (.lst (ws.map D.str))) r (.lst acc) ∧ acc = (cs.map fun c => SS [c]).map D.str ∧ cs.length + its.length = s ∧ ∀ c ∈ cs, 97 ≤ c ∧ c ≤ 122) ?_ ?_ _ _ _ ?_
    · rintro acc M3 ⟨o3, cs, ho3, rfl, rfl, f1, f2⟩
      refine ⟨srcV_none, ?_⟩
      have f1' : cs.length = s := by simpa using f1
      have hfr : mput (mput M p o3) q (.lst (ws.map D.str)) r = none := by
        rw [mput_ne hqr.symm, mput_ne hpr.symm]
        exact hrM
      rw [mdel_mput hfr]
      refine ⟨cs.map fun c => SS [c], rfl, ?_, ?_⟩
      · rw [len_one, List.length_map]
        show _ + _ * 0 ≤ _
        omega
      rw [DL.join_one]
      have wk : wok 25 (SS cs) := ⟨by rw [ss_len]; omega, by rw [ss_len]; omega, f2, .inl (by rw [ss_len]; omega)⟩
      refine seq_cut (fun m4 M4 => ∃ (w : Str) (x7' : Option D), wok (25 + (ws.length + 1)) w ∧ w ∉ ws ∧ M4 = mput (mput M p o3) q (.lst (ws.map D.str)) ∧ m4 = [some (.ref p), some (.int n), some (.ref q), some z, some (.int s), some (.str w), x6, x7']) (fun Cn4 hC4 => ?_) ?_
      · have hws : (ws.map D.str).all (dOk 63) = true := by
          rw [List.all_map]
          exact List.all_eq_true.mpr fun w hw => by
            show dOk 63 (.str w) = true
            rw [dOk_str]
            exact wok_str (e3 w hw)
        walk_at "s1"
        refine ⟨wok_str wk, hws, ?_⟩
        rw [any_strs]
        split
        · next hin =>
          have hin' : SS cs ∈ ws := by simpa using hin
          intro _
          refine lc_map (ws) D.str (fun w => D.int (w.length : Nat)) rfl (fun a e => by cases e; exact mput_same) (fun w hw M5 l5 C1 h5 => ?_) fun r5 hr5 => ?_
          · walk_at "s1"
            have := (e3 w hw).2.1
            exact ⟨_, by rw [if_pos (by omega)], h5⟩
          · rw [mdel_mput hr5]
            refine ⟨ws.map fun w => ((w.length : Nat) : Int), by rw [List.map_map] <;> rfl, ?_, fun mx hmx hle => ?_⟩
            · rw [List.length_map]
              exact List.length_pos_of_mem hin'
            obtain ⟨w0, hw0, rfl⟩ := List.mem_map.mp hmx
            have b0 := (e3 w0 hw0).2.1
            have e5 : (1 + ((w0.length : Nat) : Int)).toNat = 1 + w0.length := by omega
            rw [e5]
            have e6 : (Str.ofString "z").length = 1 := by decide +kernel
            have e7 : (srep (Str.ofString "z") (1 + w0.length)).length = 1 + w0.length := by rw [srep_len, e6, Nat.one_mul]
            refine ⟨by omega, by omega, by rw [e6]; omega, hC4 _ _ ⟨_, _, ⟨by rw [e7]; omega, by rw [e7]; omega, ?_, .inr ?_⟩, ?_, rfl, rfl⟩⟩
            · intro c hc
              have : c = 122 := srep_z hc
              omega
            · exact fun c hc => srep_z hc
            · intro hm
              have := hle _ (List.mem_map.mpr ⟨_, hm, rfl⟩)
              rw [e7] at this
              omega
        · next hin => exact hC4 _ _ ⟨SS cs, _, wok_mono wk (by omega), by simpa using hin, rfl, rfl⟩
      rintro m4 M4 ⟨w, x7', hw, hnw, rfl, rfl⟩
      walk_at "rd"
      refine ⟨⟨_, rfl⟩, _, rfl, by rw [List.length_map]; omega, fg_of (hC _ _ ⟨o3, ws ++ [w], _, _, _, _, _, rfl, ho3, ?_, by rw [List.length_append, List.length_singleton]; omega, ?_, ?_⟩)⟩
      · rw [List.map_append]
        rfl
      · rw [List.nodup_append]
        refine ⟨e2, by simp, fun a ha b hb => ?_⟩
        have hb' : b = w := by simpa using hb
        rw [hb']
        exact fun e => hnw (e ▸ ha)
      · intro u hu
        rw [List.length_append, List.length_singleton]
        rcases List.mem_append.mp hu with hu | hu
        · exact wok_mono (e3 u hu) (by omega)
        · have hu' : u = w := by simpa using hu
          rw [hu']
          exact hw
    · rintro d its acc M3 Cn5 hC5 ⟨o3, cs, ho3, rfl, rfl, f1, f2⟩
      refine ⟨srcV_none, ?_⟩
      rw [List.length_cons] at f1
      walk_at "s1"
      refine ⟨dr_ne (dr_ne (dr_put ho3) hpq) hpr, fun o4 i ho4 i0 i1 => ?_⟩
      obtain ⟨c, hc, c0, c1⟩ := alpha_sgn i0 i1
      refine ⟨by decide +kernel, _, hc, ?_⟩
      rw [mput_comm hpr.symm, mput_swap hpq]
      refine ⟨mput_same, ?_⟩
      rw [mput_mput]
      refine hC5 _ _ ⟨o4, cs ++ [c], ho4, rfl, by simp, by rw [List.length_append, List.length_singleton]; omega, ?_⟩
      intro e he
      rcases List.mem_append.mp he with he | he
      · exact f2 e he
      · have : e = c := by simpa using he
        omega
    · exact ⟨o2, [], ho2, rfl, rfl, by simpa using hl2, by simp⟩
  · exact ⟨o0, [], _, _, _, _, _, rfl, ho0, by rw [mput_self e0]; rfl, by simpa using hl, by simp, by simp⟩
/-! ### a permutation of a mapped list -/
theorem perm_map {α β : Type} (f : α → β) : ∀ {xs : List α} {l : List β}, l.Perm (xs.map f) → ∃ ys : List α, l = ys.map f ∧ ys.Perm xs
  | [], l, h => ⟨[], List.Perm.eq_nil h, .nil⟩
  | x :: xs, l, h => by
    have hm : f x ∈ l := h.mem_iff.mpr (by simp)
    obtain ⟨l1, l2, rfl⟩ := List.append_of_mem hm
    have h2 : (l1 ++ l2).Perm (xs.map f) := by
      have := (List.perm_middle (a := f x) (l₁ := l1) (l₂ := l2)).symm.trans h
      exact List.Perm.cons_inv this
    obtain ⟨ys, e, hp⟩ := perm_map f h2
    obtain ⟨y1, y2, rfl, rfl, rfl⟩ := List.map_eq_append_iff.mp e.symm
    exact ⟨y1 ++ x :: y2, by simp, List.perm_middle.trans (hp.cons x)⟩

/-! ### the keys of values and rows -/
def vKey : D → D
  | .str s => .tup [.int 1, .int 0, .str s]
  | d => .tup [.int 0, d, .str ""]
/-- a value: an integer or a text -/
def isV (d : D) : Prop := (∃ i, d = .int i) ∨ ∃ s, d = .str s ∧ PyData.strOk s = true
theorem isV_pl {d : D} (h : isV d) : pln d = true := by
  rcases h with ⟨i, rfl⟩ | ⟨s, rfl, _⟩ <;> rfl
theorem isV_ok {d : D} (h : isV d) (n : Nat) : dOk n d = true := by
  rcases h with ⟨i, rfl⟩ | ⟨s, rfl, h⟩
  · simp
  · rw [dOk_str]; exact h
theorem row_pl {vs : List D} (h : ∀ v ∈ vs, isV v) : plns vs = true := plns_iff.mpr fun v hv => isV_pl (h v hv)
theorem row_ok {vs : List D} (h : ∀ v ∈ vs, isV v) (n : Nat) : vs.all (dOk n) = true := List.all_eq_true.mpr fun v hv => isV_ok (h v hv) n
def rowKey : D → D
  | .tup vs => .tup (vs.map vKey)
  | d => d
theorem vKey_ok {d : D} (h : isV d) (n : Nat) : dOk (n + 1) (vKey d) = true := by
  rcases h with ⟨i, rfl⟩ | ⟨s, rfl, h⟩
  · have : PyData.strOk (Str.ofString "") = true := by decide +kernel
    simp [vKey, dOk_str, this]
  · simp [vKey, dOk_str, h]
open PySem.W (AllAlike Sortable alike alikeAll) in
theorem vKey_alike {d e : D} (h : isV d) (k : isV e) : alike (vKey d).py (vKey e).py = true := by
  rcases h with ⟨i, rfl⟩ | ⟨s, rfl, h⟩ <;> rcases k with ⟨j, rfl⟩ | ⟨t, rfl, k⟩ <;> simp [vKey, D.py, D.pys, alike, alikeAll]
open PySem.W (AllAlike Sortable alike alikeAll) in
theorem rowKey_alike : ∀ {vs ws : List D}, (∀ v ∈ vs, isV v) → (∀ v ∈ ws, isV v) → alikeAll (D.pys (vs.map vKey)) (D.pys (ws.map vKey)) = true
  | [], ws, _, _ => by simp [D.pys, alikeAll]
  | v :: vs, [], _, _ => by simp [D.pys, alikeAll]
  | v :: vs, w :: ws, h, k => by
    simp only [List.map_cons, D.pys, alikeAll, Bool.and_eq_true]
    exact ⟨vKey_alike (h v (by simp)) (k w (by simp)), rowKey_alike (fun u hu => h u (by simp [hu])) fun u hu => k u (by simp [hu])⟩
abbrev sp_l_value_key : DSp := ar1 fun a M Q => isV a ∧ Q (vKey a) M
theorem ok_l_value_key (F : Def K mg "_law_value_key" s_l_value_key ["value"]) (B : Bi K mg) (I : Im mg)  : Cal P w K mg base 1 "_law_value_key" ["value"] sp_l_value_key := by
  have sc := sc_l_value_key
  refine F.cal sc (fun ds M Q h => len1 h) (fun f cdv A outer s H E hr => (ds_cons (ds_if (dt_val (d_cb c_is rfl B.b_isinstance boot_isinstance (da_cons (d_v 0) (da_cons (d_ty rfl B.b_str boot_str) da_nil))))
    (ds_one (ds_ret (d_tup (da_cons d_int (da_cons d_int (da_cons (d_v 0) da_nil))))))
    ds_nil)
    (ds_one (ds_ret (d_tup (da_cons d_int (da_cons (d_v 0) (da_cons d_str da_nil)))))))) (fun ds M Q h => ?_)
  obtain ⟨a, rfl, hv, h⟩ := h
  rcases hv with ⟨i, rfl⟩ | ⟨s, rfl, hs⟩
  · walk_at "rd"
    exact ret_of h
  · walk_at "rd"
    exact ret_of h
abbrev sp_l_row_key : DSp := ar1 fun a M Q => ∃ vs : List D, a = .tup vs ∧ (∀ v ∈ vs, isV v) ∧ Q (.tup (vs.map vKey)) M
theorem ok_l_row_key (F : Def K mg "_law_row_key" s_l_row_key ["row"]) (B : Bi K mg) (I : Im mg) (c_l_value_key : Cal P w K mg base 1 "_law_value_key" ["value"] sp_l_value_key) : Cal P w K mg base 2 "_law_row_key" ["row"] sp_l_row_key := by
  have sc := sc_l_row_key
  refine F.cal sc (fun ds M Q h => len1 h) (fun f cdv A outer s H E hr => (ds_one (ds_ret (d_ct c_tuple rfl B.b_tuple boot_tuple (da_cons (d_lcF rfl sc.nd (own := [("value", 1)]) (di_seq (d_v 0)) (blkOk_by (N := N_l_row_key) (sc := defScope s_l_row_key) (by decide +kernel)) (by decide) (fun _ _ _ _ _ => (dg_name (i := 1) sc.nd rfl (Or.inl rfl))) (fun _ _ _ _ _ => dts_nil) (fun _ _ _ _ _ => (d_call c_l_value_key (hr.mono (by first | decide | omega)) rfl (da_cons (d_v 1) da_nil)))) da_nil))))) (fun ds M Q h => ?_)
  obtain ⟨a, rfl, vs, rfl, hv, h⟩ := h
  walk_at "rd"
  intro _
  refine lc_map vs (fun v => v) vKey (by simp) srcV_none (fun v hv' M5 l5 C1 h5 => ?_) fun r hr => ?_
  · walk_at "s1"
    exact ⟨hv v hv', h5⟩
  · rw [mdel_mput hr]
    exact ret_of h
def rowD (vs : List D) : D := .tup vs
theorem rows_sortK {rows : List (List D)} (h : ∀ r ∈ rows, r ≠ [] ∧ ∀ v ∈ r, isV v) : PySem.W.AllAlike (((rows.map D.tup).map rowKey).map D.py) ∧ SortOk (((rows.map D.tup).map rowKey).map D.py) ∧ ((rows.map D.tup).map rowKey).all (dOk 32) = true := by
  refine ⟨?_, .inl (.inl fun d hd => ?_), ?_⟩
  · intro d hd d' hd'
    simp only [List.mem_map] at hd hd'
    obtain ⟨_, ⟨_, ⟨e, he, rfl⟩, rfl⟩, rfl⟩ := hd
    obtain ⟨_, ⟨_, ⟨f, hf, rfl⟩, rfl⟩, rfl⟩ := hd'
    show PySem.W.alike (D.py (.tup (e.map vKey))) (D.py (.tup (f.map vKey))) = true
    rw [D.py, D.py, PySem.W.alike]
    exact rowKey_alike (h e he).2 (h f hf).2
  · simp only [List.mem_map] at hd
    obtain ⟨_, ⟨_, ⟨e, he, rfl⟩, rfl⟩, rfl⟩ := hd
    cases e with
    | nil => exact absurd rfl (h [] he).1
    | cons v vs => exact ⟨_, _, by simp only [rowKey, List.map_cons, D.py, D.pys] <;> rfl⟩
  · rw [List.all_map, List.all_map]
    refine List.all_eq_true.mpr fun e he => ?_
    show dOk 32 (.tup (e.map vKey)) = true
    rw [dOk_tup, List.all_map]
    exact List.all_eq_true.mpr fun v hv => vKey_ok ((h e he).2 v hv) 30
/-- some rows, sorted, neighbours that are alike told once -/
abbrev sp_l_sorted_rows : DSp := ar1 fun a M Q => ∃ rows : List (List D), a = .lst (rows.map D.tup) ∧ rows.length ≤ 1000 ∧ (∀ r ∈ rows, r ≠ [] ∧ ∀ v ∈ r, isV v) ∧ ∀ rs : List (List D), (∀ r ∈ rs, r ∈ rows) → (rows ≠ [] → rs ≠ []) → rs.length ≤ rows.length → (rows.Nodup → rs.Nodup) → Q (.lst (rs.map D.tup)) M
theorem ok_l_sorted_rows (F : Def K mg "_law_sorted_rows" s_l_sorted_rows ["rows"]) (B : Bi K mg) (I : Im mg) (c_l_row_key : Cal P w K mg base 2 "_law_row_key" ["row"] sp_l_row_key) : Cal P w K mg base 5 "_law_sorted_rows" ["rows"] sp_l_sorted_rows := by
  have sc := sc_l_sorted_rows
  refine F.cal sc (fun ds M Q h => len1 h) (fun f cdv A outer s H E hr => (ds_cons (ds_set (i := 1) sc.nd rfl (Or.inl rfl) (d_lst da_nil))
    (ds_cons (ds_for PassesOwn.never rfl (di_seq (d_fz (d_sortK c_l_row_key (hr.mono (by first | decide | omega)).in1.in1 rfl rfl B.b_sorted (da_cons (d_v 0) da_nil)))) (dg_name (i := 2) sc.nd rfl (Or.inl rfl))
    (ds_one (ds_if (dt_w (dw_or (dt_cmp (o_eq (hu_eq hr)) (d_cb c_len rfl B.b_len boot_len (da_cons (d_v 1) da_nil)) d_int (nomark _)) (dw_or1 (dt_cmp (o_ne (hu_eq hr)) (d_ix x_ix (d_v 1) (d_neg d_int) (fun _ _ => rfl)) (d_v 2) (nomark _)))))
    (ds_one (ds_expr (d_mt PySem.F.slot_list_append PySem.F.type_list_append m_append (d_v 1) (da_cons (d_v 2) da_nil))))
    ds_nil)))
    (ds_one (ds_ret (d_fz (d_v 1))))))) (fun ds M Q h => ?_)
  obtain ⟨a, rfl, rows, rfl, hl, hr, h⟩ := h
  walk_at "st"
  intro q hq
  obtain ⟨k1, k2, k3⟩ := rows_sortK hr
  walk_at "st"
  refine ⟨rowKey, fun x hx Q' hq' => ?_, k3, k1, k2, fun p1 hp1 => ?_⟩
  · obtain ⟨r, hr', rfl⟩ := List.mem_map.mp hx
    exact ⟨r, rfl, (hr r hr').2, hq'⟩
  obtain ⟨us, hus, hperm⟩ := perm_map D.tup (xs := rows) (List.mergeSort_perm (rows.map D.tup) (PySem.W.dataLe false fun x => D.py (rowKey x)))
  have hul := hperm.length_eq
  refine ⟨_, rfl, fun _ => ?_⟩
  rw [mdel_mput hp1, hus]
  refine for_ind (fun items m1 M1 => ∃ (rest dn fs : List (List D)) (x2 : Option D), items = rest.map D.tup ∧ dn ++ rest = us ∧ M1 = mput M q (.lst (fs.map D.tup)) ∧ fs.Sublist dn ∧ (dn ≠ [] → fs ≠ []) ∧ m1 = [some (.lst (rows.map D.tup)), some (.ref q), x2]) ?_ ?_ _ _ _ ⟨us, [], [], _, rfl, rfl, rfl, .refl _, fun z => absurd rfl z, rfl⟩
  · rintro m1 M1 ⟨rest, dn, fs, x2, hi, hd, rfl, hs, hn, rfl⟩
    refine ⟨srcV_none, ?_⟩
    cases rest with
    | cons x r => cases hi
    | nil =>
      rw [List.append_nil] at hd
      subst hd
      walk_at "rd"
      refine ⟨_, rfl, ?_⟩
      rw [mdel_mput hq]
      exact ret_of (h fs (fun r hr => hperm.mem_iff.mp (hs.mem hr)) (fun z => hn fun e => z (by rw [e] at hperm; exact hperm.symm.eq_nil)) (by rw [← hul]; exact hs.length_le) fun hnd => (hperm.nodup_iff.mpr hnd).sublist hs)
  · rintro z items m1 M1 Cn hC ⟨rest, dn, fs, x2, hi, hd, rfl, hs, hn, rfl⟩
    refine ⟨srcV_none, ?_⟩
    cases rest with
    | nil => cases hi
    | cons r rest =>
      rw [List.map_cons] at hi
      injection hi with h1 h2
      subst h1
      subst h2
      have hrm : r ∈ rows := hperm.mem_iff.mp (by rw [← hd]; simp)
      have hfl : fs.length ≤ 1000 := by
        have := hs.length_le
        rw [← hd, List.length_append] at hul
        omega
      have hd2 : (dn ++ [r]) ++ rest = us := by rw [← hd]; simp
      have push : fg Cn [some (.lst (rows.map D.tup)), some (.ref q), some (.tup r)] (mput M q (.lst (fs.map D.tup ++ [.tup r]))) := fg_of (hC _ _ ⟨rest, dn ++ [r], fs ++ [r], _, rfl, hd2, by rw [List.map_append]; rfl, hs.append (.refl _), fun _ => by simp, rfl⟩)
      have hok : ∀ f ∈ fs, ∀ v ∈ f, isV v := fun f hf => (hr f (hperm.mem_iff.mp (by rw [← hd]; exact List.mem_append_left _ (hs.mem hf)))).2
      walk_at "rd"
      rw [List.length_map]
      split
      · exact ⟨⟨_, rfl⟩, _, rfl, by rw [List.length_map]; omega, push⟩
      · next c =>
        cases e : fs.getLast? with
        | none =>
          rw [List.getLast?_eq_none_iff.mp e] at c
          exact absurd rfl c
        | some l =>
          have hlm : l ∈ fs := List.mem_of_getLast? e
          refine ⟨.tup l, by rw [List.getLast?_map, e]; rfl, by rw [dOk_tup]; exact row_ok (hok l hlm) 63, row_ok (hr r hrm).2 63, ?_⟩
          split
          · exact ⟨⟨_, rfl⟩, _, rfl, by rw [List.length_map]; omega, push⟩
          · exact fg_of (hC _ _ ⟨rest, dn ++ [r], fs, _, rfl, hd2, rfl, hs.trans (List.sublist_append_left ..), (fun _ z => by rw [z] at hlm; cases hlm), rfl⟩)
/-! ### doubts and their settlings -/
abbrev Opt := List D × Int
def opD (o : Opt) : D := .tup [.tup o.1, .int o.2]
theorem items_opD {o : Opt} {M : DM} : dItems (opD o) M = some [.tup o.1, .int o.2] := rfl
abbrev Dbt := D × List Opt
def dbD (d : Dbt) : D := .tup [d.1, .tup (d.2.map opD)]
theorem items_dbD {d : Dbt} {M : DM} : dItems (dbD d) M = some [d.1, .tup (d.2.map opD)] := rfl
def qD (d : Dbt) : D := .tup [d.1, .non, .tup (d.2.map opD)]
theorem items_qD {d : Dbt} {M : DM} : dItems (qD d) M = some [d.1, .non, .tup (d.2.map opD)] := rfl
def sD (s : List (List D)) : D := .tup (s.map D.tup)
def rowsOf (d : Dbt) : List (List D) := d.2.map (·.1)
def cnt : List Dbt → Nat
  | [] => 1
  | d :: ds => d.2.length * cnt ds
def stepS (acc : List (List (List D))) (d : Dbt) : List (List (List D)) := acc.flatMap fun s => (rowsOf d).map fun r => s ++ [r]
def setts (ds : List Dbt) : List (List (List D)) := ds.foldl stepS [[]]
theorem setts_snoc (ds : List Dbt) (d : Dbt) : setts (ds ++ [d]) = stepS (setts ds) d := by
  unfold setts
  rw [List.foldl_append]
  rfl
theorem stepS_len (acc : List (List (List D))) (d : Dbt) : (stepS acc d).length = acc.length * d.2.length := by
  unfold stepS
  induction acc with
  | nil => simp
  | cons a r ih =>
    rw [List.flatMap_cons, List.length_append, ih, List.length_map, List.length_cons, Nat.add_mul, Nat.one_mul]
    unfold rowsOf
    rw [List.length_map]
    omega
theorem fold_len : ∀ (ds : List Dbt) (acc : List (List (List D))), (ds.foldl stepS acc).length = acc.length * cnt ds
  | [], acc => by simp [cnt]
  | d :: ds, acc => by
    rw [List.foldl_cons, fold_len ds, stepS_len, cnt, Nat.mul_assoc]
theorem setts_len (ds : List Dbt) : (setts ds).length = cnt ds := by
  unfold setts
  rw [fold_len]
  simp
theorem cnt_le : ∀ {ds : List Dbt}, (∀ d ∈ ds, d.2.length ≤ 6) → cnt ds ≤ 6 ^ ds.length
  | [], _ => by simp [cnt]
  | d :: ds, h => by
    rw [cnt, List.length_cons, Nat.pow_succ, Nat.mul_comm]
    exact Nat.mul_le_mul (cnt_le fun e he => h e (by simp [he])) (h d (by simp))
theorem flat_get {α β : Type} (f : α → List β) {k : Nat} (hk : 0 < k) : ∀ {xs : List α} (_ : ∀ x ∈ xs, (f x).length = k) (n : Nat), (xs.flatMap f)[n]? = (xs[n / k]?).bind fun x => (f x)[n % k]?
  | [], _, n => by simp
  | x :: xs, h, n => by
    have hx := h x (by simp)
    rw [List.flatMap_cons]
    by_cases c : n < k
    · rw [List.getElem?_append_left (by omega), Nat.div_eq_of_lt c, Nat.mod_eq_of_lt c]
      rfl
    · have c' : k ≤ n := by omega
      rw [List.getElem?_append_right (by omega), hx, flat_get f hk (fun y hy => h y (by simp [hy])), Nat.mod_eq_sub_mod c', Nat.div_eq_sub_div hk c', List.getElem?_cons_succ]
theorem stepS_get {acc : List (List (List D))} {d : Dbt} (hk : 0 < d.2.length) (n : Nat) : (stepS acc d)[n]? = (acc[n / d.2.length]?).bind fun s => ((rowsOf d)[n % d.2.length]?).map fun r => s ++ [r] := by
  unfold stepS
  rw [flat_get _ hk (fun s _ => by rw [List.length_map]; unfold rowsOf; rw [List.length_map])]
  congr 1
  funext s
  rw [List.getElem?_map]
/-- one row of each doubt -/
def okS : List Dbt → List (List D) → Prop
  | [], [] => True
  | d :: ds, r :: rs => r ∈ rowsOf d ∧ okS ds rs
  | _, _ => False
theorem mem_fold : ∀ {ds : List Dbt} {acc : List (List (List D))} {s : List (List D)}, s ∈ ds.foldl stepS acc → ∃ s0 ∈ acc, ∃ t, s = s0 ++ t ∧ okS ds t
  | [], acc, s, h => ⟨s, h, [], by simp, trivial⟩
  | d :: ds, acc, s, h => by
    obtain ⟨s1, h1, t, rfl, ht⟩ := mem_fold (ds := ds) h
    obtain ⟨s0, h0, h2⟩ := List.mem_flatMap.mp h1
    obtain ⟨r, hr, rfl⟩ := List.mem_map.mp h2
    exact ⟨s0, h0, r :: t, by simp, hr, ht⟩
theorem mem_setts {ds : List Dbt} {s : List (List D)} (h : s ∈ setts ds) : okS ds s := by
  obtain ⟨s0, h0, t, rfl, ht⟩ := mem_fold h
  rw [List.mem_singleton.mp h0]
  exact ht
theorem stepS_nodup {acc : List (List (List D))} {d : Dbt} (h : acc.Nodup) (hd : (rowsOf d).Nodup) : (stepS acc d).Nodup := by
  unfold stepS
  rw [List.Nodup, List.pairwise_flatMap]
  refine ⟨fun s _ => List.pairwise_map.mpr (hd.imp fun hne e => hne ?_), h.imp fun hne x hx y hy e => hne ?_⟩
  · simpa using List.append_cancel_left e
  · obtain ⟨v, _, rfl⟩ := List.mem_map.mp hx
    obtain ⟨u, _, rfl⟩ := List.mem_map.mp hy
    exact (List.append_inj' e rfl).1
theorem fold_nodup : ∀ {ds : List Dbt} {acc : List (List (List D))}, acc.Nodup → (∀ d ∈ ds, (rowsOf d).Nodup) → (ds.foldl stepS acc).Nodup
  | [], _, h, _ => h
  | d :: ds, _, h, k => fold_nodup (ds := ds) (stepS_nodup h (k d (by simp))) fun e he => k e (by simp [he])
theorem setts_nodup {ds : List Dbt} (h : ∀ d ∈ ds, (rowsOf d).Nodup) : (setts ds).Nodup := fold_nodup (by simp) h

local macro_rules | `(tactic| walk_at "rd") => `(tactic| simp only [dSeq, dSet, dIf, dTst, dOp, dVar, dC, dRet, dRetN, dNext, dDrop, dBreak, dCont, dAnd, dOr, dNot, dAndV, dOrV, dNotV, dIfE, dTup, dLstF, dLst, dCons, dNil, dCB, dCall, dUn, dNegI,
  dI, dI0, dEq, dNe, dIs, dIsNot, dIn, dNotIn, dIx, isN_non, isN_bl, isN_int, isN_str, isN_tup, isN_lst, isN_rf, DL.rLen, rInt, rAbs, rMax2, rMin2, DL.rGcd, rTuple, rList, rIs, rIsT, ar0, ar1, ar2, ar3, ar4, ar5, ar6, ar7, ar8, dEnds, dMt, dMt0, mAppend, mPop, mReverse, dSetL, dPut, dAsg, dgName, dgTup, dgCons, dgNil,
  dFor, diSeq, diRng1, diRng2, dLcF, dLc, dwipe, dFz,
  dstart, List.map_cons, List.map_nil, List.length_cons, List.length_nil, List.cons_append, List.nil_append, List.append_nil, List.replicate, Nat.reduceAdd, Nat.reduceSub, Nat.reduceLeDiff, Int.reduceNeg, List.set_cons_zero, List.set_cons_succ,
  List.getElem?_cons_zero, List.getElem?_cons_succ, Option.some.injEq, exists_eq_left', exists_eq_left, exists_eq_right, exists_eq, exists_and_left, exists_and_right, D.int.injEq, D.bl.injEq, D.str.injEq, D.tup.injEq, D.lst.injEq, D.ref.injEq, D.ty.injEq, D.dct.injEq,
  List.cons.injEq, and_assoc, and_true, true_and, and_self, reduceCtorEq, false_and, and_false, if_true, if_false, if_pos, ite_true, ite_false, Bool.false_eq_true, decide_eq_true_eq, Bool.not_eq_true', decide_eq_false_iff_not, Bool.not_true, Bool.not_false, decide_true, decide_false,
  eqv_int, eqv_str, eqv_bl, dOk_int, dOk_bl, dOk_non, dOk_tup, dOk_lst, dOk_str, List.all_cons, List.all_nil, Bool.and_true, Bool.true_and, Bool.and_self, dItems_tup, dItems_lst, dItems_rf, CMulA, CDivA, CPowA, Int.reduceLT, Int.reduceLE, Int.reducePow, Int.reduceToNat, Int.reduceMul, Int.reduceAdd, Int.reduceSub, Nat.reducePow, true_or, or_true, ne_eq, not_false_eq_true, not_true_eq_false, dAt_tup, dAt_lst, dAt_rf, dLenOf_tup, dLenOf_lst, dLenOf_rf, dLenOf_str, dTyN_non, dTyN_bl, dTyN_int, dTyN_str, dTyN_tup, dTyN_lst, dTyN_dct, dTyN_rf, dIntOf_int, dIntOf_bl, knownT, subT, atI_0, atI_1, atI_2, atI_3, atI_4, atI_5, atI_neg1, mput_same, mput_mput, eqv_non, tyNames, Option.map_some, String.reduceBEq, Bool.or_true, Bool.true_or, Bool.or_false, Bool.false_or, Bool.false_and, Bool.and_false, beq_self_eq_true, BEq.rfl, List.any_cons, List.any_nil, sizeLine_eq, rLenB, Bool.true_eq_false, implies_true, Nat.zero_le, Bool.or_self, String.reduceEq, dAdd_ii, dAdd_ss, dAdd_tt, dMulA_ii, dMulA_si, dIxS_str, dIxS_tup, dIxS_lst, dIxS_ref, dCat, dCatF, dRep, dSl, dNoP, dPart, dJoin, mExtend, mIndex, rAnyL, rAllL, rSumL, rMaxL, rMinL, dLRg, diEnum, rSortD, dLc2F, dLc2, dYes, diEnumT, dSlS, rSortK, dFzS, dTupRev, diRev, diZip, dMulT, zipD, dDc, dDGet1, dLtD, dGtD, rListK, dUpper, diStr, dInS, dSortL, dSortSet, dSortSetT, dLenSetT, dStar, rIntS, rStrI, dKIx, dKIn, dKNotIn, rLenK, dKNew, dFzK, dFzD, dKPut, diKeys, diVals, diItems, mInsert, mPopAt, dKGet1, dKGet2, dKc, dDict_dct, dDict_put, isKb_int, isKb_str, true_implies, false_implies, dDIx, dDIn, dDNotIn, dSetD, dDNew, dSortLen, sortLenB, rSortO, items_opD, items_dbD, dbD, opD])
local macro_rules | `(tactic| walk_at "st") => `(tactic| (refine seq_i ?_; simp only [dSet, dIf, dTst, dOp, dVar, dC, dRet, dRetN, dNext, dDrop, dBreak, dCont, dAnd, dOr, dNot, dAndV, dOrV, dNotV, dIfE, dTup, dLstF, dLst, dCons, dNil, dCB, dCall, dUn, dNegI,
  dI, dI0, dEq, dNe, dIs, dIsNot, dIn, dNotIn, dIx, isN_non, isN_bl, isN_int, isN_str, isN_tup, isN_lst, isN_rf, DL.rLen, rInt, rAbs, rMax2, rMin2, DL.rGcd, rTuple, rList, rIs, rIsT, ar0, ar1, ar2, ar3, ar4, ar5, ar6, ar7, ar8, dEnds, dMt, dMt0, mAppend, mPop, mReverse, dSetL, dPut, dAsg, dgName, dgTup, dgCons, dgNil,
  dFor, diSeq, diRng1, diRng2, dLcF, dLc, dwipe, dFz,
  dstart, List.map_cons, List.map_nil, List.length_cons, List.length_nil, List.cons_append, List.nil_append, List.append_nil, List.replicate, Nat.reduceAdd, Nat.reduceSub, Nat.reduceLeDiff, Int.reduceNeg, List.set_cons_zero, List.set_cons_succ,
  List.getElem?_cons_zero, List.getElem?_cons_succ, Option.some.injEq, exists_eq_left', exists_eq_left, exists_eq_right, exists_eq, exists_and_left, exists_and_right, D.int.injEq, D.bl.injEq, D.str.injEq, D.tup.injEq, D.lst.injEq, D.ref.injEq, D.ty.injEq, D.dct.injEq,
  List.cons.injEq, and_assoc, and_true, true_and, and_self, reduceCtorEq, false_and, and_false, if_true, if_false, if_pos, ite_true, ite_false, Bool.false_eq_true, decide_eq_true_eq, Bool.not_eq_true', decide_eq_false_iff_not, Bool.not_true, Bool.not_false, decide_true, decide_false,
  eqv_int, eqv_str, eqv_bl, dOk_int, dOk_bl, dOk_non, dOk_tup, dOk_lst, dOk_str, List.all_cons, List.all_nil, Bool.and_true, Bool.true_and, Bool.and_self, dItems_tup, dItems_lst, dItems_rf, CMulA, CDivA, CPowA, Int.reduceLT, Int.reduceLE, Int.reducePow, Int.reduceToNat, Int.reduceMul, Int.reduceAdd, Int.reduceSub, Nat.reducePow, true_or, or_true, ne_eq, not_false_eq_true, not_true_eq_false, dAt_tup, dAt_lst, dAt_rf, dLenOf_tup, dLenOf_lst, dLenOf_rf, dLenOf_str, dTyN_non, dTyN_bl, dTyN_int, dTyN_str, dTyN_tup, dTyN_lst, dTyN_dct, dTyN_rf, dIntOf_int, dIntOf_bl, knownT, subT, atI_0, atI_1, atI_2, atI_3, atI_4, atI_5, atI_neg1, mput_same, mput_mput, eqv_non, tyNames, Option.map_some, String.reduceBEq, Bool.or_true, Bool.true_or, Bool.or_false, Bool.false_or, Bool.false_and, Bool.and_false, beq_self_eq_true, BEq.rfl, List.any_cons, List.any_nil, sizeLine_eq, rLenB, Bool.true_eq_false, implies_true, Nat.zero_le, Bool.or_self, String.reduceEq, dAdd_ii, dAdd_ss, dAdd_tt, dMulA_ii, dMulA_si, dIxS_str, dIxS_tup, dIxS_lst, dIxS_ref, dCat, dCatF, dRep, dSl, dNoP, dPart, dJoin, mExtend, mIndex, rAnyL, rAllL, rSumL, rMaxL, rMinL, dLRg, diEnum, rSortD, dLc2F, dLc2, dYes, diEnumT, dSlS, rSortK, dFzS, dTupRev, diRev, diZip, dMulT, zipD, dDc, dDGet1, dLtD, dGtD, rListK, dUpper, diStr, dInS, dSortL, dSortSet, dSortSetT, dLenSetT, dStar, rIntS, rStrI, dKIx, dKIn, dKNotIn, rLenK, dKNew, dFzK, dFzD, dKPut, diKeys, diVals, diItems, mInsert, mPopAt, dKGet1, dKGet2, dKc, dDict_dct, dDict_put, isKb_int, isKb_str, true_implies, false_implies, dDIx, dDIn, dDNotIn, dSetD, dDNew, dSortLen, sortLenB, rSortO, items_opD, items_dbD, dbD, opD]))
local macro_rules | `(tactic| walk_at "p") => `(tactic| simp only [dRet, dOp, dVar, dCall, dCB, dCons, dNil, ar0, ar1, ar2, ar3, ar4, ar5, DL.rLen, dIx, dEnds, dstart, List.map_cons, List.map_nil, List.length_cons, List.length_nil, List.cons_append, List.nil_append, List.replicate, Nat.reduceAdd, Nat.reduceSub, Nat.reduceLeDiff, List.getElem?_cons_zero, List.getElem?_cons_succ, Option.some.injEq, exists_eq_left', exists_eq_left, exists_and_left, exists_and_right, List.cons.injEq, and_assoc, and_true, true_and, D.ref.injEq, D.int.injEq])
local macro_rules | `(tactic| walk_at "s1") => `(tactic| simp only [dSet, dIf, dTst, dOp, dVar, dC, dRet, dRetN, dNext, dDrop, dBreak, dCont, dAnd, dOr, dNot, dAndV, dOrV, dNotV, dIfE, dTup, dLstF, dLst, dCons, dNil, dCB, dCall, dUn, dNegI,
  dI, dI0, dEq, dNe, dIs, dIsNot, dIn, dNotIn, dIx, isN_non, isN_bl, isN_int, isN_str, isN_tup, isN_lst, isN_rf, DL.rLen, rInt, rAbs, rMax2, rMin2, DL.rGcd, rTuple, rList, rIs, rIsT, ar0, ar1, ar2, ar3, ar4, ar5, ar6, ar7, ar8, dEnds, dMt, dMt0, mAppend, mPop, mReverse, dSetL, dPut, dAsg, dgName, dgTup, dgCons, dgNil,
  dFor, diSeq, diRng1, diRng2, dLcF, dLc, dwipe, dFz,
  dstart, List.map_cons, List.map_nil, List.length_cons, List.length_nil, List.cons_append, List.nil_append, List.append_nil, List.replicate, Nat.reduceAdd, Nat.reduceSub, Nat.reduceLeDiff, Int.reduceNeg, List.set_cons_zero, List.set_cons_succ,
  List.getElem?_cons_zero, List.getElem?_cons_succ, Option.some.injEq, exists_eq_left', exists_eq_left, exists_eq_right, exists_eq, exists_and_left, exists_and_right, D.int.injEq, D.bl.injEq, D.str.injEq, D.tup.injEq, D.lst.injEq, D.ref.injEq, D.ty.injEq, D.dct.injEq,
  List.cons.injEq, and_assoc, and_true, true_and, and_self, reduceCtorEq, false_and, and_false, if_true, if_false, if_pos, ite_true, ite_false, Bool.false_eq_true, decide_eq_true_eq, Bool.not_eq_true', decide_eq_false_iff_not, Bool.not_true, Bool.not_false, decide_true, decide_false,
  eqv_int, eqv_str, eqv_bl, dOk_int, dOk_bl, dOk_non, dOk_tup, dOk_lst, dOk_str, List.all_cons, List.all_nil, Bool.and_true, Bool.true_and, Bool.and_self, dItems_tup, dItems_lst, dItems_rf, CMulA, CDivA, CPowA, Int.reduceLT, Int.reduceLE, Int.reducePow, Int.reduceToNat, Int.reduceMul, Int.reduceAdd, Int.reduceSub, Nat.reducePow, true_or, or_true, ne_eq, not_false_eq_true, not_true_eq_false, dAt_tup, dAt_lst, dAt_rf, dLenOf_tup, dLenOf_lst, dLenOf_rf, dLenOf_str, dTyN_non, dTyN_bl, dTyN_int, dTyN_str, dTyN_tup, dTyN_lst, dTyN_dct, dTyN_rf, dIntOf_int, dIntOf_bl, knownT, subT, atI_0, atI_1, atI_2, atI_3, atI_4, atI_5, atI_neg1, mput_same, mput_mput, eqv_non, tyNames, Option.map_some, String.reduceBEq, Bool.or_true, Bool.true_or, Bool.or_false, Bool.false_or, Bool.false_and, Bool.and_false, beq_self_eq_true, BEq.rfl, List.any_cons, List.any_nil, sizeLine_eq, rLenB, Bool.true_eq_false, implies_true, Nat.zero_le, Bool.or_self, String.reduceEq, dAdd_ii, dAdd_ss, dAdd_tt, dMulA_ii, dMulA_si, dIxS_str, dIxS_tup, dIxS_lst, dIxS_ref, dCat, dCatF, dRep, dSl, dNoP, dPart, dJoin, mExtend, mIndex, rAnyL, rAllL, rSumL, rMaxL, rMinL, dLRg, diEnum, rSortD, dLc2F, dLc2, dYes, diEnumT, dSlS, rSortK, dFzS, dTupRev, diRev, diZip, dMulT, zipD, dDc, dDGet1, dLtD, dGtD, rListK, dUpper, diStr, dInS, dSortL, dSortSet, dSortSetT, dLenSetT, dStar, rIntS, rStrI, dKIx, dKIn, dKNotIn, rLenK, dKNew, dFzK, dFzD, dKPut, diKeys, diVals, diItems, mInsert, mPopAt, dKGet1, dKGet2, dKc, dDict_dct, dDict_put, isKb_int, isKb_str, true_implies, false_implies, dDIx, dDIn, dDNotIn, dSetD, dDNew, dSortLen, sortLenB, rSortO, items_opD, items_dbD, dbD, opD])
/-! ### marks -/
abbrev Mk := Str × List D × Int
def mkD (m : Mk) : D := .tup [.str m.1, .tup m.2.1, .int m.2.2]
theorem items_mkD {m : Mk} {M : DM} : dItems (mkD m) M = some [.str m.1, .tup m.2.1, .int m.2.2] := rfl
def mkOk (m : Mk) : Prop := PyData.strOk m.1 = true ∧ ∀ v ∈ m.2.1, isV v
def mkKey (m : Mk) : D := .tup [.str m.1, .tup (m.2.1.map vKey), .int m.2.2]
local macro_rules | `(tactic| walk_at "rd") => `(tactic| simp only [dSeq, dSet, dIf, dTst, dOp, dVar, dC, dRet, dRetN, dNext, dDrop, dBreak, dCont, dAnd, dOr, dNot, dAndV, dOrV, dNotV, dIfE, dTup, dLstF, dLst, dCons, dNil, dCB, dCall, dUn, dNegI,
  dI, dI0, dEq, dNe, dIs, dIsNot, dIn, dNotIn, dIx, isN_non, isN_bl, isN_int, isN_str, isN_tup, isN_lst, isN_rf, DL.rLen, rInt, rAbs, rMax2, rMin2, DL.rGcd, rTuple, rList, rIs, rIsT, ar0, ar1, ar2, ar3, ar4, ar5, ar6, ar7, ar8, dEnds, dMt, dMt0, mAppend, mPop, mReverse, dSetL, dPut, dAsg, dgName, dgTup, dgCons, dgNil,
  dFor, diSeq, diRng1, diRng2, dLcF, dLc, dwipe, dFz,
  dstart, List.map_cons, List.map_nil, List.length_cons, List.length_nil, List.cons_append, List.nil_append, List.append_nil, List.replicate, Nat.reduceAdd, Nat.reduceSub, Nat.reduceLeDiff, Int.reduceNeg, List.set_cons_zero, List.set_cons_succ,
  List.getElem?_cons_zero, List.getElem?_cons_succ, Option.some.injEq, exists_eq_left', exists_eq_left, exists_eq_right, exists_eq, exists_and_left, exists_and_right, D.int.injEq, D.bl.injEq, D.str.injEq, D.tup.injEq, D.lst.injEq, D.ref.injEq, D.ty.injEq, D.dct.injEq,
  List.cons.injEq, and_assoc, and_true, true_and, and_self, reduceCtorEq, false_and, and_false, if_true, if_false, if_pos, ite_true, ite_false, Bool.false_eq_true, decide_eq_true_eq, Bool.not_eq_true', decide_eq_false_iff_not, Bool.not_true, Bool.not_false, decide_true, decide_false,
  eqv_int, eqv_str, eqv_bl, dOk_int, dOk_bl, dOk_non, dOk_tup, dOk_lst, dOk_str, List.all_cons, List.all_nil, Bool.and_true, Bool.true_and, Bool.and_self, dItems_tup, dItems_lst, dItems_rf, CMulA, CDivA, CPowA, Int.reduceLT, Int.reduceLE, Int.reducePow, Int.reduceToNat, Int.reduceMul, Int.reduceAdd, Int.reduceSub, Nat.reducePow, true_or, or_true, ne_eq, not_false_eq_true, not_true_eq_false, dAt_tup, dAt_lst, dAt_rf, dLenOf_tup, dLenOf_lst, dLenOf_rf, dLenOf_str, dTyN_non, dTyN_bl, dTyN_int, dTyN_str, dTyN_tup, dTyN_lst, dTyN_dct, dTyN_rf, dIntOf_int, dIntOf_bl, knownT, subT, atI_0, atI_1, atI_2, atI_3, atI_4, atI_5, atI_neg1, mput_same, mput_mput, eqv_non, tyNames, Option.map_some, String.reduceBEq, Bool.or_true, Bool.true_or, Bool.or_false, Bool.false_or, Bool.false_and, Bool.and_false, beq_self_eq_true, BEq.rfl, List.any_cons, List.any_nil, sizeLine_eq, rLenB, Bool.true_eq_false, implies_true, Nat.zero_le, Bool.or_self, String.reduceEq, dAdd_ii, dAdd_ss, dAdd_tt, dMulA_ii, dMulA_si, dIxS_str, dIxS_tup, dIxS_lst, dIxS_ref, dCat, dCatF, dRep, dSl, dNoP, dPart, dJoin, mExtend, mIndex, rAnyL, rAllL, rSumL, rMaxL, rMinL, dLRg, diEnum, rSortD, dLc2F, dLc2, dYes, diEnumT, dSlS, rSortK, dFzS, dTupRev, diRev, diZip, dMulT, zipD, dDc, dDGet1, dLtD, dGtD, rListK, dUpper, diStr, dInS, dSortL, dSortSet, dSortSetT, dLenSetT, dStar, rIntS, rStrI, dKIx, dKIn, dKNotIn, rLenK, dKNew, dFzK, dFzD, dKPut, diKeys, diVals, diItems, mInsert, mPopAt, dKGet1, dKGet2, dKc, dDict_dct, dDict_put, isKb_int, isKb_str, true_implies, false_implies, dDIx, dDIn, dDNotIn, dSetD, dDNew, dSortLen, sortLenB, rSortO, items_opD, items_dbD, dbD, opD, items_mkD])
local macro_rules | `(tactic| walk_at "st") => `(tactic| (refine seq_i ?_; simp only [dSet, dIf, dTst, dOp, dVar, dC, dRet, dRetN, dNext, dDrop, dBreak, dCont, dAnd, dOr, dNot, dAndV, dOrV, dNotV, dIfE, dTup, dLstF, dLst, dCons, dNil, dCB, dCall, dUn, dNegI,
  dI, dI0, dEq, dNe, dIs, dIsNot, dIn, dNotIn, dIx, isN_non, isN_bl, isN_int, isN_str, isN_tup, isN_lst, isN_rf, DL.rLen, rInt, rAbs, rMax2, rMin2, DL.rGcd, rTuple, rList, rIs, rIsT, ar0, ar1, ar2, ar3, ar4, ar5, ar6, ar7, ar8, dEnds, dMt, dMt0, mAppend, mPop, mReverse, dSetL, dPut, dAsg, dgName, dgTup, dgCons, dgNil,
  dFor, diSeq, diRng1, diRng2, dLcF, dLc, dwipe, dFz,
  dstart, List.map_cons, List.map_nil, List.length_cons, List.length_nil, List.cons_append, List.nil_append, List.append_nil, List.replicate, Nat.reduceAdd, Nat.reduceSub, Nat.reduceLeDiff, Int.reduceNeg, List.set_cons_zero, List.set_cons_succ,
  List.getElem?_cons_zero, List.getElem?_cons_succ, Option.some.injEq, exists_eq_left', exists_eq_left, exists_eq_right, exists_eq, exists_and_left, exists_and_right, D.int.injEq, D.bl.injEq, D.str.injEq, D.tup.injEq, D.lst.injEq, D.ref.injEq, D.ty.injEq, D.dct.injEq,
  List.cons.injEq, and_assoc, and_true, true_and, and_self, reduceCtorEq, false_and, and_false, if_true, if_false, if_pos, ite_true, ite_false, Bool.false_eq_true, decide_eq_true_eq, Bool.not_eq_true', decide_eq_false_iff_not, Bool.not_true, Bool.not_false, decide_true, decide_false,
  eqv_int, eqv_str, eqv_bl, dOk_int, dOk_bl, dOk_non, dOk_tup, dOk_lst, dOk_str, List.all_cons, List.all_nil, Bool.and_true, Bool.true_and, Bool.and_self, dItems_tup, dItems_lst, dItems_rf, CMulA, CDivA, CPowA, Int.reduceLT, Int.reduceLE, Int.reducePow, Int.reduceToNat, Int.reduceMul, Int.reduceAdd, Int.reduceSub, Nat.reducePow, true_or, or_true, ne_eq, not_false_eq_true, not_true_eq_false, dAt_tup, dAt_lst, dAt_rf, dLenOf_tup, dLenOf_lst, dLenOf_rf, dLenOf_str, dTyN_non, dTyN_bl, dTyN_int, dTyN_str, dTyN_tup, dTyN_lst, dTyN_dct, dTyN_rf, dIntOf_int, dIntOf_bl, knownT, subT, atI_0, atI_1, atI_2, atI_3, atI_4, atI_5, atI_neg1, mput_same, mput_mput, eqv_non, tyNames, Option.map_some, String.reduceBEq, Bool.or_true, Bool.true_or, Bool.or_false, Bool.false_or, Bool.false_and, Bool.and_false, beq_self_eq_true, BEq.rfl, List.any_cons, List.any_nil, sizeLine_eq, rLenB, Bool.true_eq_false, implies_true, Nat.zero_le, Bool.or_self, String.reduceEq, dAdd_ii, dAdd_ss, dAdd_tt, dMulA_ii, dMulA_si, dIxS_str, dIxS_tup, dIxS_lst, dIxS_ref, dCat, dCatF, dRep, dSl, dNoP, dPart, dJoin, mExtend, mIndex, rAnyL, rAllL, rSumL, rMaxL, rMinL, dLRg, diEnum, rSortD, dLc2F, dLc2, dYes, diEnumT, dSlS, rSortK, dFzS, dTupRev, diRev, diZip, dMulT, zipD, dDc, dDGet1, dLtD, dGtD, rListK, dUpper, diStr, dInS, dSortL, dSortSet, dSortSetT, dLenSetT, dStar, rIntS, rStrI, dKIx, dKIn, dKNotIn, rLenK, dKNew, dFzK, dFzD, dKPut, diKeys, diVals, diItems, mInsert, mPopAt, dKGet1, dKGet2, dKc, dDict_dct, dDict_put, isKb_int, isKb_str, true_implies, false_implies, dDIx, dDIn, dDNotIn, dSetD, dDNew, dSortLen, sortLenB, rSortO, items_opD, items_dbD, dbD, opD, items_mkD]))
local macro_rules | `(tactic| walk_at "p") => `(tactic| simp only [dRet, dOp, dVar, dCall, dCB, dCons, dNil, ar0, ar1, ar2, ar3, ar4, ar5, DL.rLen, dIx, dEnds, dstart, List.map_cons, List.map_nil, List.length_cons, List.length_nil, List.cons_append, List.nil_append, List.replicate, Nat.reduceAdd, Nat.reduceSub, Nat.reduceLeDiff, List.getElem?_cons_zero, List.getElem?_cons_succ, Option.some.injEq, exists_eq_left', exists_eq_left, exists_and_left, exists_and_right, List.cons.injEq, and_assoc, and_true, true_and, D.ref.injEq, D.int.injEq])
local macro_rules | `(tactic| walk_at "s1") => `(tactic| simp only [dSet, dIf, dTst, dOp, dVar, dC, dRet, dRetN, dNext, dDrop, dBreak, dCont, dAnd, dOr, dNot, dAndV, dOrV, dNotV, dIfE, dTup, dLstF, dLst, dCons, dNil, dCB, dCall, dUn, dNegI,
  dI, dI0, dEq, dNe, dIs, dIsNot, dIn, dNotIn, dIx, isN_non, isN_bl, isN_int, isN_str, isN_tup, isN_lst, isN_rf, DL.rLen, rInt, rAbs, rMax2, rMin2, DL.rGcd, rTuple, rList, rIs, rIsT, ar0, ar1, ar2, ar3, ar4, ar5, ar6, ar7, ar8, dEnds, dMt, dMt0, mAppend, mPop, mReverse, dSetL, dPut, dAsg, dgName, dgTup, dgCons, dgNil,
  dFor, diSeq, diRng1, diRng2, dLcF, dLc, dwipe, dFz,
  dstart, List.map_cons, List.map_nil, List.length_cons, List.length_nil, List.cons_append, List.nil_append, List.append_nil, List.replicate, Nat.reduceAdd, Nat.reduceSub, Nat.reduceLeDiff, Int.reduceNeg, List.set_cons_zero, List.set_cons_succ,
  List.getElem?_cons_zero, List.getElem?_cons_succ, Option.some.injEq, exists_eq_left', exists_eq_left, exists_eq_right, exists_eq, exists_and_left, exists_and_right, D.int.injEq, D.bl.injEq, D.str.injEq, D.tup.injEq, D.lst.injEq, D.ref.injEq, D.ty.injEq, D.dct.injEq,
  List.cons.injEq, and_assoc, and_true, true_and, and_self, reduceCtorEq, false_and, and_false, if_true, if_false, if_pos, ite_true, ite_false, Bool.false_eq_true, decide_eq_true_eq, Bool.not_eq_true', decide_eq_false_iff_not, Bool.not_true, Bool.not_false, decide_true, decide_false,
  eqv_int, eqv_str, eqv_bl, dOk_int, dOk_bl, dOk_non, dOk_tup, dOk_lst, dOk_str, List.all_cons, List.all_nil, Bool.and_true, Bool.true_and, Bool.and_self, dItems_tup, dItems_lst, dItems_rf, CMulA, CDivA, CPowA, Int.reduceLT, Int.reduceLE, Int.reducePow, Int.reduceToNat, Int.reduceMul, Int.reduceAdd, Int.reduceSub, Nat.reducePow, true_or, or_true, ne_eq, not_false_eq_true, not_true_eq_false, dAt_tup, dAt_lst, dAt_rf, dLenOf_tup, dLenOf_lst, dLenOf_rf, dLenOf_str, dTyN_non, dTyN_bl, dTyN_int, dTyN_str, dTyN_tup, dTyN_lst, dTyN_dct, dTyN_rf, dIntOf_int, dIntOf_bl, knownT, subT, atI_0, atI_1, atI_2, atI_3, atI_4, atI_5, atI_neg1, mput_same, mput_mput, eqv_non, tyNames, Option.map_some, String.reduceBEq, Bool.or_true, Bool.true_or, Bool.or_false, Bool.false_or, Bool.false_and, Bool.and_false, beq_self_eq_true, BEq.rfl, List.any_cons, List.any_nil, sizeLine_eq, rLenB, Bool.true_eq_false, implies_true, Nat.zero_le, Bool.or_self, String.reduceEq, dAdd_ii, dAdd_ss, dAdd_tt, dMulA_ii, dMulA_si, dIxS_str, dIxS_tup, dIxS_lst, dIxS_ref, dCat, dCatF, dRep, dSl, dNoP, dPart, dJoin, mExtend, mIndex, rAnyL, rAllL, rSumL, rMaxL, rMinL, dLRg, diEnum, rSortD, dLc2F, dLc2, dYes, diEnumT, dSlS, rSortK, dFzS, dTupRev, diRev, diZip, dMulT, zipD, dDc, dDGet1, dLtD, dGtD, rListK, dUpper, diStr, dInS, dSortL, dSortSet, dSortSetT, dLenSetT, dStar, rIntS, rStrI, dKIx, dKIn, dKNotIn, rLenK, dKNew, dFzK, dFzD, dKPut, diKeys, diVals, diItems, mInsert, mPopAt, dKGet1, dKGet2, dKc, dDict_dct, dDict_put, isKb_int, isKb_str, true_implies, false_implies, dDIx, dDIn, dDNotIn, dSetD, dDNew, dSortLen, sortLenB, rSortO, items_opD, items_dbD, dbD, opD, items_mkD])
abbrev sp_l_mark_key : DSp := ar1 fun a M Q => ∃ m, a = mkD m ∧ mkOk m ∧ Q (mkKey m) M
theorem ok_l_mark_key (F : Def K mg "_law_mark_key" s_l_mark_key ["mark"]) (B : Bi K mg) (I : Im mg) (c_l_row_key : Cal P w K mg base 2 "_law_row_key" ["row"] sp_l_row_key) : Cal P w K mg base 3 "_law_mark_key" ["mark"] sp_l_mark_key := by
  have sc := sc_l_mark_key
  refine F.cal sc (fun ds M Q h => len1 h) (fun f cdv A outer s H E hr => (ds_one (ds_ret (d_tup (da_cons (d_ix x_ix (d_v 0) d_int (fun _ _ => rfl)) (da_cons (d_call c_l_row_key (hr.mono (by first | decide | omega)) rfl (da_cons (d_ix x_ix (d_v 0) d_int (fun _ _ => rfl)) da_nil)) (da_cons (d_ix x_ix (d_v 0) d_int (fun _ _ => rfl)) da_nil))))))) (fun ds M Q h => ?_)
  obtain ⟨a, rfl, m, rfl, hm, h⟩ := h
  walk_at "rd"
  exact ⟨hm.2, ret_of h⟩
abbrev sp_l_doubt_key : DSp := ar1 fun a M Q => ∃ m os, a = .tup [mkD m, os] ∧ mkOk m ∧ Q (mkKey m) M
theorem ok_l_doubt_key (F : Def K mg "_law_doubt_key" s_l_doubt_key ["doubt"]) (B : Bi K mg) (I : Im mg) (c_l_mark_key : Cal P w K mg base 3 "_law_mark_key" ["mark"] sp_l_mark_key) : Cal P w K mg base 4 "_law_doubt_key" ["doubt"] sp_l_doubt_key := by
  have sc := sc_l_doubt_key
  refine F.cal sc (fun ds M Q h => len1 h) (fun f cdv A outer s H E hr => (ds_one (ds_ret (d_call c_l_mark_key (hr.mono (by first | decide | omega)) rfl (da_cons (d_ix x_ix (d_v 0) d_int (fun _ _ => rfl)) da_nil))))) (fun ds M Q h => ?_)
  obtain ⟨a, rfl, m, os, rfl, hm, h⟩ := h
  walk_at "rd"
  exact ⟨m, rfl, hm, ret_of h⟩
theorem mkD_ok {m : Mk} (h : mkOk m) (n : Nat) : dOk (n + 2) (mkD m) = true := by
  simp [mkD, dOk_tup, dOk_str, h.1]
  exact fun v hv => isV_ok (h.2 v hv) n
theorem mkD_pl {m : Mk} (h : mkOk m) : pln (mkD m) = true := by
  simp only [mkD, pln, plns, row_pl h.2, Bool.and_self]
theorem mkD_inj {m n : Mk} (h : mkD m = mkD n) : m = n := by
  obtain ⟨a, b, c⟩ := m
  obtain ⟨x, y, z⟩ := n
  simpa [mkD] using h
theorem isV_key {d : D} (h : isV d) : kOk d = true ∧ (nk d).depth ≤ 1 := by
  rcases h with ⟨i, rfl⟩ | ⟨s, rfl, _⟩ <;> simp [kOk, nk, NestedKey.depth]
theorem row_key : ∀ {vs : List D}, (∀ v ∈ vs, isV v) → kOks vs = true ∧ NestedKey.depthAll (nks vs) ≤ 1
  | [], _ => by simp [kOks, nks, NestedKey.depthAll]
  | v :: vs, h => by
    obtain ⟨h1, h2⟩ := isV_key (h v (by simp))
    obtain ⟨h3, h4⟩ := row_key (vs := vs) fun u hu => h u (by simp [hu])
    simp only [kOks, nks, NestedKey.depthAll, h1, h3, Bool.and_self, true_and]
    omega
theorem mk_key {m : Mk} (h : mkOk m) : isKey (mkD m) := by
  obtain ⟨h1, h2⟩ := row_key h.2
  refine ⟨⟨_, rfl⟩, ?_, ?_⟩
  · simp [mkD, kOk, kOks, h1]
  · simp only [mkD, nk, nks, NestedKey.depth, NestedKey.depthAll]
    omega
/-- a mark as data -/
def isMk (d : D) : Prop := ∃ m, d = mkD m ∧ mkOk m
theorem isMk.key {d : D} (h : isMk d) : isKey d := by
  obtain ⟨m, rfl, h⟩ := h
  exact mk_key h
theorem isMk.pl {d : D} (h : isMk d) : pln d = true := by
  obtain ⟨m, rfl, h⟩ := h
  exact mkD_pl h
theorem isMk.ok {d : D} (h : isMk d) (n : Nat) : dOk (n + 2) d = true := by
  obtain ⟨m, rfl, h⟩ := h
  exact mkD_ok h n
theorem isMk.nk {d e : D} (h : isMk d) (k : isMk e) : nk d = nk e ↔ d = e :=
  ⟨fun z => nk_inj h.key.2.1 k.key.2.1 z, fun z => by rw [z]⟩
theorem isMk.eqv {d e : D} (h : isMk d) (k : isMk e) : D.eqv d e = true ↔ d = e := eqv_pl _ _ h.pl k.pl
theorem row_eqv {r s : List D} (h : ∀ v ∈ r, isV v) (k : ∀ v ∈ s, isV v) : D.eqv (.tup r) (.tup s) = true ↔ r = s :=
  (eqv_pl (.tup r) (.tup s) (row_pl h) (row_pl k)).trans ⟨fun e => by injection e, fun e => by rw [e]⟩
/-- the key of a mark -/
def mKey : D → D
  | .tup [.str n, .tup ks, .int t] => .tup [.str n, .tup (ks.map vKey), .int t]
  | d => d
theorem mKey_mk (m : Mk) : mKey (mkD m) = mkKey m := rfl
theorem vKey_inj {d e : D} (h : isV d) (k : isV e) (z : vKey d = vKey e) : d = e := by
  rcases h with ⟨i, rfl⟩ | ⟨s, rfl, _⟩ <;> rcases k with ⟨j, rfl⟩ | ⟨t, rfl, _⟩ <;> simp [vKey] at z ⊢
  · exact z
  · exact z
theorem row_inj : ∀ {r s : List D}, (∀ v ∈ r, isV v) → (∀ v ∈ s, isV v) → r.map vKey = s.map vKey → r = s
  | [], [], _, _, _ => rfl
  | [], _ :: _, _, _, e => by cases e
  | _ :: _, [], _, _, e => by cases e
  | x :: r, y :: s, h, k, e => by
    rw [List.map_cons, List.map_cons] at e
    injection e with e1 e2
    rw [vKey_inj (h x (by simp)) (k y (by simp)) e1, row_inj (fun v hv => h v (by simp [hv])) (fun v hv => k v (by simp [hv])) e2]
theorem mKey_inj {d e : D} (h : isMk d) (k : isMk e) (z : mKey d = mKey e) : d = e := by
  obtain ⟨⟨a, b, c⟩, rfl, h⟩ := h
  obtain ⟨⟨x, y, w⟩, rfl, k⟩ := k
  rw [mKey_mk, mKey_mk] at z
  simp only [mkKey, D.tup.injEq, List.cons.injEq, D.str.injEq, D.int.injEq, and_true] at z
  have e : b = y := row_inj h.2 k.2 z.2.1
  rw [z.1, e, z.2.2]
theorem mKey_alike {d e : D} (h : isMk d) (k : isMk e) : PySem.W.alike (mKey d).py (mKey e).py = true := by
  obtain ⟨m, rfl, h⟩ := h
  obtain ⟨n, rfl, k⟩ := k
  have := rowKey_alike h.2 k.2
  simp [mKey_mk, mkKey, D.py, D.pys, PySem.W.alike, PySem.W.alikeAll, this]
theorem vKey_pl {d : D} (h : isV d) : pln (vKey d) = true := by
  rcases h with ⟨i, rfl⟩ | ⟨s, rfl, _⟩ <;> rfl
theorem rowK_pl {r : List D} (h : ∀ v ∈ r, isV v) : plns (r.map vKey) = true := plns_iff.mpr fun x hx => by
  obtain ⟨v, hv, rfl⟩ := List.mem_map.mp hx
  exact vKey_pl (h v hv)
theorem mKey_pl {d : D} (h : isMk d) : pln (mKey d) = true := by
  obtain ⟨m, rfl, h⟩ := h
  show (true && ((plns (m.2.1.map vKey)) && (true && true))) = true
  rw [rowK_pl h.2]
  rfl
theorem rowK_ok {r : List D} (h : ∀ v ∈ r, isV v) (n : Nat) : (r.map vKey).all (dOk (n + 1)) = true := by
  rw [List.all_map]
  exact List.all_eq_true.mpr fun v hv => vKey_ok (h v hv) n
theorem mKey_ok {d : D} (h : isMk d) (n : Nat) : dOk (n + 3) (mKey d) = true := by
  obtain ⟨m, rfl, h⟩ := h
  rw [mKey_mk]
  simp [mkKey, dOk_tup, dOk_str, h.1]
  exact fun v hv => vKey_ok (h.2 v hv) n
/-- marks that are not less either way are one -/
theorem mKey_tri {d e : D} (h : isMk d) (k : isMk e) (z : dlt (mKey d) (mKey e) = false) (y : dlt (mKey e) (mKey d) = false) : d = e :=
  mKey_inj h k ((eqv_pl _ _ (mKey_pl h) (mKey_pl k)).mp (dlt_tri (mKey_alike h k) z y))
/-- a doubt -/
structure dbW (d : Dbt) : Prop where
  mark : isMk d.1
  pos : 0 < d.2.length
  len : d.2.length ≤ 6
  nd : (rowsOf d).Nodup
  row : ∀ r ∈ rowsOf d, r ≠ [] ∧ ∀ v ∈ r, isV v
  wt : ∀ o ∈ d.2, 0 < o.2 ∧ o.2 < 2 ^ 72
theorem dbW.rv {d : Dbt} (h : dbW d) {o : Opt} (ho : o ∈ d.2) : ∀ v ∈ o.1, isV v := (h.row o.1 (List.mem_map.mpr ⟨o, ho, rfl⟩)).2
def dKey : D → D
  | .tup (.tup [.str n, .tup ks, .int t] :: _) => .tup [.str n, .tup (ks.map vKey), .int t]
  | d => d
theorem dKey_mk (m : Mk) (os : List D) : dKey (.tup (mkD m :: os)) = mkKey m := rfl
theorem dbs_sortK {ds : List Dbt} (h : ∀ d ∈ ds, isMk d.1) : PySem.W.AllAlike (((ds.map dbD).map dKey).map D.py) ∧ PySem.W.Sortable (((ds.map dbD).map dKey).map D.py) ∧ ((ds.map dbD).map dKey).all (dOk 32) = true := by
  have each : ∀ x ∈ (ds.map dbD).map dKey, ∃ m, mkOk m ∧ x = mkKey m := fun x hx => by
    simp only [List.mem_map] at hx
    obtain ⟨_, ⟨d, hd, rfl⟩, rfl⟩ := hx
    obtain ⟨m, e, hm⟩ := h d hd
    refine ⟨m, hm, ?_⟩
    show dKey (.tup [d.1, .tup (d.2.map opD)]) = mkKey m
    rw [e]
    rfl
  refine ⟨?_, .inl fun d hd => ?_, ?_⟩
  · intro d hd d' hd'
    obtain ⟨x, hx, rfl⟩ := List.mem_map.mp hd
    obtain ⟨y, hy, rfl⟩ := List.mem_map.mp hd'
    obtain ⟨m, hm, rfl⟩ := each x hx
    obtain ⟨n, hn, rfl⟩ := each y hy
    have := rowKey_alike hm.2 hn.2
    simp [mkKey, D.py, D.pys, PySem.W.alike, PySem.W.alikeAll, this]
  · obtain ⟨x, hx, rfl⟩ := List.mem_map.mp hd
    obtain ⟨m, hm, rfl⟩ := each x hx
    exact ⟨_, _, by simp only [mkKey, D.py, D.pys] <;> rfl⟩
  · refine List.all_eq_true.mpr fun x hx => ?_
    obtain ⟨m, hm, rfl⟩ := each x hx
    simp [mkKey, dOk_tup, dOk_str, hm.1]
    exact fun v hv => vKey_ok (hm.2 v hv) 29
/-! ### doubts as the laws draw them -/
theorem ints_isV (i : Int) : isV (.int i) := .inl ⟨i, rfl⟩
abbrev sp_l_pool_of : DSp := ar2 fun a b M Q => ∃ (p : Addr) (ws : List Str), a = .ref p ∧ b = .lst (ws.map D.str) ∧ Dr M p ∧ 3 ≤ ws.length ∧ ws.Nodup ∧ (∀ x ∈ ws, PyData.strOk x = true) ∧ ∀ (o : DO) (pl : List D), DrO o → pl.length = 7 → pl.Nodup → (∀ v ∈ pl, isV v) → Q (.lst pl) (mput M p o)
theorem ok_l_pool_of (F : Def K mg "_law_pool_of" s_l_pool_of ["draws", "words"]) (B : Bi K mg) (I : Im mg) (c_l_take : Cal P w K mg base 1 "_law_take" ["draws", "many"] sp_l_take) (c_l_pick : Cal P w K mg base 2 "_law_pick" ["draws", "row"] sp_l_pick) : Cal P w K mg base 3 "_law_pool_of" ["draws", "words"] sp_l_pool_of := by
  have sc := sc_l_pool_of
  refine F.cal sc (fun ds M Q h => len2 h) (fun f cdv A outer s H E hr => (ds_cons (ds_set (i := 2) sc.nd rfl (Or.inl rfl) (d_op o_sub (d_call c_l_take (hr.mono (by first | decide | omega)) rfl (da_cons (d_v 0) (da_cons d_int da_nil))) d_int))
    (ds_cons (ds_if (dt_cmp (o_eq (hu_eq hr)) (d_call c_l_take (hr.mono (by first | decide | omega)) rfl (da_cons (d_v 0) (da_cons d_int da_nil))) d_int (nomark _))
    (ds_one (ds_set (i := 2) sc.nd rfl (Or.inl rfl) (d_op o_mul (d_v 2) (d_call c_l_pick (hr.mono (by first | decide | omega)) rfl (da_cons (d_v 0) (da_cons (d_lstF (da_cons d_int (da_cons (d_op o_add (d_op o_pow d_int d_int) d_int) (da_cons (d_op o_add (d_op o_pow d_int d_int) d_int) da_nil)))) da_nil))))))
    ds_nil)
    (ds_one (ds_ret (d_lstF (da_cons (d_ix x_ix (d_v 1) d_int (fun _ _ => rfl)) (da_cons (d_v 2) (da_cons (d_ix x_ix (d_v 1) d_int (fun _ _ => rfl)) (da_cons (d_op o_add (d_v 2) d_int) (da_cons (d_ix x_ix (d_v 1) d_int (fun _ _ => rfl)) (da_cons (d_op o_sub (d_v 2) d_int) (da_cons (d_op o_add (d_v 2) d_int) da_nil))))))))))))) (fun ds M Q h => ?_)
  obtain ⟨a, b, rfl, p, ws, rfl, rfl, hd, hl, hn, hok, h⟩ := h
  walk_at "st"
  refine ⟨hd, fun o1 r1 ho1 r10 r11 => ?_⟩
  refine seq_cut (fun m1 M1 => ∃ (o : DO) (i : Int), DrO o ∧ M1 = mput M p o ∧ m1 = [some (.ref p), some (.lst (ws.map D.str)), some (.int i)]) (fun Cn hC => ?_) ?_
  · walk_at "s1"
    refine ⟨dr_put ho1, fun o2 r2 ho2 r20 r21 => ?_⟩
    split
    · refine ⟨dr_put ho2, fun o3 x ho3 hx => ?_⟩
      obtain ⟨i, rfl⟩ : ∃ i : Int, x = .int i := by
        simp only [List.mem_cons, List.not_mem_nil, or_false] at hx
        rcases hx with rfl | rfl | rfl <;> exact ⟨_, rfl⟩
      exact ⟨i, rfl, .inl ⟨by omega, by omega⟩, hC _ _ ⟨o3, _, ho3, rfl, rfl⟩⟩
    · exact hC _ _ ⟨o2, _, ho2, rfl, rfl⟩
  rintro _ _ ⟨o, i, ho, rfl, rfl⟩
  match ws, hl, hok, hn, h with
  | w0 :: w1 :: w2 :: wr, hl, hok, hn, h =>
    walk_at "rd"
    have h0 := hok w0 (by simp)
    have h1 := hok w1 (by simp)
    have h2 := hok w2 (by simp)
    have n01 : w0 ≠ w1 := fun e => by simp [e] at hn
    have n02 : w0 ≠ w2 := fun e => by simp [e] at hn
    have n12 : w1 ≠ w2 := fun e => by simp [e] at hn
    refine ret_of (h o _ ho rfl ?_ fun v hv => ?_)
    · simp [n01, n02, n12]
      omega
    · simp only [List.mem_cons, List.not_mem_nil, or_false] at hv
      rcases hv with rfl | rfl | rfl | rfl | rfl | rfl | rfl
      · exact .inr ⟨_, rfl, h0⟩
      · exact .inl ⟨_, rfl⟩
      · exact .inr ⟨_, rfl, h1⟩
      · exact .inl ⟨_, rfl⟩
      · exact .inr ⟨_, rfl, h2⟩
      · exact .inl ⟨_, rfl⟩
      · exact .inl ⟨_, rfl⟩
abbrev sp_l_drawn_weight : DSp := ar1 fun a M Q => ∃ p, a = .ref p ∧ Dr M p ∧ ∀ (o : DO) (w : Int), DrO o → 0 < w → w < 2 ^ 72 → Q (.int w) (mput M p o)
theorem ok_l_drawn_weight (F : Def K mg "_law_drawn_weight" s_l_drawn_weight ["draws"]) (B : Bi K mg) (I : Im mg) (c_l_take : Cal P w K mg base 1 "_law_take" ["draws", "many"] sp_l_take) (c_l_pick : Cal P w K mg base 2 "_law_pick" ["draws", "row"] sp_l_pick) : Cal P w K mg base 3 "_law_drawn_weight" ["draws"] sp_l_drawn_weight := by
  have sc := sc_l_drawn_weight
  refine F.cal sc (fun ds M Q h => len1 h) (fun f cdv A outer s H E hr => (ds_cons (ds_set (i := 1) sc.nd rfl (Or.inl rfl) (d_op o_add d_int (d_call c_l_take (hr.mono (by first | decide | omega)) rfl (da_cons (d_v 0) (da_cons d_int da_nil)))))
    (ds_cons (ds_if (dt_cmp (o_eq (hu_eq hr)) (d_call c_l_take (hr.mono (by first | decide | omega)) rfl (da_cons (d_v 0) (da_cons d_int da_nil))) d_int (nomark _))
    (ds_one (ds_set (i := 1) sc.nd rfl (Or.inl rfl) (d_op o_mul (d_v 1) (d_call c_l_pick (hr.mono (by first | decide | omega)) rfl (da_cons (d_v 0) (da_cons (d_lstF (da_cons d_int (da_cons (d_op o_add (d_op o_pow d_int d_int) d_int) (da_cons (d_op o_add (d_op o_pow d_int d_int) d_int) da_nil)))) da_nil))))))
    ds_nil)
    (ds_one (ds_ret (d_v 1)))))) (fun ds M Q h => ?_)
  obtain ⟨a, rfl, p, rfl, hd, h⟩ := h
  walk_at "st"
  refine ⟨hd, fun o1 r1 ho1 r10 r11 => ?_⟩
  refine seq_cut (fun m1 M1 => ∃ (o : DO) (w : Int), DrO o ∧ 0 < w ∧ w < 2 ^ 72 ∧ M1 = mput M p o ∧ m1 = [some (.ref p), some (.int w)]) (fun Cn hC => ?_) ?_
  · walk_at "s1"
    refine ⟨dr_put ho1, fun o2 r2 ho2 r20 r21 => ?_⟩
    split
    · refine ⟨dr_put ho2, fun o3 x ho3 hx => ?_⟩
      obtain ⟨i, rfl, hi0, hi1⟩ : ∃ i : Int, x = .int i ∧ 0 < i ∧ i < 10 ^ 20 + 40 := by
        simp only [List.mem_cons, List.not_mem_nil, or_false] at hx
        rcases hx with rfl | rfl | rfl <;> exact ⟨_, rfl, by decide, by decide⟩
      refine ⟨i, rfl, .inl ⟨by omega, by omega⟩, hC _ _ ⟨o3, _, ho3, Int.mul_pos (by omega) hi0, ?_, rfl, rfl⟩⟩
      have h3 : (1 + r1) * i ≤ 3 * i := Int.mul_le_mul_of_nonneg_right (by omega) (by omega)
      omega
    · exact hC _ _ ⟨o2, _, ho2, by omega, by omega, rfl, rfl⟩
  rintro _ _ ⟨o, w, ho, h0, h1, rfl, rfl⟩
  walk_at "rd"
  exact ret_of (h o w ho h0 h1)
theorem getD_nodup {l : List D} (h : l.Nodup) {i j : Nat} (hi : i < l.length) (hj : j < l.length) (e : l.getD i .non = l.getD j .non) : i = j := by
  rw [List.getD_eq_getElem?_getD, List.getD_eq_getElem?_getD, List.getElem?_eq_getElem hi, List.getElem?_eq_getElem hj] at e
  exact (List.getElem_inj h).mp e
theorem getD_mem {l : List D} {i : Nat} (hi : i < l.length) : l.getD i .non ∈ l := by
  rw [List.getD_eq_getElem?_getD, List.getElem?_eq_getElem hi]
  exact List.getElem_mem hi
theorem atI_getD {l : List D} {i : Nat} (hi : i < l.length) : atI l (i : Int) = some (l.getD i .non) := by
  rw [atI_n, List.getElem?_eq_getElem hi]
  simp [List.getD_eq_getElem?_getD, List.getElem?_eq_getElem hi]
theorem atI_strs {xs : List Str} {k : Nat} (h : k < xs.length) : atI (xs.map D.str) (k : Int) = some (.str (xs.getD k ⟨#[]⟩)) := by
  rw [atI_n, List.getElem?_map, List.getElem?_eq_getElem h]
  simp [List.getD_eq_getElem?_getD, List.getElem?_eq_getElem h]
/-- the rows that come: key, then the pool's things from start on, then others -/
def rowAt (key pl : List D) (s j : Nat) (r : List D) : Prop := ∃ os : List D, (∀ v ∈ os, isV v) ∧ r = key ++ pl.getD ((s + j) % 7) .non :: os
theorem rowAt_ne {key pl : List D} (hl : pl.length = 7) (hn : pl.Nodup) {s i j : Nat} (hij : i < j) (hj : j < 7) {r : List D} (h1 : rowAt key pl s i r) (h2 : rowAt key pl s j r) : False := by
  obtain ⟨o1, _, e1⟩ := h1
  obtain ⟨o2, _, e2⟩ := h2
  rw [e1] at e2
  have e3 := List.append_cancel_left e2
  injection e3 with e4 _
  have := getD_nodup hn (by omega) (by omega) e4
  omega
abbrev sp_l_drawn_options : DSp := ar5 fun a b c d e M Q => ∃ (p : Addr) (key : List D) (n : Nat) (pl : List D) (m : Nat), a = .ref p ∧ b = .tup key ∧ c = .int (n : Nat) ∧ d = .lst pl ∧ e = .int (m : Nat) ∧ 1 ≤ n ∧ n ≤ 3 ∧ pl.length = 7 ∧ pl.Nodup ∧ (∀ v ∈ pl, isV v) ∧ key.length ≤ 5 ∧ (∀ v ∈ key, isV v) ∧ 2 ≤ m ∧ m ≤ 6 ∧ Dr M p ∧
  ∀ (o : DO) (os : List Opt), DrO o → 0 < os.length → os.length ≤ m → (os.map (·.1)).Nodup → (∀ r ∈ os.map (·.1), r ≠ [] ∧ ∀ v ∈ r, isV v) → (∀ t ∈ os, 0 < t.2 ∧ t.2 < 2 ^ 72) → Q (.tup (os.map opD)) (mput M p o)
theorem ok_l_drawn_options (F : Def K mg "_law_drawn_options" s_l_drawn_options ["draws", "key", "others", "pool", "many"]) (B : Bi K mg) (I : Im mg) (c_l_take : Cal P w K mg base 1 "_law_take" ["draws", "many"] sp_l_take) (c_l_pick : Cal P w K mg base 2 "_law_pick" ["draws", "row"] sp_l_pick) (c_l_sorted_rows : Cal P w K mg base 5 "_law_sorted_rows" ["rows"] sp_l_sorted_rows) (c_l_drawn_weight : Cal P w K mg base 3 "_law_drawn_weight" ["draws"] sp_l_drawn_weight) : Cal P w K mg base 6 "_law_drawn_options" ["draws", "key", "others", "pool", "many"] sp_l_drawn_options := by
  have sc := sc_l_drawn_options
  refine F.cal sc (fun ds M Q h => len5 h) (fun f cdv A outer s H E hr => (ds_cons (ds_set (i := 5) sc.nd rfl (Or.inl rfl) (d_call c_l_take (hr.mono (by first | decide | omega)) rfl (da_cons (d_v 0) (da_cons d_int da_nil))))
    (ds_cons (ds_set (i := 6) sc.nd rfl (Or.inl rfl) (d_lst da_nil))
    (ds_cons (ds_for PassesOwn.never rfl (di_range1 rfl B.b_range (da_cons (d_op o_add d_int (d_call c_l_take (hr.mono (by first | decide | omega)) rfl (da_cons (d_v 0) (da_cons (d_op o_sub (d_v 4) d_int) da_nil)))) da_nil)) (dg_name (i := 7) sc.nd rfl (Or.inl rfl))
    (ds_cons (ds_set (i := 8) sc.nd rfl (Or.inl rfl) (d_lst (da_cons (d_ix x_ix (d_v 3) (d_op o_mod (d_ct c_int rfl B.b_int boot_int (da_cons (d_op o_add (d_v 5) (d_v 7)) da_nil)) d_int) (fun _ _ => rfl)) da_nil)))
    (ds_cons (ds_for PassesOwn.never rfl (di_range1 rfl B.b_range (da_cons (d_op o_sub (d_v 2) d_int) da_nil)) (dg_name (i := 9) sc.nd rfl (Or.inl rfl))
    (ds_one (ds_expr (d_mt PySem.F.slot_list_append PySem.F.type_list_append m_append (d_v 8) (da_cons (d_call c_l_pick (hr.mono (by first | decide | omega)) rfl (da_cons (d_v 0) (da_cons (d_v 3) da_nil))) da_nil)))))
    (ds_one (ds_expr (d_mt PySem.F.slot_list_append PySem.F.type_list_append m_append (d_v 6) (da_cons (d_op o_addA (d_v 1) (d_ct c_tuple rfl B.b_tuple boot_tuple (da_cons (d_v 8) da_nil))) da_nil)))))))
    (ds_one (ds_fz 6 (ds_ret (d_ct c_tuple rfl B.b_tuple boot_tuple (da_cons (d_lcF rfl sc.nd (own := [("row", 10)]) (di_seq (d_call c_l_sorted_rows (hr.mono (by first | decide | omega)) rfl (da_cons (d_v 6) da_nil))) (blkOk_by (N := N_l_drawn_options) (sc := defScope s_l_drawn_options) (by decide +kernel)) (by decide) (fun _ _ _ _ _ => (dg_name (i := 10) sc.nd rfl (Or.inl rfl))) (fun _ _ _ _ _ => dts_nil) (fun _ _ _ _ _ => (d_tup (da_cons (d_v 10) (da_cons (d_call c_l_drawn_weight (hr.mono (by first | decide | omega)) rfl (da_cons (d_v 0) da_nil)) da_nil))))) da_nil))))))))) (fun ds M Q h => ?_)
  obtain ⟨a, b, c, d, e, rfl, p, key, n, pl, m, rfl, rfl, rfl, rfl, rfl, hn1, hn3, hpl, hpn, hpv, hkl, hkv, hm2, hm6, ⟨o0, e0, ho0⟩, h⟩ := h
  walk_at "st"
  refine ⟨⟨o0, e0, ho0⟩, fun o1 s ho1 s0 s1 => ?_⟩
  obtain ⟨s, rfl⟩ := Int.eq_ofNat_of_zero_le s0
  walk_at "st"
  intro q hq
  have hpq : p ≠ q := ne_of_fresh mput_same hq
  have hqM : M q = none := by rw [mput_ne hpq.symm] at hq; exact hq
  walk_at "st"
  refine ⟨dr_ne (dr_put ho1) hpq, by omega, fun o2 r2 ho2 r20 r21 => ?_⟩
  obtain ⟨t, rfl⟩ := Int.eq_ofNat_of_zero_le r20
  rw [mput_swap hpq]
  refine ⟨by omega, by omega, fun _ => ?_⟩
  rw [show ((2 : Int) + (t : Int)).toNat = t + 2 by omega]
  obtain ⟨plV, hplV⟩ : ∃ z, z = D.lst pl := ⟨_, rfl⟩
  rw [← hplV]
  refine for_ind (fun items m1 M1 => ∃ (o : DO) (j : Nat) (rows : List (List D)) (x7 x8 x9 : Option D), items = rangeD (j : Int) (t + 2 - j) ∧ j ≤ t + 2 ∧ DrO o ∧ rows.length = j ∧ (∀ i, i < j → rowAt key pl s i (rows.getD i [])) ∧ M1 = mput (mput M p o) q (.lst (rows.map D.tup)) ∧
    m1 = [some (.ref p), some (.tup key), some (.int (n : Nat)), some plV, some (.int (m : Nat)), some (.int (s : Nat)), some (.ref q), x7, x8, x9, none]) ?_ ?_ _ _ _ ⟨o2, 0, [], _, _, _, rfl, by omega, ho2, rfl, fun i hi => by omega, rfl, rfl⟩
  · rintro m1 M1 ⟨o, j, rows, x7, x8, x9, hi, hj, ho, hrl, hra, rfl, rfl⟩
    refine ⟨srcV_none, ?_⟩
    have hjn : j = t + 2 := by
      rcases Nat.lt_or_ge j (t + 2) with c | c
      · rw [show t + 2 - j = (t + 2 - (j + 1)) + 1 by omega, rangeD_cons] at hi
        cases hi
      · omega
    have hrok : ∀ r ∈ rows, r ≠ [] ∧ ∀ v ∈ r, isV v := fun r hr => by
      obtain ⟨i, hi2, rfl⟩ := List.getElem_of_mem hr
      have z := hra i (by omega)
      rw [List.getD_eq_getElem?_getD, List.getElem?_eq_getElem hi2, Option.getD_some] at z
      obtain ⟨os, h1, h2⟩ := z
      rw [h2]
      refine ⟨by simp, fun v hv => ?_⟩
      rcases List.mem_append.mp hv with hv | hv
      · exact hkv v hv
      · rcases List.mem_cons.mp hv with rfl | hv
        · exact hpv _ (getD_mem (by omega))
        · exact h1 v hv
    have hrn : rows.Nodup := by
      rw [List.Nodup, List.pairwise_iff_getElem]
      intro i k hi2 hk2 hik e
      have z1 := hra i (by omega)
      have z2 := hra k (by omega)
      rw [List.getD_eq_getElem?_getD, List.getElem?_eq_getElem hi2, Option.getD_some] at z1
      rw [List.getD_eq_getElem?_getD, List.getElem?_eq_getElem hk2, Option.getD_some, ← e] at z2
      exact rowAt_ne hpl hpn hik (by omega) z1 z2
    walk_at "rd"
    rw [mdel_mput (mput_fresh hpq hqM)]
    refine ⟨_, rfl, rows, rfl, by omega, hrok, fun rs hrs hne hle hnd _ => ?_⟩
    refine lc_drawT D.tup opD (fun r t => t.1 = r ∧ 0 < t.2 ∧ t.2 < 2 ^ 72) rfl rfl ho (fun r hr r5 l o5 hpr hr5 ho5 C1 h1 => ?_) fun r5 o5 os hpr hr5 ho5 hP => ?_
    · walk_at "rd"
      refine ⟨dr_ne (dr_put ho5) hpr, fun o6 w ho6 w0 w1 => ?_⟩
      rw [mput_swap hpr]
      exact h1 o6 (r, w) ho6 ⟨rfl, w0, w1⟩
    rw [mdel_mput hr5]
    have e1 : os.map (·.1) = rs := (Paired.map_eq (fun r => r) (fun t : Opt => t.1) (fun x y h => h.1) hP).trans (List.map_id rs)
    have hlen := Paired.len hP
    refine ret_of (h o5 os ho5 ?_ (by omega) (by rw [e1]; exact hnd hrn) (by rw [e1]; exact fun r hr => hrok r (hrs r hr)) fun t ht => ?_)
    · have h3 : rs ≠ [] := hne fun z => by rw [z] at hrl; simp at hrl; omega
      have := List.length_pos_iff.mpr h3
      omega
    · obtain ⟨_, _, h3⟩ := Paired.mem_right hP t ht
      exact h3.2
  · rintro z items m1 M1 Cn hC ⟨o, j, rows, x7, x8, x9, hi, hj, ho, hrl, hra, rfl, rfl⟩
    refine ⟨srcV_none, ?_⟩
    have hj2 : j < t + 2 := by
      rcases Nat.lt_or_ge j (t + 2) with c | c
      · exact c
      · rw [show t + 2 - j = 0 by omega] at hi
        simp [rangeD] at hi
    rw [show t + 2 - j = (t + 2 - (j + 1)) + 1 by omega, rangeD_cons] at hi
    injection hi with h1 h2
    subst h1
    subst h2
    subst hplV
    walk_at "st"
    refine ⟨pl.getD ((s + j) % 7) .non, by rw [show ((s : Int) + (j : Int)) % 7 = (((s + j) % 7 : Nat) : Int) by omega]; exact atI_getD (by omega), fun u hu => ?_⟩
    have hpu : p ≠ u := ne_of_fresh (o := o) (by rw [mput_ne hpq]; exact mput_same) hu
    have hqu : q ≠ u := ne_of_fresh mput_same hu
    have huM : M u = none := by rw [mput_ne hqu.symm, mput_ne hpu.symm] at hu; exact hu
    walk_at "st"
    refine ⟨by omega, by omega, fun _ => ?_⟩
    obtain ⟨n2, hn2⟩ : ∃ n2 : Nat, ((n : Int) - 1).toNat = n2 ∧ n2 ≤ 2 := ⟨_, rfl, by omega⟩
    rw [hn2.1]
    have hhd : isV (pl.getD ((s + j) % 7) .non) := hpv _ (getD_mem (by omega))
    obtain ⟨hd, hhdE⟩ : ∃ hd, hd = pl.getD ((s + j) % 7) .non := ⟨_, rfl⟩
    rw [← hhdE] at hhd ⊢
    obtain ⟨plV, hplV⟩ : ∃ z, z = D.lst pl := ⟨_, rfl⟩
    have hplI : ∀ M, dItems plV M = some pl := fun M => by rw [hplV]; rfl
    rw [← hplV]
    refine for_ind (fun items m1 M1 => ∃ (o : DO) (i : Nat) (os : List D) (x9 : Option D), items = rangeD (i : Int) (n2 - i) ∧ i ≤ n2 ∧ DrO o ∧ os.length = i ∧ (∀ v ∈ os, isV v) ∧ M1 = mput (mput (mput M p o) q (.lst (rows.map D.tup))) u (.lst (hd :: os)) ∧
      m1 = [some (.ref p), some (.tup key), some (.int (n : Nat)), some plV, some (.int (m : Nat)), some (.int (s : Nat)), some (.ref q), some (.int (j : Nat)), some (.ref u), x9, none]) ?_ ?_ _ _ _ ⟨o, 0, [], _, rfl, by omega, ho, rfl, by simp, rfl, rfl⟩
    · rintro m1 M1 ⟨o5, i, os, x9, hi5, hin, ho5, hol, hov, rfl, rfl⟩
      refine ⟨srcV_none, ?_⟩
      have hMq : mput (mput (mput M p o5) q (.lst (rows.map D.tup))) u (.lst (hd :: os)) q = some (.lst (rows.map D.tup)) := by rw [mput_ne hqu, mput_same]
      walk_at "rd"
      refine ⟨⟨_, by rw [hMq]⟩, by omega, _, hMq, by rw [List.length_map]; omega, ?_⟩
      rw [mput_comm hqu.symm, mput_mput]
      have e : rows.map D.tup ++ [D.tup (key ++ hd :: os)] = (rows ++ [key ++ hd :: os]).map D.tup := by rw [List.map_append]; rfl
      rw [e]
      refine ⟨mput (mput M p o5) q (.lst ((rows ++ [key ++ hd :: os]).map D.tup)), MLe.put (.refl _) (by rw [mput_ne hqu.symm, mput_ne hpu.symm]; exact huM), hC _ _ ⟨o5, j + 1, rows ++ [key ++ hd :: os], _, _, _, rfl, by omega, ho5, by rw [List.length_append, List.length_singleton]; omega, fun i2 hi2 => ?_, rfl, by rw [hplV]⟩⟩
      rcases Nat.lt_or_ge i2 j with c | c
      · have z := hra i2 c
        rwa [List.getD_eq_getElem?_getD, List.getElem?_append_left (by omega), ← List.getD_eq_getElem?_getD]
      · have e3 : i2 = j := by omega
        subst e3
        rw [List.getD_eq_getElem?_getD, List.getElem?_append_right (by omega), hrl, Nat.sub_self]
        exact ⟨os, hov, by rw [hhdE]; rfl⟩
    · rintro z2 its2 m1 M1 Cn2 hC2 ⟨o5, i, os, x9, hi5, hin, ho5, hol, hov, rfl, rfl⟩
      refine ⟨srcV_none, ?_⟩
      have hi2 : i < n2 := by
        rcases Nat.lt_or_ge i n2 with c | c
        · exact c
        · rw [show n2 - i = 0 by omega] at hi5
          simp [rangeD] at hi5
      rw [show n2 - i = (n2 - (i + 1)) + 1 by omega, rangeD_cons] at hi5
      injection hi5 with h1 h2
      subst h1
      subst h2
      walk_at "rd"
      refine ⟨⟨_, rfl⟩, pl, hplI _, by rw [hplV]; simp, dr_ne (dr_ne (dr_put ho5) hpq) hpu, (fun e => by rw [e] at hpl; cases hpl), fun o6 x ho6 hx => ?_⟩
      rw [mput_comm hpu.symm, mput_swap hpq]
      refine ⟨_, mput_same, by rw [List.length_cons]; omega, ?_⟩
      rw [mput_mput]
      refine fg_of (hC2 _ _ ⟨o6, i + 1, os ++ [x], _, rfl, by omega, ho6, by rw [List.length_append, List.length_singleton]; omega, fun v hv => ?_, rfl, rfl⟩)
      rcases List.mem_append.mp hv with hv | hv
      · exact hov v hv
      · rw [List.mem_singleton.mp hv]
        exact hpv x hx
abbrev Fd := Mk × List Opt
def fd2 (f : Fd) : Dbt := (mkD f.1, f.2)
def fdD (f : Fd) : D := dbD (fd2 f)
theorem items_fdD {f : Fd} {M : DM} : dItems (fdD f) M = some [mkD f.1, .tup (f.2.map opD)] := rfl
local macro_rules | `(tactic| walk_at "rd") => `(tactic| simp only [dSeq, dSet, dIf, dTst, dOp, dVar, dC, dRet, dRetN, dNext, dDrop, dBreak, dCont, dAnd, dOr, dNot, dAndV, dOrV, dNotV, dIfE, dTup, dLstF, dLst, dCons, dNil, dCB, dCall, dUn, dNegI,
  dI, dI0, dEq, dNe, dIs, dIsNot, dIn, dNotIn, dIx, isN_non, isN_bl, isN_int, isN_str, isN_tup, isN_lst, isN_rf, DL.rLen, rInt, rAbs, rMax2, rMin2, DL.rGcd, rTuple, rList, rIs, rIsT, ar0, ar1, ar2, ar3, ar4, ar5, ar6, ar7, ar8, dEnds, dMt, dMt0, mAppend, mPop, mReverse, dSetL, dPut, dAsg, dgName, dgTup, dgCons, dgNil,
  dFor, diSeq, diRng1, diRng2, dLcF, dLc, dwipe, dFz,
  dstart, List.map_cons, List.map_nil, List.length_cons, List.length_nil, List.cons_append, List.nil_append, List.append_nil, List.replicate, Nat.reduceAdd, Nat.reduceSub, Nat.reduceLeDiff, Int.reduceNeg, List.set_cons_zero, List.set_cons_succ,
  List.getElem?_cons_zero, List.getElem?_cons_succ, Option.some.injEq, exists_eq_left', exists_eq_left, exists_eq_right, exists_eq, exists_and_left, exists_and_right, D.int.injEq, D.bl.injEq, D.str.injEq, D.tup.injEq, D.lst.injEq, D.ref.injEq, D.ty.injEq, D.dct.injEq,
  List.cons.injEq, and_assoc, and_true, true_and, and_self, reduceCtorEq, false_and, and_false, if_true, if_false, if_pos, ite_true, ite_false, Bool.false_eq_true, decide_eq_true_eq, Bool.not_eq_true', decide_eq_false_iff_not, Bool.not_true, Bool.not_false, decide_true, decide_false,
  eqv_int, eqv_str, eqv_bl, dOk_int, dOk_bl, dOk_non, dOk_tup, dOk_lst, dOk_str, List.all_cons, List.all_nil, Bool.and_true, Bool.true_and, Bool.and_self, dItems_tup, dItems_lst, dItems_rf, CMulA, CDivA, CPowA, Int.reduceLT, Int.reduceLE, Int.reducePow, Int.reduceToNat, Int.reduceMul, Int.reduceAdd, Int.reduceSub, Nat.reducePow, true_or, or_true, ne_eq, not_false_eq_true, not_true_eq_false, dAt_tup, dAt_lst, dAt_rf, dLenOf_tup, dLenOf_lst, dLenOf_rf, dLenOf_str, dTyN_non, dTyN_bl, dTyN_int, dTyN_str, dTyN_tup, dTyN_lst, dTyN_dct, dTyN_rf, dIntOf_int, dIntOf_bl, knownT, subT, atI_0, atI_1, atI_2, atI_3, atI_4, atI_5, atI_neg1, mput_same, mput_mput, eqv_non, tyNames, Option.map_some, String.reduceBEq, Bool.or_true, Bool.true_or, Bool.or_false, Bool.false_or, Bool.false_and, Bool.and_false, beq_self_eq_true, BEq.rfl, List.any_cons, List.any_nil, sizeLine_eq, rLenB, Bool.true_eq_false, implies_true, Nat.zero_le, Bool.or_self, String.reduceEq, dAdd_ii, dAdd_ss, dAdd_tt, dMulA_ii, dMulA_si, dIxS_str, dIxS_tup, dIxS_lst, dIxS_ref, dCat, dCatF, dRep, dSl, dNoP, dPart, dJoin, mExtend, mIndex, rAnyL, rAllL, rSumL, rMaxL, rMinL, dLRg, diEnum, rSortD, dLc2F, dLc2, dYes, diEnumT, dSlS, rSortK, dFzS, dTupRev, diRev, diZip, dMulT, zipD, dDc, dDGet1, dLtD, dGtD, rListK, dUpper, diStr, dInS, dSortL, dSortSet, dSortSetT, dLenSetT, dStar, rIntS, rStrI, dKIx, dKIn, dKNotIn, rLenK, dKNew, dFzK, dFzD, dKPut, diKeys, diVals, diItems, mInsert, mPopAt, dKGet1, dKGet2, dKc, dDict_dct, dDict_put, isKb_int, isKb_str, true_implies, false_implies, dDIx, dDIn, dDNotIn, dSetD, dDNew, dSortLen, sortLenB, rSortO, items_opD, items_dbD, dbD, opD, items_mkD, items_fdD])
local macro_rules | `(tactic| walk_at "st") => `(tactic| (refine seq_i ?_; simp only [dSet, dIf, dTst, dOp, dVar, dC, dRet, dRetN, dNext, dDrop, dBreak, dCont, dAnd, dOr, dNot, dAndV, dOrV, dNotV, dIfE, dTup, dLstF, dLst, dCons, dNil, dCB, dCall, dUn, dNegI,
  dI, dI0, dEq, dNe, dIs, dIsNot, dIn, dNotIn, dIx, isN_non, isN_bl, isN_int, isN_str, isN_tup, isN_lst, isN_rf, DL.rLen, rInt, rAbs, rMax2, rMin2, DL.rGcd, rTuple, rList, rIs, rIsT, ar0, ar1, ar2, ar3, ar4, ar5, ar6, ar7, ar8, dEnds, dMt, dMt0, mAppend, mPop, mReverse, dSetL, dPut, dAsg, dgName, dgTup, dgCons, dgNil,
  dFor, diSeq, diRng1, diRng2, dLcF, dLc, dwipe, dFz,
  dstart, List.map_cons, List.map_nil, List.length_cons, List.length_nil, List.cons_append, List.nil_append, List.append_nil, List.replicate, Nat.reduceAdd, Nat.reduceSub, Nat.reduceLeDiff, Int.reduceNeg, List.set_cons_zero, List.set_cons_succ,
  List.getElem?_cons_zero, List.getElem?_cons_succ, Option.some.injEq, exists_eq_left', exists_eq_left, exists_eq_right, exists_eq, exists_and_left, exists_and_right, D.int.injEq, D.bl.injEq, D.str.injEq, D.tup.injEq, D.lst.injEq, D.ref.injEq, D.ty.injEq, D.dct.injEq,
  List.cons.injEq, and_assoc, and_true, true_and, and_self, reduceCtorEq, false_and, and_false, if_true, if_false, if_pos, ite_true, ite_false, Bool.false_eq_true, decide_eq_true_eq, Bool.not_eq_true', decide_eq_false_iff_not, Bool.not_true, Bool.not_false, decide_true, decide_false,
  eqv_int, eqv_str, eqv_bl, dOk_int, dOk_bl, dOk_non, dOk_tup, dOk_lst, dOk_str, List.all_cons, List.all_nil, Bool.and_true, Bool.true_and, Bool.and_self, dItems_tup, dItems_lst, dItems_rf, CMulA, CDivA, CPowA, Int.reduceLT, Int.reduceLE, Int.reducePow, Int.reduceToNat, Int.reduceMul, Int.reduceAdd, Int.reduceSub, Nat.reducePow, true_or, or_true, ne_eq, not_false_eq_true, not_true_eq_false, dAt_tup, dAt_lst, dAt_rf, dLenOf_tup, dLenOf_lst, dLenOf_rf, dLenOf_str, dTyN_non, dTyN_bl, dTyN_int, dTyN_str, dTyN_tup, dTyN_lst, dTyN_dct, dTyN_rf, dIntOf_int, dIntOf_bl, knownT, subT, atI_0, atI_1, atI_2, atI_3, atI_4, atI_5, atI_neg1, mput_same, mput_mput, eqv_non, tyNames, Option.map_some, String.reduceBEq, Bool.or_true, Bool.true_or, Bool.or_false, Bool.false_or, Bool.false_and, Bool.and_false, beq_self_eq_true, BEq.rfl, List.any_cons, List.any_nil, sizeLine_eq, rLenB, Bool.true_eq_false, implies_true, Nat.zero_le, Bool.or_self, String.reduceEq, dAdd_ii, dAdd_ss, dAdd_tt, dMulA_ii, dMulA_si, dIxS_str, dIxS_tup, dIxS_lst, dIxS_ref, dCat, dCatF, dRep, dSl, dNoP, dPart, dJoin, mExtend, mIndex, rAnyL, rAllL, rSumL, rMaxL, rMinL, dLRg, diEnum, rSortD, dLc2F, dLc2, dYes, diEnumT, dSlS, rSortK, dFzS, dTupRev, diRev, diZip, dMulT, zipD, dDc, dDGet1, dLtD, dGtD, rListK, dUpper, diStr, dInS, dSortL, dSortSet, dSortSetT, dLenSetT, dStar, rIntS, rStrI, dKIx, dKIn, dKNotIn, rLenK, dKNew, dFzK, dFzD, dKPut, diKeys, diVals, diItems, mInsert, mPopAt, dKGet1, dKGet2, dKc, dDict_dct, dDict_put, isKb_int, isKb_str, true_implies, false_implies, dDIx, dDIn, dDNotIn, dSetD, dDNew, dSortLen, sortLenB, rSortO, items_opD, items_dbD, dbD, opD, items_mkD, items_fdD]))
local macro_rules | `(tactic| walk_at "p") => `(tactic| simp only [dRet, dOp, dVar, dCall, dCB, dCons, dNil, ar0, ar1, ar2, ar3, ar4, ar5, DL.rLen, dIx, dEnds, dstart, List.map_cons, List.map_nil, List.length_cons, List.length_nil, List.cons_append, List.nil_append, List.replicate, Nat.reduceAdd, Nat.reduceSub, Nat.reduceLeDiff, List.getElem?_cons_zero, List.getElem?_cons_succ, Option.some.injEq, exists_eq_left', exists_eq_left, exists_and_left, exists_and_right, List.cons.injEq, and_assoc, and_true, true_and, D.ref.injEq, D.int.injEq])
local macro_rules | `(tactic| walk_at "s1") => `(tactic| simp only [dSet, dIf, dTst, dOp, dVar, dC, dRet, dRetN, dNext, dDrop, dBreak, dCont, dAnd, dOr, dNot, dAndV, dOrV, dNotV, dIfE, dTup, dLstF, dLst, dCons, dNil, dCB, dCall, dUn, dNegI,
  dI, dI0, dEq, dNe, dIs, dIsNot, dIn, dNotIn, dIx, isN_non, isN_bl, isN_int, isN_str, isN_tup, isN_lst, isN_rf, DL.rLen, rInt, rAbs, rMax2, rMin2, DL.rGcd, rTuple, rList, rIs, rIsT, ar0, ar1, ar2, ar3, ar4, ar5, ar6, ar7, ar8, dEnds, dMt, dMt0, mAppend, mPop, mReverse, dSetL, dPut, dAsg, dgName, dgTup, dgCons, dgNil,
  dFor, diSeq, diRng1, diRng2, dLcF, dLc, dwipe, dFz,
  dstart, List.map_cons, List.map_nil, List.length_cons, List.length_nil, List.cons_append, List.nil_append, List.append_nil, List.replicate, Nat.reduceAdd, Nat.reduceSub, Nat.reduceLeDiff, Int.reduceNeg, List.set_cons_zero, List.set_cons_succ,
  List.getElem?_cons_zero, List.getElem?_cons_succ, Option.some.injEq, exists_eq_left', exists_eq_left, exists_eq_right, exists_eq, exists_and_left, exists_and_right, D.int.injEq, D.bl.injEq, D.str.injEq, D.tup.injEq, D.lst.injEq, D.ref.injEq, D.ty.injEq, D.dct.injEq,
  List.cons.injEq, and_assoc, and_true, true_and, and_self, reduceCtorEq, false_and, and_false, if_true, if_false, if_pos, ite_true, ite_false, Bool.false_eq_true, decide_eq_true_eq, Bool.not_eq_true', decide_eq_false_iff_not, Bool.not_true, Bool.not_false, decide_true, decide_false,
  eqv_int, eqv_str, eqv_bl, dOk_int, dOk_bl, dOk_non, dOk_tup, dOk_lst, dOk_str, List.all_cons, List.all_nil, Bool.and_true, Bool.true_and, Bool.and_self, dItems_tup, dItems_lst, dItems_rf, CMulA, CDivA, CPowA, Int.reduceLT, Int.reduceLE, Int.reducePow, Int.reduceToNat, Int.reduceMul, Int.reduceAdd, Int.reduceSub, Nat.reducePow, true_or, or_true, ne_eq, not_false_eq_true, not_true_eq_false, dAt_tup, dAt_lst, dAt_rf, dLenOf_tup, dLenOf_lst, dLenOf_rf, dLenOf_str, dTyN_non, dTyN_bl, dTyN_int, dTyN_str, dTyN_tup, dTyN_lst, dTyN_dct, dTyN_rf, dIntOf_int, dIntOf_bl, knownT, subT, atI_0, atI_1, atI_2, atI_3, atI_4, atI_5, atI_neg1, mput_same, mput_mput, eqv_non, tyNames, Option.map_some, String.reduceBEq, Bool.or_true, Bool.true_or, Bool.or_false, Bool.false_or, Bool.false_and, Bool.and_false, beq_self_eq_true, BEq.rfl, List.any_cons, List.any_nil, sizeLine_eq, rLenB, Bool.true_eq_false, implies_true, Nat.zero_le, Bool.or_self, String.reduceEq, dAdd_ii, dAdd_ss, dAdd_tt, dMulA_ii, dMulA_si, dIxS_str, dIxS_tup, dIxS_lst, dIxS_ref, dCat, dCatF, dRep, dSl, dNoP, dPart, dJoin, mExtend, mIndex, rAnyL, rAllL, rSumL, rMaxL, rMinL, dLRg, diEnum, rSortD, dLc2F, dLc2, dYes, diEnumT, dSlS, rSortK, dFzS, dTupRev, diRev, diZip, dMulT, zipD, dDc, dDGet1, dLtD, dGtD, rListK, dUpper, diStr, dInS, dSortL, dSortSet, dSortSetT, dLenSetT, dStar, rIntS, rStrI, dKIx, dKIn, dKNotIn, rLenK, dKNew, dFzK, dFzD, dKPut, diKeys, diVals, diItems, mInsert, mPopAt, dKGet1, dKGet2, dKc, dDict_dct, dDict_put, isKb_int, isKb_str, true_implies, false_implies, dDIx, dDIn, dDNotIn, dSetD, dDNew, dSortLen, sortLenB, rSortO, items_opD, items_dbD, dbD, opD, items_mkD, items_fdD])
def kpB (n : Str) (k : List D) (f : Fd) : Bool := D.eqv (.tup [.str f.1.1, .tup f.1.2.1]) (.tup [.str n, .tup k])
theorem kpB_self {n : Str} {k : List D} (h : ∀ v ∈ k, isV v) (t : Int) (os : List Opt) : kpB n k ((n, k, t), os) = true :=
  (eqv_pl _ _ (by simp [pln, plns, row_pl h]) (by simp [pln, plns, row_pl h])).mpr rfl
def fmOk (f : D) : Prop := ∃ (n : Str) (a b : Nat), f = .tup [.str n, .int a, .int b] ∧ PyData.strOk n = true ∧ a ≤ 5 ∧ 1 ≤ b ∧ b ≤ 3
/-- what is known of a mark that stands: its turn -/
def turnOk (fs : List Fd) (near : Bool) (low great : Int) (f : Fd) : Prop := ∃ c r : Int, f.1.2.2 = (4 * c + r) * great ∧ 0 ≤ r ∧ r < 3 ∧ (near = true → c < ((fs.filter (kpB f.1.1 f.1.2.1)).length : Nat)) ∧ (near = false → low < c)
theorem turn_new {fs : List Fd} {near : Bool} {low great t r : Int} {n : Str} {k : List D} (hg : 0 < great) (hr0 : 0 ≤ r) (hr1 : r < 3) (hk : ∀ v ∈ k, isV v) (hn : near = true → t = ((fs.filter (kpB n k)).length : Nat)) (hf : near = false → t = low) (ho : ∀ f ∈ fs, turnOk fs near low great f) (os : List Opt) :
    (n, k, (4 * t + r) * great) ∉ fs.map (·.1) ∧ ∀ f ∈ fs ++ [((n, k, (4 * t + r) * great), os)], turnOk (fs ++ [((n, k, (4 * t + r) * great), os)]) near (low - 1) great f := by
  refine ⟨fun hm => ?_, fun f hf2 => ?_⟩
  · obtain ⟨f, hf2, e⟩ := List.mem_map.mp hm
    obtain ⟨c, r2, e2, h0, h1, h2, h3⟩ := ho f hf2
    rw [e] at e2
    have e3 : 4 * t + r = 4 * c + r2 := Int.eq_of_mul_eq_mul_right (by omega) e2
    have ec : c = t := by omega
    cases near with
    | true =>
      have := h2 rfl
      have e4 := hn rfl
      rw [e] at this
      simp only at this
      omega
    | false =>
      have := h3 rfl
      have := hf rfl
      omega
  · rcases List.mem_append.mp hf2 with hf2 | hf2
    · obtain ⟨c, r2, e2, h0, h1, h2, h3⟩ := ho f hf2
      refine ⟨c, r2, e2, h0, h1, fun e => ?_, fun e => ?_⟩
      · have := h2 e
        rw [List.filter_append, List.length_append]
        omega
      · have := h3 e
        omega
    · rw [List.mem_singleton.mp hf2]
      refine ⟨t, r, rfl, hr0, hr1, fun e => ?_, fun e => ?_⟩
      · have := hn e
        rw [List.filter_append, List.length_append]
        have : ([((n, k, (4 * t + r) * great), os)].filter (kpB n k)).length = 1 := by rw [List.filter_cons, kpB_self hk]; rfl
        simp only at this ⊢
        omega
      · have := hf e
        omega
abbrev sp_l_drawn_doubts : DSp := ar4 fun a b c d M Q => ∃ (p : Addr) (ws : List Str) (n m : Nat), a = .ref p ∧ b = .lst (ws.map D.str) ∧ c = .int (n : Nat) ∧ d = .int (m : Nat) ∧ n ≤ 20 ∧ 2 ≤ m ∧ m ≤ 6 ∧ 6 ≤ ws.length ∧ ws.Nodup ∧ (∀ x ∈ ws, PyData.strOk x = true) ∧ Dr M p ∧
  ∀ (o : DO) (ds : List Dbt), DrO o → ds.length = n → (∀ d ∈ ds, dbW d ∧ d.2.length ≤ m) → (ds.map (·.1)).Nodup → ds.Pairwise (fun a b => dlt (mKey a.1) (mKey b.1) = true) → Q (.tup (ds.map dbD)) (mput M p o)
theorem ok_l_drawn_doubts (F : Def K mg "_law_drawn_doubts" s_l_drawn_doubts ["draws", "words", "many", "most"]) (B : Bi K mg) (I : Im mg) (c_l_take : Cal P w K mg base 1 "_law_take" ["draws", "many"] sp_l_take) (c_l_pick : Cal P w K mg base 2 "_law_pick" ["draws", "row"] sp_l_pick) (c_l_pool_of : Cal P w K mg base 3 "_law_pool_of" ["draws", "words"] sp_l_pool_of) (c_l_drawn_options : Cal P w K mg base 6 "_law_drawn_options" ["draws", "key", "others", "pool", "many"] sp_l_drawn_options) (c_l_doubt_key : Cal P w K mg base 4 "_law_doubt_key" ["doubt"] sp_l_doubt_key) : Cal P w K mg base 9 "_law_drawn_doubts" ["draws", "words", "many", "most"] sp_l_drawn_doubts := by
  have sc := sc_l_drawn_doubts
  refine F.cal sc (fun ds M Q h => len4 h) (fun f cdv A outer s H E hr => (ds_cons (ds_set (i := 4) sc.nd rfl (Or.inr rfl) (d_call c_l_pool_of (hr.mono (by first | decide | omega)) rfl (da_cons (d_v 0) (da_cons (d_v 1) da_nil))))
    (ds_cons (ds_set (i := 5) sc.nd rfl (Or.inl rfl) (d_cmp (o_eq (hu_eq hr)) (d_call c_l_take (hr.mono (by first | decide | omega)) rfl (da_cons (d_v 0) (da_cons d_int da_nil))) d_int (nomark _)))
    (ds_cons (ds_set (i := 6) sc.nd rfl (Or.inl rfl) d_int)
    (ds_cons (ds_if (dt_cmp (o_eq (hu_eq hr)) (d_call c_l_take (hr.mono (by first | decide | omega)) rfl (da_cons (d_v 0) (da_cons d_int da_nil))) d_int (nomark _))
    (ds_one (ds_set (i := 6) sc.nd rfl (Or.inl rfl) (d_call c_l_pick (hr.mono (by first | decide | omega)) rfl (da_cons (d_v 0) (da_cons (d_lstF (da_cons d_int (da_cons d_int (da_cons (d_op o_pow d_int d_int) da_nil)))) da_nil)))))
    ds_nil)
    (ds_cons (ds_set (i := 7) sc.nd rfl (Or.inl rfl) (d_lst da_nil))
    (ds_cons (ds_for PassesOwn.never rfl (di_range1 rfl B.b_range (da_cons d_int da_nil)) (dg_name (i := 8) sc.nd rfl (Or.inl rfl))
    (ds_one (ds_expr (d_mt PySem.F.slot_list_append PySem.F.type_list_append m_append (d_v 7) (da_cons (d_tup (da_cons (d_ix x_ix (d_v 1) (d_op o_add d_int (d_v 8)) (fun _ _ => rfl)) (da_cons (d_ix x_ix (d_lstF (da_cons d_int (da_cons d_int (da_cons d_int (da_cons d_int (da_cons d_int (da_cons d_int da_nil))))))) (d_call c_l_take (hr.mono (by first | decide | omega)) rfl (da_cons (d_v 0) (da_cons d_int da_nil))) (fun _ _ => rfl)) (da_cons (d_ix x_ix (d_lstF (da_cons d_int (da_cons d_int (da_cons d_int (da_cons d_int (da_cons d_int da_nil)))))) (d_call c_l_take (hr.mono (by first | decide | omega)) rfl (da_cons (d_v 0) (da_cons d_int da_nil))) (fun _ _ => rfl)) da_nil)))) da_nil)))))
    (ds_cons (ds_fz 7 (ds_set (i := 9) sc.nd rfl (Or.inl rfl) (d_lst da_nil)))
    (ds_cons (ds_for PassesOwn.never rfl (di_range1 rfl B.b_range (da_cons (d_v 2) da_nil)) (dg_name (i := 10) sc.nd rfl (Or.inl rfl))
    (ds_cons (ds_set (i := 11) sc.nd rfl (Or.inr rfl) (d_call c_l_pick (hr.mono (by first | decide | omega)) rfl (da_cons (d_v 0) (da_cons (d_v 7) da_nil))))
    (ds_cons (ds_set (i := 12) sc.nd rfl (Or.inr rfl) (d_ct c_tuple rfl B.b_tuple boot_tuple (da_cons (d_lcF rfl sc.nd (own := [("k", 8)]) (di_range1 rfl B.b_range (da_cons (d_ix x_ix (d_v 11) d_int (fun _ _ => rfl)) da_nil)) (blkOk_by (N := N_l_drawn_doubts) (sc := defScope s_l_drawn_doubts) (by decide +kernel)) (by decide) (fun _ _ _ _ _ => (dg_name (i := 8) sc.nd rfl (Or.inl rfl))) (fun _ _ _ _ _ => dts_nil) (fun _ _ _ _ _ => (d_ix x_ix (d_v 4) (d_call c_l_take (hr.mono (by first | decide | omega)) rfl (da_cons (d_v 0) (da_cons d_int da_nil))) (fun _ _ => rfl)))) da_nil)))
    (ds_cons (ds_set (i := 13) sc.nd rfl (Or.inl rfl) (d_op o_sub (d_op o_sub (d_v 2) d_int) (d_v 10)))
    (ds_cons (ds_if (dt_val (d_v 5))
    (ds_one (ds_set (i := 13) sc.nd rfl (Or.inl rfl) (d_cb c_len rfl B.b_len boot_len (da_cons (d_lcF rfl sc.nd (own := [("doubt", 15)]) (di_seq (d_v 9)) (blkOk_by (N := N_l_drawn_doubts) (sc := defScope s_l_drawn_doubts) (by decide +kernel)) (by decide) (fun _ _ _ _ _ => (dg_name (i := 15) sc.nd rfl (Or.inl rfl))) (fun _ _ _ _ _ => (dts_one (dt_cmp (o_eq (hu_eq hr)) (d_sl (d_ix x_ix (d_v 15) d_int (fun _ _ => rfl)) dp_none (dp_some d_int)) (d_tup (da_cons (d_ix x_ix (d_v 11) d_int (fun _ _ => rfl)) (da_cons (d_v 12) da_nil))) (nomark _)))) (fun _ _ _ _ _ => (d_v 15))) da_nil))))
    ds_nil)
    (ds_cons (ds_set (i := 14) sc.nd rfl (Or.inl rfl) (d_tup (da_cons (d_ix x_ix (d_v 11) d_int (fun _ _ => rfl)) (da_cons (d_v 12) (da_cons (d_op o_mul (d_op o_add (d_op o_mul d_int (d_v 13)) (d_call c_l_take (hr.mono (by first | decide | omega)) rfl (da_cons (d_v 0) (da_cons d_int da_nil)))) (d_v 6)) da_nil)))))
    (ds_one (ds_expr (d_mt PySem.F.slot_list_append PySem.F.type_list_append m_append (d_v 9) (da_cons (d_tup (da_cons (d_v 14) (da_cons (d_call c_l_drawn_options (hr.mono (by first | decide | omega)) rfl (da_cons (d_v 0) (da_cons (d_v 12) (da_cons (d_ix x_ix (d_v 11) d_int (fun _ _ => rfl)) (da_cons (d_v 4) (da_cons (d_v 3) da_nil)))))) da_nil))) da_nil))))))))))
    (ds_one (ds_ret (d_ct c_tuple rfl B.b_tuple boot_tuple (da_cons (d_fz (d_sortK c_l_doubt_key (hr.mono (by first | decide | omega)).in1.in1 rfl rfl B.b_sorted (da_cons (d_v 9) da_nil))) da_nil))))))))))))) (fun ds M Q h => ?_)
  obtain ⟨a, b, c, d, rfl, p, ws, n, m, rfl, rfl, rfl, rfl, hn20, hm2, hm6, hwl, hwn, hwo, hd, h⟩ := h
  walk_at "st"
  refine ⟨ws, rfl, hd, by omega, hwn, hwo, fun o1 pl ho1 hpl hpn hpv => ?_⟩
  walk_at "st"
  refine ⟨dr_put ho1, fun o2 r2 ho2 r20 r21 => ?_⟩
  obtain ⟨nr, hnr⟩ : ∃ nr : Bool, nr = decide (r2 = 1) := ⟨_, rfl⟩
  rw [← hnr]
  obtain ⟨wV, hwV⟩ : ∃ z, z = D.lst (ws.map D.str) := ⟨_, rfl⟩
  obtain ⟨plV, hplV⟩ : ∃ z, z = D.lst pl := ⟨_, rfl⟩
  rw [← hwV, ← hplV]
  walk_at "st"
  refine seq_cut (fun m1 M1 => ∃ (o : DO) (g : Int), DrO o ∧ 0 < g ∧ M1 = mput M p o ∧ m1 = [some (.ref p), some wV, some (.int (n : Nat)), some (.int (m : Nat)), some plV, some (.bl nr), some (.int g), none, none, none, none, none, none, none, none, none]) (fun Cn hC => ?_) ?_
  · walk_at "s1"
    refine ⟨dr_put ho2, fun o3 r3 ho3 r30 r31 => ?_⟩
    split
    · refine ⟨dr_put ho3, fun o4 x ho4 hx => ?_⟩
      obtain ⟨i, rfl, hi0⟩ : ∃ i : Int, x = .int i ∧ 0 < i := by
        simp only [List.mem_cons, List.not_mem_nil, or_false] at hx
        rcases hx with rfl | rfl | rfl <;> exact ⟨_, rfl, by decide⟩
      exact hC _ _ ⟨o4, i, ho4, hi0, rfl, rfl⟩
    · exact hC _ _ ⟨o3, 1, ho3, by omega, rfl, rfl⟩
  rintro _ _ ⟨o3, g, ho3, hg, rfl, rfl⟩
  walk_at "st"
  intro q hq
  have hpq : p ≠ q := ne_of_fresh mput_same hq
  have hqM : M q = none := by rw [mput_ne hpq.symm] at hq; exact hq
  walk_at "st"
  intro _
  refine for_ind (fun items m1 M1 => ∃ (o : DO) (j : Nat) (fm : List D) (x8 : Option D), items = rangeD (j : Int) (3 - j) ∧ j ≤ 3 ∧ DrO o ∧ fm.length = j ∧ (∀ f ∈ fm, fmOk f) ∧ M1 = mput (mput M p o) q (.lst fm) ∧ m1 = [some (.ref p), some wV, some (.int (n : Nat)), some (.int (m : Nat)), some plV, some (.bl nr), some (.int g), some (.ref q), x8, none, none, none, none, none, none, none]) ?_ ?_ _ _ _ ⟨o3, 0, [], _, rfl, by omega, ho3, rfl, by simp, rfl, rfl⟩
  · rintro m1 M1 ⟨o, j, fm, x8, hi, hj, ho, hfl, hfm, rfl, rfl⟩
    refine ⟨srcV_none, ?_⟩
    have hj3 : j = 3 := by
      rcases Nat.lt_or_ge j 3 with c | c
      · rw [show 3 - j = (3 - (j + 1)) + 1 by omega, rangeD_cons] at hi
        cases hi
      · omega
    have hfl2 : fm.length = 3 := by omega
    walk_at "st"
    refine ⟨_, _, rfl, mput_same, ?_⟩
    rw [mdel_mput (mput_fresh hpq hqM)]
    walk_at "s1"
    intro u hu
    have hpu : p ≠ u := ne_of_fresh mput_same hu
    have huM : M u = none := by rw [mput_ne hpu.symm] at hu; exact hu
    walk_at "st"
    refine ⟨by omega, by omega, fun _ => ?_⟩
    rw [Int.toNat_natCast]
    refine for_ind (fun items m1 M1 => ∃ (o : DO) (j : Nat) (fs : List Fd) (x8 x10 x11 x12 x13 x14 : Option D), items = rangeD (j : Int) (n - j) ∧ j ≤ n ∧ DrO o ∧ fs.length = j ∧ (∀ f ∈ fs, mkOk f.1 ∧ dbW (fd2 f) ∧ f.2.length ≤ m) ∧ (∀ f ∈ fs, turnOk fs nr ((n : Int) - 1 - j) g f) ∧ (fs.map (·.1)).Nodup ∧ M1 = mput (mput M p o) u (.lst (fs.map fdD)) ∧
      m1 = [some (.ref p), some wV, some (.int (n : Nat)), some (.int (m : Nat)), some plV, some (.bl nr), some (.int g), some (.lst fm), x8, some (.ref u), x10, x11, x12, x13, x14, none]) ?_ ?_ _ _ _ ⟨o, 0, [], _, _, _, _, _, _, rfl, by omega, ho, rfl, by simp, by simp, by simp, rfl, rfl⟩
    · rintro m1 M1 ⟨o5, j2, fs, x8, x10, x11, x12, x13, x14, hi5, hj5, ho5, hfl, hfs, hft, hfn, rfl, rfl⟩
      refine ⟨srcV_none, ?_⟩
      have hjn : j2 = n := by
        rcases Nat.lt_or_ge j2 n with c | c
        · rw [show n - j2 = (n - (j2 + 1)) + 1 by omega, rangeD_cons] at hi5
          cases hi5
        · omega
      walk_at "rd"
      have efs : fs.map fdD = (fs.map fd2).map dbD := by rw [List.map_map]; rfl
      obtain ⟨k1, k2, k3⟩ := dbs_sortK (ds := fs.map fd2) fun d hd => by
        obtain ⟨f, hf, rfl⟩ := List.mem_map.mp hd
        exact ⟨f.1, rfl, (hfs f hf).1⟩
      rw [← efs] at k1 k2 k3
      refine ⟨dKey, fun x hx Q' hq' => ?_, k3, k1, .inl k2, fun p1 hp1 => ?_⟩
      · obtain ⟨f, hf, rfl⟩ := List.mem_map.mp hx
        exact ⟨f.1, ⟨_, rfl⟩, (hfs f hf).1, hq'⟩
      obtain ⟨us, hus, hperm⟩ := perm_map fdD (xs := fs) (List.mergeSort_perm (fs.map fdD) (PySem.W.dataLe false fun x => D.py (dKey x)))
      refine ⟨_, rfl, ?_⟩
      rw [mdel_mput hp1, hus]
      refine ret_le (MLe.put (.refl _) (mput_fresh hpu huM)) ?_
      have eus : us.map fdD = (us.map fd2).map dbD := by rw [List.map_map]; rfl
      rw [eus]
      have emk : (us.map fd2).map (·.1) = (us.map (·.1)).map mkD := by rw [List.map_map, List.map_map]; rfl
      have hnd9 : (us.map (·.1)).Nodup := (hperm.map _).nodup_iff.mpr hfn
      have hsp := sort_pair (fun x => dKey x) (fs.map fdD)
      rw [hus] at hsp
      have hord : (us.map fd2).Pairwise (fun a b => dlt (mKey a.1) (mKey b.1) = true) := by
        rw [List.pairwise_map] at hsp ⊢
        have hn9 : us.Pairwise (fun a b => a.1 ≠ b.1) := List.pairwise_map.mp hnd9
        refine (hsp.and hn9).imp_of_mem fun {a b} ha hb ⟨h1, h2⟩ => ?_
        have ma : isMk (mkD a.1) := ⟨_, rfl, (hfs a (hperm.mem_iff.mp ha)).1⟩
        have mb : isMk (mkD b.1) := ⟨_, rfl, (hfs b (hperm.mem_iff.mp hb)).1⟩
        cases e9 : dlt (mKey (mkD a.1)) (mKey (mkD b.1)) with
        | true => exact e9
        | false => exact absurd (mkD_inj (mKey_tri ma mb e9 h1)) h2
      refine h o5 (us.map fd2) ho5 (by rw [List.length_map, hperm.length_eq]; omega) (fun d hd => ?_) ?_ hord
      · obtain ⟨f, hf, rfl⟩ := List.mem_map.mp hd
        exact (hfs f (hperm.mem_iff.mp hf)).2
      · rw [emk]
        exact List.pairwise_map.mpr (((hperm.map _).nodup_iff.mpr hfn).imp fun hne e => hne (mkD_inj e))
    · rintro z its m1 M1 Cn hC ⟨o5, j2, fs, x8, x10, x11, x12, x13, x14, hi5, hj5, ho5, hfl, hfs, hft, hfn, rfl, rfl⟩
      refine ⟨srcV_none, ?_⟩
      have hjn : j2 < n := by
        rcases Nat.lt_or_ge j2 n with c | c
        · exact c
        · rw [show n - j2 = 0 by omega] at hi5
          simp [rangeD] at hi5
      rw [show n - j2 = (n - (j2 + 1)) + 1 by omega, rangeD_cons] at hi5
      injection hi5 with h1 h2
      subst h1
      subst h2
      walk_at "st"
      refine ⟨dr_ne (dr_put ho5) hpu, (fun e => by rw [e] at hfl2; cases hfl2), fun o6 fx ho6 hfx => ?_⟩
      obtain ⟨fn, fa, fb, rfl, hfno, hfa, hfb1, hfb3⟩ := hfm fx hfx
      rw [mput_swap hpu]
      walk_at "st"
      refine ⟨by omega, by omega, fun _ => ?_⟩
      rw [Int.toNat_natCast]
      rw [mput_comm hpu]
      refine lc_draw (fun y => isV y) rfl ho6 (fun dd hdd r l o7 hpr hr ho7 C1 h1 => ?_) fun r o7 key hpr hr ho7 hkl hkv => ?_
      · subst hplV
        walk_at "rd"
        refine ⟨dr_ne (dr_put ho7) hpr, fun o8 r8 ho8 r80 r81 => ?_⟩
        obtain ⟨k8, rfl⟩ := Int.eq_ofNat_of_zero_le r80
        rw [mput_swap hpr]
        exact ⟨_, atI_getD (by omega), h1 o8 _ ho8 (hpv _ (getD_mem (by omega)))⟩
      rw [mdel_mput hr, ← mput_comm hpu]
      have hkl : key.length = fa := hkl.trans (by simp [rangeD])
      walk_at "st"
      refine seq_cut (fun m1 M1 => ∃ t : Int, (nr = true → t = ((fs.filter (kpB fn key)).length : Nat)) ∧ (nr = false → t = (n : Int) - 1 - j2) ∧ -1000 < t ∧ t < 1000 ∧ M1 = mput (mput M p o7) u (.lst (fs.map fdD)) ∧
        m1 = [some (.ref p), some wV, some (.int (n : Nat)), some (.int (m : Nat)), some plV, some (.bl nr), some (.int g), some (.lst fm), x8, some (.ref u), some (.int (j2 : Nat)), some (.tup [.str fn, .int (fa : Nat), .int (fb : Nat)]), some (.tup key), some (.int t), x14, none]) (fun Cn5 hC5 => ?_) ?_
      · cases nr with
        | false =>
          walk_at "s1"
          exact hC5 _ _ ⟨_, (fun e => by cases e), fun _ => rfl, by omega, by omega, rfl, rfl⟩
        | true =>
          walk_at "s1"
          intro _
          refine lc_pure fs fdD (kpB fn key) fdD rfl (srcV_it (a := .ref u) (by rw [dItems_rf, mput_same])) (fun f hf M5 l5 C1 C2 h1 h2 => ?_) fun p5 hp5 => ?_
          · have hmk := (hfs f hf).1
            walk_at "rd"
            have ec : DL.cutD [D.str f.1.1, D.tup f.1.2.1, D.int f.1.2.2] none (some 2) = [D.str f.1.1, D.tup f.1.2.1] := rfl
            have k1 : ([D.str f.1.1, D.tup f.1.2.1].all (dOk 63)) = true := by
              simp only [List.all_cons, List.all_nil, dOk_str, dOk_tup, hmk.1, row_ok hmk.2, Bool.and_self]
            have k2 : (PyData.strOk fn && key.all (dOk 62)) = true := by rw [hfno, row_ok hkv]; rfl
            rw [ec]
            refine ⟨fun _ => ⟨k1, k2, ?_⟩, fun z => absurd rfl z⟩
            split
            · next c => exact h1 c
            · next c => exact h2 (Bool.eq_false_iff.mpr c)
          rw [mdel_mput hp5]
          have hle : (fs.filter (kpB fn key)).length ≤ fs.length := List.length_filter_le _ _
          refine hC5 _ _ ⟨_, fun _ => rfl, (fun e => by cases e), by omega, by omega, rfl, by rw [List.length_map]⟩
      rintro m1 M1 ⟨t, ht1, ht2, ht3, ht4, rfl, rfl⟩
      subst hplV
      walk_at "rd"
      refine ⟨dr_ne (dr_put ho7) hpu, fun o8 r8 ho8 r80 r81 => ⟨.inl ⟨by omega, by omega⟩, ?_⟩⟩
      rw [mput_swap hpu]
      refine ⟨⟨_, by rw [mput_same]⟩, fb, rfl, m, rfl, hfb1, hfb3, hpl, hpn, hpv, by omega, hkv, hm2, hm6, dr_ne (dr_put ho8) hpu, fun o9 os ho9 hos0 hosm hosn hosr hosw => ?_⟩
      rw [mput_swap hpu]
      obtain ⟨hnew, hft2⟩ := turn_new (os := os) hg r80 r81 hkv ht1 ht2 hft
      refine ⟨_, mput_same, by rw [List.length_map]; omega, ?_⟩
      rw [mput_mput]
      have e : fs.map fdD ++ [D.tup [D.tup [D.str fn, D.tup key, D.int ((4 * t + r8) * g)], D.tup (os.map opD)]] = (fs ++ [((fn, key, (4 * t + r8) * g), os)]).map fdD := by rw [List.map_append]; rfl
      rw [e]
      have hmk : mkOk (fn, key, (4 * t + r8) * g) := ⟨hfno, hkv⟩
      refine fg_of (hC _ _ ⟨o9, j2 + 1, fs ++ [((fn, key, (4 * t + r8) * g), os)], _, _, _, _, _, _, rfl, by omega, ho9, by rw [List.length_append, List.length_singleton]; omega, fun f hf => ?_, by rw [show (n : Int) - 1 - ((j2 + 1 : Nat) : Int) = (n : Int) - 1 - j2 - 1 by omega]; exact hft2, ?_, rfl, rfl⟩)
      · rcases List.mem_append.mp hf with hf | hf
        · exact hfs f hf
        · rw [List.mem_singleton.mp hf]
          exact ⟨hmk, ⟨⟨_, rfl, hmk⟩, hos0, by show os.length ≤ 6; omega, hosn, hosr, hosw⟩, hosm⟩
      · rw [List.map_append, List.nodup_append]
        refine ⟨hfn, by simp, fun a ha b hb e => hnew ?_⟩
        have hb' : b = (fn, key, (4 * t + r8) * g) := by simpa using hb
        rw [← hb', ← e]
        exact ha
  · rintro z items m1 M1 Cn hC ⟨o, j, fm, x8, hi, hj, ho, hfl, hfm, rfl, rfl⟩
    refine ⟨srcV_none, ?_⟩
    have hj3 : j < 3 := by
      rcases Nat.lt_or_ge j 3 with c | c
      · exact c
      · rw [show 3 - j = 0 by omega] at hi
        simp [rangeD] at hi
    rw [show 3 - j = (3 - (j + 1)) + 1 by omega, rangeD_cons] at hi
    injection hi with h1 h2
    subst h1
    subst h2
    subst hwV
    walk_at "rd"
    refine ⟨⟨_, rfl⟩, _, by rw [show (3 : Int) + (j : Int) = ((3 + j : Nat) : Int) by omega]; exact atI_strs (by omega), dr_ne (dr_put ho) hpq, fun o4 r4 ho4 r40 r41 => ?_⟩
    obtain ⟨a1, ha1, hat1⟩ : ∃ a1 : Nat, a1 ≤ 5 ∧ atI [D.int 0, D.int 1, D.int 2, D.int 1, D.int 0, D.int 5] r4 = some (.int (a1 : Nat)) := by
      rcases (by omega : r4 = 0 ∨ r4 = 1 ∨ r4 = 2 ∨ r4 = 3 ∨ r4 = 4 ∨ r4 = 5) with rfl | rfl | rfl | rfl | rfl | rfl
      · exact ⟨0, by omega, rfl⟩
      · exact ⟨1, by omega, rfl⟩
      · exact ⟨2, by omega, rfl⟩
      · exact ⟨1, by omega, rfl⟩
      · exact ⟨0, by omega, rfl⟩
      · exact ⟨5, by omega, rfl⟩
    rw [mput_swap hpq]
    refine ⟨_, hat1, dr_ne (dr_put ho4) hpq, fun o5 r5 ho5 r50 r51 => ?_⟩
    obtain ⟨a2, ha2, ha3, hat2⟩ : ∃ a2 : Nat, 1 ≤ a2 ∧ a2 ≤ 3 ∧ atI [D.int 1, D.int 2, D.int 1, D.int 2, D.int 3] r5 = some (.int (a2 : Nat)) := by
      rcases (by omega : r5 = 0 ∨ r5 = 1 ∨ r5 = 2 ∨ r5 = 3 ∨ r5 = 4) with rfl | rfl | rfl | rfl | rfl
      · exact ⟨1, by omega, by omega, rfl⟩
      · exact ⟨2, by omega, by omega, rfl⟩
      · exact ⟨1, by omega, by omega, rfl⟩
      · exact ⟨2, by omega, by omega, rfl⟩
      · exact ⟨3, by omega, by omega, rfl⟩
    rw [mput_swap hpq]
    refine ⟨_, hat2, _, mput_same, by omega, ?_⟩
    rw [mput_mput]
    refine fg_of (hC _ _ ⟨o5, j + 1, fm ++ [.tup [.str (ws.getD (3 + j) ⟨#[]⟩), .int (a1 : Nat), .int (a2 : Nat)]], _, rfl, by omega, ho5, by rw [List.length_append, List.length_singleton]; omega, fun f hf => ?_, rfl, rfl⟩)
    rcases List.mem_append.mp hf with hf | hf
    · exact hfm f hf
    · rw [List.mem_singleton.mp hf]
      refine ⟨_, a1, a2, rfl, hwo _ ?_, ha1, ha2, ha3⟩
      rw [List.getD_eq_getElem?_getD, List.getElem?_eq_getElem (by omega)]
      exact List.getElem_mem _
/-! ### settlings as readings of marks -/
abbrev Sg := D → List D
open Classical in
noncomputable def upd' (σ : Sg) (m : D) (r : List D) : Sg := fun x => if x = m then r else σ x
theorem upd_eq (σ : Sg) (m : D) (r : List D) : upd' σ m r m = r := if_pos rfl
theorem upd_off {σ : Sg} {m x : D} {r : List D} (h : x ≠ m) : upd' σ m r x = σ x := if_neg h
theorem upd_comm (σ : Sg) {m n : D} (r s : List D) (h : m ≠ n) : upd' (upd' σ m r) n s = upd' (upd' σ n s) m r := by
  funext x
  by_cases h1 : x = m
  · subst h1
    rw [upd_off h, upd_eq, upd_eq]
  · by_cases h2 : x = n
    · subst h2
      rw [upd_eq, upd_off h1, upd_eq]
    · rw [upd_off h2, upd_off h1, upd_off h1, upd_off h2]
/-- what a reading hangs on -/
def Dep {α : Type} (F : Sg → α) (S : List D) : Prop := ∀ σ τ : Sg, (∀ m ∈ S, σ m = τ m) → F σ = F τ
theorem Dep.mono {α : Type} {F : Sg → α} {S T : List D} (h : Dep F S) (i : ∀ m ∈ S, m ∈ T) : Dep F T := fun σ τ e => h σ τ fun m hm => e m (i m hm)
noncomputable def isR (a b : List D) : Bool := @decide (a = b) (Classical.propDecidable _)
theorem isR_iff {a b : List D} : isR a b = true ↔ a = b := @decide_eq_true_iff _ (Classical.propDecidable _)
theorem isR_ne {a b : List D} (h : a ≠ b) : isR a b = false := Bool.eq_false_iff.mpr fun z => h (isR_iff.mp z)
def sg0 : Sg := fun _ => []
theorem all_congr' {α : Type} {p q : α → Bool} : ∀ {l : List α}, (∀ x ∈ l, p x = q x) → l.all p = l.all q
  | [], _ => rfl
  | x :: l, h => by rw [List.all_cons, List.all_cons, h x (by simp), all_congr' fun y hy => h y (by simp [hy])]
theorem any_congr' {α : Type} {p q : α → Bool} : ∀ {l : List α}, (∀ x ∈ l, p x = q x) → l.any p = l.any q
  | [], _ => rfl
  | x :: l, h => by rw [List.any_cons, List.any_cons, h x (by simp), any_congr' fun y hy => h y (by simp [hy])]

/-! ### weights of settlings -/
def tOf (d : Dbt) : Int := (d.2.map (·.2)).sum
def Dw : List Dbt → Int
  | [] => 1
  | d :: ds => tOf d * Dw ds
theorem sum_le : ∀ {l : List Int}, (∀ x ∈ l, 0 < x ∧ x < 2 ^ 72) → 0 ≤ l.sum ∧ l.sum ≤ l.length * 2 ^ 72
  | [], _ => by simp
  | x :: l, h => by
    obtain ⟨h1, h2⟩ := sum_le (l := l) fun y hy => h y (by simp [hy])
    obtain ⟨h3, h4⟩ := h x (by simp)
    rw [List.sum_cons, List.length_cons]
    constructor
    · omega
    · have e : ((l.length + 1 : Nat) : Int) * 2 ^ 72 = (l.length : Int) * 2 ^ 72 + 2 ^ 72 := by
        rw [Int.natCast_add, Int.add_mul]
        rfl
      rw [e]
      omega
theorem sum_ab {l : List Int} (h : ∀ x ∈ l, 0 < x ∧ x < 2 ^ 72) (hl : l.length ≤ 6) : 0 ≤ l.sum ∧ Ab 75 l.sum := by
  obtain ⟨h1, h2⟩ := sum_le h
  have h3 : (l.length : Int) * 2 ^ 72 ≤ 6 * 2 ^ 72 := Int.mul_le_mul_of_nonneg_right (by omega) (by decide)
  refine ⟨h1, ?_⟩
  unfold Ab
  have h4 : (6 : Int) * 2 ^ 72 < 2 ^ 75 := by decide
  have h5 : ((2 ^ 75 : Nat) : Int) = (2 : Int) ^ 75 := by decide
  omega
theorem sum_nonneg : ∀ {l : List Int}, (∀ x ∈ l, 0 ≤ x) → 0 ≤ l.sum
  | [], _ => by simp
  | x :: l, h => by
    rw [List.sum_cons]
    have := h x (by simp)
    have := sum_nonneg (l := l) fun y hy => h y (by simp [hy])
    omega
theorem tOf_ok {d : Dbt} (h : dbW d) : 0 < tOf d ∧ Ab 75 (tOf d) := by
  have z : ∀ x ∈ d.2.map (·.2), 0 < x ∧ x < 2 ^ 72 := fun x hx => by
    obtain ⟨o, ho, rfl⟩ := List.mem_map.mp hx
    exact h.wt o ho
  refine ⟨?_, (sum_ab z (by rw [List.length_map]; exact h.len)).2⟩
  unfold tOf
  have h0 := h.pos
  cases e : d.2 with
  | nil => rw [e] at h0; simp at h0
  | cons o os =>
    rw [e] at z
    rw [List.map_cons, List.sum_cons]
    have := (sum_le (l := os.map (·.2)) fun x hx => z x (by simp only [List.map_cons, List.mem_cons]; exact .inr hx)).1
    have := (z o.2 (by simp)).1
    omega
theorem Dw_ok : ∀ {ds : List Dbt}, (∀ d ∈ ds, dbW d) → 0 < Dw ds ∧ Ab (75 * ds.length + 1) (Dw ds)
  | [], _ => by unfold Ab; simp [Dw]
  | d :: ds, h => by
    obtain ⟨h1, h2⟩ := Dw_ok (ds := ds) fun e he => h e (by simp [he])
    obtain ⟨h3, h4⟩ := tOf_ok (h d (by simp))
    rw [Dw, List.length_cons]
    exact ⟨Int.mul_pos h3 h1, (h4.mul h2).mono (by omega)⟩
theorem Dw_perm {as bs : List Dbt} (h : as.Perm bs) : Dw as = Dw bs := by
  induction h with
  | nil => rfl
  | cons x _ ih => rw [Dw, Dw, ih]
  | swap x y l => rw [Dw, Dw, Dw, Dw, Int.mul_left_comm]
  | trans _ _ h1 h2 => rw [h1, h2]
theorem Dw_app : ∀ (as bs : List Dbt), Dw (as ++ bs) = Dw as * Dw bs
  | [], bs => by rw [List.nil_append, Dw, Int.one_mul]
  | a :: as, bs => by rw [List.cons_append, Dw, Dw, Dw_app as bs, Int.mul_assoc]
theorem sum_mulR {α : Type} (f : α → Int) (c : Int) : ∀ l : List α, (l.map fun x => f x * c).sum = (l.map f).sum * c
  | [] => by simp
  | x :: l => by rw [List.map_cons, List.sum_cons, sum_mulR f c l, List.map_cons, List.sum_cons, Int.add_mul]
theorem sum_mulL {α : Type} (f : α → Int) (c : Int) : ∀ l : List α, (l.map fun x => c * f x).sum = c * (l.map f).sum
  | [] => by simp
  | x :: l => by rw [List.map_cons, List.sum_cons, sum_mulL f c l, List.map_cons, List.sum_cons, Int.mul_add]
theorem sum_add {α : Type} (f g : α → Int) : ∀ l : List α, (l.map fun x => f x + g x).sum = (l.map f).sum + (l.map g).sum
  | [] => by simp
  | x :: l => by
    rw [List.map_cons, List.sum_cons, sum_add f g l, List.map_cons, List.sum_cons, List.map_cons, List.sum_cons]
    omega
theorem sum_zero {α : Type} : ∀ l : List α, (l.map fun _ => (0 : Int)).sum = 0
  | [] => rfl
  | x :: l => by rw [List.map_cons, List.sum_cons, sum_zero l]; rfl
theorem sum_flat {α β : Type} (g : α → List β) (f : β → Int) : ∀ l : List α, ((l.flatMap g).map f).sum = (l.map fun x => ((g x).map f).sum).sum
  | [] => by simp
  | x :: l => by rw [List.flatMap_cons, List.map_append, List.sum_append, sum_flat g f l, List.map_cons, List.sum_cons]
theorem sum_swap {α β : Type} (f : α → β → Int) : ∀ (l : List α) (k : List β), (l.map fun x => (k.map fun y => f x y).sum).sum = (k.map fun y => (l.map fun x => f x y).sum).sum
  | [], k => by
    show 0 = (k.map fun _ => (0 : Int)).sum
    rw [sum_zero]
  | x :: l, k => by
    rw [List.map_cons, List.sum_cons, sum_swap f l k, ← sum_add]
    rfl
theorem sum_congr {α : Type} {f g : α → Int} {l : List α} (h : ∀ x ∈ l, f x = g x) : (l.map f).sum = (l.map g).sum := by rw [List.map_congr_left h]
theorem sum_mono {α : Type} {f g : α → Int} : ∀ {l : List α}, (∀ x ∈ l, f x ≤ g x) → (l.map f).sum ≤ (l.map g).sum
  | [], _ => by simp
  | x :: l, h => by
    rw [List.map_cons, List.sum_cons, List.map_cons, List.sum_cons]
    have := h x (by simp)
    have := sum_mono (l := l) fun y hy => h y (by simp [hy])
    omega
/-- the sum over all settlings -/
noncomputable def E : List Dbt → (Sg → Int) → Sg → Int
  | [], F, σ => F σ
  | d :: ds, F, σ => (d.2.map fun o => o.2 * E ds F (upd' σ d.1 o.1)).sum
theorem E_cons (d : Dbt) (ds : List Dbt) (F : Sg → Int) (σ : Sg) : E (d :: ds) F σ = (d.2.map fun o => o.2 * E ds F (upd' σ d.1 o.1)).sum := rfl
theorem E_const : ∀ (ds : List Dbt) (c : Int) (σ : Sg), E ds (fun _ => c) σ = Dw ds * c
  | [], c, σ => by rw [Dw, Int.one_mul]; rfl
  | d :: ds, c, σ => by
    rw [E_cons, Dw, sum_congr fun o _ => by rw [E_const ds c], sum_mulR]
    exact (Int.mul_assoc _ _ _).symm
theorem E_congr : ∀ {ds : List Dbt} {F G : Sg → Int}, (∀ σ, F σ = G σ) → ∀ σ, E ds F σ = E ds G σ
  | [], F, G, h, σ => h σ
  | d :: ds, F, G, h, σ => by
    rw [E_cons, E_cons]
    exact sum_congr fun o _ => by rw [E_congr h]
theorem E_mul : ∀ (ds : List Dbt) (F : Sg → Int) (c : Int) (σ : Sg), E ds (fun τ => F τ * c) σ = E ds F σ * c
  | [], F, c, σ => rfl
  | d :: ds, F, c, σ => by
    rw [E_cons, E_cons, ← sum_mulR]
    exact sum_congr fun o _ => by rw [E_mul ds, Int.mul_assoc]
theorem E_add : ∀ (ds : List Dbt) (F G : Sg → Int) (σ : Sg), E ds (fun τ => F τ + G τ) σ = E ds F σ + E ds G σ
  | [], F, G, σ => rfl
  | d :: ds, F, G, σ => by
    rw [E_cons, E_cons, E_cons, ← sum_add]
    exact sum_congr fun o _ => by rw [E_add ds, Int.mul_add]
theorem E_le : ∀ {ds : List Dbt} {F G : Sg → Int}, (∀ d ∈ ds, dbW d) → (∀ σ, F σ ≤ G σ) → ∀ σ, E ds F σ ≤ E ds G σ
  | [], F, G, _, h, σ => h σ
  | d :: ds, F, G, hd, h, σ => by
    rw [E_cons, E_cons]
    exact sum_mono fun o ho => Int.mul_le_mul_of_nonneg_left (E_le (fun e he => hd e (by simp [he])) h _) (Int.le_of_lt ((hd d (by simp)).wt o ho).1)
theorem E_app : ∀ (as bs : List Dbt) (F : Sg → Int) (σ : Sg), E (as ++ bs) F σ = E as (fun τ => E bs F τ) σ
  | [], bs, F, σ => rfl
  | a :: as, bs, F, σ => by
    rw [List.cons_append, E_cons, E_cons]
    exact sum_congr fun o _ => by rw [E_app as bs]
theorem E_perm {as bs : List Dbt} (h : as.Perm bs) : (as.map (·.1)).Nodup → ∀ (F : Sg → Int) (σ : Sg), E as F σ = E bs F σ := by
  induction h with
  | nil => exact fun _ _ _ => rfl
  | cons x _ ih =>
    intro hn F σ
    rw [List.map_cons, List.nodup_cons] at hn
    rw [E_cons, E_cons]
    exact sum_congr fun o _ => by rw [ih hn.2]
  | swap x y l =>
    intro hn F σ
    have hne : y.1 ≠ x.1 := by
      rw [List.map_cons, List.nodup_cons, List.map_cons] at hn
      exact fun e => hn.1 (by rw [e]; simp)
    rw [E_cons, E_cons]
    have e1 : ∀ o : Opt, o.2 * E (x :: l) F (upd' σ y.1 o.1) = (x.2.map fun u => o.2 * (u.2 * E l F (upd' (upd' σ y.1 o.1) x.1 u.1))).sum := fun o => by rw [E_cons, sum_mulL]
    have e2 : ∀ u : Opt, u.2 * E (y :: l) F (upd' σ x.1 u.1) = (y.2.map fun o => o.2 * (u.2 * E l F (upd' (upd' σ y.1 o.1) x.1 u.1))).sum := fun u => by
      rw [E_cons, ← sum_mulL]
      exact sum_congr fun o _ => by rw [upd_comm σ o.1 u.1 hne, Int.mul_left_comm]
    rw [sum_congr fun o _ => e1 o, sum_congr fun u _ => e2 u, sum_swap]
  | trans h1 _ i1 i2 =>
    intro hn F σ
    rw [i1 hn, i2 ((h1.map _).nodup_iff.mp hn)]
/-- what hangs on other marks alone is drawn out -/
theorem E_pull : ∀ {ds : List Dbt} {F G : Sg → Int} {S : List D}, Dep F S → (∀ m ∈ S, m ∉ ds.map (·.1)) → ∀ σ, E ds (fun τ => F τ * G τ) σ = F σ * E ds G σ
  | [], F, G, S, _, _, σ => rfl
  | d :: ds, F, G, S, hF, hS, σ => by
    rw [E_cons, E_cons, ← sum_mulL]
    refine sum_congr fun o _ => ?_
    rw [E_pull hF (fun m hm z => hS m hm (by rw [List.map_cons]; exact List.mem_cons_of_mem _ z)), hF (upd' σ d.1 o.1) σ fun m hm => upd_off fun e => hS m hm (by rw [e]; simp), Int.mul_left_comm]
theorem E_dep : ∀ {ds : List Dbt} {F : Sg → Int} {S : List D}, Dep F (S ++ ds.map (·.1)) → Dep (E ds F) S
  | [], F, S, h => fun σ τ e => h σ τ fun m hm => e m (by simpa using hm)
  | d :: ds, F, S, h => fun σ τ e => by
    rw [E_cons, E_cons]
    refine sum_congr fun o _ => ?_
    have ih := E_dep (ds := ds) (F := F) (S := d.1 :: S) (h.mono fun m hm => by
      simp only [List.mem_append, List.map_cons, List.mem_cons] at hm ⊢
      rcases hm with hm | hm | hm
      · exact .inl (.inr hm)
      · exact .inl (.inl hm)
      · exact .inr hm)
    rw [ih (upd' σ d.1 o.1) (upd' τ d.1 o.1) fun m hm => ?_]
    by_cases c : m = d.1
    · rw [c, upd_eq, upd_eq]
    · rw [upd_off c, upd_off c]
      exact e m ((List.mem_cons.mp hm).resolve_left c)
theorem E_free {ds : List Dbt} {F : Sg → Int} (h : Dep F (ds.map (·.1))) (σ τ : Sg) : E ds F σ = E ds F τ := E_dep (S := []) (by simpa using h) σ τ fun m hm => by cases hm
theorem E_prod {as bs : List Dbt} {F G : Sg → Int} (hn : ((as ++ bs).map (·.1)).Nodup) (hF : Dep F (as.map (·.1))) (hG : Dep G (bs.map (·.1))) (σ : Sg) : E (as ++ bs) (fun τ => F τ * G τ) σ = E as F σ * E bs G σ := by
  rw [List.map_append, List.nodup_append] at hn
  rw [E_app, ← E_mul]
  refine E_congr (fun τ => ?_) σ
  rw [E_pull hF fun m hm z => hn.2.2 m hm m z rfl, E_free hG τ σ]
/-- all settlings with their weights -/
def stepP (acc : List (List (List D) × Int)) (d : Dbt) : List (List (List D) × Int) := acc.flatMap fun q => d.2.map fun o => (q.1 ++ [o.1], q.2 * o.2)
def pset (ds : List Dbt) : List (List (List D) × Int) := ds.foldl stepP [([], 1)]
theorem stepP_fst (acc : List (List (List D) × Int)) (d : Dbt) : (stepP acc d).map (·.1) = stepS (acc.map (·.1)) d := by
  unfold stepP stepS rowsOf
  rw [List.map_flatMap, List.flatMap_map]
  congr 1
  funext q
  rw [List.map_map, List.map_map]
  rfl
theorem foldP_fst : ∀ (ds : List Dbt) (acc : List (List (List D) × Int)), (ds.foldl stepP acc).map (·.1) = ds.foldl stepS (acc.map (·.1))
  | [], acc => rfl
  | d :: ds, acc => by rw [List.foldl_cons, foldP_fst ds, stepP_fst, List.foldl_cons]
theorem pset_fst (ds : List Dbt) : (pset ds).map (·.1) = setts ds := foldP_fst ds _
theorem foldP_flat : ∀ (ds : List Dbt) (acc : List (List (List D) × Int)), ds.foldl stepP acc = acc.flatMap fun q => (pset ds).map fun u => (q.1 ++ u.1, q.2 * u.2)
  | [], acc => by
    rw [List.foldl_nil]
    induction acc with
    | nil => rfl
    | cons a acc ih =>
      rw [List.flatMap_cons, ← ih]
      simp [pset]
  | d :: ds, acc => by
    have e : pset (d :: ds) = (stepP [([], 1)] d).flatMap fun q => (pset ds).map fun u => (q.1 ++ u.1, q.2 * u.2) := by
      rw [pset, List.foldl_cons, foldP_flat ds]
    rw [List.foldl_cons, foldP_flat ds, e]
    unfold stepP
    rw [List.flatMap_assoc]
    congr 1
    funext q
    rw [List.map_flatMap]
    simp [List.flatMap_map, List.map_map, Function.comp_def, List.append_assoc, Int.mul_assoc]
theorem pset_cons (d : Dbt) (ds : List Dbt) : pset (d :: ds) = d.2.flatMap fun o => (pset ds).map fun u => (o.1 :: u.1, o.2 * u.2) := by
  rw [pset, List.foldl_cons, foldP_flat ds]
  simp [stepP, List.flatMap_map]
/-- a settling as a reading of marks -/
noncomputable def sgo (σ : Sg) : List Dbt → List (List D) → Sg
  | d :: ds, r :: s => sgo (upd' σ d.1 r) ds s
  | _, _ => σ
theorem E_pset : ∀ (ds : List Dbt) (G : Sg → Int) (σ : Sg), ((pset ds).map fun q => q.2 * G (sgo σ ds q.1)).sum = E ds G σ
  | [], G, σ => by simp [pset, E, sgo]
  | d :: ds, G, σ => by
    rw [pset_cons, sum_flat, E_cons]
    refine sum_congr fun o _ => ?_
    rw [List.map_map, ← E_pset ds, ← sum_mulL]
    refine sum_congr fun q _ => ?_
    show o.2 * q.2 * G (sgo (upd' σ d.1 o.1) ds q.1) = _
    rw [Int.mul_assoc]
theorem sgo_off : ∀ {ds : List Dbt} {s : List (List D)} {σ : Sg} {m : D}, m ∉ ds.map (·.1) → sgo σ ds s m = σ m
  | [], _, _, _, _ => rfl
  | d :: ds, [], _, _, _ => rfl
  | d :: ds, r :: s, σ, m, h => by
    rw [List.map_cons, List.mem_cons, not_or] at h
    rw [sgo, sgo_off h.2, upd_off h.1]
/-- the pairs of a settling -/
theorem sgo_mem : ∀ {ds : List Dbt} {s : List (List D)} {σ : Sg}, okS ds s → (ds.map (·.1)).Nodup → ∀ d ∈ ds, ∀ r, (d.1, r) ∈ (ds.zip s).map (fun q => (q.1.1, q.2)) ↔ sgo σ ds s d.1 = r
  | [], [], _, _, _, _, hd, _ => by cases hd
  | d :: ds, r :: s, σ, ok, hn, e, he, q => by
    rw [List.map_cons, List.nodup_cons] at hn
    rw [List.zip_cons_cons, List.map_cons, List.mem_cons, sgo]
    rcases List.mem_cons.mp he with rfl | he
    · rw [sgo_off hn.1, upd_eq]
      constructor
      · rintro (h | h)
        · exact (Prod.mk.inj h).2.symm
        · obtain ⟨u, hu, e2⟩ := List.mem_map.mp h
          exact absurd (List.mem_map.mpr ⟨u.1, (List.of_mem_zip hu).1, (Prod.mk.inj e2).1⟩) hn.1
      · rintro rfl
        exact .inl rfl
    · rw [← sgo_mem (σ := upd' σ d.1 r) ok.2 hn.2 e he q]
      constructor
      · rintro (h | h)
        · exact absurd (List.mem_map.mpr ⟨e, he, (Prod.mk.inj h).1⟩) hn.1
        · exact h
      · exact .inr
  | [], _ :: _, _, h, _, _, _, _ => h.elim
  | _ :: _, [], _, h, _, _, _, _ => h.elim
theorem sgo_row : ∀ {ds : List Dbt} {s : List (List D)} {σ : Sg}, okS ds s → (ds.map (·.1)).Nodup → ∀ d ∈ ds, sgo σ ds s d.1 ∈ rowsOf d
  | [], [], _, _, _, _, hd => by cases hd
  | d :: ds, r :: s, σ, ok, hn, e, he => by
    rw [List.map_cons, List.nodup_cons] at hn
    rw [sgo]
    rcases List.mem_cons.mp he with rfl | he
    · rw [sgo_off hn.1, upd_eq]
      exact ok.1
    · exact sgo_row ok.2 hn.2 e he
  | [], _ :: _, _, h, _, _, _ => h.elim
  | _ :: _, [], _, h, _, _, _ => h.elim
theorem zipD_map {α β : Type} (f : α → D) (g : β → D) : ∀ (xs : List α) (ys : List β), zipD (xs.map f) (ys.map g) = (xs.zip ys).map fun q => .tup [f q.1, g q.2]
  | [], _ => by simp [zipD]
  | _ :: _, [] => by simp [zipD]
  | x :: xs, y :: ys => by
    rw [List.map_cons, List.map_cons, zipD, zipD_map f g xs ys, List.zip_cons_cons, List.map_cons]
theorem okS_len : ∀ {ds : List Dbt} {s : List (List D)}, okS ds s → ds.length = s.length
  | [], [], _ => rfl
  | _ :: _, _ :: _, h => congrArg (· + 1) (okS_len h.2)
  | [], _ :: _, h => h.elim
  | _ :: _, [], h => h.elim
theorem zip_marks {ds : List Dbt} {s : List (List D)} (h : ds.length = s.length) : ((ds.zip s).map fun q => q.1.1) = ds.map (·.1) := by
  rw [show (fun q : Dbt × List D => q.1.1) = (fun f : Dbt => f.1) ∘ Prod.fst from rfl, ← List.map_map, List.map_fst_zip (by omega)]
theorem erase_perm {α : Type} : ∀ (l : List α) (i : Nat) (h : i < l.length), l.Perm (l[i] :: l.eraseIdx i)
  | x :: l, 0, _ => .refl _
  | x :: l, i + 1, h => ((erase_perm l i (by simpa using h)).cons x).trans (.swap _ _ _)
theorem map_erase {α β : Type} (f : α → β) (l : List α) (i : Nat) : (l.map f).eraseIdx i = (l.eraseIdx i).map f := by
  rw [List.eraseIdx_eq_take_drop_succ, List.eraseIdx_eq_take_drop_succ, List.map_append, List.map_take, List.map_drop]
/-! ### the law's own look at circuits -/
def prD (q : D × List D) : D := .tup [q.1, .tup q.2]
/-- the pairs that are given tell each mark's row -/
def givs (gs : List (D × List D)) (ds : List Dbt) (σ : Sg) : Prop := (∀ q ∈ gs, isMk q.1 ∧ ∀ v ∈ q.2, isV v) ∧ ∀ d ∈ ds, σ d.1 ∈ rowsOf d ∧ ∀ r, (d.1, r) ∈ gs ↔ σ d.1 = r
theorem prD_ok {q : D × List D} (h : isMk q.1) (k : ∀ v ∈ q.2, isV v) (n : Nat) : dOk (n + 3) (prD q) = true := by
  unfold prD
  rw [dOk_tup, List.all_cons, List.all_cons, List.all_nil, h.ok n, dOk_tup, row_ok k]
  rfl
theorem prD_eqv {p q : D × List D} (h : isMk p.1) (h2 : ∀ v ∈ p.2, isV v) (k : isMk q.1) (k2 : ∀ v ∈ q.2, isV v) : D.eqv (prD p) (prD q) = true ↔ p = q := by
  have e1 : pln (prD p) = true := by
    show (pln p.1 && (plns p.2 && true)) = true
    rw [h.pl, row_pl h2]
    rfl
  have e2 : pln (prD q) = true := by
    show (pln q.1 && (plns q.2 && true)) = true
    rw [k.pl, row_pl k2]
    rfl
  refine (eqv_pl _ _ e1 e2).trans ⟨fun e => ?_, fun e => by rw [e]⟩
  obtain ⟨a, b⟩ := p
  obtain ⟨c, d⟩ := q
  simp only [prD, D.tup.injEq, List.cons.injEq, and_true] at e
  rw [e.1, e.2]
theorem any_pr {gs : List (D × List D)} (hg : ∀ q ∈ gs, isMk q.1 ∧ ∀ v ∈ q.2, isV v) {m : D} {r : List D} (hm : isMk m) (hr : ∀ v ∈ r, isV v) : ((gs.map prD).any fun z => D.eqv z (prD (m, r))) = true ↔ (m, r) ∈ gs := by
  rw [List.any_map, List.any_eq_true]
  constructor
  · rintro ⟨q, hq, e⟩
    rw [← (prD_eqv (hg q hq).1 (hg q hq).2 hm hr).mp e]
    exact hq
  · exact fun h => ⟨_, h, (prD_eqv (hg _ h).1 (hg _ h).2 hm hr).mpr rfl⟩
theorem any_tr (l : List Bool) : ((l.map D.bl).any fun z => z.eqv (.bl true)) = l.any id := by
  induction l with
  | nil => rfl
  | cons x l ih =>
    rw [List.map_cons, List.any_cons, ih, List.any_cons, eqv_bl]
    cases x <;> rfl
theorem all_fa (l : List Bool) : (!((l.map D.bl).any fun z => z.eqv (.bl false))) = l.all id := by
  induction l with
  | nil => rfl
  | cons x l ih =>
    rw [List.map_cons, List.any_cons, Bool.not_or, ih, List.all_cons, eqv_bl]
    cases x <;> rfl
theorem bls_ok (l : List Bool) (n : Nat) : (l.map D.bl).all (dOk n) = true := by
  rw [List.all_map]
  exact List.all_eq_true.mpr fun b _ => by cases n <;> rfl
/-! ### all settlings, their weights, their pairs -/
theorem at_get {α : Type} (f : α → D) {xs : List α} {k : Nat} (h : k < xs.length) : atI (xs.map f) (k : Int) = some (f xs[k]) := by
  rw [atI_n, List.getElem?_map, List.getElem?_eq_getElem h]
  rfl
abbrev sp_l_given : DSp := ar2 fun a b M Q => ∃ (ds : List Dbt) (s : List (List D)), dItems a M = some (ds.map dbD) ∧ b = sD s ∧ ds.length = s.length ∧ ds.length ≤ 1000 ∧ Q (.lst (((ds.zip s).map fun q => (q.1.1, q.2)).map prD)) M
theorem ok_l_given (F : Def K mg "_law_given" s_l_given ["doubts", "settling"]) (B : Bi K mg) (I : Im mg)  : Cal P w K mg base 1 "_law_given" ["doubts", "settling"] sp_l_given := by
  have sc := sc_l_given
  refine F.cal sc (fun ds M Q h => len2 h) (fun f cdv A outer s H E hr => (ds_one (ds_ret (d_lcF rfl sc.nd (own := [("k", 2)]) (di_range1 rfl B.b_range (da_cons (d_cb c_lenB rfl B.b_len boot_len (da_cons (d_v 0) da_nil)) da_nil)) (blkOk_by (N := N_l_given) (sc := defScope s_l_given) (by decide +kernel)) (by decide) (fun _ _ _ _ _ => (dg_name (i := 2) sc.nd rfl (Or.inl rfl))) (fun _ _ _ _ _ => dts_nil) (fun _ _ _ _ _ => (d_tup (da_cons (d_ix x_ix (d_ix x_ix (d_v 0) (d_v 2) (fun _ _ => rfl)) d_int (fun _ _ => rfl)) (da_cons (d_ix x_ix (d_v 1) (d_v 2) (fun _ _ => rfl)) da_nil)))))))) (fun ds M Q h => ?_)
  obtain ⟨a, b, rfl, ds, s, ha, rfl, hl, hb, h⟩ := h
  walk_at "rd"
  refine ⟨_, ha, fun _ => ⟨by rw [List.length_map]; omega, by rw [List.length_map]; omega, fun _ => ?_⟩⟩
  obtain ⟨Z, hZ⟩ : ∃ Z, Z = (ds.zip s).map fun q => (q.1.1, q.2) := ⟨_, rfl⟩
  have hZl : Z.length = ds.length := by rw [hZ, List.length_map, List.length_zip]; omega
  rw [← hZ] at h
  rw [show rangeD 0 (((ds.map dbD).length : Nat) : Int).toNat = (List.range Z.length).map fun k => D.int ((k : Nat) : Int) by rw [List.length_map, hZl, Int.toNat_natCast, rangeD0]]
  refine lc_map (List.range Z.length) (fun k => D.int ((k : Nat) : Int)) (fun k => prD (Z.getD k (.non, []))) rfl srcV_none (fun k hk M5 l5 C1 h5 => ?_) fun p5 hp5 => ?_
  · rw [List.mem_range] at hk
    have k1 : k < ds.length := by omega
    have k2 : k < s.length := by omega
    have e : Z.getD k (.non, []) = (ds[k].1, s[k]) := by
      rw [List.getD_eq_getElem?_getD, List.getElem?_eq_getElem hk, Option.getD_some]
      simp [hZ]
    rw [e] at h5
    walk_at "rd"
    exact ⟨_, items_up ha l5, _, at_get dbD k1, _, rfl, _, atI_0 _ _, _, rfl, _, at_get D.tup k2, h5⟩
  rw [mdel_mput hp5, range_gets]
  exact ret_of h
theorem stepP_len (acc : List (List (List D) × Int)) (d : Dbt) : (stepP acc d).length = acc.length * d.2.length := by
  unfold stepP
  induction acc with
  | nil => simp
  | cons a r ih =>
    rw [List.flatMap_cons, List.length_append, ih, List.length_map, List.length_cons, Nat.add_mul, Nat.one_mul]
    omega
theorem stepP_cons (q : List (List D) × Int) (r : List (List (List D) × Int)) (d : Dbt) : stepP (q :: r) d = (d.2.map fun o => (q.1 ++ [o.1], q.2 * o.2)) ++ stepP r d := by
  unfold stepP
  rw [List.flatMap_cons]
def enS (q : List (List D) × Int) : D := sD q.1
def enW (q : List (List D) × Int) : D := .int q.2
def pOk (n : Nat) (q : List (List D) × Int) : Prop := q.1.length + n ≤ 6 ∧ 0 < q.2 ∧ ∃ k, Ab (72 * k + 1) q.2 ∧ k + n ≤ 6
theorem pOk_step {n : Nat} {acc : List (List (List D) × Int)} {d : Dbt} (h : ∀ q ∈ acc, pOk (n + 1) q) (hd : ∀ o ∈ d.2, 0 < o.2 ∧ o.2 < 2 ^ 72) : ∀ q ∈ stepP acc d, pOk n q := fun q hq => by
  obtain ⟨u, hu, h2⟩ := List.mem_flatMap.mp hq
  obtain ⟨o, ho, rfl⟩ := List.mem_map.mp h2
  obtain ⟨h3, h4, k, h5, h6⟩ := h u hu
  obtain ⟨h7, h8⟩ := hd o ho
  refine ⟨by show (u.1 ++ [o.1]).length + n ≤ 6; rw [List.length_append, List.length_singleton]; omega, Int.mul_pos h4 h7, k + 1, ?_, by omega⟩
  have h9 : Ab 72 o.2 := by unfold Ab; omega
  exact (h5.mul h9).mono (by omega)
abbrev sp_l_all_settlings : DSp := ar1 fun a M Q => ∃ ds : List Dbt, dItems a M = some (ds.map dbD) ∧ (∀ d ∈ ds, d.2.length ≤ 6 ∧ ∀ o ∈ d.2, 0 < o.2 ∧ o.2 < 2 ^ 72) ∧ ds.length ≤ 6 ∧ Q (.lst ((pset ds).map enS)) M
theorem ok_l_all_settlings (F : Def K mg "_law_all_settlings" s_l_all_settlings ["doubts"]) (B : Bi K mg) (I : Im mg)  : Cal P w K mg base 1 "_law_all_settlings" ["doubts"] sp_l_all_settlings := by
  have sc := sc_l_all_settlings
  refine F.cal sc (fun ds M Q h => len1 h) (fun f cdv A outer s H E hr => (ds_cons (ds_set (i := 1) sc.nd rfl (Or.inl rfl) (d_lstF (da_cons (d_tup da_nil) da_nil)))
    (ds_cons (ds_for PassesOwn.never rfl (di_seq (d_v 0)) (dg_name (i := 2) sc.nd rfl (Or.inl rfl))
    (ds_cons (ds_set (i := 3) sc.nd rfl (Or.inl rfl) (d_lstF da_nil))
    (ds_cons (ds_for PassesOwn.never rfl (di_seq (d_v 1)) (dg_name (i := 4) sc.nd rfl (Or.inr rfl))
    (ds_one (ds_set (i := 3) sc.nd rfl (Or.inl rfl) (d_catF (d_v 3) (d_lcF rfl sc.nd (own := [("option", 5)]) (di_seq (d_ix x_ix (d_v 2) d_int (fun _ _ => rfl))) (blkOk_by (N := N_l_all_settlings) (sc := defScope s_l_all_settlings) (by decide +kernel)) (by decide) (fun _ _ _ _ _ => (dg_name (i := 5) sc.nd rfl (Or.inl rfl))) (fun _ _ _ _ _ => dts_nil) (fun _ _ _ _ _ => (d_op o_addA (d_v 4) (d_tup (da_cons (d_ix x_ix (d_v 5) d_int (fun _ _ => rfl)) da_nil)))))))))
    (ds_one (ds_set (i := 1) sc.nd rfl (Or.inl rfl) (d_v 3))))))
    (ds_one (ds_ret (d_v 1)))))) (fun ds M Q h => ?_)
  obtain ⟨a, rfl, ds, ha, ho, hl, h⟩ := h
  walk_at "st"
  walk_at "st"
  refine ⟨_, ha, fun _ => ?_⟩
  refine for_ind (fun items m1 M1 => M1 = M ∧ ∃ (rest : List Dbt) (acc : List (List (List D) × Int)) (x2 x3 x4 : Option D), items = rest.map dbD ∧ (∀ d ∈ rest, d.2.length ≤ 6 ∧ ∀ o ∈ d.2, 0 < o.2 ∧ o.2 < 2 ^ 72) ∧ (∀ q ∈ acc, pOk rest.length q) ∧ acc.length * 6 ^ rest.length ≤ 46656 ∧ Q (.lst ((rest.foldl stepP acc).map enS)) M ∧ m1 = [some a, some (.lst (acc.map enS)), x2, x3, x4, none]) ?_ ?_ _ _ _ ⟨rfl, ds, [([], 1)], _, _, _, rfl, ho, fun q hq => ?_, ?_, h, rfl⟩
  · rintro m1 M1 ⟨rfl, rest, acc, x2, x3, x4, hi, _, _, _, hq, rfl⟩
    refine ⟨srcV_it ha, ?_⟩
    cases rest with
    | cons e r => cases hi
    | nil =>
      walk_at "rd"
      exact ret_of hq
  · rintro z items m1 M1 Cn hC ⟨rfl, rest, acc, x2, x3, x4, hi, hr, hs4, hal, hq, rfl⟩
    refine ⟨srcV_it ha, ?_⟩
    cases rest with
    | nil => cases hi
    | cons d rest =>
      rw [List.map_cons] at hi
      injection hi with h1 h2
      subst h1
      subst h2
      obtain ⟨hd6, hdw⟩ := hr d (by simp)
      have hal2 : (stepP acc d).length * 6 ^ rest.length ≤ 46656 := by
        rw [stepP_len]
        rw [List.length_cons, Nat.pow_succ] at hal
        refine Nat.le_trans ?_ hal
        rw [Nat.mul_assoc, Nat.mul_comm (6 ^ rest.length) 6]
        exact Nat.mul_le_mul_left _ (Nat.mul_le_mul_right _ hd6)
      have hsl : (stepP acc d).length ≤ 46656 := Nat.le_trans (Nat.le_mul_of_pos_right _ (Nat.pow_pos (by omega))) hal2
      walk_at "st"
      walk_at "st"
      intro _
      refine for_ind (fun its m2 M2 => M2 = M1 ∧ ∃ (rest2 g : List (List (List D) × Int)) (x4 : Option D), its = rest2.map enS ∧ (∀ q ∈ rest2, pOk (rest.length + 1) q) ∧ g ++ stepP rest2 d = stepP acc d ∧ m2 = [some a, some (.lst (acc.map enS)), some (dbD d), some (.lst (g.map enS)), x4, none]) ?_ ?_ _ _ _ ⟨rfl, acc, [], _, rfl, hs4, rfl, rfl⟩
      · rintro m2 M2 ⟨rfl, rest2, g, x4, hi2, h24, hg, rfl⟩
        refine ⟨srcV_none, ?_⟩
        cases rest2 with
        | cons e r => cases hi2
        | nil =>
          have hg' : g = stepP acc d := by
            rw [← hg]
            simp [stepP]
          subst hg'
          walk_at "rd"
          exact fg_of (hC _ _ ⟨rfl, rest, stepP acc d, _, _, _, rfl, fun e he => hr e (by simp [he]), pOk_step hs4 hdw, hal2, hq, rfl⟩)
      · rintro z2 its m2 M2 Cn2 hC2 ⟨rfl, rest2, g, x4, hi2, h24, hg, rfl⟩
        refine ⟨srcV_none, ?_⟩
        cases rest2 with
        | nil => cases hi2
        | cons q rest2 =>
          rw [List.map_cons] at hi2
          injection hi2 with h1 h2
          subst h1
          subst h2
          obtain ⟨q1, q2, kk, q3, q4⟩ := h24 q (by simp)
          rw [stepP_cons] at hg
          have hgl : g.length + d.2.length ≤ 46656 := by
            have := congrArg List.length hg
            rw [List.length_append, List.length_append, List.length_map] at this
            omega
          walk_at "rd"
          intro _
          refine lc_map d.2 opD (fun o => enS (q.1 ++ [o.1], q.2 * o.2)) rfl srcV_none (fun o ho2 M5 l5 C1 h5 => ?_) fun p5 hp5 => ?_
          · have hob := (hdw o ho2)
            have hoa : Ab 72 o.2 := by unfold Ab; omega
            walk_at "rd"
            have e9 : enS (q.1 ++ [o.1], q.2 * o.2) = .tup (q.1.map D.tup ++ [.tup o.1]) := by
              show D.tup ((q.1 ++ [o.1]).map D.tup) = _
              rw [List.map_append]
              rfl
            rw [e9] at h5
            show dAdd (.tup (q.1.map D.tup)) (.tup [.tup o.1]) M5 C1
            rw [dAdd_tt]
            exact ⟨by rw [List.length_map, List.length_singleton]; omega, h5⟩
          rw [mdel_mput hp5]
          refine ⟨by rw [List.length_map, List.length_map]; omega, ?_⟩
          have e : g.map enS ++ d.2.map (fun o => enS (q.1 ++ [o.1], q.2 * o.2)) = (g ++ d.2.map fun o => (q.1 ++ [o.1], q.2 * o.2)).map enS := by rw [List.map_append, List.map_map]; rfl
          rw [e]
          exact fg_of (hC2 _ _ ⟨rfl, rest2, g ++ d.2.map fun o => (q.1 ++ [o.1], q.2 * o.2), _, rfl, fun u hu => h24 u (by simp [hu]), by rw [List.append_assoc]; exact hg, rfl⟩)
  · rw [List.mem_singleton.mp hq]
    exact ⟨by show 0 + ds.length ≤ 6; omega, by decide, 0, by unfold Ab; decide, by omega⟩
  · rw [List.length_singleton, Nat.one_mul]
    exact Nat.le_trans (Nat.pow_le_pow_right (by omega) hl) (by decide)
abbrev sp_l_all_weights : DSp := ar1 fun a M Q => ∃ ds : List Dbt, dItems a M = some (ds.map dbD) ∧ (∀ d ∈ ds, d.2.length ≤ 6 ∧ ∀ o ∈ d.2, 0 < o.2 ∧ o.2 < 2 ^ 72) ∧ ds.length ≤ 6 ∧ Q (.lst ((pset ds).map enW)) M
theorem ok_l_all_weights (F : Def K mg "_law_all_weights" s_l_all_weights ["doubts"]) (B : Bi K mg) (I : Im mg)  : Cal P w K mg base 1 "_law_all_weights" ["doubts"] sp_l_all_weights := by
  have sc := sc_l_all_weights
  refine F.cal sc (fun ds M Q h => len1 h) (fun f cdv A outer s H E hr => (ds_cons (ds_set (i := 1) sc.nd rfl (Or.inl rfl) (d_lstF (da_cons d_int da_nil)))
    (ds_cons (ds_for PassesOwn.never rfl (di_seq (d_v 0)) (dg_name (i := 2) sc.nd rfl (Or.inl rfl))
    (ds_cons (ds_set (i := 3) sc.nd rfl (Or.inl rfl) (d_lstF da_nil))
    (ds_cons (ds_for PassesOwn.never rfl (di_seq (d_v 1)) (dg_name (i := 4) sc.nd rfl (Or.inr rfl))
    (ds_one (ds_set (i := 3) sc.nd rfl (Or.inl rfl) (d_catF (d_v 3) (d_lcF rfl sc.nd (own := [("option", 5)]) (di_seq (d_ix x_ix (d_v 2) d_int (fun _ _ => rfl))) (blkOk_by (N := N_l_all_weights) (sc := defScope s_l_all_weights) (by decide +kernel)) (by decide) (fun _ _ _ _ _ => (dg_name (i := 5) sc.nd rfl (Or.inl rfl))) (fun _ _ _ _ _ => dts_nil) (fun _ _ _ _ _ => (d_op o_mul (d_v 4) (d_ix x_ix (d_v 5) d_int (fun _ _ => rfl)))))))))
    (ds_one (ds_set (i := 1) sc.nd rfl (Or.inl rfl) (d_v 3))))))
    (ds_one (ds_ret (d_v 1)))))) (fun ds M Q h => ?_)
  obtain ⟨a, rfl, ds, ha, ho, hl, h⟩ := h
  walk_at "st"
  walk_at "st"
  refine ⟨_, ha, fun _ => ?_⟩
  refine for_ind (fun items m1 M1 => M1 = M ∧ ∃ (rest : List Dbt) (acc : List (List (List D) × Int)) (x2 x3 x4 : Option D), items = rest.map dbD ∧ (∀ d ∈ rest, d.2.length ≤ 6 ∧ ∀ o ∈ d.2, 0 < o.2 ∧ o.2 < 2 ^ 72) ∧ (∀ q ∈ acc, pOk rest.length q) ∧ acc.length * 6 ^ rest.length ≤ 46656 ∧ Q (.lst ((rest.foldl stepP acc).map enW)) M ∧ m1 = [some a, some (.lst (acc.map enW)), x2, x3, x4, none]) ?_ ?_ _ _ _ ⟨rfl, ds, [([], 1)], _, _, _, rfl, ho, fun q hq => ?_, ?_, h, rfl⟩
  · rintro m1 M1 ⟨rfl, rest, acc, x2, x3, x4, hi, _, _, _, hq, rfl⟩
    refine ⟨srcV_it ha, ?_⟩
    cases rest with
    | cons e r => cases hi
    | nil =>
      walk_at "rd"
      exact ret_of hq
  · rintro z items m1 M1 Cn hC ⟨rfl, rest, acc, x2, x3, x4, hi, hr, hs4, hal, hq, rfl⟩
    refine ⟨srcV_it ha, ?_⟩
    cases rest with
    | nil => cases hi
    | cons d rest =>
      rw [List.map_cons] at hi
      injection hi with h1 h2
      subst h1
      subst h2
      obtain ⟨hd6, hdw⟩ := hr d (by simp)
      have hal2 : (stepP acc d).length * 6 ^ rest.length ≤ 46656 := by
        rw [stepP_len]
        rw [List.length_cons, Nat.pow_succ] at hal
        refine Nat.le_trans ?_ hal
        rw [Nat.mul_assoc, Nat.mul_comm (6 ^ rest.length) 6]
        exact Nat.mul_le_mul_left _ (Nat.mul_le_mul_right _ hd6)
      have hsl : (stepP acc d).length ≤ 46656 := Nat.le_trans (Nat.le_mul_of_pos_right _ (Nat.pow_pos (by omega))) hal2
      walk_at "st"
      walk_at "st"
      intro _
      refine for_ind (fun its m2 M2 => M2 = M1 ∧ ∃ (rest2 g : List (List (List D) × Int)) (x4 : Option D), its = rest2.map enW ∧ (∀ q ∈ rest2, pOk (rest.length + 1) q) ∧ g ++ stepP rest2 d = stepP acc d ∧ m2 = [some a, some (.lst (acc.map enW)), some (dbD d), some (.lst (g.map enW)), x4, none]) ?_ ?_ _ _ _ ⟨rfl, acc, [], _, rfl, hs4, rfl, rfl⟩
      · rintro m2 M2 ⟨rfl, rest2, g, x4, hi2, h24, hg, rfl⟩
        refine ⟨srcV_none, ?_⟩
        cases rest2 with
        | cons e r => cases hi2
        | nil =>
          have hg' : g = stepP acc d := by
            rw [← hg]
            simp [stepP]
          subst hg'
          walk_at "rd"
          exact fg_of (hC _ _ ⟨rfl, rest, stepP acc d, _, _, _, rfl, fun e he => hr e (by simp [he]), pOk_step hs4 hdw, hal2, hq, rfl⟩)
      · rintro z2 its m2 M2 Cn2 hC2 ⟨rfl, rest2, g, x4, hi2, h24, hg, rfl⟩
        refine ⟨srcV_none, ?_⟩
        cases rest2 with
        | nil => cases hi2
        | cons q rest2 =>
          rw [List.map_cons] at hi2
          injection hi2 with h1 h2
          subst h1
          subst h2
          obtain ⟨q1, q2, kk, q3, q4⟩ := h24 q (by simp)
          rw [stepP_cons] at hg
          have hgl : g.length + d.2.length ≤ 46656 := by
            have := congrArg List.length hg
            rw [List.length_append, List.length_append, List.length_map] at this
            omega
          walk_at "rd"
          intro _
          refine lc_map d.2 opD (fun o => enW (q.1 ++ [o.1], q.2 * o.2)) rfl srcV_none (fun o ho2 M5 l5 C1 h5 => ?_) fun p5 hp5 => ?_
          · have hob := (hdw o ho2)
            have hoa : Ab 72 o.2 := by unfold Ab; omega
            walk_at "rd"
            exact ⟨q.2, rfl, q3.cmul hoa (by omega), h5⟩
          rw [mdel_mput hp5]
          refine ⟨by rw [List.length_map, List.length_map]; omega, ?_⟩
          have e : g.map enW ++ d.2.map (fun o => enW (q.1 ++ [o.1], q.2 * o.2)) = (g ++ d.2.map fun o => (q.1 ++ [o.1], q.2 * o.2)).map enW := by rw [List.map_append, List.map_map]; rfl
          rw [e]
          exact fg_of (hC2 _ _ ⟨rfl, rest2, g ++ d.2.map fun o => (q.1 ++ [o.1], q.2 * o.2), _, rfl, fun u hu => h24 u (by simp [hu]), by rw [List.append_assoc]; exact hg, rfl⟩)
  · rw [List.mem_singleton.mp hq]
    exact ⟨by show 0 + ds.length ≤ 6; omega, by decide, 0, by unfold Ab; decide, by omega⟩
  · rw [List.length_singleton, Nat.one_mul]
    exact Nat.le_trans (Nat.pow_le_pow_right (by omega) hl) (by decide)

theorem setts_enS (ds : List Dbt) : (pset ds).map enS = (setts ds).map sD := by
  rw [← pset_fst, List.map_map]
  rfl
theorem mem_pset {ds : List Dbt} {q : List (List D) × Int} (h : q ∈ pset ds) : okS ds q.1 := mem_setts (by rw [← pset_fst]; exact List.mem_map.mpr ⟨q, h, rfl⟩)
theorem givs_zip {ds : List Dbt} {s : List (List D)} {σ : Sg} (h : ∀ d ∈ ds, dbW d) (hn : (ds.map (·.1)).Nodup) (ok : okS ds s) : givs ((ds.zip s).map fun q => (q.1.1, q.2)) ds (sgo σ ds s) := by
  refine ⟨fun q hq => ?_, fun d hd => ⟨sgo_row ok hn d hd, sgo_mem ok hn d hd⟩⟩
  obtain ⟨u, hu, rfl⟩ := List.mem_map.mp hq
  have key : ∀ {ds : List Dbt} {s : List (List D)}, okS ds s → ∀ q ∈ ds.zip s, q.1 ∈ ds ∧ q.2 ∈ rowsOf q.1 := by
    intro ds
    induction ds with
    | nil => intro s _ q hq; simp at hq
    | cons d ds ih =>
      intro s ok q hq
      cases s with
      | nil => exact ok.elim
      | cons r s =>
        rw [List.zip_cons_cons] at hq
        rcases List.mem_cons.mp hq with rfl | hq
        · exact ⟨by simp, ok.1⟩
        · obtain ⟨h1, h2⟩ := ih ok.2 q hq
          exact ⟨by simp [h1], h2⟩
  obtain ⟨k1, k2⟩ := key ok u hu
  exact ⟨(h u.1 k1).mark, ((h u.1 k1).row u.2 k2).2⟩
/-! ### reasons -/
abbrev Rsn := List (D × List D)
def rsD (r : Rsn) : D := .tup (r.map prD)
def prOk (q : D × List D) : Prop := isMk q.1 ∧ ∀ v ∈ q.2, isV v
def rsOk (r : Rsn) : Prop := ∀ q ∈ r, prOk q
noncomputable def isIn (q : D × List D) (g : Rsn) : Bool := @decide (q ∈ g) (Classical.propDecidable _)
theorem isIn_iff {q : D × List D} {g : Rsn} : isIn q g = true ↔ q ∈ g := @decide_eq_true_iff _ (Classical.propDecidable _)
noncomputable def subR (r g : Rsn) : Bool := r.all fun q => isIn q g
theorem subR_iff {r g : Rsn} : subR r g = true ↔ ∀ q ∈ r, q ∈ g := by
  unfold subR
  rw [List.all_eq_true]
  exact ⟨fun h q hq => isIn_iff.mp (h q hq), fun h q hq => isIn_iff.mpr (h q hq)⟩
theorem any_in {g : Rsn} (hg : rsOk g) {q : D × List D} (hq : prOk q) : ((g.map prD).any fun z => D.eqv z (prD q)) = isIn q g := by
  refine Bool.eq_iff_iff.mpr ?_
  rw [isIn_iff, List.any_map, List.any_eq_true]
  constructor
  · rintro ⟨u, hu, e⟩
    rw [← (prD_eqv (hg u hu).1 (hg u hu).2 hq.1 hq.2).mp e]
    exact hu
  · exact fun h => ⟨q, h, (prD_eqv hq.1 hq.2 hq.1 hq.2).mpr rfl⟩
theorem prs_ok {r : Rsn} (h : rsOk r) (n : Nat) : (r.map prD).all (dOk (n + 3)) = true := by
  rw [List.all_map]
  exact List.all_eq_true.mpr fun q hq => prD_ok (h q hq).1 (h q hq).2 n
theorem rsD_ok {r : Rsn} (h : rsOk r) (n : Nat) : dOk (n + 4) (rsD r) = true := by
  unfold rsD
  rw [dOk_tup]
  exact prs_ok h n
theorem prD_pl {q : D × List D} (h : prOk q) : pln (prD q) = true := by
  show (pln q.1 && (plns q.2 && true)) = true
  rw [h.1.pl, row_pl h.2]
  rfl
theorem rsD_pl {r : Rsn} (h : rsOk r) : pln (rsD r) = true := by
  show plns (r.map prD) = true
  exact plns_iff.mpr fun x hx => by
    obtain ⟨q, hq, rfl⟩ := List.mem_map.mp hx
    exact prD_pl (h q hq)
theorem items_rsD {r : Rsn} {M : DM} : dItems (rsD r) M = some (r.map prD) := rfl
theorem items_prD {q : D × List D} {M : DM} : dItems (prD q) M = some [q.1, .tup q.2] := rfl
abbrev sp_l_is_part : DSp := ar2 fun a b M Q => ∃ r g : Rsn, dItems a M = some (r.map prD) ∧ dItems b M = some (g.map prD) ∧ rsOk r ∧ rsOk g ∧ r.length ≤ 1000 ∧ Q (.bl (subR r g)) M
theorem ok_l_is_part (F : Def K mg "_law_is_part" s_l_is_part ["small", "large"]) (B : Bi K mg) (I : Im mg)  : Cal P w K mg base 1 "_law_is_part" ["small", "large"] sp_l_is_part := by
  have sc := sc_l_is_part
  refine F.cal sc (fun ds M Q h => len2 h) (fun f cdv A outer s H E hr => (ds_one (ds_ret (d_cmp (o_notin (hu_in hr)) d_bl (d_lcF rfl sc.nd (own := [("part", 2)]) (di_seq (d_v 0)) (blkOk_by (N := N_l_is_part) (sc := defScope s_l_is_part) (by decide +kernel)) (by decide) (fun _ _ _ _ _ => (dg_name (i := 2) sc.nd rfl (Or.inl rfl))) (fun _ _ _ _ _ => dts_nil) (fun _ _ _ _ _ => (d_cmp (o_in (hu_in hr)) (d_v 2) (d_v 1) rfl))) rfl)))) (fun ds M Q h => ?_)
  obtain ⟨a, b, rfl, r, g, ha, hb, hr, hg, hrl, h⟩ := h
  walk_at "rd"
  refine ⟨_, ha, fun _ => ?_⟩
  refine lc_map r prD (fun q => D.bl (isIn q g)) rfl (srcV_it ha) (fun q hq M5 l5 C1 h5 => ?_) fun p5 hp5 => ?_
  · walk_at "rd"
    refine ⟨_, items_up hb l5, prD_ok (hr q hq).1 (hr q hq).2 60, prs_ok hg 60, ?_⟩
    rw [any_in hg (hr q hq)]
    exact h5
  rw [mdel_mput hp5]
  have e : (r.map fun q => D.bl (isIn q g)) = (r.map fun q => isIn q g).map D.bl := by rw [List.map_map]; rfl
  rw [e, all_fa]
  refine ⟨bls_ok _ 63, ?_⟩
  have e2 : (r.map fun q => isIn q g).all id = subR r g := by
    rw [List.all_map]
    rfl
  rw [e2]
  exact ret_of h
def pKey (q : D × List D) : D := .tup [mKey q.1, .tup (q.2.map vKey)]
def rKey (r : Rsn) : D := .tup (r.map pKey)
theorem pKey_inj {p q : D × List D} (h : prOk p) (k : prOk q) (e : pKey p = pKey q) : p = q := by
  obtain ⟨a, b⟩ := p
  obtain ⟨c, d⟩ := q
  simp only [pKey, D.tup.injEq, List.cons.injEq, and_true] at e
  have e1 : a = c := mKey_inj h.1 k.1 e.1
  have e2 : b = d := row_inj h.2 k.2 e.2
  rw [e1, e2]
theorem pKeys_inj : ∀ {r s : Rsn}, rsOk r → rsOk s → r.map pKey = s.map pKey → r = s
  | [], [], _, _, _ => rfl
  | [], _ :: _, _, _, e => by cases e
  | _ :: _, [], _, _, e => by cases e
  | p :: r, q :: s, h, k, e => by
    rw [List.map_cons, List.map_cons] at e
    injection e with e1 e2
    rw [pKey_inj (h p (by simp)) (k q (by simp)) e1, pKeys_inj (fun u hu => h u (by simp [hu])) (fun u hu => k u (by simp [hu])) e2]
theorem rKey_inj {r s : Rsn} (h : rsOk r) (k : rsOk s) (e : rKey r = rKey s) : r = s := by
  unfold rKey at e
  injection e with e
  exact pKeys_inj h k e
theorem pKey_alike {p q : D × List D} (h : prOk p) (k : prOk q) : PySem.W.alike (pKey p).py (pKey q).py = true := by
  have h1 := mKey_alike h.1 k.1
  have h2 := rowKey_alike h.2 k.2
  simp [pKey, D.py, D.pys, PySem.W.alike, PySem.W.alikeAll, h1, h2]
theorem rKey_alikes : ∀ {r s : Rsn}, rsOk r → rsOk s → PySem.W.alikeAll (D.pys (r.map pKey)) (D.pys (s.map pKey)) = true
  | [], s, _, _ => by simp [D.pys, PySem.W.alikeAll]
  | p :: r, [], _, _ => by simp [D.pys, PySem.W.alikeAll]
  | p :: r, q :: s, h, k => by
    simp only [List.map_cons, D.pys, PySem.W.alikeAll, Bool.and_eq_true]
    exact ⟨pKey_alike (h p (by simp)) (k q (by simp)), rKey_alikes (fun u hu => h u (by simp [hu])) fun u hu => k u (by simp [hu])⟩
theorem rKey_alike {r s : Rsn} (h : rsOk r) (k : rsOk s) : PySem.W.alike (rKey r).py (rKey s).py = true := by
  unfold rKey
  rw [D.py, D.py, PySem.W.alike]
  exact rKey_alikes h k
theorem pKey_pl {q : D × List D} (h : prOk q) : pln (pKey q) = true := by
  show (pln (mKey q.1) && (plns (q.2.map vKey) && true)) = true
  rw [mKey_pl h.1, rowK_pl h.2]
  rfl
theorem rKey_pl {r : Rsn} (h : rsOk r) : pln (rKey r) = true := by
  show plns (r.map pKey) = true
  exact plns_iff.mpr fun x hx => by
    obtain ⟨q, hq, rfl⟩ := List.mem_map.mp hx
    exact pKey_pl (h q hq)
theorem rKey_tri {r s : Rsn} (h : rsOk r) (k : rsOk s) (z : dlt (rKey r) (rKey s) = false) (y : dlt (rKey s) (rKey r) = false) : r = s :=
  rKey_inj h k ((eqv_pl _ _ (rKey_pl h) (rKey_pl k)).mp (dlt_tri (rKey_alike h k) z y))
theorem pKey_ok {q : D × List D} (h : prOk q) (n : Nat) : dOk (n + 4) (pKey q) = true := by
  unfold pKey
  rw [dOk_tup, List.all_cons, List.all_cons, List.all_nil, mKey_ok h.1 n, dOk_tup, rowK_ok h.2]
  rfl
theorem rKey_ok {r : Rsn} (h : rsOk r) (n : Nat) : dOk (n + 5) (rKey r) = true := by
  unfold rKey
  rw [dOk_tup, List.all_map]
  exact List.all_eq_true.mpr fun q hq => pKey_ok (h q hq) n
abbrev sp_l_pair_key : DSp := ar1 fun a M Q => ∃ q, a = prD q ∧ prOk q ∧ Q (pKey q) M
theorem ok_l_pair_key (F : Def K mg "_law_pair_key" s_l_pair_key ["pair"]) (B : Bi K mg) (I : Im mg) (c_l_row_key : Cal P w K mg base 2 "_law_row_key" ["row"] sp_l_row_key) (c_l_mark_key : Cal P w K mg base 3 "_law_mark_key" ["mark"] sp_l_mark_key) : Cal P w K mg base 4 "_law_pair_key" ["pair"] sp_l_pair_key := by
  have sc := sc_l_pair_key
  refine F.cal sc (fun ds M Q h => len1 h) (fun f cdv A outer s H E hr => (ds_one (ds_ret (d_tup (da_cons (d_call c_l_mark_key (hr.mono (by first | decide | omega)) rfl (da_cons (d_ix x_ix (d_v 0) d_int (fun _ _ => rfl)) da_nil)) (da_cons (d_call c_l_row_key (hr.mono (by first | decide | omega)) rfl (da_cons (d_ix x_ix (d_v 0) d_int (fun _ _ => rfl)) da_nil)) da_nil)))))) (fun ds M Q h => ?_)
  obtain ⟨a, rfl, ⟨m, r⟩, rfl, ⟨hm, hr⟩, h⟩ := h
  obtain ⟨mk, em, hmk⟩ := hm
  have em : m = mkD mk := em
  subst em
  have hr : ∀ v ∈ r, isV v := hr
  walk_at "rd"
  refine ⟨_, items_prD, _, atI_0 _ _, mk, rfl, hmk, _, items_prD, _, rfl, r, rfl, hr, ret_of h⟩
abbrev sp_l_reason_key : DSp := ar1 fun a M Q => ∃ r : Rsn, a = rsD r ∧ rsOk r ∧ Q (rKey r) M
theorem ok_l_reason_key (F : Def K mg "_law_reason_key" s_l_reason_key ["reason"]) (B : Bi K mg) (I : Im mg) (c_l_pair_key : Cal P w K mg base 4 "_law_pair_key" ["pair"] sp_l_pair_key) : Cal P w K mg base 5 "_law_reason_key" ["reason"] sp_l_reason_key := by
  have sc := sc_l_reason_key
  refine F.cal sc (fun ds M Q h => len1 h) (fun f cdv A outer s H E hr => (ds_one (ds_ret (d_ct c_tuple rfl B.b_tuple boot_tuple (da_cons (d_lcF rfl sc.nd (own := [("pair", 1)]) (di_seq (d_v 0)) (blkOk_by (N := N_l_reason_key) (sc := defScope s_l_reason_key) (by decide +kernel)) (by decide) (fun _ _ _ _ _ => (dg_name (i := 1) sc.nd rfl (Or.inl rfl))) (fun _ _ _ _ _ => dts_nil) (fun _ _ _ _ _ => (d_call c_l_pair_key (hr.mono (by first | decide | omega)) rfl (da_cons (d_v 1) da_nil)))) da_nil))))) (fun ds M Q h => ?_)
  obtain ⟨a, rfl, r, rfl, hr, h⟩ := h
  walk_at "rd"
  refine ⟨_, items_rsD, fun _ => ?_⟩
  refine lc_map r prD pKey rfl srcV_none (fun q hq M5 l5 C1 h5 => ?_) fun p5 hp5 => ?_
  · walk_at "rd"
    exact ⟨q, rfl, hr q hq, h5⟩
  rw [mdel_mput hp5]
  exact ret_of h
abbrev sp_l_member_key : DSp := ar1 fun a M Q => ∃ r : Rsn, a = rsD r ∧ rsOk r ∧ Q (rKey r) M
theorem len_rsD (r : Rsn) (M : DM) : dLenOf (rsD r) M = some r.length := by
  have := len_items (items_rsD (r := r) (M := M))
  rw [List.length_map] at this
  exact this
theorem ok_l_member_key (F : Def K mg "_law_member_key" s_l_member_key ["member"]) (B : Bi K mg) (I : Im mg) (c_l_reason_key : Cal P w K mg base 5 "_law_reason_key" ["reason"] sp_l_reason_key) : Cal P w K mg base 6 "_law_member_key" ["member"] sp_l_member_key := by
  have sc := sc_l_member_key
  refine F.cal sc (fun ds M Q h => len1 h) (fun f cdv A outer s H E hr => (ds_cons (ds_if (dt_w (dw_and (dt_cmp o_gt (d_cb c_len rfl B.b_len boot_len (da_cons (d_v 0) da_nil)) d_int (nomark _)) (dw_and1 (dt_val (d_cb c_is rfl B.b_isinstance boot_isinstance (da_cons (d_ix x_ix (d_v 0) d_int (fun _ _ => rfl)) (da_cons (d_ty rfl B.b_tuple boot_tuple) da_nil)))))))
    (ds_one (ds_ret (d_call c_l_reason_key (hr.mono (by first | decide | omega)) rfl (da_cons (d_v 0) da_nil))))
    ds_nil)
    (ds_one (ds_ret (d_v 0))))) (fun ds M Q h => ?_)
  obtain ⟨a, rfl, r, rfl, hr, h⟩ := h
  cases r with
  | nil =>
    walk_at "rd"
    refine ⟨_, len_rsD _ _, ?_⟩
    rw [if_neg (by simp)]
    exact ret_of h
  | cons q r =>
    walk_at "rd"
    refine ⟨_, len_rsD _ _, ?_⟩
    rw [if_pos (by simp)]
    refine ⟨_, items_rsD, _, atI_0 _ _, "tuple", rfl, ?_⟩
    rw [if_pos (by decide)]
    exact ⟨q :: r, rfl, hr, ret_of h⟩
/-- the key of a reason that is data -/
def rKeyD : D → D
  | .tup ps => .tup (ps.map fun p => match p with
    | .tup [m, .tup r] => .tup [mKey m, .tup (r.map vKey)]
    | d => d)
  | d => d
theorem rKeyD_rs (r : Rsn) : rKeyD (rsD r) = rKey r := by
  show D.tup ((r.map prD).map _) = .tup (r.map pKey)
  rw [List.map_map]
  rfl
theorem rs_sortK {rs : List Rsn} (h : ∀ r ∈ rs, rsOk r) : PySem.W.AllAlike (((rs.map rsD).map rKeyD).map D.py) ∧ SortOk (((rs.map rsD).map rKeyD).map D.py) ∧ ((rs.map rsD).map rKeyD).all (dOk 32) = true := by
  have each : ∀ x ∈ (rs.map rsD).map rKeyD, ∃ r, rsOk r ∧ x = rKey r := fun x hx => by
    simp only [List.mem_map] at hx
    obtain ⟨_, ⟨r, hr, rfl⟩, rfl⟩ := hx
    exact ⟨r, h r hr, rKeyD_rs r⟩
  refine ⟨?_, .inr fun d hd => ?_, ?_⟩
  · intro d hd d' hd'
    obtain ⟨x, hx, rfl⟩ := List.mem_map.mp hd
    obtain ⟨y, hy, rfl⟩ := List.mem_map.mp hd'
    obtain ⟨r, hr, rfl⟩ := each x hx
    obtain ⟨s, hs, rfl⟩ := each y hy
    exact rKey_alike hr hs
  · obtain ⟨x, hx, rfl⟩ := List.mem_map.mp hd
    obtain ⟨r, hr, rfl⟩ := each x hx
    exact ⟨_, by rw [rKey, D.py]⟩
  · refine List.all_eq_true.mpr fun x hx => ?_
    obtain ⟨r, hr, rfl⟩ := each x hx
    exact rKey_ok hr 27
theorem subR_refl (r : Rsn) : subR r r = true := subR_iff.mpr fun _ h => h
theorem nodup_sub {r s : Rsn} (hr : r.Nodup) (h : ∀ q ∈ r, q ∈ s) (hl : s.length ≤ r.length) (hs : s.Nodup) : ∀ q ∈ s, q ∈ r := by
  intro q hq
  refine Classical.byContradiction fun c => ?_
  have z := List.Nodup.length_le_of_subset (l₁ := q :: r) (l₂ := s) (List.nodup_cons.mpr ⟨c, hr⟩) fun x hx => by
    rcases List.mem_cons.mp hx with rfl | hx
    · exact hq
    · exact h x hx
  rw [List.length_cons] at z
  omega
/-- the least reasons -/
structure ThinOk (ms ts : List Rsn) : Prop where
  mem : ∀ t ∈ ts, t ∈ ms
  cov : ∀ m ∈ ms, ∃ t ∈ ts, subR t m = true
  anti : ts.Pairwise fun a b => subR a b = false ∧ subR b a = false
  ord : ts.Pairwise fun a b => dlt (rKey a) (rKey b) = true
  len : ts.length ≤ ms.length
def reD (rs : List Rsn) : D := .tup (rs.map rsD)
abbrev sp_l_thin : DSp := ar1 fun a M Q => ∃ ms : List Rsn, dItems a M = some (ms.map rsD) ∧ a ≠ .tup (ms.map rsD) ∧ ms.length ≤ 1000 ∧ (∀ m ∈ ms, rsOk m ∧ m.Nodup ∧ m.length ≤ 1000) ∧ ∀ ts, ThinOk ms ts → Q (reD ts) M
theorem ok_l_thin (F : Def K mg "_law_thin" s_l_thin ["members"]) (B : Bi K mg) (I : Im mg) (c_l_is_part : Cal P w K mg base 1 "_law_is_part" ["small", "large"] sp_l_is_part) (c_l_member_key : Cal P w K mg base 6 "_law_member_key" ["member"] sp_l_member_key) : Cal P w K mg base 9 "_law_thin" ["members"] sp_l_thin := by
  have sc := sc_l_thin
  refine F.cal sc (fun ds M Q h => len1 h) (fun f cdv A outer s H E hr => (ds_cons (ds_set (i := 1) sc.nd rfl (Or.inl rfl) (d_lst da_nil))
    (ds_cons (ds_for PassesOwn.never rfl (di_seq (d_fz (d_sortLen (k := 0) (hr.mono (by first | decide | omega)).in1.in1 rfl B.b_len rfl B.b_sorted (d_v 0)))) (dg_name (i := 2) sc.nd rfl (Or.inr rfl))
    (ds_one (ds_if (dt_cmp (o_notin (hu_in hr)) d_bl (d_lcF rfl sc.nd (own := [("other", 3)]) (di_seq (d_v 1)) (blkOk_by (N := N_l_thin) (sc := defScope s_l_thin) (by decide +kernel)) (by decide) (fun _ _ _ _ _ => (dg_name (i := 3) sc.nd rfl (Or.inl rfl))) (fun _ _ _ _ _ => dts_nil) (fun _ _ _ _ _ => (d_call c_l_is_part (hr.mono (by first | decide | omega)) rfl (da_cons (d_v 3) (da_cons (d_v 2) da_nil))))) rfl)
    (ds_one (ds_expr (d_mt PySem.F.slot_list_append PySem.F.type_list_append m_append (d_v 1) (da_cons (d_v 2) da_nil))))
    ds_nil)))
    (ds_one (ds_ret (d_ct c_tuple rfl B.b_tuple boot_tuple (da_cons (d_fz (d_sortK c_l_member_key (hr.mono (by first | decide | omega)).in1.in1 rfl rfl B.b_sorted (da_cons (d_v 1) da_nil))) da_nil))))))) (fun ds M Q h => ?_)
  obtain ⟨a, rfl, ms, ha, hat, hml, hm, h⟩ := h
  walk_at "st"
  intro q hq
  have ha2 := items_up ha (MLe.put (o := .lst []) (.refl M) hq)
  have emm : ms.map rsD = (ms.map fun m => m.map prD).map D.tup := by rw [List.map_map]; rfl
  walk_at "st"
  refine ⟨ms.map fun m => m.map prD, by rw [← emm]; exact ha2, by rw [← emm]; exact hat, fun p1 hp1 => ?_⟩
  rw [← emm]
  obtain ⟨us, hus, hperm⟩ := perm_map rsD (xs := ms) (List.mergeSort_perm (ms.map rsD) (PySem.W.dataLe false fun x => D.py (gLen x)))
  have hord := sort_pair (fun x => gLen x) (ms.map rsD)
  rw [hus, List.pairwise_map] at hord
  have hlen : us.Pairwise fun a b => a.length ≤ b.length := hord.imp fun {a b} h => by
    have e : dlt (gLen (rsD b)) (gLen (rsD a)) = decide ((((b.map prD).length : Nat) : Int) < (((a.map prD).length : Nat) : Int)) := PySem.W.dataLt_int _ _
    rw [e, decide_eq_false_iff_not, List.length_map, List.length_map] at h
    omega
  have hul := hperm.length_eq
  have hum : ∀ m ∈ us, rsOk m ∧ m.Nodup ∧ m.length ≤ 1000 := fun m hm2 => hm m (hperm.mem_iff.mp hm2)
  refine ⟨_, rfl, fun _ => ?_⟩
  rw [mdel_mput hp1, hus]
  refine for_ind (fun items m1 M1 => ∃ (rest dn fs : List Rsn) (x2 : Option D), items = rest.map rsD ∧ dn ++ rest = us ∧ M1 = mput M q (.lst (fs.map rsD)) ∧ fs.Sublist dn ∧ (∀ m ∈ dn, ∃ t ∈ fs, subR t m = true) ∧ (fs.Pairwise fun a b => subR a b = false ∧ subR b a = false) ∧ m1 = [some a, some (.ref q), x2, none]) ?_ ?_ _ _ _ ⟨us, [], [], _, rfl, rfl, rfl, .refl _, by simp, .nil, rfl⟩
  · rintro m1 M1 ⟨rest, dn, fs, x2, hi, hd, rfl, hs, hc, han, rfl⟩
    refine ⟨srcV_none, ?_⟩
    cases rest with
    | cons x r => cases hi
    | nil =>
      rw [List.append_nil] at hd
      subst hd
      have hfo : ∀ r ∈ fs, rsOk r := fun r hr => (hum r (hs.mem hr)).1
      obtain ⟨k1, k2, k3⟩ := rs_sortK hfo
      walk_at "rd"
      refine ⟨rKeyD, fun x hx Q' hq' => ?_, k3, k1, k2, fun p2 hp2 => ?_⟩
      · obtain ⟨r, hr, rfl⟩ := List.mem_map.mp hx
        rw [rKeyD_rs] at hq'
        exact ⟨r, rfl, hfo r hr, hq'⟩
      obtain ⟨ts, hts, hp3⟩ := perm_map rsD (xs := fs) (List.mergeSort_perm (fs.map rsD) (PySem.W.dataLe false fun x => D.py (rKeyD x)))
      have ho2 := sort_pair (fun x => rKeyD x) (fs.map rsD)
      rw [hts, List.pairwise_map] at ho2
      refine ⟨_, rfl, ?_⟩
      rw [mdel_mput hp2, hts]
      have hsym : ∀ {a b : Rsn}, (subR a b = false ∧ subR b a = false) → (subR b a = false ∧ subR a b = false) := fun h => ⟨h.2, h.1⟩
      have han2 : ts.Pairwise fun a b => subR a b = false ∧ subR b a = false := hp3.symm.pairwise han fun {a b} => hsym
      refine ret_le (.put (.refl M) hq) (h ts ⟨fun t ht => hperm.mem_iff.mp (hs.mem (hp3.mem_iff.mp ht)), fun m hm2 => ?_, han2, ?_, ?_⟩)
      · obtain ⟨t, h1, h2⟩ := hc m (hperm.mem_iff.mpr hm2)
        exact ⟨t, hp3.mem_iff.mpr h1, h2⟩
      · refine (ho2.and han2).imp_of_mem fun {a b} ha9 hb9 ⟨h1, h2⟩ => ?_
        rw [rKeyD_rs, rKeyD_rs] at h1
        cases e9 : dlt (rKey a) (rKey b) with
        | true => rfl
        | false =>
          have e10 := rKey_tri (hfo a (hp3.mem_iff.mp ha9)) (hfo b (hp3.mem_iff.mp hb9)) e9 h1
          rw [e10, subR_refl] at h2
          cases h2.1
      · rw [hp3.length_eq]
        exact Nat.le_trans hs.length_le (by omega)
  · rintro z items m1 M1 Cn hC ⟨rest, dn, fs, x2, hi, hd, rfl, hs, hc, han, rfl⟩
    refine ⟨srcV_none, ?_⟩
    cases rest with
    | nil => cases hi
    | cons r rest =>
      rw [List.map_cons] at hi
      injection hi with h1 h2
      subst h1
      subst h2
      obtain ⟨hro, hrn, hrl⟩ := hum r (by rw [← hd]; simp)
      have hfm : ∀ t ∈ fs, t ∈ us := fun t ht => by rw [← hd]; exact List.mem_append_left _ (hs.mem ht)
      have hfl : fs.length ≤ 1000 := by
        have h8 := hs.length_le
        have h9 := congrArg List.length hd
        rw [List.length_append] at h9
        omega
      walk_at "s1"
      intro _
      refine lc_map fs rsD (fun t => D.bl (subR t r)) rfl (srcV_it (a := .ref q) (by rw [dItems_rf, mput_same])) (fun t ht M5 l5 C1 h5 => ?_) fun p5 hp5 => ?_
      · obtain ⟨hto, _, htl⟩ := hum t (hfm t ht)
        walk_at "rd"
        exact ⟨t, items_rsD, r, items_rsD, hto, hro, htl, h5⟩
      rw [mdel_mput hp5]
      have eb : (fs.map fun t => D.bl (subR t r)) = (fs.map fun t => subR t r).map D.bl := by rw [List.map_map]; rfl
      rw [eb, any_tr]
      refine ⟨bls_ok _ 63, ?_⟩
      have hd2 : (dn ++ [r]) ++ rest = us := by rw [← hd]; simp
      split
      · next c =>
        rw [List.any_map, List.any_eq_false] at c
        have c2 : ∀ t ∈ fs, subR t r = false := fun t ht => Bool.eq_false_iff.mpr fun e => c t ht e
        refine ⟨⟨_, by rw [mput_same]⟩, _, mput_same, by rw [List.length_map]; omega, ?_⟩
        rw [mput_mput]
        refine fg_of (hC _ _ ⟨rest, dn ++ [r], fs ++ [r], _, rfl, hd2, by rw [List.map_append]; rfl, hs.append (.refl _), fun m hm2 => ?_, ?_, rfl⟩)
        · rcases List.mem_append.mp hm2 with hm2 | hm2
          · obtain ⟨t, h1, h2⟩ := hc m hm2
            exact ⟨t, by simp [h1], h2⟩
          · rw [List.mem_singleton.mp hm2]
            exact ⟨r, by simp, subR_refl r⟩
        · refine List.pairwise_append.mpr ⟨han, List.pairwise_singleton _ _, fun t ht u hu => ?_⟩
          rw [List.mem_singleton.mp hu]
          refine ⟨c2 t ht, Bool.eq_false_iff.mpr fun e => ?_⟩
          have hlt : t.length ≤ r.length := by
            rw [← hd, List.pairwise_append] at hlen
            exact hlen.2.2 t (hs.mem ht) r (by simp)
          have z := nodup_sub hrn (subR_iff.mp e) hlt (hum t (hfm t ht)).2.1
          have := c2 t ht
          rw [subR_iff.mpr z] at this
          cases this
      · next c =>
        have c1 : ((fs.map fun t => subR t r).any id) = true := by
          cases e : (fs.map fun t => subR t r).any id with
          | true => rfl
          | false => exact absurd e c
        rw [List.any_map, List.any_eq_true] at c1
        obtain ⟨t, ht, e⟩ := c1
        refine fg_of (hC _ _ ⟨rest, dn ++ [r], fs, _, rfl, hd2, rfl, hs.trans (List.sublist_append_left ..), fun m hm2 => ?_, han, rfl⟩)
        rcases List.mem_append.mp hm2 with hm2 | hm2
        · exact hc m hm2
        · rw [List.mem_singleton.mp hm2]
          exact ⟨t, ht, e⟩
/-! ### reasons as the laws draw them -/
def RsnOk (ds : List Dbt) (r : Rsn) : Prop := (r.map (·.1)).Sublist (ds.map (·.1)) ∧ ∀ q ∈ r, ∃ d ∈ ds, d.1 = q.1 ∧ q.2 ∈ rowsOf d
theorem RsnOk.ok {ds : List Dbt} (hds : ∀ d ∈ ds, dbW d) {r : Rsn} (h : RsnOk ds r) : rsOk r := fun q hq => by
  obtain ⟨d, h1, h2, h3⟩ := h.2 q hq
  rw [prOk, ← h2]
  exact ⟨(hds d h1).mark, ((hds d h1).row _ h3).2⟩
theorem RsnOk.nd {ds : List Dbt} (hn : (ds.map (·.1)).Nodup) {r : Rsn} (h : RsnOk ds r) : r.Nodup := by
  have z : (r.map (·.1)).Nodup := hn.sublist h.1
  exact (List.pairwise_map.mp z).imp fun hne e => hne (by rw [e])
/-- ints, sorted -/
theorem sort_ints (ns : List Int) : ∃ ks : List Int, srtD (ns.map D.int) = ks.map D.int ∧ ks.Perm ns ∧ ks.Pairwise (· ≤ ·) := by
  obtain ⟨ks, e, p⟩ := perm_map D.int (xs := ns) (srtD_perm (ns.map D.int))
  refine ⟨ks, e, p, ?_⟩
  have z := sort_pair (fun x => x) (ns.map D.int)
  have e2 : ((ns.map D.int).mergeSort (PySem.W.dataLe false fun x => D.py x)) = ks.map D.int := e
  rw [e2, List.pairwise_map] at z
  refine z.imp fun {a b} h => ?_
  have e3 : dlt (.int b) (.int a) = decide (b < a) := PySem.W.dataLt_int _ _
  rw [e3, decide_eq_false_iff_not] at h
  omega
theorem ints_sortOk (ns : List Int) : (ns.map D.int).all (dOk 32) = true ∧ PySem.W.AllAlike ((ns.map D.int).map D.py) ∧ PySem.W.Sortable ((ns.map D.int).map D.py) := by
  have each : ∀ d ∈ (ns.map D.int).map D.py, ∃ i : Int, d = .int i := fun d hd => by
    rw [List.map_map] at hd
    obtain ⟨i, _, rfl⟩ := List.mem_map.mp hd
    exact ⟨i, rfl⟩
  refine ⟨?_, fun d hd d' hd' => ?_, .inr fun d hd => ?_⟩
  · rw [List.all_map]
    exact List.all_eq_true.mpr fun i _ => by simp
  · obtain ⟨i, rfl⟩ := each d hd
    obtain ⟨j, rfl⟩ := each d' hd'
    simp [PySem.W.alike]
  · obtain ⟨i, rfl⟩ := each d hd
    exact ⟨(fun z => by cases z), fun xs z => by cases z⟩
theorem incr_sub {α : Type} (d : α) : ∀ (l : List α) (js : List Nat) (off : Nat), js.Pairwise (· < ·) → (∀ j ∈ js, off ≤ j ∧ j < off + l.length) → (js.map fun j => l.getD (j - off) d).Sublist l
  | l, [], _, _, _ => List.nil_sublist l
  | [], j :: js, off, _, h => by
    have := h j (by simp)
    simp at this
    omega
  | x :: l, j :: js, off, hp, h => by
    rw [List.pairwise_cons] at hp
    obtain ⟨h1, h2⟩ := h j (by simp)
    have step : ∀ ks : List Nat, ks.Pairwise (· < ·) → (∀ k ∈ ks, off + 1 ≤ k ∧ k < off + 1 + l.length) → (ks.map fun k => (x :: l).getD (k - off) d).Sublist l := fun ks hk hks => by
      have z := incr_sub d l ks (off + 1) hk hks
      have e : (ks.map fun k => (x :: l).getD (k - off) d) = ks.map fun k => l.getD (k - (off + 1)) d := List.map_congr_left fun k hk2 => by
        have := (hks k hk2).1
        rw [show k - off = (k - (off + 1)) + 1 by omega]
        rfl
      rw [e]
      exact z
    by_cases c : j = off
    · rw [List.map_cons, c, Nat.sub_self]
      refine List.Sublist.cons₂ x (step js hp.2 fun k hk => ?_)
      have a1 := hp.1 k hk
      have a2 := (h k (by simp [hk])).2
      rw [List.length_cons] at a2
      omega
    · refine List.Sublist.cons x (step (j :: js) (List.pairwise_cons.mpr hp) fun k hk => ?_)
      have a2 := (h k hk).2
      rw [List.length_cons] at a2
      rcases List.mem_cons.mp hk with rfl | hk
      · omega
      · have a1 := hp.1 k hk
        omega
abbrev sp_l_drawn_reason : DSp := ar3 fun a b c M Q => ∃ (p : Addr) (ds : List Dbt) (k : Nat), a = .ref p ∧ b = .tup (ds.map dbD) ∧ c = .int (k : Nat) ∧ 1 ≤ k ∧ k ≤ 10 ∧ ds ≠ [] ∧ ds.length ≤ 20 ∧ (∀ d ∈ ds, dbW d) ∧ Dr M p ∧ ∀ (o : DO) (r : Rsn), DrO o → RsnOk ds r → r ≠ [] → r.length ≤ k → Q (rsD r) (mput M p o)
theorem ok_l_drawn_reason (F : Def K mg "_law_drawn_reason" s_l_drawn_reason ["draws", "doubts", "width"]) (B : Bi K mg) (I : Im mg) (c_l_take : Cal P w K mg base 1 "_law_take" ["draws", "many"] sp_l_take) (c_l_pick : Cal P w K mg base 2 "_law_pick" ["draws", "row"] sp_l_pick) : Cal P w K mg base 3 "_law_drawn_reason" ["draws", "doubts", "width"] sp_l_drawn_reason := by
  have sc := sc_l_drawn_reason
  refine F.cal sc (fun ds M Q h => len3 h) (fun f cdv A outer s H E hr => (ds_cons (ds_set (i := 3) sc.nd rfl (Or.inl rfl) (d_lrg rfl rfl B.b_list rfl B.b_range (d_cb c_len rfl B.b_len boot_len (da_cons (d_v 1) da_nil))))
    (ds_cons (ds_set (i := 4) sc.nd rfl (Or.inl rfl) (d_lst da_nil))
    (ds_cons (ds_for PassesOwn.never rfl (di_range1 rfl B.b_range (da_cons (d_op o_add d_int (d_call c_l_take (hr.mono (by first | decide | omega)) rfl (da_cons (d_v 0) (da_cons (d_v 2) da_nil)))) da_nil)) (dg_name (i := 5) sc.nd rfl (Or.inl rfl))
    (ds_one (ds_if (dt_cmp o_gt (d_cb c_len rfl B.b_len boot_len (da_cons (d_v 3) da_nil)) d_int (nomark _))
    (ds_one (ds_expr (d_mt PySem.F.slot_list_append PySem.F.type_list_append m_append (d_v 4) (da_cons (d_mt PySem.F.slot_list_pop PySem.F.type_list_pop m_popAt (d_v 3) (da_cons (d_call c_l_take (hr.mono (by first | decide | omega)) rfl (da_cons (d_v 0) (da_cons (d_cb c_len rfl B.b_len boot_len (da_cons (d_v 3) da_nil)) da_nil))) da_nil)) da_nil))))
    ds_nil)))
    (ds_one (ds_ret (d_ct c_tuple rfl B.b_tuple boot_tuple (da_cons (d_lcF rfl sc.nd (own := [("at", 6)]) (di_seq (d_fz (d_cb (c_sortD (hu_40 hr)) rfl B.b_sorted boot_sorted (da_cons (d_v 4) da_nil)))) (blkOk_by (N := N_l_drawn_reason) (sc := defScope s_l_drawn_reason) (by decide +kernel)) (by decide) (fun _ _ _ _ _ => (dg_name (i := 6) sc.nd rfl (Or.inl rfl))) (fun _ _ _ _ _ => dts_nil) (fun _ _ _ _ _ => (d_tup (da_cons (d_ix x_ix (d_ix x_ix (d_v 1) (d_v 6) (fun _ _ => rfl)) d_int (fun _ _ => rfl)) (da_cons (d_ix x_ix (d_call c_l_pick (hr.mono (by first | decide | omega)) rfl (da_cons (d_v 0) (da_cons (d_ix x_ix (d_ix x_ix (d_v 1) (d_v 6) (fun _ _ => rfl)) d_int (fun _ _ => rfl)) da_nil))) d_int (fun _ _ => rfl)) da_nil))))) da_nil)))))))) (fun ds M Q h => ?_)
  obtain ⟨a, b, c, rfl, p, ds, k, rfl, rfl, rfl, hk1, hk2, hdn, hdl, hds, ⟨o0, e0, ho0⟩, h⟩ := h
  walk_at "st"
  refine ⟨by rw [List.length_map]; omega, by rw [List.length_map]; omega, fun l hl => ?_⟩
  rw [List.length_map, Int.toNat_natCast, rangeD0]
  have hpl : p ≠ l := ne_of_fresh e0 hl
  walk_at "st"
  intro c hc
  have hlc : l ≠ c := ne_of_fresh mput_same hc
  have hpc : p ≠ c := ne_of_fresh (o := o0) (by rw [mput_ne hpl]; exact e0) hc
  have hcM : M c = none := by rw [mput_ne hlc.symm] at hc; exact hc
  have fl : ∀ o, mput M p o l = none := fun o => mput_fresh hpl hl
  have fc : ∀ o, mput M p o c = none := fun o => mput_fresh hpc hcM
  obtain ⟨bV, hbV⟩ : ∃ z, z = D.tup (ds.map dbD) := ⟨_, rfl⟩
  rw [← hbV]
  walk_at "st"
  refine ⟨⟨o0, by rw [mput_ne hpc, mput_ne hpl]; exact e0, ho0⟩, by omega, fun o1 r1 ho1 r10 r11 => ?_⟩
  obtain ⟨n, rfl⟩ := Int.eq_ofNat_of_zero_le r10
  refine ⟨by omega, by omega, fun _ => ?_⟩
  rw [show ((1 : Int) + (n : Int)).toNat = n + 1 by omega]
  have iN : ∀ i : Nat, D.int ((i : Nat) : Int) = (fun k : Nat => D.int ((k : Nat) : Int)) i := fun _ => rfl
  obtain ⟨nI, hnI⟩ : ∃ f : Nat → D, f = fun k : Nat => D.int ((k : Nat) : Int) := ⟨_, rfl⟩
  rw [← hnI]
  refine for_ind (fun items m1 M1 => ∃ (o : DO) (j : Nat) (ls cs : List Nat) (x5 : Option D), items = rangeD (j : Int) (n + 1 - j) ∧ j ≤ n + 1 ∧ DrO o ∧ (ls ++ cs).Nodup ∧ (∀ i ∈ ls ++ cs, i < ds.length) ∧ cs.length ≤ j ∧ (ls.length + cs.length = ds.length) ∧ (0 < j → cs ≠ []) ∧ MLe (mput M p o) M1 ∧ M1 l = some (.lst (ls.map nI)) ∧ M1 c = some (.lst (cs.map nI)) ∧
    m1 = [some (.ref p), some bV, some (.int (k : Nat)), some (.ref l), some (.ref c), x5, none]) ?_ ?_ _ _ _ ⟨o1, 0, List.range ds.length, [], _, rfl, by omega, ho1, by rw [List.append_nil]; exact List.nodup_range, fun i hi => by simpa using hi, by simp, by simp, fun z => by omega, ?_, ?_, ?_, rfl⟩
  · rintro m1 M1 ⟨o, j, ls, cs, x5, hi, hj, ho, hnd, hlt, hcl, hsum, hcn, hle, hMl, hMc, rfl⟩
    refine ⟨srcV_none, ?_⟩
    have hjn : j = n + 1 := by
      rcases Nat.lt_or_ge j (n + 1) with z | z
      · rw [show n + 1 - j = (n + 1 - (j + 1)) + 1 by omega, rangeD_cons] at hi
        cases hi
      · omega
    walk_at "rd"
    have hcI : cs.map nI = (cs.map fun i => ((i : Nat) : Int)).map D.int := by rw [List.map_map, hnI]; rfl
    obtain ⟨s1, s2, s3⟩ := ints_sortOk (cs.map fun i => ((i : Nat) : Int))
    refine ⟨_, by rw [hMc], by rw [hcI]; exact s1, by rw [hcI]; exact s2, by rw [hcI]; exact s3, fun p1 hp1 => ⟨_, rfl, fun _ => ?_⟩⟩
    rw [mdel_mput hp1, hcI]
    obtain ⟨ks, e1, e2, e3⟩ := sort_ints (cs.map fun i => ((i : Nat) : Int))
    obtain ⟨js, rfl, hjp⟩ := perm_map (fun i : Nat => ((i : Nat) : Int)) e2
    rw [e1]
    have hcn2 : cs.Nodup := (List.nodup_append.mp hnd).2.1
    have hjs : js.Pairwise (· < ·) := by
      rw [List.pairwise_map] at e3
      refine (e3.and (hjp.nodup_iff.mpr hcn2)).imp fun {a b} ⟨h1, h2⟩ => ?_
      omega
    have hjl : ∀ j ∈ js, j < ds.length := fun j hj => hlt j (List.mem_append_right _ (hjp.mem_iff.mp hj))
    rw [← mput_self (hle _ _ mput_same)]
    have d0 : Dbt := (.non, [])
    refine lc_drawT (fun j : Nat => D.int ((j : Nat) : Int)) prD (fun j q => q.1 = (ds.getD j d0).1 ∧ q.2 ∈ rowsOf (ds.getD j d0)) (by rw [List.map_map]; rfl) rfl ho (fun j hj r lo o2 hpr hr2 ho2 C1 h1 => ?_) fun r o2 qs hpr hr2 ho2 hP => ?_
    · have hj2 := hjl j hj
      have hat : atI (ds.map dbD) (j : Int) = some (dbD (ds.getD j d0)) := by
        rw [at_get dbD hj2]
        simp [List.getD_eq_getElem?_getD, List.getElem?_eq_getElem hj2]
      have hdm : ds.getD j d0 ∈ ds := by
        rw [List.getD_eq_getElem?_getD, List.getElem?_eq_getElem hj2]
        exact List.getElem_mem _
      obtain ⟨d, hd⟩ : ∃ d, d = ds.getD j d0 := ⟨_, rfl⟩
      rw [← hd] at hat hdm h1
      have hdd := hds d hdm
      have hdn2 : ¬ d.2.map opD = [] := fun e => by have := hdd.pos; rw [List.map_eq_nil_iff.mp e] at this; cases this
      subst hbV
      walk_at "rd"
      refine ⟨_, hat, _, rfl, _, atI_0 _ _, _, hat, _, rfl, _, rfl, _, rfl, by simp, dr_ne (dr_put ho2) hpr, hdn2, fun o3 y ho3 hy => ?_⟩
      obtain ⟨u, hu, rfl⟩ := List.mem_map.mp hy
      rw [mput_swap hpr]
      exact ⟨_, items_opD, _, atI_0 _ _, h1 o3 (d.1, u.1) ho3 ⟨rfl, List.mem_map.mpr ⟨u, hu, rfl⟩⟩⟩
    rw [mdel_mput hr2]
    have hq1 : qs.map (·.1) = js.map fun j => (ds.getD j d0).1 := Paired.map_eq (fun j => (ds.getD j d0).1) (fun q : D × List D => q.1) (fun x y h => h.1) hP
    refine ret_le ?_ (h o2 qs ho2 ⟨?_, fun q hq => ?_⟩ ?_ ?_)
    · have z := hle.both (a := p) (o := o2)
      rwa [mput_mput] at z
    · rw [hq1]
      have z := (incr_sub d0 ds js 0 hjs fun j hj => ⟨Nat.zero_le _, by have := hjl j hj; omega⟩).map (·.1)
      rw [List.map_map] at z
      exact z
    · obtain ⟨j, hj, h1, h2⟩ := Paired.mem_right hP q hq
      have hj2 := hjl j hj
      refine ⟨ds.getD j d0, ?_, h1.symm, h2⟩
      rw [List.getD_eq_getElem?_getD, List.getElem?_eq_getElem hj2]
      exact List.getElem_mem _
    · intro e
      have := Paired.len hP
      rw [e, hjp.length_eq] at this
      exact hcn (by omega) (List.length_eq_zero_iff.mp this)
    · rw [← Paired.len hP, hjp.length_eq]
      omega
  · rintro z items m1 M1 Cn hC ⟨o, j, ls, cs, x5, hi, hj, ho, hnd, hlt, hcl, hsum, hcn, hle, hMl, hMc, rfl⟩
    refine ⟨srcV_none, ?_⟩
    have hj2 : j < n + 1 := by
      rcases Nat.lt_or_ge j (n + 1) with z | z
      · exact z
      · rw [show n + 1 - j = 0 by omega] at hi
        simp [rangeD] at hi
    rw [show n + 1 - j = (n + 1 - (j + 1)) + 1 by omega, rangeD_cons] at hi
    injection hi with h1 h2
    subst h1
    subst h2
    walk_at "rd"
    have hlen : (match M1 l with | some (DO.lst xs) => some xs.length | x => none) = some (ls.map nI).length := by rw [hMl]
    refine ⟨_, hlen, ?_⟩
    rw [List.length_map]
    split
    · next c0 =>
      have hlp : 0 < ls.length := by omega
      refine ⟨⟨_, by rw [hMc]⟩, ⟨_, by rw [hMl]⟩, _, hlen, ⟨o, hle _ _ mput_same, ho⟩, by rw [List.length_map]; omega, fun o2 r2 ho2 r20 r21 => ?_⟩
      obtain ⟨i, rfl⟩ := Int.eq_ofNat_of_zero_le r20
      rw [List.length_map] at r21
      have hi : i < ls.length := by omega
      refine ⟨_, i, rfl, by rw [mput_ne hpl.symm]; exact hMl, nI ls[i], by rw [List.getElem?_map, List.getElem?_eq_getElem hi]; rfl, _, by rw [mput_ne hlc.symm, mput_ne hpc.symm]; exact hMc, by rw [List.length_map]; omega, ?_⟩
      have hle2 : MLe (mput M p o2) (mput M1 p o2) := by
        have z := hle.both (a := p) (o := o2)
        rwa [mput_mput] at z
      have hpe := erase_perm ls i hi
      have e1 : (ls.map nI).eraseIdx i = (ls.eraseIdx i).map nI := map_erase nI ls i
      have e2 : cs.map nI ++ [nI ls[i]] = (cs ++ [ls[i]]).map nI := by rw [List.map_append]; rfl
      rw [e1, e2]
      have hp9 : (ls.eraseIdx i ++ (cs ++ [ls[i]])).Perm (ls ++ cs) := by
        refine List.Perm.trans ?_ (hpe.symm.append_right cs)
        rw [← List.append_assoc]
        exact List.perm_append_comm
      refine fg_of (hC _ _ ⟨o2, j + 1, ls.eraseIdx i, cs ++ [ls[i]], _, rfl, by omega, ho2, hp9.nodup_iff.mpr hnd, fun u hu => hlt u (hp9.mem_iff.mp hu), by rw [List.length_append, List.length_singleton]; omega, ?_, fun _ => by simp, .put (.put hle2 (fl o2)) (fc o2), by rw [mput_ne hlc, mput_same], mput_same, rfl⟩)
      rw [List.length_append, List.length_singleton, List.length_eraseIdx_of_lt hi]
      omega
    · next c0 =>
      have hl0 : ls = [] := List.length_eq_zero_iff.mp (by omega)
      subst hl0
      rw [List.length_nil, Nat.zero_add] at hsum
      refine fg_of (hC _ _ ⟨o, j + 1, [], cs, _, rfl, by omega, ho, hnd, hlt, by omega, by rw [List.length_nil]; omega, fun _ e => ?_, hle, hMl, hMc, rfl⟩)
      rw [e] at hsum
      exact hdn (List.length_eq_zero_iff.mp hsum.symm)
  · exact (MLe.put (MLe.put (.refl M) hl) hcM).both
  · rw [mput_ne hpl.symm, mput_ne hlc, mput_same]
  · rw [mput_ne hpc.symm, mput_same]
    rfl
/-- reasons over doubts, in their form -/
structure RsOk (ds : List Dbt) (rs : List Rsn) : Prop where
  each : ∀ r ∈ rs, RsnOk ds r
  anti : rs.Pairwise fun a b => subR a b = false ∧ subR b a = false
  ord : rs.Pairwise fun a b => dlt (rKey a) (rKey b) = true
  len : rs.length ≤ 100
theorem RsOk.empty {ds : List Dbt} {rs : List Rsn} (h : RsOk ds rs) (he : [] ∈ rs) : rs = [[]] := by
  obtain ⟨a, b, rfl⟩ := List.append_of_mem he
  have h1 := h.anti
  rw [List.pairwise_append, List.pairwise_cons] at h1
  have ea : a = [] := by
    cases a with
    | nil => rfl
    | cons x a =>
      have := (h1.2.2 x (by simp) [] (by simp)).2
      cases this
  have eb : b = [] := by
    cases b with
    | nil => rfl
    | cons x b =>
      have := (h1.2.1.1 x (by simp)).1
      cases this
  rw [ea, eb]
  rfl
theorem RsOk.nil (ds : List Dbt) : RsOk ds [] := ⟨by simp, .nil, .nil, by simp⟩
theorem RsOk.one (ds : List Dbt) : RsOk ds [[]] := ⟨fun r hr => by rw [List.mem_singleton.mp hr]; exact ⟨List.nil_sublist _, by simp⟩, List.pairwise_singleton _ _, List.pairwise_singleton _ _, by simp⟩
theorem ThinOk.ok {ds : List Dbt} {ms ts : List Rsn} (t : ThinOk ms ts) (h : ∀ m ∈ ms, RsnOk ds m) (hl : ms.length ≤ 100) : RsOk ds ts := ⟨fun r hr => h r (t.mem r hr), t.anti, t.ord, Nat.le_trans t.len hl⟩
abbrev sp_l_drawn_reasons : DSp := ar4 fun a b c d M Q => ∃ (p : Addr) (ds : List Dbt) (n k : Nat), a = .ref p ∧ b = .tup (ds.map dbD) ∧ c = .int (n : Nat) ∧ d = .int (k : Nat) ∧ 1 ≤ n ∧ n ≤ 20 ∧ 1 ≤ k ∧ k ≤ 10 ∧ ds.length ≤ 20 ∧ (∀ d ∈ ds, dbW d) ∧ (ds.map (·.1)).Nodup ∧ Dr M p ∧ ∀ (o : DO) (rs : List Rsn), DrO o → RsOk ds rs → (∀ r ∈ rs, r.length ≤ k) → rs.length ≤ n → Q (reD rs) (mput M p o)
theorem ok_l_drawn_reasons (F : Def K mg "_law_drawn_reasons" s_l_drawn_reasons ["draws", "doubts", "many", "width"]) (B : Bi K mg) (I : Im mg) (c_l_take : Cal P w K mg base 1 "_law_take" ["draws", "many"] sp_l_take) (c_l_thin : Cal P w K mg base 9 "_law_thin" ["members"] sp_l_thin) (c_l_drawn_reason : Cal P w K mg base 3 "_law_drawn_reason" ["draws", "doubts", "width"] sp_l_drawn_reason) : Cal P w K mg base 10 "_law_drawn_reasons" ["draws", "doubts", "many", "width"] sp_l_drawn_reasons := by
  have sc := sc_l_drawn_reasons
  refine F.cal sc (fun ds M Q h => len4 h) (fun f cdv A outer s H E hr => (ds_cons (ds_set (i := 4) sc.nd rfl (Or.inl rfl) (d_call c_l_take (hr.mono (by first | decide | omega)) rfl (da_cons (d_v 0) (da_cons d_int da_nil))))
    (ds_cons (ds_if (dt_cmp (o_eq (hu_eq hr)) (d_v 4) d_int (nomark _))
    (ds_one (ds_ret (d_tup da_nil)))
    ds_nil)
    (ds_cons (ds_if (dt_w (dw_or (dt_cmp (o_eq (hu_eq hr)) (d_v 4) d_int (nomark _)) (dw_or1 (dt_cmp (o_eq (hu_eq hr)) (d_cb c_len rfl B.b_len boot_len (da_cons (d_v 1) da_nil)) d_int (nomark _)))))
    (ds_one (ds_ret (d_tup (da_cons (d_tup da_nil) da_nil))))
    ds_nil)
    (ds_one (ds_ret (d_call c_l_thin (hr.mono (by first | decide | omega)) rfl (da_cons (d_lcF rfl sc.nd (own := [("k", 5)]) (di_range1 rfl B.b_range (da_cons (d_op o_add d_int (d_call c_l_take (hr.mono (by first | decide | omega)) rfl (da_cons (d_v 0) (da_cons (d_v 2) da_nil)))) da_nil)) (blkOk_by (N := N_l_drawn_reasons) (sc := defScope s_l_drawn_reasons) (by decide +kernel)) (by decide) (fun _ _ _ _ _ => (dg_name (i := 5) sc.nd rfl (Or.inl rfl))) (fun _ _ _ _ _ => dts_nil) (fun _ _ _ _ _ => (d_call c_l_drawn_reason (hr.mono (by first | decide | omega)) rfl (da_cons (d_v 0) (da_cons (d_v 1) (da_cons (d_v 3) da_nil)))))) da_nil)))))))) (fun ds M Q h => ?_)
  obtain ⟨a, b, c, d, rfl, p, ds, n, k, rfl, rfl, rfl, rfl, hn1, hn2, hk1, hk2, hdl, hds, hnd, hdr, h⟩ := h
  walk_at "st"
  refine ⟨hdr, fun o1 r1 ho1 r10 r11 => ?_⟩
  walk_at "st"
  split
  · exact ret_of (h o1 [] ho1 (.nil ds) (by simp) (by simp))
  walk_at "st"
  split
  · exact ret_of (h o1 [[]] ho1 (.one ds) (by simp) (by simp; omega))
  split
  · exact ret_of (h o1 [[]] ho1 (.one ds) (by simp) (by simp; omega))
  next hne =>
  rw [List.length_map] at hne
  have hdn : ds ≠ [] := fun e => by rw [e] at hne; exact hne rfl
  refine ⟨dr_put ho1, by omega, fun o2 r2 ho2 r20 r21 => ⟨by omega, by omega, fun _ => ?_⟩⟩
  have hil : (rangeD 0 (1 + r2).toNat).length ≤ n := by rw [rangeD_len]; omega
  generalize rangeD 0 (1 + r2).toNat = items at hil
  refine lc_drawT (fun x : D => x) rsD (fun _ r => RsnOk ds r ∧ r.length ≤ k) (List.map_id' _).symm rfl ho2 (fun x hx r lo o3 hpr hr ho3 C1 h1 => ?_) fun r o3 ms hpr hr ho3 hP => ?_
  · walk_at "rd"
    refine ⟨ds, rfl, k, rfl, hk1, hk2, hdn, hdl, hds, dr_ne (dr_put ho3) hpr, fun o4 s ho4 hs _ hsl => ?_⟩
    rw [mput_swap hpr]
    exact h1 o4 s ho4 ⟨hs, hsl⟩
  rw [mdel_mput hr]
  have hms : ∀ m ∈ ms, RsnOk ds m ∧ m.length ≤ k := fun m hm => by
    obtain ⟨_, _, h3⟩ := Paired.mem_right hP m hm
    exact h3
  have hml : items.length = ms.length := Paired.len hP
  refine ⟨ms, rfl, by omega, fun m hm => ⟨(hms m hm).1.ok hds, (hms m hm).1.nd hnd, by have := (hms m hm).2; omega⟩, fun ts hts => ret_of (h o3 ts ho3 (hts.ok (fun m hm => (hms m hm).1) (by omega)) (fun r hr => (hms r (hts.mem r hr)).2) (by have := hts.len; omega))⟩
/-! ### whether reasons hold -/
noncomputable def holdR (rs : List Rsn) (g : Rsn) : Bool := rs.any fun r => subR r g
abbrev sp_l_holds : DSp := ar2 fun a b M Q => ∃ (rs : List Rsn) (g : Rsn), a = reD rs ∧ dItems b M = some (g.map prD) ∧ (∀ r ∈ rs, rsOk r ∧ r.length ≤ 1000) ∧ rsOk g ∧ Q (.bl (holdR rs g)) M
theorem items_reD {rs : List Rsn} {M : DM} : dItems (reD rs) M = some (rs.map rsD) := rfl
theorem ok_l_holds (F : Def K mg "_law_holds" s_l_holds ["reasons", "given"]) (B : Bi K mg) (I : Im mg) (c_l_is_part : Cal P w K mg base 1 "_law_is_part" ["small", "large"] sp_l_is_part) : Cal P w K mg base 2 "_law_holds" ["reasons", "given"] sp_l_holds := by
  have sc := sc_l_holds
  refine F.cal sc (fun ds M Q h => len2 h) (fun f cdv A outer s H E hr => (ds_cons (ds_for PassesOwn.never rfl (di_seq (d_v 0)) (dg_name (i := 2) sc.nd rfl (Or.inl rfl))
    (ds_one (ds_if (dt_val (d_call c_l_is_part (hr.mono (by first | decide | omega)) rfl (da_cons (d_v 2) (da_cons (d_v 1) da_nil))))
    (ds_one (ds_ret d_bl))
    ds_nil)))
    (ds_one (ds_ret d_bl)))) (fun ds M Q h => ?_)
  obtain ⟨a, b, rfl, rs, g, rfl, hb, hr, hg, h⟩ := h
  walk_at "st"
  refine ⟨_, items_reD, fun _ => ?_⟩
  refine for_ind (fun items m1 M1 => M1 = M ∧ ∃ (rest : List Rsn) (x2 : Option D), items = rest.map rsD ∧ (∀ r ∈ rest, r ∈ rs) ∧ holdR rest g = holdR rs g ∧ m1 = [some (reD rs), some b, x2]) ?_ ?_ _ _ _ ⟨rfl, rs, _, rfl, fun _ h => h, rfl, rfl⟩
  · rintro m1 M1 ⟨rfl, rest, x2, hi, hs, he, rfl⟩
    refine ⟨srcV_none, ?_⟩
    cases rest with
    | cons r rest => cases hi
    | nil =>
      walk_at "rd"
      rw [← he] at h
      exact ret_of h
  · rintro z its m1 M1 Cn hC ⟨rfl, rest, x2, hi, hs, he, rfl⟩
    refine ⟨srcV_none, ?_⟩
    cases rest with
    | nil => cases hi
    | cons r rest =>
      rw [List.map_cons] at hi
      injection hi with h1 h2
      subst h1
      subst h2
      obtain ⟨hro, hrl⟩ := hr r (hs r (by simp))
      walk_at "rd"
      refine ⟨r, items_rsD, g, hb, hro, hg, hrl, ?_⟩
      cases e : subR r g with
      | true =>
        rw [if_pos rfl]
        have e2 : holdR (r :: rest) g = true := by
          unfold holdR
          rw [List.any_cons, e]
          rfl
        rw [← he, e2] at h
        exact ret_of h
      | false =>
        rw [if_neg (by decide)]
        refine fg_of (hC _ _ ⟨rfl, rest, _, rfl, fun u hu => hs u (by simp [hu]), ?_, rfl⟩)
        rw [← he]
        unfold holdR
        rw [List.any_cons, e, Bool.false_or]
/-- whether reasons hold in a settling -/
noncomputable def holdS (rs : List Rsn) (σ : Sg) : Bool := rs.any fun r => r.all fun q => isR (σ q.1) q.2
theorem holdR_S {ds : List Dbt} {gs : Rsn} {σ : Sg} (hg : givs gs ds σ) {rs : List Rsn} (h : ∀ r ∈ rs, RsnOk ds r) : holdR rs gs = holdS rs σ := by
  unfold holdR holdS
  have e : ∀ r ∈ rs, subR r gs = r.all fun q => isR (σ q.1) q.2 := fun r hr => by
    unfold subR
    have e2 : ∀ q ∈ r, isIn q gs = isR (σ q.1) q.2 := fun q hq => by
      obtain ⟨d, h1, h2, h3⟩ := (h r hr).2 q hq
      refine Bool.eq_iff_iff.mpr ?_
      rw [isIn_iff, isR_iff, ← h2, ← (hg.2 d h1).2 q.2, h2]
    exact all_congr' e2
  exact any_congr' e
abbrev sp_l_truths : DSp := ar2 fun a b M Q => ∃ (ds : List Dbt) (rs : List Rsn), dItems a M = some (ds.map dbD) ∧ b = reD rs ∧ (∀ d ∈ ds, dbW d) ∧ (ds.map (·.1)).Nodup ∧ ds.length ≤ 6 ∧ (∀ r ∈ rs, RsnOk ds r) ∧ Q (.lst ((pset ds).map fun q => D.bl (holdS rs (sgo sg0 ds q.1)))) M
theorem RsnOk.len {ds : List Dbt} {r : Rsn} (h : RsnOk ds r) : r.length ≤ ds.length := by
  have := h.1.length_le
  rwa [List.length_map, List.length_map] at this
theorem ok_l_truths (F : Def K mg "_law_truths" s_l_truths ["doubts", "reasons"]) (B : Bi K mg) (I : Im mg) (c_l_all_settlings : Cal P w K mg base 1 "_law_all_settlings" ["doubts"] sp_l_all_settlings) (c_l_given : Cal P w K mg base 1 "_law_given" ["doubts", "settling"] sp_l_given) (c_l_holds : Cal P w K mg base 2 "_law_holds" ["reasons", "given"] sp_l_holds) : Cal P w K mg base 3 "_law_truths" ["doubts", "reasons"] sp_l_truths := by
  have sc := sc_l_truths
  refine F.cal sc (fun ds M Q h => len2 h) (fun f cdv A outer s H E hr => (ds_one (ds_ret (d_lcF rfl sc.nd (own := [("settling", 2)]) (di_seq (d_call c_l_all_settlings (hr.mono (by first | decide | omega)) rfl (da_cons (d_v 0) da_nil))) (blkOk_by (N := N_l_truths) (sc := defScope s_l_truths) (by decide +kernel)) (by decide) (fun _ _ _ _ _ => (dg_name (i := 2) sc.nd rfl (Or.inl rfl))) (fun _ _ _ _ _ => dts_nil) (fun _ _ _ _ _ => (d_call c_l_holds (hr.mono (by first | decide | omega)) rfl (da_cons (d_v 1) (da_cons (d_call c_l_given (hr.mono (by first | decide | omega)) rfl (da_cons (d_v 0) (da_cons (d_v 2) da_nil))) da_nil)))))))) (fun ds M Q h => ?_)
  obtain ⟨a, b, rfl, ds, rs, ha, rfl, hds, hn, hl, hrs, h⟩ := h
  walk_at "rd"
  refine ⟨ds, ha, fun d hd => ⟨(hds d hd).len, (hds d hd).wt⟩, hl, fun _ => ?_⟩
  refine lc_map (pset ds) enS (fun q => D.bl (holdS rs (sgo sg0 ds q.1))) rfl srcV_none (fun q hq M5 l5 C1 h5 => ?_) fun p5 hp5 => ?_
  · have ok := mem_pset hq
    have hg := givs_zip (σ := sg0) hds hn ok
    rw [← holdR_S hg hrs] at h5
    walk_at "rd"
    refine ⟨ds, items_up ha l5, q.1, rfl, okS_len ok, by omega, rs, rfl, _, rfl, fun r hr => ⟨(hrs r hr).ok hds, ?_⟩, hg.1, h5⟩
    have := (hrs r hr).len
    omega
  rw [mdel_mput hp5]
  exact ret_of h
/-- the doubts that reasons name -/
noncomputable def isNm (rs : List Rsn) (m : D) : Bool := @decide (∃ r ∈ rs, ∃ q ∈ r, q.1 = m) (Classical.propDecidable _)
theorem isNm_iff {rs : List Rsn} {m : D} : isNm rs m = true ↔ ∃ r ∈ rs, ∃ q ∈ r, q.1 = m := @decide_eq_true_iff _ (Classical.propDecidable _)
theorem any_mk {ms : List D} (hm : ∀ m ∈ ms, isMk m) {d : D} (hd : isMk d) : (ms.any fun z => D.eqv z d) = true ↔ d ∈ ms := by
  rw [List.any_eq_true]
  constructor
  · rintro ⟨x, hx, e⟩
    rw [← ((hm x hx).eqv hd).mp e]
    exact hx
  · exact fun h => ⟨d, h, (hd.eqv hd).mpr rfl⟩
theorem mks_ok {ms : List D} (h : ∀ m ∈ ms, isMk m) (n : Nat) : ms.all (dOk (n + 2)) = true := List.all_eq_true.mpr fun m hm => (h m hm).ok n
abbrev sp_l_named : DSp := ar2 fun a b M Q => ∃ (ds : List Dbt) (rs : List Rsn), dItems a M = some (ds.map dbD) ∧ b = reD rs ∧ (∀ d ∈ ds, dbW d) ∧ (∀ r ∈ rs, rsOk r ∧ r.length ≤ 1000) ∧ rs.length ≤ 1000 ∧ Q (.tup ((ds.filter fun d => isNm rs d.1).map dbD)) M
theorem ok_l_named (F : Def K mg "_law_named" s_l_named ["doubts", "reasons"]) (B : Bi K mg) (I : Im mg)  : Cal P w K mg base 1 "_law_named" ["doubts", "reasons"] sp_l_named := by
  have sc := sc_l_named
  refine F.cal sc (fun ds M Q h => len2 h) (fun f cdv A outer s H E hr => (ds_cons (ds_set (i := 2) sc.nd rfl (Or.inr rfl) (d_lstF da_nil))
    (ds_cons (ds_for PassesOwn.never rfl (di_seq (d_v 1)) (dg_name (i := 3) sc.nd rfl (Or.inl rfl))
    (ds_one (ds_set (i := 2) sc.nd rfl (Or.inr rfl) (d_catF (d_v 2) (d_lcF rfl sc.nd (own := [("pair", 5)]) (di_seq (d_v 3)) (blkOk_by (N := N_l_named) (sc := defScope s_l_named) (by decide +kernel)) (by decide) (fun _ _ _ _ _ => (dg_name (i := 5) sc.nd rfl (Or.inl rfl))) (fun _ _ _ _ _ => dts_nil) (fun _ _ _ _ _ => (d_ix x_ix (d_v 5) d_int (fun _ _ => rfl))))))))
    (ds_one (ds_ret (d_ct c_tuple rfl B.b_tuple boot_tuple (da_cons (d_lcF rfl sc.nd (own := [("doubt", 4)]) (di_seq (d_v 0)) (blkOk_by (N := N_l_named) (sc := defScope s_l_named) (by decide +kernel)) (by decide) (fun _ _ _ _ _ => (dg_name (i := 4) sc.nd rfl (Or.inl rfl))) (fun _ _ _ _ _ => (dts_one (dt_cmp (o_in (hu_in hr)) (d_ix x_ix (d_v 4) d_int (fun _ _ => rfl)) (d_v 2) rfl))) (fun _ _ _ _ _ => (d_v 4))) da_nil))))))) (fun ds M Q h => ?_)
  obtain ⟨a, b, rfl, ds, rs, ha, rfl, hds, hr, hrl, h⟩ := h
  walk_at "st"
  walk_at "st"
  refine ⟨_, items_reD, fun _ => ?_⟩
  refine for_ind (fun items m1 M1 => M1 = M ∧ ∃ (rest dn : List Rsn) (x3 : Option D), items = rest.map rsD ∧ dn ++ rest = rs ∧ m1 = [some a, some (reD rs), some (.lst (dn.flatten.map (·.1))), x3, none, none]) ?_ ?_ _ _ _ ⟨rfl, rs, [], _, rfl, rfl, rfl⟩
  · rintro m1 M1 ⟨rfl, rest, dn, x3, hi, hd, rfl⟩
    refine ⟨srcV_none, ?_⟩
    cases rest with
    | cons r rest => cases hi
    | nil =>
      rw [List.append_nil] at hd
      subst hd
      have hmk : ∀ m ∈ dn.flatten.map (·.1), isMk m := fun m hm => by
        obtain ⟨q, hq, rfl⟩ := List.mem_map.mp hm
        obtain ⟨r, hr2, hq2⟩ := List.mem_flatten.mp hq
        exact ((hr r hr2).1 q hq2).1
      have hnm : ∀ d : D, isMk d → ((dn.flatten.map (·.1)).any fun z => D.eqv z d) = isNm dn d := fun d hd => by
        refine Bool.eq_iff_iff.mpr ((any_mk hmk hd).trans ?_)
        rw [isNm_iff]
        constructor
        · intro hm
          obtain ⟨q, hq, e⟩ := List.mem_map.mp hm
          obtain ⟨r, hr2, hq2⟩ := List.mem_flatten.mp hq
          exact ⟨r, hr2, q, hq2, e⟩
        · rintro ⟨r, hr2, q, hq, e⟩
          exact List.mem_map.mpr ⟨q, List.mem_flatten.mpr ⟨r, hr2, hq⟩, e⟩
      walk_at "rd"
      refine ⟨_, ha, fun _ => ?_⟩
      refine lc_pure ds dbD (fun d => isNm dn d.1) dbD rfl (srcV_it ha) (fun d hd2 M5 l5 C1 C2 h1 h2 => ?_) fun p5 hp5 => ?_
      · have hdm := (hds d hd2).mark
        have e := hnm d.1 hdm
        walk_at "rd"
        refine ⟨hdm.ok 61, mks_ok hmk 61, ?_⟩
        rw [e]
        split
        · next c => exact h1 c
        · next c => exact h2 (Bool.eq_false_iff.mpr c)
      rw [mdel_mput hp5]
      exact ret_of h
  · rintro z its m1 M1 Cn hC ⟨rfl, rest, dn, x3, hi, hd, rfl⟩
    refine ⟨srcV_none, ?_⟩
    cases rest with
    | nil => cases hi
    | cons r rest =>
      rw [List.map_cons] at hi
      injection hi with h1 h2
      subst h1
      subst h2
      obtain ⟨hro, hrl2⟩ := hr r (by rw [← hd]; simp)
      have hlen : dn.flatten.length + r.length ≤ 1000 * rs.length := by
        have key : ∀ l : List Rsn, (∀ r ∈ l, r.length ≤ 1000) → l.flatten.length ≤ 1000 * l.length := by
          intro l
          induction l with
          | nil => intro _; simp
          | cons x l ih =>
            intro hx
            have := ih fun y hy => hx y (by simp [hy])
            have := hx x (by simp)
            rw [List.flatten_cons, List.length_append, List.length_cons]
            omega
        have z := key (dn ++ [r]) fun x hx => (hr x (by rw [← hd]; simp at hx ⊢; rcases hx with hx | hx; exact .inl hx; exact .inr (.inl hx))).2
        have z2 : (dn ++ [r]).length ≤ rs.length := by
          simp only [← hd, List.length_append, List.length_cons, List.length_nil]
          omega
        rw [List.flatten_append, List.length_append] at z
        simp only [List.flatten_cons, List.flatten_nil, List.append_nil] at z
        omega
      walk_at "rd"
      refine ⟨_, items_rsD, fun _ => ?_⟩
      refine lc_map r prD (fun q => q.1) rfl srcV_none (fun q hq M5 l5 C1 h5 => ?_) fun p5 hp5 => ?_
      · walk_at "rd"
        exact ⟨_, items_prD, _, atI_0 _ _, h5⟩
      rw [mdel_mput hp5]
      refine ⟨by rw [List.length_map, List.length_map]; omega, ?_⟩
      have e : dn.flatten.map (·.1) ++ r.map (·.1) = (dn ++ [r]).flatten.map (·.1) := by simp
      rw [e]
      exact fg_of (hC _ _ ⟨rfl, rest, dn ++ [r], _, rfl, by rw [← hd]; simp, rfl⟩)
theorem first_split {α : Type} {P : α → Prop} : ∀ {l : List α}, (∃ x ∈ l, P x) → ∃ l1 x l2, l = l1 ++ x :: l2 ∧ P x ∧ ∀ u ∈ l1, ¬ P u
  | [], ⟨_, h, _⟩ => by cases h
  | y :: l, ⟨x, hx, hP⟩ => by
    by_cases c : P y
    · exact ⟨[], y, l, rfl, c, fun u hu => by cases hu⟩
    · have : x ∈ l := by
        rcases List.mem_cons.mp hx with rfl | h
        · exact absurd hP c
        · exact h
      obtain ⟨l1, z, l2, e, h1, h2⟩ := first_split ⟨x, this, hP⟩
      refine ⟨y :: l1, z, l2, by rw [e]; rfl, h1, fun u hu => ?_⟩
      rcases List.mem_cons.mp hu with rfl | hu
      · exact c
      · exact h2 u hu
abbrev sp_l_best_free : DSp := ar1 fun a M Q => ∃ d : Dbt, a = dbD d ∧ dbW d ∧ ∀ (l1 l2 : List Opt) (o : Opt), d.2 = l1 ++ o :: l2 → (∀ u ∈ l1, u.2 < o.2) → (∀ u ∈ d.2, u.2 ≤ o.2) → Q (.tup o.1) M
theorem ok_l_best_free (F : Def K mg "_law_best_free" s_l_best_free ["doubt"]) (B : Bi K mg) (I : Im mg)  : Cal P w K mg base 1 "_law_best_free" ["doubt"] sp_l_best_free := by
  have sc := sc_l_best_free
  refine F.cal sc (fun ds M Q h => len1 h) (fun f cdv A outer s H E hr => (ds_cons (ds_set (i := 1) sc.nd rfl (Or.inr rfl) (d_cb (c_max rfl) rfl B.b_max boot_max (da_cons (d_lcF rfl sc.nd (own := [("option", 2)]) (di_seq (d_ix x_ix (d_v 0) d_int (fun _ _ => rfl))) (blkOk_by (N := N_l_best_free) (sc := defScope s_l_best_free) (by decide +kernel)) (by decide) (fun _ _ _ _ _ => (dg_name (i := 2) sc.nd rfl (Or.inl rfl))) (fun _ _ _ _ _ => dts_nil) (fun _ _ _ _ _ => (d_ix x_ix (d_v 2) d_int (fun _ _ => rfl)))) da_nil)))
    (ds_one (ds_ret (d_ix x_ix (d_lcF rfl sc.nd (own := [("option", 2)]) (di_seq (d_ix x_ix (d_v 0) d_int (fun _ _ => rfl))) (blkOk_by (N := N_l_best_free) (sc := defScope s_l_best_free) (by decide +kernel)) (by decide) (fun _ _ _ _ _ => (dg_name (i := 2) sc.nd rfl (Or.inl rfl))) (fun _ _ _ _ _ => (dts_one (dt_cmp (o_eq (hu_eq hr)) (d_ix x_ix (d_v 2) d_int (fun _ _ => rfl)) (d_v 1) (nomark _)))) (fun _ _ _ _ _ => (d_ix x_ix (d_v 2) d_int (fun _ _ => rfl)))) d_int (fun _ _ => rfl)))))) (fun ds M Q h => ?_)
  obtain ⟨a, rfl, d, rfl, hd, h⟩ := h
  walk_at "st"
  intro _
  refine lc_map d.2 opD (fun o => D.int o.2) rfl srcV_none (fun o ho M5 l5 C1 h5 => ?_) fun p5 hp5 => ?_
  · walk_at "rd"
    exact h5
  rw [mdel_mput hp5]
  refine ⟨d.2.map (·.2), by rw [List.map_map]; rfl, by rw [List.length_map]; exact hd.pos, fun n hn hmax _ => ?_⟩
  refine lc_pure d.2 opD (fun o => decide (o.2 = n)) (fun o => D.tup o.1) rfl srcV_none (fun o ho M5 l5 C1 C2 h1 h2 => ?_) fun p6 hp6 => ?_
  · walk_at "rd"
    split
    · next c => exact h1 (decide_eq_true c)
    · next c => exact h2 (decide_eq_false c)
  rw [mdel_mput hp6]
  obtain ⟨o9, ho9, e9⟩ := List.mem_map.mp hn
  obtain ⟨l1, o, l2, e, h1, h2⟩ := first_split (P := fun o : Opt => o.2 = n) ⟨o9, ho9, e9⟩
  have hmax2 : ∀ u ∈ d.2, u.2 ≤ n := fun u hu => hmax u.2 (List.mem_map.mpr ⟨u, hu, rfl⟩)
  have ef : (d.2.filter fun o => decide (o.2 = n)) = o :: l2.filter fun o => decide (o.2 = n) := by
    rw [e, List.filter_append, List.filter_cons, decide_eq_true h1, if_pos rfl]
    rw [List.filter_eq_nil_iff.mpr fun u hu c => h2 u hu (of_decide_eq_true c)]
    rfl
  rw [ef]
  refine ⟨_, atI_0 _ _, ret_of (h l1 l2 o e (fun u hu => ?_) fun u hu => by rw [h1]; exact hmax2 u hu)⟩
  have z1 := hmax2 u (by rw [e]; simp [hu])
  have z2 := h2 u hu
  rw [h1]
  omega
/-! ### the heaviest settling, by indexes -/
abbrev As := Nat → Nat
def au (a : As) (k i : Nat) : As := fun x => if x = k then i else a x
theorem au_comm (a : As) {k l : Nat} (i j : Nat) (h : k ≠ l) : au (au a k i) l j = au (au a l j) k i := by
  funext x
  unfold au
  by_cases h1 : x = l
  · by_cases h2 : x = k
    · exact absurd (h2.symm.trans h1) h
    · simp only [if_pos h1, if_neg h2]
  · simp only [if_neg h1]
abbrev Bt := Option (List Nat × Int)
def bstep (b c : Bt) : Bt := match c with
  | none => b
  | some q => match b with
    | none => some q
    | some p => if p.2 < q.2 then some q else some p
theorem bstep_none (b : Bt) : bstep b none = b := rfl
theorem none_bstep (c : Bt) : bstep none c = c := by cases c <;> rfl
theorem bstep_assoc (a b c : Bt) : bstep (bstep a b) c = bstep a (bstep b c) := by
  cases c with
  | none => rfl
  | some r =>
    cases b with
    | none => rfl
    | some q =>
      cases a with
      | none => rw [none_bstep, none_bstep]
      | some p =>
        simp only [bstep]
        by_cases h1 : p.2 < q.2 <;> by_cases h2 : q.2 < r.2
        · rw [if_pos h1, if_pos h2]
          simp only [h2, if_true]
          rw [if_pos (by omega)]
        · rw [if_pos h1, if_neg h2]
          simp only [h1, if_true]
          rw [if_neg h2]
        · rw [if_neg h1, if_pos h2]
        · rw [if_neg h1, if_neg h2]
          simp only [h1, if_false]
          rw [if_neg (by omega)]
def bfold (l : List Bt) : Bt := l.foldl bstep none
theorem bfold_from (l : List Bt) (b : Bt) : l.foldl bstep b = bstep b (bfold l) := by
  induction l generalizing b with
  | nil => rfl
  | cons c l ih =>
    unfold bfold
    rw [List.foldl_cons, List.foldl_cons, ih, ih (bstep none c), none_bstep, bstep_assoc]
theorem bfold_cons (c : Bt) (l : List Bt) : bfold (c :: l) = bstep c (bfold l) := by
  unfold bfold
  rw [List.foldl_cons, bfold_from, none_bstep]
  rfl
theorem bfold_append (l k : List Bt) : bfold (l ++ k) = bstep (bfold l) (bfold k) := by
  unfold bfold
  rw [List.foldl_append, bfold_from]
  rfl
def ext (i : Nat) (w : Int) (b : Bt) : Bt := b.map fun q => (i :: q.1, w * q.2)
def scl (f : List Nat → List Nat) (w : Int) (b : Bt) : Bt := b.map fun q => (f q.1, w * q.2)
theorem bstep_scl (f : List Nat → List Nat) {w : Int} (hw : 0 < w) (a b : Bt) : scl f w (bstep a b) = bstep (scl f w a) (scl f w b) := by
  cases b with
  | none => rfl
  | some q =>
    cases a with
    | none => rfl
    | some p =>
      show scl f w (if p.2 < q.2 then some q else some p) = if w * p.2 < w * q.2 then some (f q.1, w * q.2) else some (f p.1, w * p.2)
      by_cases h : p.2 < q.2
      · rw [if_pos h, if_pos (Int.mul_lt_mul_of_pos_left h hw)]
        rfl
      · rw [if_neg h, if_neg (fun z => h (Int.lt_of_mul_lt_mul_left z (Int.le_of_lt hw)))]
        rfl
theorem bfold_scl (f : List Nat → List Nat) {w : Int} (hw : 0 < w) (l : List Bt) : scl f w (bfold l) = bfold (l.map (scl f w)) := by
  induction l with
  | nil => rfl
  | cons c l ih => rw [bfold_cons, bstep_scl f hw, ih, List.map_cons, bfold_cons]
/-- over all settlings of the weights' lists, the doubts from k on -/
def B : Nat → List (List Int) → (As → Bool) → As → Bt
  | _, [], T, a => if T a = true then some ([], 1) else none
  | k, ws :: rest, T, a => bfold ((List.range ws.length).map fun i => ext i (ws.getD i 0) (B (k + 1) rest T (au a k i)))
/-- .. where a doubt that is not named is passed over -/
def Bn (nm : Nat → Bool) : Nat → List (List Int) → (As → Bool) → As → Bt
  | _, [], T, a => if T a = true then some ([], 1) else none
  | k, ws :: rest, T, a => if nm k = true then bfold ((List.range ws.length).map fun i => ext i (ws.getD i 0) (Bn nm (k + 1) rest T (au a k i))) else Bn nm (k + 1) rest T a
/-- the first option with the greatest weight -/
def fmi (ws : List Int) : Nat := match bfold ((List.range ws.length).map fun i => some ([i], ws.getD i 0)) with
  | some ([i], _) => i
  | _ => 0
def fmw (ws : List Int) : Int := match bfold ((List.range ws.length).map fun i => some ([i], ws.getD i 0)) with
  | some (_, w) => w
  | _ => 0
def mrg (nm : Nat → Bool) : Nat → List (List Int) → List Nat → List Nat
  | _, [], _ => []
  | k, ws :: rest, os => if nm k = true then os.headD 0 :: mrg nm (k + 1) rest os.tail else fmi ws :: mrg nm (k + 1) rest os
def pm (nm : Nat → Bool) : Nat → List (List Int) → Int
  | _, [] => 1
  | k, ws :: rest => if nm k = true then pm nm (k + 1) rest else fmw ws * pm nm (k + 1) rest
/-- the first with the greatest number -/
def FM (l : List (List Nat × Int)) (x : List Nat × Int) : Prop := ∃ l1 l2, l = l1 ++ x :: l2 ∧ (∀ u ∈ l1, u.2 < x.2) ∧ ∀ u ∈ l2, u.2 ≤ x.2
theorem fold_le : ∀ {l : List (List Nat × Int)} {x : List Nat × Int}, (∀ u ∈ l, u.2 ≤ x.2) → bstep (some x) (bfold (l.map some)) = some x
  | [], x, _ => rfl
  | u :: l, x, h => by
    rw [List.map_cons, bfold_cons, ← bstep_assoc]
    have e : bstep (some x) (some u) = some x := by
      show (if x.2 < u.2 then some u else some x) = some x
      have := h u (by simp)
      rw [if_neg (by omega)]
    rw [e]
    exact fold_le fun v hv => h v (by simp [hv])
theorem fm_fold : ∀ {l : List (List Nat × Int)} {x : List Nat × Int}, FM l x → bfold (l.map some) = some x := by
  rintro l x ⟨l1, l2, rfl, h1, h2⟩
  rw [List.map_append, bfold_append, List.map_cons, bfold_cons, fold_le h2]
  induction l1 with
  | nil => rfl
  | cons u l1 ih =>
    rw [List.map_cons, bfold_cons, bstep_assoc, ih fun v hv => h1 v (by simp [hv])]
    show (if u.2 < x.2 then some x else some u) = some x
    rw [if_pos (h1 u (by simp))]
theorem fold_fm : ∀ {l : List (List Nat × Int)} {x : List Nat × Int}, bfold (l.map some) = some x → FM l x
  | [], x, h => by cases h
  | u :: l, x, h => by
    rw [List.map_cons, bfold_cons] at h
    cases e : bfold (l.map some) with
    | none =>
      rw [e] at h
      cases l with
      | nil =>
        have : u = x := Option.some.inj h
        exact ⟨[], [], by rw [this]; rfl, by simp, by simp⟩
      | cons v l =>
        exfalso
        rw [List.map_cons, bfold_cons] at e
        cases e2 : bfold (l.map some) with
        | none => rw [e2] at e; cases e
        | some y =>
          rw [e2] at e
          have e : (if v.2 < y.2 then some y else some v) = none := e
          split at e <;> cases e
    | some y =>
      obtain ⟨l1, l2, e3, h1, h2⟩ := fold_fm e
      rw [e] at h
      have h : (if u.2 < y.2 then some y else some u) = some x := h
      split at h
      · next c =>
        have : y = x := Option.some.inj h
        subst this
        refine ⟨u :: l1, l2, by rw [e3]; rfl, fun v hv => ?_, h2⟩
        rcases List.mem_cons.mp hv with rfl | hv
        · exact c
        · exact h1 v hv
      · next c =>
        have : u = x := Option.some.inj h
        subst this
        refine ⟨[], l, rfl, by simp, fun v hv => ?_⟩
        rw [e3] at hv
        rcases List.mem_append.mp hv with hv | hv
        · have := h1 v hv
          omega
        · rcases List.mem_cons.mp hv with rfl | hv
          · omega
          · have := h2 v hv
            omega
theorem fm_of {ws : List Int} (h : ws ≠ []) : bfold ((List.range ws.length).map fun i => some ([i], ws.getD i 0)) = some ([fmi ws], fmw ws) ∧ fmi ws < ws.length ∧ ws.getD (fmi ws) 0 = fmw ws ∧ (∀ i, i < fmi ws → ws.getD i 0 < fmw ws) ∧ ∀ i, i < ws.length → ws.getD i 0 ≤ fmw ws := by
  have e0 : ((List.range ws.length).map fun i => (some ([i], ws.getD i 0) : Bt)) = (((List.range ws.length).map fun i => ([i], ws.getD i 0)).map some) := by rw [List.map_map]; rfl
  cases e : bfold ((List.range ws.length).map fun i => some ([i], ws.getD i 0)) with
  | none =>
    exfalso
    cases ws with
    | nil => exact h rfl
    | cons w r =>
      rw [List.length_cons, List.range_succ_eq_map, List.map_cons, bfold_cons] at e
      cases e2 : bfold (((List.range r.length).map Nat.succ).map fun i => some ([i], (w :: r).getD i 0)) with
      | none => rw [e2] at e; cases e
      | some y =>
        rw [e2] at e
        have e : (if ((w :: r).getD 0 0) < y.2 then some y else some ([0], (w :: r).getD 0 0)) = none := e
        split at e <;> cases e
  | some x =>
    have z := e
    rw [e0] at z
    obtain ⟨l1, l2, e3, h1, h2⟩ := fold_fm z
    have hl : ((List.range ws.length).map fun i => (([i], ws.getD i 0) : List Nat × Int)).length = ws.length := by rw [List.length_map, List.length_range]
    have at' : ∀ i, i < ws.length → (l1 ++ x :: l2)[i]? = some (([i], ws.getD i 0) : List Nat × Int) := fun i hi => by
      rw [← e3, List.getElem?_map, List.getElem?_range hi]
      rfl
    have hl1 : l1.length < ws.length := by
      rw [← hl, e3, List.length_append, List.length_cons]
      omega
    have ex : x = ([l1.length], ws.getD l1.length 0) := by
      have y := at' l1.length hl1
      rw [List.getElem?_append_right (Nat.le_refl _), Nat.sub_self] at y
      exact Option.some.inj y
    have ei : fmi ws = l1.length := by
      unfold fmi
      rw [e, ex]
    have ew : fmw ws = ws.getD l1.length 0 := by
      unfold fmw
      rw [e, ex]
    rw [ei, ew]
    refine ⟨by rw [ex], hl1, rfl, fun i hi => ?_, fun i hi => ?_⟩
    · have y := at' i (by omega)
      rw [List.getElem?_append_left hi] at y
      have := h1 _ (List.mem_of_getElem? y)
      rw [ex] at this
      exact this
    · have y := at' i hi
      have hm := List.mem_of_getElem? y
      rcases List.mem_append.mp hm with hm | hm
      · have := h1 _ hm
        rw [ex] at this
        exact Int.le_of_lt this
      · rcases List.mem_cons.mp hm with hm | hm
        · rw [ex] at hm
          rw [(Prod.mk.inj hm).2]
          exact Int.le_refl _
        · have := h2 _ hm
          rw [ex] at this
          exact this
/-- an option of a doubt that changes nothing: the first one with the greatest weight -/
theorem bfold_free {ws : List Int} (h : ws ≠ []) (hp : ∀ i, i < ws.length → 0 < ws.getD i 0) (R : Bt) (hR : ∀ q, R = some q → 0 < q.2) : bfold ((List.range ws.length).map fun i => ext i (ws.getD i 0) R) = ext (fmi ws) (fmw ws) R := by
  cases R with
  | none =>
    have : ((List.range ws.length).map fun i => ext i (ws.getD i 0) none) = (List.range ws.length).map fun _ => (none : Bt) := rfl
    rw [this]
    induction (List.range ws.length) with
    | nil => rfl
    | cons x l ih => rw [List.map_cons, bfold_cons, ih]; rfl
  | some q =>
    have hq := hR q rfl
    have e : ((List.range ws.length).map fun i => ext i (ws.getD i 0) (some q)) = ((List.range ws.length).map fun i => some ([i], ws.getD i 0)).map (scl (fun l => l ++ q.1) q.2) := by
      rw [List.map_map]
      refine List.map_congr_left fun i _ => ?_
      show some (i :: q.1, ws.getD i 0 * q.2) = some ([i] ++ q.1, q.2 * ws.getD i 0)
      rw [Int.mul_comm]
      rfl
    rw [e, ← bfold_scl _ hq, (fm_of h).1]
    show some ([fmi ws] ++ q.1, q.2 * fmw ws) = some (fmi ws :: q.1, fmw ws * q.2)
    rw [Int.mul_comm]
    rfl
def wsOk (wss : List (List Int)) : Prop := ∀ ws ∈ wss, ws ≠ [] ∧ ∀ i, i < ws.length → 0 < ws.getD i 0
theorem fold_pos {l : List Bt} (h : ∀ b ∈ l, ∀ q, b = some q → 0 < q.2) : ∀ q, bfold l = some q → 0 < q.2 := by
  induction l with
  | nil => intro q e; cases e
  | cons c l ih =>
    intro q e
    rw [bfold_cons] at e
    have h1 := h c (by simp)
    have h2 := ih fun b hb => h b (by simp [hb])
    cases e2 : bfold l with
    | none =>
      rw [e2] at e
      exact h1 q e
    | some y =>
      rw [e2] at e
      cases c with
      | none => exact h2 q (e2.trans e)
      | some p =>
        have e : (if p.2 < y.2 then some y else some p) = some q := e
        split at e
        · exact h2 q (e2.trans e)
        · exact h1 q e
theorem B_pos : ∀ {wss : List (List Int)} {k : Nat} {T : As → Bool} {a : As}, wsOk wss → ∀ q, B k wss T a = some q → 0 < q.2
  | [], k, T, a, _, q, e => by
    unfold B at e
    split at e
    · cases e
      decide
    · cases e
  | ws :: rest, k, T, a, h, q, e => by
    refine fold_pos (fun b hb q e => ?_) q e
    obtain ⟨i, hi, rfl⟩ := List.mem_map.mp hb
    obtain ⟨_, hw⟩ := h ws (by simp)
    cases e2 : B (k + 1) rest T (au a k i) with
    | none => rw [e2] at e; cases e
    | some p =>
      rw [e2] at e
      have e : some (i :: p.1, ws.getD i 0 * p.2) = some q := e
      cases e
      exact Int.mul_pos (hw i (List.mem_range.mp hi)) (B_pos (fun w hw2 => h w (by simp [hw2])) p e2)
/-- a truth that hangs on named doubts alone -/
def OnNm (nm : Nat → Bool) (T : As → Bool) : Prop := ∀ a b : As, (∀ k, nm k = true → a k = b k) → T a = T b
theorem B_off {nm : Nat → Bool} {T : As → Bool} (hT : OnNm nm T) : ∀ {wss : List (List Int)} {k : Nat} {a b : As}, (∀ x, nm x = true → a x = b x) → B k wss T a = B k wss T b
  | [], k, a, b, h => by
    unfold B
    rw [hT a b h]
  | ws :: rest, k, a, b, h => by
    unfold B
    congr 1
    refine List.map_congr_left fun i _ => ?_
    rw [B_off hT (a := au a k i) (b := au b k i) fun x hx => by
      unfold au
      split
      · rfl
      · exact h x hx]
theorem Bn_off {nm : Nat → Bool} {T : As → Bool} (hT : OnNm nm T) : ∀ {wss : List (List Int)} {k : Nat} {a b : As}, (∀ x, nm x = true → a x = b x) → Bn nm k wss T a = Bn nm k wss T b
  | [], k, a, b, h => by
    unfold Bn
    rw [hT a b h]
  | ws :: rest, k, a, b, h => by
    unfold Bn
    split
    · congr 1
      refine List.map_congr_left fun i _ => ?_
      rw [Bn_off hT (a := au a k i) (b := au b k i) fun x hx => by
        unfold au
        split
        · rfl
        · exact h x hx]
    · exact Bn_off hT h
theorem pm_pos {nm : Nat → Bool} : ∀ {wss : List (List Int)} {k : Nat}, wsOk wss → 0 < pm nm k wss
  | [], _, _ => by unfold pm; decide
  | ws :: rest, k, h => by
    unfold pm
    have ih := pm_pos (nm := nm) (wss := rest) (k := k + 1) fun w hw => h w (by simp [hw])
    obtain ⟨h1, h2⟩ := h ws (by simp)
    obtain ⟨_, a2, a3, _⟩ := fm_of h1
    split
    · exact ih
    · refine Int.mul_pos ?_ ih
      rw [← a3]
      exact h2 _ a2
theorem B_n {nm : Nat → Bool} {T : As → Bool} (hT : OnNm nm T) : ∀ {wss : List (List Int)} {k : Nat} {a : As}, wsOk wss → B k wss T a = scl (mrg nm k wss) (pm nm k wss) (Bn nm k wss T a)
  | [], k, a, _ => by
    unfold B Bn
    split
    · show some (([] : List Nat), (1 : Int)) = some (mrg nm k [] [], pm nm k [] * 1)
      unfold mrg pm
      rfl
    · rfl
  | ws :: rest, k, a, h => by
    have ih : ∀ a, B (k + 1) rest T a = scl (mrg nm (k + 1) rest) (pm nm (k + 1) rest) (Bn nm (k + 1) rest T a) := fun a => B_n hT fun w hw => h w (by simp [hw])
    have hrest : wsOk rest := fun w hw => h w (by simp [hw])
    obtain ⟨h1, h2⟩ := h ws (by simp)
    by_cases c : nm k = true
    · have e1 : B k (ws :: rest) T a = bfold ((List.range ws.length).map fun i => ext i (ws.getD i 0) (B (k + 1) rest T (au a k i))) := by rw [B]
      have e2 : Bn nm k (ws :: rest) T a = bfold ((List.range ws.length).map fun i => ext i (ws.getD i 0) (Bn nm (k + 1) rest T (au a k i))) := by rw [Bn, if_pos c]
      have e3 : pm nm k (ws :: rest) = pm nm (k + 1) rest := by rw [pm, if_pos c]
      rw [e1, e2, e3, bfold_scl _ (pm_pos hrest), List.map_map]
      congr 1
      refine List.map_congr_left fun i _ => ?_
      show ext i (ws.getD i 0) (B (k + 1) rest T (au a k i)) = scl (mrg nm k (ws :: rest)) (pm nm (k + 1) rest) (ext i (ws.getD i 0) (Bn nm (k + 1) rest T (au a k i)))
      rw [ih]
      cases Bn nm (k + 1) rest T (au a k i) with
      | none => rfl
      | some q =>
        show some (i :: mrg nm (k + 1) rest q.1, ws.getD i 0 * (pm nm (k + 1) rest * q.2)) = some (mrg nm k (ws :: rest) (i :: q.1), pm nm (k + 1) rest * (ws.getD i 0 * q.2))
        rw [mrg, if_pos c, Int.mul_left_comm]
        rfl
    · have e1 : B k (ws :: rest) T a = bfold ((List.range ws.length).map fun i => ext i (ws.getD i 0) (B (k + 1) rest T a)) := by
        rw [B]
        congr 1
        refine List.map_congr_left fun i _ => ?_
        rw [B_off hT (a := au a k i) (b := a) fun x hx => by
          unfold au
          rw [if_neg fun e => c (by rw [← e]; exact hx)]]
      have e2 : Bn nm k (ws :: rest) T a = Bn nm (k + 1) rest T a := by rw [Bn, if_neg c]
      have e3 : pm nm k (ws :: rest) = fmw ws * pm nm (k + 1) rest := by rw [pm, if_neg c]
      rw [e1, e2, e3, bfold_free h1 h2 _ (B_pos hrest), ih]
      cases Bn nm (k + 1) rest T a with
      | none => rfl
      | some q =>
        show some (fmi ws :: mrg nm (k + 1) rest q.1, fmw ws * (pm nm (k + 1) rest * q.2)) = some (mrg nm k (ws :: rest) q.1, fmw ws * pm nm (k + 1) rest * q.2)
        rw [mrg, if_neg c, Int.mul_assoc]
/-! ### reasons by indexes -/
abbrev IR := List (Nat × Nat)
def ipD (p : Nat × Nat) : D := .tup [.int (p.1 : Nat), .int (p.2 : Nat)]
def irD (r : IR) : D := .tup (r.map ipD)
def whD (w : List IR) : D := .tup (w.map irD)
theorem items_ipD {p : Nat × Nat} {M : DM} : dItems (ipD p) M = some [.int (p.1 : Nat), .int (p.2 : Nat)] := rfl
theorem items_irD {r : IR} {M : DM} : dItems (irD r) M = some (r.map ipD) := rfl
theorem items_whD {w : List IR} {M : DM} : dItems (whD w) M = some (w.map irD) := rfl
theorem ipD_pl (p : Nat × Nat) : pln (ipD p) = true := rfl
theorem ipD_ok (p : Nat × Nat) (n : Nat) : dOk (n + 1) (ipD p) = true := by simp [ipD]
theorem ips_ok (r : IR) (n : Nat) : (r.map ipD).all (dOk (n + 1)) = true := by
  rw [List.all_map]
  exact List.all_eq_true.mpr fun p _ => ipD_ok p n
theorem irD_ok (r : IR) (n : Nat) : dOk (n + 2) (irD r) = true := by
  unfold irD
  rw [dOk_tup]
  exact ips_ok r n
theorem irs_ok (w : List IR) (n : Nat) : (w.map irD).all (dOk (n + 2)) = true := by
  rw [List.all_map]
  exact List.all_eq_true.mpr fun r _ => irD_ok r n
theorem ipD_inj {p q : Nat × Nat} (h : ipD p = ipD q) : p = q := by
  obtain ⟨a, b⟩ := p
  obtain ⟨c, d⟩ := q
  simp only [ipD, D.tup.injEq, List.cons.injEq, D.int.injEq, and_true] at h
  rw [Int.ofNat.inj h.1, Int.ofNat.inj h.2]
theorem ip_eqv {p q : Nat × Nat} : D.eqv (ipD p) (ipD q) = true ↔ p = q := (eqv_pl _ _ (ipD_pl p) (ipD_pl q)).trans ⟨ipD_inj, fun h => by rw [h]⟩
theorem any_ip (r : IR) (p : Nat × Nat) : ((r.map ipD).any fun z => D.eqv z (ipD p)) = decide (p ∈ r) := by
  refine Bool.eq_iff_iff.mpr ?_
  rw [List.any_map, List.any_eq_true, decide_eq_true_iff]
  constructor
  · rintro ⟨q, hq, e⟩
    rw [← ip_eqv.mp e]
    exact hq
  · exact fun h => ⟨p, h, ip_eqv.mpr rfl⟩
def hasA (r s : IR) : Bool := s.all fun p => decide (p ∈ r)
abbrev sp_has_all : DSp := ar2 fun a b M Q => ∃ r s : IR, a = irD r ∧ b = irD s ∧ Q (.bl (hasA r s)) M
theorem ok_has_all (F : Def K mg "has_all" s_has_all ["reason", "other"]) (B : Bi K mg) (I : Im mg)  : Cal P w K mg base 1 "has_all" ["reason", "other"] sp_has_all := by
  have sc := sc_has_all
  refine F.cal sc (fun ds M Q h => len2 h) (fun f cdv A outer s H E hr => (ds_one (ds_ret (d_cb (c_all rfl) rfl B.b_all boot_all (da_cons (d_lcF rfl sc.nd (own := [("pair", 2)]) (di_seq (d_v 1)) (blkOk_by (N := N_has_all) (sc := defScope s_has_all) (by decide +kernel)) (by decide) (fun _ _ _ _ _ => (dg_name (i := 2) sc.nd rfl (Or.inl rfl))) (fun _ _ _ _ _ => dts_nil) (fun _ _ _ _ _ => (d_cmp (o_in (hu_in hr)) (d_v 2) (d_v 0) rfl))) da_nil))))) (fun ds M Q h => ?_)
  obtain ⟨a, b, rfl, r, s, rfl, rfl, h⟩ := h
  walk_at "rd"
  refine ⟨_, items_irD, fun _ => ?_⟩
  refine lc_map s ipD (fun p => D.bl (decide (p ∈ r))) rfl srcV_none (fun p hp M5 l5 C1 h5 => ?_) fun p5 hp5 => ?_
  · walk_at "rd"
    refine ⟨_, items_irD, ipD_ok p 62, ips_ok r 62, ?_⟩
    rw [any_ip]
    exact h5
  rw [mdel_mput hp5]
  refine ⟨s.map fun p => decide (p ∈ r), by rw [List.map_map]; rfl, ret_of ?_⟩
  rw [List.all_map]
  exact h
/-- a sorted row of reasons -/
def uP : D → Nat × Nat
  | .tup [.int a, .int b] => (a.toNat, b.toNat)
  | _ => (0, 0)
theorem uP_ip (p : Nat × Nat) : uP (ipD p) = p := rfl
def uI : D → IR
  | .tup ps => ps.map uP
  | _ => []
theorem uI_ir (r : IR) : uI (irD r) = r := by
  show (r.map ipD).map uP = r
  rw [List.map_map]
  exact (List.map_congr_left (g := id) fun p _ => uP_ip p).trans (List.map_id r)
def sortI (w : List IR) : List IR := (srtD (w.map irD)).map uI
theorem sortI_map (w : List IR) : srtD (w.map irD) = (sortI w).map irD ∧ (sortI w).Perm w := by
  obtain ⟨us, hus, hp⟩ := perm_map irD (srtD_perm (w.map irD))
  have e : sortI w = us := by
    unfold sortI
    rw [hus, List.map_map]
    exact (List.map_congr_left (g := id) fun r _ => uI_ir r).trans (List.map_id us)
  exact ⟨by rw [hus, e], by rw [e]; exact hp⟩
theorem ips_alike : ∀ (r s : IR), PySem.W.alikeAll (D.pys (r.map ipD)) (D.pys (s.map ipD)) = true
  | [], s => by simp [D.pys, PySem.W.alikeAll]
  | p :: r, [] => by simp [D.pys, PySem.W.alikeAll]
  | p :: r, q :: s => by
    simp only [List.map_cons, D.pys, PySem.W.alikeAll, Bool.and_eq_true]
    exact ⟨by simp [ipD, D.py, D.pys, PySem.W.alike, PySem.W.alikeAll], ips_alike r s⟩
theorem irs_sortOk (w : List IR) : (w.map irD).all (dOk 32) = true ∧ PySem.W.AllAlike ((w.map irD).map D.py) ∧ SortOk ((w.map irD).map D.py) := by
  refine ⟨irs_ok w 30, fun d hd d' hd' => ?_, .inr fun d hd => ?_⟩
  · rw [List.map_map] at hd hd'
    obtain ⟨r, _, rfl⟩ := List.mem_map.mp hd
    obtain ⟨s, _, rfl⟩ := List.mem_map.mp hd'
    show PySem.W.alike (D.py (.tup (r.map ipD))) (D.py (.tup (s.map ipD))) = true
    rw [D.py, D.py, PySem.W.alike]
    exact ips_alike r s
  · rw [List.map_map] at hd
    obtain ⟨r, _, rfl⟩ := List.mem_map.mp hd
    exact ⟨_, by show D.py (.tup (r.map ipD)) = _; rw [D.py]⟩
def offK (k : Nat) (r : IR) : Bool := r.all fun p => decide (p.1 ≠ k)
def stlS (w : List IR) (k i : Nat) : List IR := (w.filter fun r => decide ((k, i) ∈ r)).map fun r => r.filter fun p => decide (p.1 ≠ k)
def stlO (w : List IR) (k i : Nat) : List IR := w.filter fun r => !decide ((k, i) ∈ r) && offK k r
def stlK (w : List IR) (k i : Nat) : List IR := (stlO w k i).filter fun r => !((stlS w k i).any fun s => hasA r s)
def stl (w : List IR) (k i : Nat) : List IR := sortI (stlS w k i ++ stlK w k i)
abbrev sp_settled : DSp := ar3 fun a b c M Q => ∃ (w : List IR) (k i : Nat), a = whD w ∧ b = .int (k : Nat) ∧ c = .int (i : Nat) ∧ w.length ≤ 100000 ∧ Q (whD (stl w k i)) M
theorem ok_settled (F : Def K mg "settled" s_settled ["reasons", "doubt", "option"]) (B : Bi K mg) (I : Im mg) (c_has_all : Cal P w K mg base 1 "has_all" ["reason", "other"] sp_has_all) : Cal P w K mg base 2 "settled" ["reasons", "doubt", "option"] sp_settled := by
  have sc := sc_settled
  refine F.cal sc (fun ds M Q h => len3 h) (fun f cdv A outer s H E hr => (ds_cons (ds_set (i := 3) sc.nd rfl (Or.inr rfl) (d_lst da_nil))
    (ds_cons (ds_set (i := 4) sc.nd rfl (Or.inl rfl) (d_lst da_nil))
    (ds_cons (ds_for PassesOwn.never rfl (di_seq (d_v 0)) (dg_name (i := 5) sc.nd rfl (Or.inl rfl))
    (ds_one (ds_if (dt_cmp (o_in (hu_in hr)) (d_tup (da_cons (d_v 1) (da_cons (d_v 2) da_nil))) (d_v 5) rfl)
    (ds_one (ds_expr (d_mt PySem.F.slot_list_append PySem.F.type_list_append m_append (d_v 3) (da_cons (d_ct c_tuple rfl B.b_tuple boot_tuple (da_cons (d_lcF rfl sc.nd (own := [("pair", 7)]) (di_seq (d_v 5)) (blkOk_by (N := N_settled) (sc := defScope s_settled) (by decide +kernel)) (by decide) (fun _ _ _ _ _ => (dg_name (i := 7) sc.nd rfl (Or.inl rfl))) (fun _ _ _ _ _ => (dts_one (dt_cmp (o_ne (hu_eq hr)) (d_ix x_ix (d_v 7) d_int (fun _ _ => rfl)) (d_v 1) (nomark _)))) (fun _ _ _ _ _ => (d_v 7))) da_nil)) da_nil))))
    (ds_one (ds_if (dt_val (d_cb (c_all rfl) rfl B.b_all boot_all (da_cons (d_lcF rfl sc.nd (own := [("pair", 7)]) (di_seq (d_v 5)) (blkOk_by (N := N_settled) (sc := defScope s_settled) (by decide +kernel)) (by decide) (fun _ _ _ _ _ => (dg_name (i := 7) sc.nd rfl (Or.inl rfl))) (fun _ _ _ _ _ => dts_nil) (fun _ _ _ _ _ => (d_cmp (o_ne (hu_eq hr)) (d_ix x_ix (d_v 7) d_int (fun _ _ => rfl)) (d_v 1) (nomark _)))) da_nil)))
    (ds_one (ds_expr (d_mt PySem.F.slot_list_append PySem.F.type_list_append m_append (d_v 4) (da_cons (d_v 5) da_nil))))
    ds_nil)))))
    (ds_cons (ds_setLcF (i := 6) rfl sc.nd rfl rfl (sw_true rfl rfl rfl (by decide +kernel)) (own := [("reason", 5)]) (di_seq (d_v 4)) (blkOk_by (N := N_settled) (sc := defScope s_settled) (by decide +kernel)) (by decide) (fun _ _ _ _ _ => (dg_name (i := 5) sc.nd rfl (Or.inr rfl))) (fun _ _ _ _ _ => (dts_one (dt_not (dt_val (d_cb (c_any rfl) rfl B.b_any boot_any (da_cons (d_lcF rfl sc.nd (own := [("part", 8)]) (di_seq (d_v 3)) (blkOk_by (N := N_settled) (sc := ({ kind := PySem.ScopeKind.function, names := [(PySem.Str.ofString ".0", PySem.NameKind.local), (PySem.Str.ofString "reason", PySem.NameKind.cell), (PySem.Str.ofString "any", PySem.NameKind.globalImplicit), (PySem.Str.ofString "shortened", PySem.NameKind.cell)], isGenerator := false, isCoroutine := false } : PySem.Scope)) (by decide +kernel)) (by decide) (fun _ _ _ _ _ => (dg_name (i := 8) sc.nd rfl (Or.inl rfl))) (fun _ _ _ _ _ => dts_nil) (fun _ _ _ _ _ => (d_call c_has_all (hr.mono (by first | decide | omega)) rfl (da_cons (d_v 5) (da_cons (d_v 8) da_nil))))) da_nil)))))) (fun _ _ _ _ _ => (d_v 5)))
    (ds_one (ds_ret (d_ct c_tuple rfl B.b_tuple boot_tuple (da_cons (d_fz (d_cb (c_sortO (hu_40 hr)) rfl B.b_sorted boot_sorted (da_cons (d_catF (d_v 3) (d_v 6)) da_nil))) da_nil))))))))) (fun ds M Q h => ?_)
  obtain ⟨a, b, c, rfl, w, k, i, rfl, rfl, rfl, hwl, h⟩ := h
  walk_at "st"
  intro s hs
  walk_at "st"
  intro t ht
  have hst : s ≠ t := ne_of_fresh mput_same ht
  have htM : M t = none := by rw [mput_ne hst.symm] at ht; exact ht
  walk_at "st"
  refine ⟨_, items_whD, fun _ => ?_⟩
  refine for_ind (fun items m1 M1 => ∃ (rest dn : List IR) (x5 : Option D), items = rest.map irD ∧ dn ++ rest = w ∧ M1 = mput (mput M s (.lst ((stlS dn k i).map irD))) t (.lst ((stlO dn k i).map irD)) ∧ m1 = [some (whD w), some (.int (k : Nat)), some (.int (i : Nat)), some (.ref s), some (.ref t), x5, none, none, none]) ?_ ?_ _ _ _ ⟨w, [], _, rfl, rfl, rfl, rfl⟩
  · rintro m1 M1 ⟨rest, dn, x5, hi, hd, rfl, rfl⟩
    refine ⟨srcV_none, ?_⟩
    cases rest with
    | cons r rest => cases hi
    | nil =>
      rw [List.append_nil] at hd
      subst hd
      have ht2 : dItems (.ref t) (mput (mput M s (.lst ((stlS dn k i).map irD))) t (.lst ((stlO dn k i).map irD))) = some ((stlO dn k i).map irD) := by
        show (match mput _ t _ t with | some (.lst xs) => some xs | _ => none) = _
        rw [mput_same]
      have hs2 : dItems (.ref s) (mput (mput M s (.lst ((stlS dn k i).map irD))) t (.lst ((stlO dn k i).map irD))) = some ((stlS dn k i).map irD) := by
        show (match mput _ t _ s with | some (.lst xs) => some xs | _ => none) = _
        rw [mput_ne hst, mput_same]
      walk_at "st"
      walk_at "st"
      intro _
      refine lc_pure (stlO dn k i) irD (fun r => !((stlS dn k i).any fun s => hasA r s)) irD rfl (srcV_it ht2) (fun r hr M5 l5 C1 C2 h1 h2 => ?_) fun p5 hp5 => ?_
      · have hs5 := items_up hs2 l5
        walk_at "rd"
        refine ⟨_, hs5, fun _ => ?_⟩
        refine lc_map (stlS dn k i) irD (fun s => D.bl (hasA r s)) rfl (srcV_it hs5) (fun s3 _ M6 l6 C6 h6 => ?_) fun p6 hp6 => ?_
        · walk_at "rd"
          exact ⟨r, rfl, s3, rfl, h6⟩
        rw [mdel_mput hp6]
        refine ⟨(stlS dn k i).map fun s => hasA r s, by rw [List.map_map]; rfl, ?_⟩
        have ea : ((stlS dn k i).map fun s => hasA r s).any id = (stlS dn k i).any fun s => hasA r s := by
          rw [List.any_map]
          rfl
        rw [ea]
        cases e : (stlS dn k i).any fun s => hasA r s with
        | false =>
          rw [e] at h1
          exact h1 rfl
        | true =>
          rw [e] at h2
          exact h2 rfl
      rw [mdel_mput hp5]
      have hsl : (stlS dn k i).length ≤ dn.length := by
        unfold stlS
        rw [List.length_map]
        exact List.length_filter_le _ _
      have hkl : (stlK dn k i).length ≤ dn.length := Nat.le_trans (List.length_filter_le _ _) (List.length_filter_le _ _)
      obtain ⟨k1, k2, k3⟩ := irs_sortOk (stlS dn k i ++ stlK dn k i)
      rw [List.map_append] at k1 k2 k3
      refine ⟨(stlS dn k i).map irD, by rw [mput_ne hst, mput_same], by rw [List.length_map, List.length_map]; unfold stlK at hkl; omega, k1, k2, k3, fun p6 hp6 => ?_⟩
      have es := (sortI_map (stlS dn k i ++ stlK dn k i)).1
      rw [List.map_append] at es
      refine ⟨_, rfl, ?_⟩
      rw [mdel_mput hp6]
      rw [show List.filter (fun r => !(stlS dn k i).any fun s => hasA r s) (stlO dn k i) = stlK dn k i from rfl, es]
      exact ret_le ((MLe.put (.refl M) hs).put htM) h
  · rintro z its m1 M1 Cn hC ⟨rest, dn, x5, hi, hd, rfl, rfl⟩
    refine ⟨srcV_none, ?_⟩
    cases rest with
    | nil => cases hi
    | cons r rest =>
      rw [List.map_cons] at hi
      injection hi with h1 h2
      subst h1
      subst h2
      have hdl : dn.length < 100000 := by
        have := congrArg List.length hd
        rw [List.length_append, List.length_cons] at this
        omega
      have hsl : (stlS dn k i).length ≤ dn.length := by
        unfold stlS
        rw [List.length_map]
        exact List.length_filter_le _ _
      have hol : (stlO dn k i).length ≤ dn.length := List.length_filter_le _ _
      walk_at "s1"
      refine ⟨_, items_irD, ips_ok r 62, ?_⟩
      rw [show ((r.map ipD).any fun z => D.eqv z (D.tup [D.int k, D.int i])) = decide ((k, i) ∈ r) from any_ip r (k, i)]
      by_cases hm : (k, i) ∈ r
      · have eS : stlS (dn ++ [r]) k i = stlS dn k i ++ [r.filter fun p => decide (p.1 ≠ k)] := by
          unfold stlS
          rw [List.filter_append, List.map_append]
          simp [hm]
        have eO : stlO (dn ++ [r]) k i = stlO dn k i := by
          unfold stlO
          rw [List.filter_append]
          simp [hm]
        rw [if_pos (decide_eq_true hm)]
        refine ⟨⟨_, by rw [mput_ne hst, mput_same]⟩, _, items_irD, fun _ => ?_⟩
        refine lc_pure r ipD (fun p => decide (p.1 ≠ k)) ipD rfl srcV_none (fun p hp M5 l5 C1 C2 h1 h2 => ?_) fun p5 hp5 => ?_
        · walk_at "rd"
          refine ⟨_, items_ipD, _, atI_0 _ _, by simp, ?_⟩
          rw [eqv_int]
          by_cases e : p.1 = k
          · rw [if_neg (by simp [e])]
            exact h2 (by simp [e])
          · rw [if_pos (by simp; omega)]
            exact h1 (by simp [e])
        rw [mdel_mput hp5]
        refine ⟨(stlS dn k i).map irD, by rw [mput_ne hst, mput_same], by rw [List.length_map]; omega, ?_⟩
        have eq : (stlS dn k i).map irD ++ [D.tup ((r.filter fun p => decide (p.1 ≠ k)).map ipD)] = (stlS (dn ++ [r]) k i).map irD := by
          rw [eS, List.map_append]
          rfl
        rw [eq, mput_swap hst]
        exact fg_of (hC _ _ ⟨rest, dn ++ [r], _, rfl, by rw [← hd]; simp, by rw [eO], rfl⟩)
      · have eS : stlS (dn ++ [r]) k i = stlS dn k i := by
          unfold stlS
          rw [List.filter_append, List.map_append]
          simp [hm]
        have eO : stlO (dn ++ [r]) k i = stlO dn k i ++ if offK k r = true then [r] else [] := by
          unfold stlO
          rw [List.filter_append]
          cases e : offK k r <;> simp [hm, e]
        rw [if_neg (by rw [decide_eq_true_iff]; exact hm)]
        refine ⟨_, items_irD, fun _ => ?_⟩
        refine lc_map r ipD (fun p => D.bl (decide (p.1 ≠ k))) rfl srcV_none (fun p hp M5 l5 C1 h1 => ?_) fun p5 hp5 => ?_
        · walk_at "rd"
          refine ⟨_, items_ipD, _, atI_0 _ _, by simp, ?_⟩
          rw [eqv_int]
          have e : (!decide ((p.1 : Int) = k)) = decide (p.1 ≠ k) := by
            by_cases e : p.1 = k <;> simp [e]
            omega
          rw [e]
          exact h1
        rw [mdel_mput hp5]
        refine ⟨r.map fun p => decide (p.1 ≠ k), by rw [List.map_map]; rfl, ?_⟩
        have ea : (r.map fun p => decide (p.1 ≠ k)).all id = offK k r := by
          rw [List.all_map]
          rfl
        rw [ea]
        by_cases hf : offK k r = true
        · rw [if_pos hf] at eO ⊢
          refine ⟨⟨_, by rw [mput_same]⟩, (stlO dn k i).map irD, mput_same, by rw [List.length_map]; omega, ?_⟩
          have eq : (stlO dn k i).map irD ++ [irD r] = (stlO (dn ++ [r]) k i).map irD := by
            rw [eO, List.map_append]
            rfl
          rw [eq, mput_mput]
          exact fg_of (hC _ _ ⟨rest, dn ++ [r], _, rfl, by rw [← hd]; simp, by rw [eS], rfl⟩)
        · rw [if_neg hf] at eO ⊢
          exact fg_of (hC _ _ ⟨rest, dn ++ [r], _, rfl, by rw [← hd]; simp, by rw [eS, eO, List.append_nil], rfl⟩)
/-! ### settled reasons hold as the reasons do with the doubt settled -/
def holdI (w : List IR) (a : As) : Bool := w.any fun r => r.all fun p => decide (a p.1 = p.2)
theorem holdI_iff {w : List IR} {a : As} : holdI w a = true ↔ ∃ r ∈ w, ∀ p ∈ r, a p.1 = p.2 := by
  unfold holdI
  rw [List.any_eq_true]
  constructor
  · rintro ⟨r, hr, h⟩
    exact ⟨r, hr, fun p hp => of_decide_eq_true (List.all_eq_true.mp h p hp)⟩
  · rintro ⟨r, hr, h⟩
    exact ⟨r, hr, List.all_eq_true.mpr fun p hp => decide_eq_true (h p hp)⟩
structure wI (n k : Nat) (w : List IR) : Prop where
  len : w.length ≤ 100
  rl : ∀ r ∈ w, r.length ≤ 20
  nd : ∀ r ∈ w, (r.map (·.1)).Nodup
  rng : ∀ r ∈ w, ∀ p ∈ r, k ≤ p.1 ∧ p.1 < n
theorem stl_mem {w : List IR} {k i : Nat} {s : IR} : s ∈ stl w k i ↔ s ∈ stlS w k i ∨ s ∈ stlK w k i := by
  rw [← List.mem_append]
  exact (sortI_map (stlS w k i ++ stlK w k i)).2.mem_iff
theorem stlS_mem {w : List IR} {k i : Nat} {s : IR} : s ∈ stlS w k i ↔ ∃ r ∈ w, (k, i) ∈ r ∧ s = r.filter fun p => decide (p.1 ≠ k) := by
  unfold stlS
  rw [List.mem_map]
  constructor
  · rintro ⟨r, hr, e⟩
    obtain ⟨h1, h2⟩ := List.mem_filter.mp hr
    exact ⟨r, h1, of_decide_eq_true h2, e.symm⟩
  · rintro ⟨r, h1, h2, e⟩
    exact ⟨r, List.mem_filter.mpr ⟨h1, decide_eq_true h2⟩, e.symm⟩
theorem stlO_mem {w : List IR} {k i : Nat} {s : IR} : s ∈ stlO w k i ↔ s ∈ w ∧ (k, i) ∉ s ∧ ∀ p ∈ s, p.1 ≠ k := by
  unfold stlO offK
  rw [List.mem_filter, Bool.and_eq_true, List.all_eq_true]
  constructor
  · rintro ⟨h1, h2, h3⟩
    exact ⟨h1, by simpa using h2, fun p hp => of_decide_eq_true (h3 p hp)⟩
  · rintro ⟨h1, h2, h3⟩
    exact ⟨h1, by simpa using h2, fun p hp => decide_eq_true (h3 p hp)⟩
theorem stlK_sub {w : List IR} {k i : Nat} {s : IR} (h : s ∈ stlK w k i) : s ∈ stlO w k i := (List.mem_filter.mp h).1
theorem hasA_iff {r s : IR} : hasA r s = true ↔ ∀ p ∈ s, p ∈ r := by
  unfold hasA
  rw [List.all_eq_true]
  exact ⟨fun h p hp => of_decide_eq_true (h p hp), fun h p hp => decide_eq_true (h p hp)⟩
theorem nd_fst {r : IR} (h : (r.map (·.1)).Nodup) {p q : Nat × Nat} (hp : p ∈ r) (hq : q ∈ r) (e : p.1 = q.1) : p = q := by
  induction r with
  | nil => cases hp
  | cons u r ih =>
    rw [List.map_cons, List.nodup_cons] at h
    rcases List.mem_cons.mp hp with hp1 | hp <;> rcases List.mem_cons.mp hq with hq1 | hq
    · rw [hp1, hq1]
    · exfalso
      rw [← hp1, e] at h
      exact h.1 (List.mem_map.mpr ⟨q, hq, rfl⟩)
    · exfalso
      rw [← hq1, ← e] at h
      exact h.1 (List.mem_map.mpr ⟨p, hp, rfl⟩)
    · exact ih h.2 hp hq
theorem hold_stl {w : List IR} (hw : ∀ r ∈ w, (r.map (·.1)).Nodup) (k i : Nat) (a : As) : holdI (stl w k i) a = holdI w (au a k i) := by
  refine Bool.eq_iff_iff.mpr ?_
  rw [holdI_iff, holdI_iff]
  constructor
  · rintro ⟨s, hs, h⟩
    rcases stl_mem.mp hs with hs | hs
    · obtain ⟨r, hr, hm, rfl⟩ := stlS_mem.mp hs
      refine ⟨r, hr, fun p hp => ?_⟩
      unfold au
      by_cases e : p.1 = k
      · rw [if_pos e]
        have := nd_fst (hw r hr) hp hm e
        rw [this]
      · rw [if_neg e]
        exact h p (List.mem_filter.mpr ⟨hp, decide_eq_true e⟩)
    · obtain ⟨h1, h2, h3⟩ := stlO_mem.mp (stlK_sub hs)
      refine ⟨s, h1, fun p hp => ?_⟩
      unfold au
      rw [if_neg (h3 p hp)]
      exact h p hp
  · rintro ⟨r, hr, h⟩
    by_cases hm : (k, i) ∈ r
    · refine ⟨_, stl_mem.mpr (.inl (stlS_mem.mpr ⟨r, hr, hm, rfl⟩)), fun p hp => ?_⟩
      obtain ⟨h1, h2⟩ := List.mem_filter.mp hp
      have z := h p h1
      unfold au at z
      rw [if_neg (of_decide_eq_true h2)] at z
      exact z
    · have ho : ∀ p ∈ r, p.1 ≠ k := fun p hp e => hm (by
        have z := h p hp
        unfold au at z
        rw [if_pos e] at z
        rw [show (k, i) = p from Prod.ext e.symm z]
        exact hp)
      have hrO : r ∈ stlO w k i := stlO_mem.mpr ⟨hr, hm, ho⟩
      have hra : ∀ p ∈ r, a p.1 = p.2 := fun p hp => by
        have z := h p hp
        unfold au at z
        rw [if_neg (ho p hp)] at z
        exact z
      cases e : (stlS w k i).any fun s => hasA r s with
      | true =>
        obtain ⟨s, hs, h2⟩ := List.any_eq_true.mp e
        exact ⟨s, stl_mem.mpr (.inl hs), fun p hp => hra p (hasA_iff.mp h2 p hp)⟩
      | false => exact ⟨r, stl_mem.mpr (.inr (List.mem_filter.mpr ⟨hrO, by rw [e]; rfl⟩)), hra⟩
theorem stl_len (w : List IR) (k i : Nat) : (stl w k i).length ≤ w.length := by
  have h := (sortI_map (stlS w k i ++ stlK w k i)).2.length_eq
  have h2 : (stlK w k i).length ≤ (stlO w k i).length := List.length_filter_le _ _
  have h3 : (stlS w k i).length + (stlO w k i).length ≤ w.length := by
    unfold stlS stlO
    rw [List.length_map]
    clear h h2
    induction w with
    | nil => exact Nat.le_refl 0
    | cons r w ih =>
      rw [List.filter_cons, List.filter_cons, List.length_cons]
      by_cases hm : (k, i) ∈ r
      · simp only [decide_eq_true hm, if_true, Bool.not_true, Bool.false_and, Bool.false_eq_true, if_false, List.length_cons]
        omega
      · rw [if_neg (by rw [decide_eq_true_iff]; exact hm)]
        split
        · rw [List.length_cons]
          omega
        · omega
  have h4 : (stl w k i).length = (stlS w k i ++ stlK w k i).length := h
  rw [List.length_append] at h4
  omega
theorem wI_stl {n k : Nat} {w : List IR} (h : wI n k w) (i : Nat) : wI n (k + 1) (stl w k i) := by
  have key : ∀ s ∈ stl w k i, ∃ r ∈ w, s.Sublist r ∧ ∀ p ∈ s, p.1 ≠ k := fun s hs => by
    rcases stl_mem.mp hs with hs | hs
    · obtain ⟨r, hr, _, rfl⟩ := stlS_mem.mp hs
      exact ⟨r, hr, List.filter_sublist, fun p hp => of_decide_eq_true (List.mem_filter.mp hp).2⟩
    · obtain ⟨h1, _, h3⟩ := stlO_mem.mp (stlK_sub hs)
      exact ⟨s, h1, .refl _, h3⟩
  refine ⟨Nat.le_trans (stl_len w k i) h.len, fun s hs => ?_, fun s hs => ?_, fun s hs p hp => ?_⟩
  · obtain ⟨r, hr, hs2, _⟩ := key s hs
    exact Nat.le_trans hs2.length_le (h.rl r hr)
  · obtain ⟨r, hr, hs2, _⟩ := key s hs
    exact (h.nd r hr).sublist (hs2.map _)
  · obtain ⟨r, hr, hs2, h3⟩ := key s hs
    have z := h.rng r hr p (hs2.mem hp)
    have := h3 p hp
    omega
/-- the doubts that reasons name -/
def nmI (w : List IR) (k : Nat) : Bool := w.any fun r => r.any fun p => decide (p.1 = k)
theorem nmI_iff {w : List IR} {k : Nat} : nmI w k = true ↔ ∃ r ∈ w, ∃ p ∈ r, p.1 = k := by
  unfold nmI
  rw [List.any_eq_true]
  constructor
  · rintro ⟨r, hr, h⟩
    obtain ⟨p, hp, e⟩ := List.any_eq_true.mp h
    exact ⟨r, hr, p, hp, of_decide_eq_true e⟩
  · rintro ⟨r, hr, p, hp, e⟩
    exact ⟨r, hr, List.any_eq_true.mpr ⟨p, hp, decide_eq_true e⟩⟩
theorem nmI_stl {w : List IR} {k i x : Nat} (h : nmI (stl w k i) x = true) : nmI w x = true := by
  obtain ⟨s, hs, p, hp, e⟩ := nmI_iff.mp h
  rw [nmI_iff]
  rcases stl_mem.mp hs with hs | hs
  · obtain ⟨r, hr, _, rfl⟩ := stlS_mem.mp hs
    exact ⟨r, hr, p, (List.mem_filter.mp hp).1, e⟩
  · exact ⟨s, (stlO_mem.mp (stlK_sub hs)).1, p, hp, e⟩
theorem hold_off {w : List IR} {k : Nat} (h : nmI w k = false) (i : Nat) (a : As) : holdI w (au a k i) = holdI w a := by
  refine Bool.eq_iff_iff.mpr ?_
  rw [holdI_iff, holdI_iff]
  have ho : ∀ r ∈ w, ∀ p ∈ r, p.1 ≠ k := fun r hr p hp e => by
    rw [nmI_iff.mpr ⟨r, hr, p, hp, e⟩] at h
    cases h
  constructor
  · rintro ⟨r, hr, z⟩
    refine ⟨r, hr, fun p hp => ?_⟩
    have y := z p hp
    unfold au at y
    rw [if_neg (ho r hr p hp)] at y
    exact y
  · rintro ⟨r, hr, z⟩
    refine ⟨r, hr, fun p hp => ?_⟩
    unfold au
    rw [if_neg (ho r hr p hp)]
    exact z p hp
theorem B_shift {T : As → Bool} {k i : Nat} : ∀ {wss : List (List Int)} {l : Nat} {a : As}, k < l → B l wss T (au a k i) = B l wss (fun b => T (au b k i)) a
  | [], l, a, _ => rfl
  | ws :: rest, l, a, h => by
    rw [B, B]
    refine congrArg bfold (List.map_congr_left fun j _ => ?_)
    rw [← B_shift (T := T) (k := k) (i := i) (a := au a l j) (by omega), au_comm a i j (by omega)]
theorem B_none : ∀ {wss : List (List Int)} {l : Nat} {a : As}, B l wss (fun _ => false) a = none
  | [], l, a => rfl
  | ws :: rest, l, a => by
    rw [B]
    have e : ((List.range ws.length).map fun i => ext i (ws.getD i 0) (B (l + 1) rest (fun _ => false) (au a l i))) = (List.range ws.length).map fun _ => (none : Bt) := List.map_congr_left fun j _ => by rw [B_none]; rfl
    rw [e]
    induction (List.range ws.length) with
    | nil => rfl
    | cons x l ih => rw [List.map_cons, bfold_cons, ih]; rfl
def a0 : As := fun _ => 0
/-- what heaviest_from tells at k -/
def hv (wss : List (List Int)) (k : Nat) (w : List IR) : Bt := B k (wss.drop k) (holdI w) a0
theorem hv_nil (wss : List (List Int)) (k : Nat) : hv wss k [] = none := by
  unfold hv
  rw [show holdI [] = fun _ => false from rfl]
  exact B_none
theorem hv_end {wss : List (List Int)} {w : List IR} (h : wI wss.length wss.length w) (hn : w ≠ []) : hv wss wss.length w = some ([], 1) := by
  unfold hv
  rw [List.drop_length, B, if_pos]
  rw [holdI_iff]
  cases w with
  | nil => exact absurd rfl hn
  | cons r w => exact ⟨r, by simp, fun p hp => absurd (h.rng r (by simp) p hp) (by omega)⟩
def optsI (wss : List (List Int)) (k : Nat) (w : List IR) : List Nat := if nmI w k = true then List.range (wss.getD k []).length else [fmi (wss.getD k [])]
theorem hv_step {wss : List (List Int)} (hws : wsOk wss) {k : Nat} (hk : k < wss.length) {w : List IR} (h : wI wss.length k w) : hv wss k w = bfold ((optsI wss k w).map fun i => ext i ((wss.getD k []).getD i 0) (hv wss (k + 1) (stl w k i))) := by
  have ed : wss.drop k = wss.getD k [] :: wss.drop (k + 1) := by
    rw [List.drop_eq_getElem_cons hk, List.getD_eq_getElem?_getD, List.getElem?_eq_getElem hk, Option.getD_some]
  have hmem : wss.getD k [] ∈ wss := by
    rw [List.getD_eq_getElem?_getD, List.getElem?_eq_getElem hk, Option.getD_some]
    exact List.getElem_mem hk
  have e2 : ∀ i, B (k + 1) (wss.drop (k + 1)) (holdI w) (au a0 k i) = hv wss (k + 1) (stl w k i) := fun i => by
    rw [B_shift (by omega)]
    unfold hv
    rw [show holdI (stl w k i) = fun b => holdI w (au b k i) from funext fun b => hold_stl h.nd k i b]
  have e1 : hv wss k w = bfold ((List.range (wss.getD k []).length).map fun i => ext i ((wss.getD k []).getD i 0) (hv wss (k + 1) (stl w k i))) := by
    conv => lhs; unfold hv
    rw [ed, B]
    exact congrArg bfold (List.map_congr_left fun i _ => by rw [e2])
  unfold optsI
  split
  · exact e1
  · next c =>
    have c : nmI w k = false := Bool.eq_false_iff.mpr c
    have e3 : ∀ i, hv wss (k + 1) (stl w k i) = B (k + 1) (wss.drop (k + 1)) (holdI w) a0 := fun i => by
      unfold hv
      rw [show holdI (stl w k i) = holdI w from funext fun b => (hold_stl h.nd k i b).trans (hold_off c i b)]
    obtain ⟨n1, n2⟩ := hws _ hmem
    rw [e1, List.map_congr_left (fun i _ => by rw [e3]), bfold_free n1 n2 _ (B_pos fun ws hw => hws ws (List.mem_of_mem_drop hw)), List.map_singleton, e3, bfold_cons, (fm_of n1).2.2.1]
    rfl
abbrev sp_standing : DSp := ar1 fun a M Q => ∃ w : List IR, a = whD w ∧ w.length ≤ 100 ∧ (∀ r ∈ w, r.length ≤ 20) ∧ ∀ ks : List Int, (∀ x : Int, x ∈ ks ↔ ∃ r ∈ w, ∃ p ∈ r, (p.1 : Int) = x) → Q (.lst (ks.map D.int)) M
theorem ok_standing (F : Def K mg "standing" s_standing ["reasons"]) (B : Bi K mg) (I : Im mg)  : Cal P w K mg base 1 "standing" ["reasons"] sp_standing := by
  have sc := sc_standing
  refine F.cal sc (fun ds M Q h => len1 h) (fun f cdv A outer s H E hr => (ds_one (ds_ret (d_fz (d_sortSet rfl (hu_eq hr) rfl B.b_sorted rfl B.b_set (d_lc2F rfl sc.nd (own := [("reason", 1), ("pair", 2)]) (di_seq (d_v 0)) (blkOk_by (N := N_standing) (sc := defScope s_standing) (by decide +kernel)) (by decide) (by decide) (fun _ _ _ _ _ => (dg_name (i := 1) sc.nd rfl (Or.inl rfl))) (fun _ _ _ _ _ => dts_nil) (fun _ _ _ _ _ => (di_seq (d_v 1))) (fun _ _ _ _ _ => (dg_name (i := 2) sc.nd rfl (Or.inl rfl))) (fun _ _ _ _ _ => dts_nil) (fun _ _ _ _ _ => (d_ix x_ix (d_v 2) d_int (fun _ _ => rfl))))))))) (fun ds M Q h => ?_)
  obtain ⟨a, rfl, w, rfl, hl, hr, h⟩ := h
  walk_at "rd"
  refine ⟨_, items_whD, fun _ p hp => ?_⟩
  have hfl : (w.flatMap fun r => r.map fun q => D.int (q.1 : Nat)).length ≤ 20 * w.length := flat_len _ 20 w fun r hr2 => by rw [List.length_map]; exact hr r hr2
  have em : (w.flatMap fun r => r.map fun q => D.int (q.1 : Nat)) = (w.flatMap fun r => r.map fun q => ((q.1 : Nat) : Int)).map D.int := by
    rw [List.map_flatMap]
    refine congrArg (fun f => w.flatMap f) (funext fun r => ?_)
    rw [List.map_map]
    rfl
  refine lcOut_map irD (fun r => r.map fun q => D.int (q.1 : Nat)) srcV_none hp w (fun r hr2 acc Cn hl2 h2 => ?_) [] (by simp only [List.length_nil]; omega) ?_
  · walk_at "rd"
    refine ⟨_, items_irD, fun _ => ?_⟩
    refine lcIn_map ipD (fun q => D.int (q.1 : Nat)) srcV_none hp r (fun q hq M3 l3 C1 h3 => ?_) acc (by rw [List.length_map] at hl2; exact hl2) h2
    walk_at "rd"
    exact ⟨_, items_ipD, _, atI_0 _ _, h3⟩
  · rw [List.nil_append, em, mdel_mput hp]
    refine ⟨_, rfl, by rw [em, List.length_map] at hfl; omega, fun rs p2 h1 h2 h3 hp2 => ⟨_, rfl, ?_⟩⟩
    rw [mdel_mput hp2]
    refine ret_of (h rs fun x => (h2 x).trans ?_)
    rw [List.mem_flatMap]
    constructor
    · rintro ⟨r, hr2, hx⟩
      obtain ⟨q, hq, e⟩ := List.mem_map.mp hx
      exact ⟨r, hr2, q, hq, e⟩
    · rintro ⟨r, hr2, q, hq, e⟩
      exact ⟨r, hr2, List.mem_map.mpr ⟨q, hq, e⟩⟩
abbrev sp_settled_wholes : DSp := ar3 fun a b c M Q => ∃ (w : List IR) (k i : Nat), a = .tup [whD w] ∧ b = .int (k : Nat) ∧ c = .int (i : Nat) ∧ w.length ≤ 100 ∧ Q (.tup [whD (stl w k i)]) M
theorem ok_settled_wholes (F : Def K mg "settled_wholes" s_settled_wholes ["wholes", "doubt", "option"]) (B : Bi K mg) (I : Im mg) (c_settled : Cal P w K mg base 2 "settled" ["reasons", "doubt", "option"] sp_settled) : Cal P w K mg base 3 "settled_wholes" ["wholes", "doubt", "option"] sp_settled_wholes := by
  have sc := sc_settled_wholes
  refine F.cal sc (fun ds M Q h => len3 h) (fun f cdv A outer s H E hr => (ds_one (ds_ret (d_ct c_tuple rfl B.b_tuple boot_tuple (da_cons (d_lcF rfl sc.nd (own := [("whole", 3)]) (di_seq (d_v 0)) (blkOk_by (N := N_settled_wholes) (sc := defScope s_settled_wholes) (by decide +kernel)) (by decide) (fun _ _ _ _ _ => (dg_name (i := 3) sc.nd rfl (Or.inl rfl))) (fun _ _ _ _ _ => dts_nil) (fun _ _ _ _ _ => (d_call c_settled (hr.mono (by first | decide | omega)) rfl (da_cons (d_v 3) (da_cons (d_v 1) (da_cons (d_v 2) da_nil)))))) da_nil))))) (fun ds M Q h => ?_)
  obtain ⟨a, b, c, rfl, w, k, i, rfl, rfl, rfl, hl, h⟩ := h
  walk_at "rd"
  refine lc_map [w] whD (fun w => whD (stl w k i)) rfl srcV_none (fun u hu M5 l5 C1 h5 => ?_) fun p5 hp5 => ?_
  · obtain rfl := List.mem_singleton.mp hu
    walk_at "rd"
    exact ⟨u, rfl, k, rfl, i, rfl, by omega, h5⟩
  rw [mdel_mput hp5]
  exact ret_of h
abbrev sp_can_become : DSp := ar2 fun a b M Q => ∃ w : List IR, a = .tup [whD w] ∧ b = .tup [.int 1] ∧ Q (.bl (decide (w ≠ []))) M
theorem ok_can_become (F : Def K mg "can_become" s_can_become ["wholes", "truth"]) (B : Bi K mg) (I : Im mg)  : Cal P w K mg base 1 "can_become" ["wholes", "truth"] sp_can_become := by
  have sc := sc_can_become
  refine F.cal sc (fun ds M Q h => len2 h) (fun f cdv A outer s H E hr => (ds_cons (ds_for PassesOwn.never rfl (di_zip rfl B.b_zip (da_cons (d_v 0) (da_cons (d_v 1) da_nil))) (dg_tup (n := 2) rfl (dgs_cons (dg_name (i := 2) sc.nd rfl (Or.inl rfl)) (dgs_cons (dg_name (i := 3) sc.nd rfl (Or.inl rfl)) dgs_nil)))
    (ds_one (ds_if (dt_w (dw_or (dt_w (dw_and (dt_cmp (o_eq (hu_eq hr)) (d_v 3) d_int (nomark _)) (dw_and1 (dt_cmp (o_eq (hu_eq hr)) (d_cb c_len rfl B.b_len boot_len (da_cons (d_v 2) da_nil)) d_int (nomark _))))) (dw_or1 (dt_w (dw_and (dt_cmp (o_eq (hu_eq hr)) (d_v 3) d_int (nomark _)) (dw_and1 (dt_cmp (o_in (hu_in hr)) (d_tup da_nil) (d_v 2) rfl)))))))
    (ds_one (ds_ret d_bl))
    ds_nil)))
    (ds_one (ds_ret d_bl)))) (fun ds M Q h => ?_)
  obtain ⟨a, b, rfl, w, rfl, rfl, h⟩ := h
  walk_at "st"
  refine for_ind (fun items m1 M1 => M1 = M ∧ ∃ x y, m1 = [some (.tup [whD w]), some (.tup [.int 1]), x, y] ∧ (items = [.tup [whD w, .int 1]] ∨ (items = [] ∧ w ≠ []))) ?_ ?_ _ _ _ ⟨rfl, _, _, rfl, .inl rfl⟩
  · rintro m1 M1 ⟨rfl, x, y, rfl, hi⟩
    refine ⟨srcV_none, ?_⟩
    rcases hi with hi | ⟨_, hw⟩
    · cases hi
    walk_at "rd"
    rw [decide_eq_true hw] at h
    exact ret_of h
  · rintro z its m1 M1 Cn hC ⟨rfl, x, y, rfl, hi⟩
    refine ⟨srcV_none, ?_⟩
    rcases hi with hi | ⟨hi, _⟩
    · injection hi with h1 h2
      subst h1
      subst h2
      walk_at "s1"
      refine ⟨w.length, by show dLenOf (.tup (w.map irD)) M1 = _; simp [dLenOf], ?_⟩
      cases w with
      | nil =>
        rw [if_pos (by simp)]
        exact ret_of h
      | cons r w =>
        rw [if_neg (by simp; omega), if_neg (by decide)]
        exact fg_of (hC _ _ ⟨rfl, _, _, rfl, .inr ⟨rfl, by simp⟩⟩)
    · cases hi
def wsI (ds : List Dbt) : List (List Int) := ds.map fun d => d.2.map fun o => o.2
abbrev sp_options_to_try : DSp := ar3 fun a b c M Q => ∃ (ds : List Dbt) (k : Nat) (w : List IR), a = .tup (ds.map dbD) ∧ b = .int (k : Nat) ∧ c = .tup [whD w] ∧ k < ds.length ∧ (∀ d ∈ ds, dbW d) ∧ w.length ≤ 100 ∧ (∀ r ∈ w, r.length ≤ 20) ∧ Q (.lst ((optsI (wsI ds) k w).map fun i : Nat => D.int i)) M
theorem ok_options_to_try (F : Def K mg "options_to_try" s_options_to_try ["doubts", "doubt", "wholes"]) (B : Bi K mg) (I : Im mg) (c_standing : Cal P w K mg base 1 "standing" ["reasons"] sp_standing) : Cal P w K mg base 2 "options_to_try" ["doubts", "doubt", "wholes"] sp_options_to_try := by
  have sc := sc_options_to_try
  refine F.cal sc (fun ds M Q h => len3 h) (fun f cdv A outer s H E hr => (ds_cons (ds_setLcF (i := 3) rfl sc.nd rfl rfl (sw_true rfl rfl rfl (by decide +kernel)) (own := [("row", 4), ("weight", 5)]) (di_seq (d_ix x_ix (d_ix x_ix (d_v 0) (d_v 1) (fun _ _ => rfl)) d_int (fun _ _ => rfl))) (blkOk_by (N := N_options_to_try) (sc := defScope s_options_to_try) (by decide +kernel)) (by decide) (fun _ _ _ _ _ => (dg_tup (n := 2) rfl (dgs_cons (dg_name (i := 4) sc.nd rfl (Or.inl rfl)) (dgs_cons (dg_name (i := 5) sc.nd rfl (Or.inl rfl)) dgs_nil)))) (fun _ _ _ _ _ => dts_nil) (fun _ _ _ _ _ => (d_v 5)))
    (ds_cons (ds_if (dt_val (d_cb (c_any rfl) rfl B.b_any boot_any (da_cons (d_lcF rfl sc.nd (own := [("whole", 6)]) (di_seq (d_v 2)) (blkOk_by (N := N_options_to_try) (sc := defScope s_options_to_try) (by decide +kernel)) (by decide) (fun _ _ _ _ _ => (dg_name (i := 6) sc.nd rfl (Or.inl rfl))) (fun _ _ _ _ _ => dts_nil) (fun _ _ _ _ _ => (d_cmp (o_in (hu_in hr)) (d_v 1) (d_call c_standing (hr.mono (by first | decide | omega)) rfl (da_cons (d_v 6) da_nil)) rfl))) da_nil)))
    (ds_one (ds_ret (d_fz (d_lrg rfl rfl B.b_list rfl B.b_range (d_cb c_len rfl B.b_len boot_len (da_cons (d_v 3) da_nil))))))
    ds_nil)
    (ds_one (ds_ret (d_lstF (da_cons (d_mt PySem.F.slot_list_index PySem.F.type_list_index (m_index (hu_in hr)) (d_v 3) (da_cons (d_cb (c_max rfl) rfl B.b_max boot_max (da_cons (d_v 3) da_nil)) da_nil)) da_nil))))))) (fun ds M Q h => ?_)
  obtain ⟨a, b, c, rfl, ds, k, w, rfl, rfl, rfl, hk, hds, hl, hr, h⟩ := h
  obtain ⟨d, hd⟩ : ∃ d, ds[k]? = some d := ⟨_, List.getElem?_eq_getElem hk⟩
  have hdw := hds d (List.mem_of_getElem? hd)
  have ew : (wsI ds).getD k [] = d.2.map fun o => o.2 := by
    unfold wsI
    rw [List.getD_eq_getElem?_getD, List.getElem?_map, hd]
    rfl
  have hat : atI (ds.map dbD) (k : Nat) = some (dbD d) := atI_nat (by rw [List.getElem?_map, hd]; rfl)
  unfold optsI at h
  rw [ew, List.length_map] at h
  walk_at "st"
  refine ⟨_, hat, _, items_dbD, _, atI_1 _ _ _, _, rfl, fun _ => ?_⟩
  refine lc_map d.2 opD (fun o => D.int o.2) rfl srcV_none (fun o ho M5 l5 C1 h5 => ?_) fun p5 hp5 => ?_
  · walk_at "rd"
    exact h5
  rw [mdel_mput hp5]
  walk_at "rd"
  refine lc_map [w] whD (fun w => D.bl (nmI w k)) rfl srcV_none (fun u hu M5 l5 C1 h5 => ?_) (fun p6 hp6 => ?_)
  · obtain rfl := List.mem_singleton.mp hu
    walk_at "rd"
    refine ⟨u, rfl, hl, hr, fun ks hks => ⟨by rw [List.all_map]; exact List.all_eq_true.mpr fun x _ => by simp, ?_⟩⟩
    have e : ((ks.map D.int).any fun z => D.eqv z (D.int (k : Nat))) = nmI u k := by
      refine Bool.eq_iff_iff.mpr ?_
      rw [nmI_iff, List.any_map, List.any_eq_true]
      constructor
      · rintro ⟨x, hx, e⟩
        obtain ⟨r, hr2, q, hq, e2⟩ := (hks x).mp hx
        have e : D.eqv (.int x) (.int (k : Nat)) = true := e
        rw [eqv_int, decide_eq_true_iff] at e
        exact ⟨r, hr2, q, hq, by omega⟩
      · rintro ⟨r, hr2, q, hq, e2⟩
        refine ⟨(k : Nat), (hks _).mpr ⟨r, hr2, q, hq, by rw [e2]⟩, ?_⟩
        show D.eqv (.int (k : Nat)) (.int (k : Nat)) = true
        rw [eqv_int, decide_eq_true_iff]
    rw [e]
    exact h5
  rw [mdel_mput hp6]
  refine ⟨[nmI w k], rfl, ?_⟩
  by_cases e : nmI w k = true
  · rw [if_pos e] at h
    rw [if_pos (by simp [e])]
    have := hdw.len
    refine ⟨by omega, by rw [List.length_map]; omega, fun p7 hp7 => ⟨_, rfl, ?_⟩⟩
    rw [mdel_mput hp7, show (rangeD 0 (((d.2.map fun o => D.int o.2).length : Nat) : Int).toNat) = (List.range d.2.length).map fun i : Nat => D.int i from by rw [Int.toNat_natCast, rangeD0, List.length_map]]
    exact ret_of h
  · rw [if_neg e] at h
    rw [if_neg (by simp [e])]
    obtain ⟨ws, hws⟩ : ∃ ws, ws = d.2.map fun o : Opt => o.2 := ⟨_, rfl⟩
    have em : (d.2.map fun o : Opt => D.int o.2) = ws.map D.int := by rw [hws, List.map_map]; rfl
    have hwl : ws.length = d.2.length := by rw [hws, List.length_map]
    have hne : ws ≠ [] := fun z => by
      have := hdw.pos
      rw [z] at hwl
      simp at hwl
      omega
    rw [← hws] at h
    obtain ⟨_, f2, f3, f4, f5⟩ := fm_of hne
    have hget : ∀ i, i < ws.length → ws[i]? = some (ws.getD i 0) := fun i hi => by rw [List.getD_eq_getElem?_getD, List.getElem?_eq_getElem hi]; rfl
    rw [em]
    refine ⟨⟨_, rfl⟩, ws, rfl, by have := hdw.pos; omega, fun n h1 h2 => ?_⟩
    have en : n = fmw ws := by
      have z1 := h2 (fmw ws) (by rw [← f3]; exact List.mem_of_getElem? (hget _ f2))
      obtain ⟨i, hi, e1⟩ := List.getElem_of_mem h1
      have z2 := f5 i hi
      rw [List.getD_eq_getElem?_getD, List.getElem?_eq_getElem hi, Option.getD_some, e1] at z2
      omega
    subst en
    refine ⟨by rw [List.all_map]; exact List.all_eq_true.mpr fun x _ => by simp, fmi ws, .int (fmw ws), by rw [List.getElem?_map, hget _ f2, f3]; rfl, by rw [eqv_int]; simp, fun i u hi hu => ?_, ret_of h⟩
    rw [List.getElem?_map, hget i (by omega)] at hu
    obtain rfl := Option.some.inj hu
    rw [eqv_int, decide_eq_false_iff_not]
    have := f4 i hi
    omega
def told (ds : List Dbt) (os : List Nat) : List D := os.zipIdx.map fun q => D.tup ((ds.getD q.2 (.non, [])).2.getD q.1 ([], 0)).1
def osOk (ds : List Dbt) (os : List Nat) : Prop := os.length = ds.length ∧ ∀ (i : Nat) (d : Dbt) (o : Nat), ds[i]? = some d → os[i]? = some o → o < d.2.length
theorem enumD_zip : ∀ (os : List Nat) (n : Nat), enumD n (os.map fun i : Nat => D.int i) = (os.zipIdx n).map fun q => D.tup [.int (q.2 : Nat), .int (q.1 : Nat)]
  | [], n => rfl
  | o :: os, n => by
    rw [List.map_cons, List.zipIdx_cons, List.map_cons, ← enumD_zip os (n + 1)]
    rfl
abbrev sp_told_settling : DSp := ar2 fun a b M Q => ∃ (ds : List Dbt) (os : List Nat), a = .tup (ds.map dbD) ∧ b = .tup (os.map fun i : Nat => D.int i) ∧ (∀ d ∈ ds, dbW d) ∧ osOk ds os ∧ Q (.tup (told ds os)) M
theorem ok_told_settling (F : Def K mg "told_settling" s_told_settling ["doubts", "options"]) (B : Bi K mg) (I : Im mg)  : Cal P w K mg base 1 "told_settling" ["doubts", "options"] sp_told_settling := by
  have sc := sc_told_settling
  refine F.cal sc (fun ds M Q h => len2 h) (fun f cdv A outer s H E hr => (ds_one (ds_ret (d_ct c_tuple rfl B.b_tuple boot_tuple (da_cons (d_lcF rfl sc.nd (own := [("doubt", 2), ("option", 3)]) (di_enumT rfl B.b_enumerate (da_cons (d_v 1) da_nil)) (blkOk_by (N := N_told_settling) (sc := defScope s_told_settling) (by decide +kernel)) (by decide) (fun _ _ _ _ _ => (dg_tup (n := 2) rfl (dgs_cons (dg_name (i := 2) sc.nd rfl (Or.inl rfl)) (dgs_cons (dg_name (i := 3) sc.nd rfl (Or.inl rfl)) dgs_nil)))) (fun _ _ _ _ _ => dts_nil) (fun _ _ _ _ _ => (d_ix x_ix (d_ix x_ix (d_ix x_ix (d_ix x_ix (d_v 0) (d_v 2) (fun _ _ => rfl)) d_int (fun _ _ => rfl)) (d_v 3) (fun _ _ => rfl)) d_int (fun _ _ => rfl)))) da_nil))))) (fun ds M Q h => ?_)
  obtain ⟨a, b, rfl, ds, os, rfl, rfl, hds, ho, h⟩ := h
  walk_at "rd"
  rw [show enumD 0 (os.map fun i : Nat => D.int i) = (os.zipIdx.map fun q => D.tup [.int (q.2 : Nat), .int (q.1 : Nat)]) from enumD_zip os 0]
  refine fun _ => lc_map os.zipIdx (fun q => D.tup [.int (q.2 : Nat), .int (q.1 : Nat)]) (fun q => D.tup ((ds.getD q.2 (.non, [])).2.getD q.1 ([], 0)).1) rfl srcV_none (fun q hq M5 l5 C1 h5 => ?_) fun p5 hp5 => ?_
  · have hq1 := List.mem_zipIdx_iff_getElem?.mp hq
    have hi : q.2 < ds.length := by
      rw [← ho.1]
      exact (List.getElem?_eq_some_iff.mp hq1).1
    obtain ⟨d, hd⟩ : ∃ d, ds[q.2]? = some d := ⟨_, List.getElem?_eq_getElem hi⟩
    obtain ⟨o, hoo⟩ : ∃ o, d.2[q.1]? = some o := ⟨_, List.getElem?_eq_getElem (ho.2 _ _ _ hd hq1)⟩
    have e1 : ds.getD q.2 (.non, []) = d := by rw [List.getD_eq_getElem?_getD, hd]; rfl
    have e : ((ds.getD q.2 (.non, [])).2.getD q.1 ([], 0)) = o := by rw [e1, List.getD_eq_getElem?_getD, hoo, Option.getD_some]
    rw [e] at h5
    walk_at "rd"
    exact ⟨_, atI_nat (by rw [List.getElem?_map, hd]; rfl), _, items_dbD, _, atI_1 _ _ _, _, rfl, _, atI_nat (by rw [List.getElem?_map, hoo]; rfl), _, items_opD, _, atI_0 _ _, h5⟩
  rw [mdel_mput hp5]
  exact ret_of h
/-! ### heaviest_from -/
def bOf : Bt → D
  | none => .non
  | some (os, x) => .tup [.int x, .tup (os.map fun i : Nat => D.int i)]
def hKey (k : Nat) (w : List IR) : D := .tup [.int (k : Nat), .tup [whD w]]
theorem ir_inj {r s : IR} (h : irD r = irD s) : r = s := by
  have := congrArg uI h
  rwa [uI_ir, uI_ir] at this
theorem whD_inj {w v : List IR} (h : whD w = whD v) : w = v := by
  have h2 : w.map irD = v.map irD := by simpa [whD] using h
  have key : ∀ l : List IR, (l.map irD).map uI = l := fun l => by
    rw [List.map_map]
    exact (List.map_congr_left (g := id) fun r _ => uI_ir r).trans (List.map_id l)
  rw [← key w, ← key v, h2]
theorem hKey_inj {k l : Nat} {w v : List IR} (h : hKey k w = hKey l v) : k = l ∧ w = v := by
  simp only [hKey, D.tup.injEq, List.cons.injEq, and_true, D.int.injEq] at h
  exact ⟨Int.ofNat.inj h.1, whD_inj h.2⟩
theorem kOks_all {α : Type} (f : α → D) : ∀ {l : List α}, (∀ x ∈ l, kOk (f x) = true) → kOks (l.map f) = true
  | [], _ => rfl
  | x :: l, h => by
    rw [List.map_cons, kOks, Bool.and_eq_true]
    exact ⟨h x (by simp), kOks_all f fun y hy => h y (by simp [hy])⟩
theorem nks_depth {α : Type} (f : α → D) {n : Nat} : ∀ {l : List α}, (∀ x ∈ l, (nk (f x)).depth ≤ n) → PySem.NestedKey.depthAll (nks (l.map f)) ≤ n
  | [], _ => by simp [nks, PySem.NestedKey.depthAll]
  | x :: l, h => by
    have h1 := h x (by simp)
    have h2 := nks_depth f (l := l) fun y hy => h y (by simp [hy])
    simp only [List.map_cons, nks, PySem.NestedKey.depthAll]
    omega
theorem ip_key (p : Nat × Nat) : kOk (ipD p) = true ∧ (nk (ipD p)).depth ≤ 2 := by
  constructor
  · simp [ipD, kOk, kOks]
  · simp [ipD, nk, nks, PySem.NestedKey.depth, PySem.NestedKey.depthAll]
theorem ir_key (r : IR) : kOk (irD r) = true ∧ (nk (irD r)).depth ≤ 3 := by
  constructor
  · rw [irD, kOk]
    exact kOks_all _ fun p _ => (ip_key p).1
  · have := nks_depth ipD (l := r) (n := 2) fun p _ => (ip_key p).2
    simp only [irD, nk, PySem.NestedKey.depth]
    omega
theorem wh_key (w : List IR) : kOk (whD w) = true ∧ (nk (whD w)).depth ≤ 4 := by
  constructor
  · rw [whD, kOk]
    exact kOks_all _ fun p _ => (ir_key p).1
  · have := nks_depth irD (l := w) (n := 3) fun p _ => (ir_key p).2
    simp only [whD, nk, PySem.NestedKey.depth]
    omega
theorem hKey_key (k : Nat) (w : List IR) : isKey (hKey k w) := by
  obtain ⟨h1, h2⟩ := wh_key w
  refine ⟨⟨_, rfl⟩, ?_, ?_⟩
  · simp [hKey, kOk, kOks, h1]
  · simp only [hKey, nk, nks, PySem.NestedKey.depth, PySem.NestedKey.depthAll]
    omega
def szB (nm : Nat → Bool) : Nat → Nat → Nat
  | _, 0 => 0
  | k, j + 1 => 1 + (if nm k = true then 6 else 1) * szB nm (k + 1) j
def KInv (wss : List (List Int)) (kvs : List (D × D)) : Prop := ∀ q ∈ kvs, ∃ k w, q.1 = hKey k w ∧ q.2 = bOf (hv wss k w)
def spHv (w : World) (j : Nat) (a b c d e : D) (M : DM) (Q : DVK) : Prop := ∃ (ds : List Dbt) (k : Nat) (ws : List IR) (nm : Nat → Bool) (p : Addr) (kvs : List (D × D)), a = .tup (ds.map dbD) ∧ b = .int (k : Nat) ∧ c = .tup [whD ws] ∧ d = .tup [.int 1] ∧ e = .ref p ∧ k + j = ds.length ∧ (∀ d ∈ ds, dbW d) ∧ ds.length ≤ 20 ∧ wI ds.length k ws ∧ (∀ x, nmI ws x = true → nm x = true) ∧ M p = some (.dct w kvs) ∧ KInv (wsI ds) kvs ∧ kvs.length + szB nm k j ≤ 16777216 ∧ ∀ kvs', KInv (wsI ds) kvs' → kvs'.length ≤ kvs.length + szB nm k j → Q (bOf (hv (wsI ds) k ws)) (mput M p (.dct w kvs'))
def spHvU (w : World) (n : Nat) : DSp := ar5 fun a b c d e M Q => ∃ j, j ≤ n ∧ spHv w j a b c d e M Q
def spHvU' (w : World) : Nat → DSp
  | 0 => fun _ _ _ => False
  | n + 1 => spHvU w n
abbrev sp_heaviest_from (w : World) : DSp := spHvU w 20
theorem wsI_len (ds : List Dbt) : (wsI ds).length = ds.length := by unfold wsI; rw [List.length_map]
theorem dget_has {kvs : List (D × D)} {x : D} (h : dhas kvs x = true) : ∃ q ∈ kvs, nk q.1 = nk x ∧ dget kvs x = some q.2 := by
  unfold dhas at h
  unfold dget
  induction kvs with
  | nil => cases h
  | cons q l ih =>
    rw [List.find?_cons]
    by_cases e : nk q.1 = nk x
    · rw [decide_eq_true e]
      exact ⟨q, by simp, e, rfl⟩
    · rw [decide_eq_false e]
      rw [List.any_cons, decide_eq_false e, Bool.false_or] at h
      obtain ⟨u, h1, h2, h3⟩ := ih h
      exact ⟨u, by simp [h1], h2, h3⟩
theorem KInv.get {wss : List (List Int)} {kvs : List (D × D)} (h : KInv wss kvs) {k : Nat} {w : List IR} (hd : dhas kvs (hKey k w) = true) : dget kvs (hKey k w) = some (bOf (hv wss k w)) := by
  obtain ⟨q, hq, e, e2⟩ := dget_has hd
  obtain ⟨l, v, h1, h2⟩ := h q hq
  rw [h1] at e
  have := nk_inj (hKey_key l v).2.1 (hKey_key k w).2.1 e
  obtain ⟨rfl, rfl⟩ := hKey_inj this
  rw [e2, h2]
theorem KInv.put {wss : List (List Int)} {kvs : List (D × D)} (h : KInv wss kvs) (k : Nat) (w : List IR) : KInv wss (dput kvs (hKey k w) (bOf (hv wss k w))) := by
  unfold dput
  intro q hq
  split at hq
  · obtain ⟨u, hu, rfl⟩ := List.mem_map.mp hq
    obtain ⟨l, v, h1, h2⟩ := h u hu
    split
    · next c =>
      rw [h1] at c
      have := nk_inj (hKey_key l v).2.1 (hKey_key k w).2.1 c
      obtain ⟨rfl, rfl⟩ := hKey_inj this
      exact ⟨_, _, h1, rfl⟩
    · exact ⟨l, v, h1, h2⟩
  · rcases List.mem_append.mp hq with hq | hq
    · exact h q hq
    · rw [List.mem_singleton.mp hq]
      exact ⟨k, w, rfl, rfl⟩
theorem dhas_put (kvs : List (D × D)) (x v : D) : dhas (dput kvs x v) x = true := by
  unfold dput
  split
  · next c =>
    obtain ⟨q, hq, e, _⟩ := dget_has c
    unfold dhas
    rw [List.any_map, List.any_eq_true]
    refine ⟨q, hq, ?_⟩
    show decide (nk (if nk q.1 = nk x then (q.1, v) else q).1 = nk x) = true
    rw [if_pos e]
    exact decide_eq_true e
  · unfold dhas
    rw [List.any_append, List.any_cons, decide_eq_true rfl]
    simp
theorem optsI_len {ds : List Dbt} {k : Nat} (hk : k < ds.length) (hds : ∀ d ∈ ds, dbW d) (w : List IR) : (optsI (wsI ds) k w).length ≤ (if nmI w k = true then 6 else 1) ∧ ∀ i ∈ optsI (wsI ds) k w, i < ((wsI ds).getD k []).length := by
  obtain ⟨d, hd⟩ : ∃ d, ds[k]? = some d := ⟨_, List.getElem?_eq_getElem hk⟩
  have hdw := hds d (List.mem_of_getElem? hd)
  have ew : (wsI ds).getD k [] = d.2.map fun o => o.2 := by
    unfold wsI
    rw [List.getD_eq_getElem?_getD, List.getElem?_map, hd]
    rfl
  unfold optsI
  rw [ew]
  split
  · rw [List.length_range, List.length_map]
    exact ⟨hdw.len, fun i hi => List.mem_range.mp hi⟩
  · refine ⟨Nat.le_refl 1, fun i hi => ?_⟩
    rw [List.mem_singleton.mp hi]
    refine (fm_of fun z => ?_).2.1
    have h1 := hdw.pos
    have h2 := congrArg List.length z
    rw [List.length_map, List.length_nil] at h2
    omega
theorem wsI_ok {ds : List Dbt} (hds : ∀ d ∈ ds, dbW d) : wsOk (wsI ds) := by
  intro ws hws
  obtain ⟨d, hd, rfl⟩ := List.mem_map.mp hws
  have hdw := hds d hd
  refine ⟨fun z => ?_, fun i hi => ?_⟩
  · have h1 := hdw.pos
    have h2 := congrArg List.length z
    rw [List.length_map, List.length_nil] at h2
    omega
  · rw [List.length_map] at hi
    rw [List.getD_eq_getElem?_getD, List.getElem?_map, List.getElem?_eq_getElem hi]
    exact (hdw.wt _ (List.getElem_mem hi)).1
theorem fold_mem {q : List Nat × Int} : ∀ {l : List Bt}, bfold l = some q → some q ∈ l
  | [], h => by cases h
  | c :: l, h => by
    rw [bfold_cons] at h
    cases e : bfold l with
    | none =>
      rw [e, bstep_none] at h
      rw [h]
      simp
    | some y =>
      have ih := fold_mem (l := l) e
      rw [e] at h
      cases c with
      | none =>
        rw [none_bstep] at h
        rw [← h]
        simp [ih]
      | some p =>
        have h : (if p.2 < y.2 then some y else some p) = some q := h
        split at h
        · rw [← h]
          simp [ih]
        · rw [← h]
          simp
theorem B_bd : ∀ {wss : List (List Int)} {k : Nat} {T : As → Bool} {a : As} {os : List Nat} {x : Int}, (∀ ws ∈ wss, ∀ i, i < ws.length → Ab 72 (ws.getD i 0)) → B k wss T a = some (os, x) → os.length = wss.length ∧ Ab (1 + 72 * wss.length) x ∧ ∀ (i : Nat) (ws : List Int) (o : Nat), wss[i]? = some ws → os[i]? = some o → o < ws.length
  | [], k, T, a, os, x, _, h => by
    rw [B] at h
    split at h
    · cases h
      exact ⟨rfl, by unfold Ab; decide, fun i ws o e => by simp at e⟩
    · cases h
  | ws :: rest, k, T, a, os, x, hw, h => by
    rw [B] at h
    obtain ⟨i, hi, e⟩ := List.mem_map.mp (fold_mem h)
    have hi := List.mem_range.mp hi
    cases e2 : B (k + 1) rest T (au a k i) with
    | none =>
      rw [e2] at e
      cases e
    | some q =>
      obtain ⟨os2, x2⟩ := q
      rw [e2] at e
      have e : some (i :: os2, ws.getD i 0 * x2) = some (os, x) := e
      cases e
      obtain ⟨h1, h2, h3⟩ := B_bd (fun w hw2 => hw w (by simp [hw2])) e2
      refine ⟨by rw [List.length_cons, List.length_cons, h1], ?_, fun j vs o ej eo => ?_⟩
      · exact ((hw ws (by simp) i hi).mul h2).mono (by rw [List.length_cons]; omega)
      · cases j with
        | zero =>
          rw [List.getElem?_cons_zero] at ej eo
          cases ej
          cases eo
          exact hi
        | succ j =>
          rw [List.getElem?_cons_succ] at ej eo
          exact h3 j vs o ej eo
theorem wsI_ab {ds : List Dbt} (hds : ∀ d ∈ ds, dbW d) : ∀ ws ∈ wsI ds, ∀ i, i < ws.length → Ab 72 (ws.getD i 0) := by
  intro ws hws i hi
  obtain ⟨d, hd, rfl⟩ := List.mem_map.mp hws
  have hdw := hds d hd
  rw [List.length_map] at hi
  rw [List.getD_eq_getElem?_getD, List.getElem?_map, List.getElem?_eq_getElem hi]
  obtain ⟨h1, h2⟩ := hdw.wt _ (List.getElem_mem hi)
  show (d.2[i].2).natAbs < 2 ^ 72
  omega
theorem hv_bd {ds : List Dbt} (hds : ∀ d ∈ ds, dbW d) (hl : ds.length ≤ 20) {k : Nat} {w : List IR} {os : List Nat} {x : Int} (h : hv (wsI ds) k w = some (os, x)) : os.length = ds.length - k ∧ Ab 1500 x := by
  obtain ⟨h1, h2, _⟩ := B_bd (fun ws hws => wsI_ab hds ws (List.mem_of_mem_drop hws)) h
  rw [List.length_drop, wsI_len] at h1 h2
  exact ⟨h1, h2.mono (by omega)⟩
theorem ok_hv_from_step (F : Def K mg "heaviest_from" s_heaviest_from ["doubts", "doubt", "wholes", "truth", "known"]) (B : Bi K mg) (I : Im mg) (c_settled_wholes : Cal P w K mg base 3 "settled_wholes" ["wholes", "doubt", "option"] sp_settled_wholes) (c_can_become : Cal P w K mg base 1 "can_become" ["wholes", "truth"] sp_can_become) (c_options_to_try : Cal P w K mg base 2 "options_to_try" ["doubts", "doubt", "wholes"] sp_options_to_try)(N9 : Nat) (c_heaviest_from : Cal P w K mg base (N9 + 3) "heaviest_from" ["doubts", "doubt", "wholes", "truth", "known"] (spHvU' w N9)) : Cal P w K mg base (N9 + 4) "heaviest_from" ["doubts", "doubt", "wholes", "truth", "known"] (spHvU w N9) := by
  have sc := sc_heaviest_from
  refine F.cal sc (fun ds M Q h => len5 h) (fun f cdv A outer s H E hr => (ds_cons (ds_if (dt_not (dt_val (d_call c_can_become (hr.mono (by first | decide | omega)) rfl (da_cons (d_v 2) (da_cons (d_v 3) da_nil)))))
    (ds_one (ds_ret d_non))
    ds_nil)
    (ds_cons (ds_if (dt_cmp (o_eq (hu_eq hr)) (d_v 1) (d_cb c_len rfl B.b_len boot_len (da_cons (d_v 0) da_nil)) (nomark _))
    (ds_one (ds_ret (d_tup (da_cons d_int (da_cons (d_tup da_nil) da_nil)))))
    ds_nil)
    (ds_cons (ds_set (i := 5) sc.nd rfl (Or.inl rfl) (d_tup (da_cons (d_v 1) (da_cons (d_v 2) da_nil))))
    (ds_cons (ds_if (dt_cmp (o_notinD (w := w) rfl (hu_9 hr)) (d_v 5) (d_v 4) rfl)
    (ds_cons (ds_set (i := 6) sc.nd rfl (Or.inl rfl) d_non)
    (ds_cons (ds_for PassesOwn.never rfl (di_seq (d_call c_options_to_try (hr.mono (by first | decide | omega)) rfl (da_cons (d_v 0) (da_cons (d_v 1) (da_cons (d_v 2) da_nil))))) (dg_name (i := 7) sc.nd rfl (Or.inl rfl))
    (ds_cons (ds_set (i := 8) sc.nd rfl (Or.inl rfl) (d_call c_heaviest_from (hr.mono (by first | decide | omega)) rfl (da_cons (d_v 0) (da_cons (d_op o_add (d_v 1) d_int) (da_cons (d_call c_settled_wholes (hr.mono (by first | decide | omega)) rfl (da_cons (d_v 2) (da_cons (d_v 1) (da_cons (d_v 7) da_nil)))) (da_cons (d_v 3) (da_cons (d_v 4) da_nil)))))))
    (ds_one (ds_if (dt_cmp o_isnot (d_v 8) d_non (nomark _))
    (ds_cons (ds_set (i := 9) sc.nd rfl (Or.inl rfl) (d_op o_mul (d_ix x_ix (d_ix x_ix (d_ix x_ix (d_ix x_ix (d_v 0) (d_v 1) (fun _ _ => rfl)) d_int (fun _ _ => rfl)) (d_v 7) (fun _ _ => rfl)) d_int (fun _ _ => rfl)) (d_ix x_ix (d_v 8) d_int (fun _ _ => rfl))))
    (ds_one (ds_if (dt_w (dw_or (dt_cmp o_is (d_v 6) d_non (nomark _)) (dw_or1 (dt_cmp o_gt (d_v 9) (d_ix x_ix (d_v 6) d_int (fun _ _ => rfl)) (nomark _)))))
    (ds_one (ds_set (i := 6) sc.nd rfl (Or.inl rfl) (d_tup (da_cons (d_v 9) (da_cons (d_op o_addA (d_tup (da_cons (d_v 7) da_nil)) (d_ix x_ix (d_v 8) d_int (fun _ _ => rfl))) da_nil)))))
    ds_nil)))
    ds_nil))))
    (ds_one (ds_put (d_v 6) (d_v 4) (d_v 5) (s_dct (w := w) rfl (hu_9 hr))))))
    ds_nil)
    (ds_one (ds_ret (d_ix (x_dix (w := w) rfl (hu_9 hr)) (d_v 4) (d_v 5) (fun _ _ => rfl))))))))) (fun ds M Q h => ?_)
  obtain ⟨a, b, c, d, e, rfl, n, hn9, ds, k, ws, nm, p, kvs, rfl, rfl, rfl, rfl, rfl, hkj, hds, hdl, hw, hnm, hM, hK, hsz, h⟩ := h
  have eput : mput M p (.dct w kvs) = M := by
    funext a
    unfold mput
    split
    · next e => rw [e, hM]
    · rfl
  walk_at "st"
  by_cases hws : ws = []
  · subst hws
    refine ⟨[], rfl, ?_⟩
    rw [if_pos (by simp)]
    have z := h kvs hK (by omega)
    rw [eput, hv_nil] at z
    exact ret_of z
  refine ⟨ws, rfl, ?_⟩
  rw [if_neg (by simpa using hws)]
  cases n with
  | zero =>
    walk_at "rd"
    rw [if_pos (by rw [List.length_map]; omega)]
    have z := h kvs hK (by omega)
    have ek : k = (wsI ds).length := by rw [wsI_len]; omega
    rw [← wsI_len, ← ek] at hw
    rw [eput, ek, hv_end (by rw [← ek]; exact hw) hws] at z
    exact ret_of z
  | succ n =>
    have hk : k < ds.length := by omega
    obtain ⟨N8, rfl⟩ : ∃ m, N9 = m + 1 := ⟨N9 - 1, by omega⟩
    walk_at "rd"
    rw [if_neg (by rw [List.length_map]; omega)]
    refine ⟨kvs, hM, hKey_key k ws, ?_⟩
    cases hd : dhas kvs (hKey k ws) with
    | true =>
      rw [show dhas kvs (D.tup [D.int k, D.tup [whD ws]]) = true from hd, if_neg (by simp)]
      have z := h kvs hK (by omega)
      rw [eput] at z
      exact ⟨kvs, hM, hKey_key k ws, _, hK.get hd, ret_of z⟩
    | false =>
      rw [show dhas kvs (D.tup [D.int k, D.tup [whD ws]]) = false from hd, if_pos rfl]
      refine ⟨ds, rfl, k, rfl, ws, rfl, hk, hds, hw.len, hw.rl, fun _ => ?_⟩
      obtain ⟨f, hf⟩ : ∃ f : Nat → Bt, f = fun i => ext i (((wsI ds).getD k []).getD i 0) (hv (wsI ds) (k + 1) (stl ws k i)) := ⟨_, rfl⟩
      obtain ⟨o1, o2⟩ := optsI_len hk hds ws
      have hstep := hv_step (wsI_ok hds) (k := k) (by rw [wsI_len]; exact hk) (w := ws) (by rw [wsI_len]; exact hw)
      rw [← hf] at hstep
      obtain ⟨ol, hol⟩ : ∃ ol, ol = optsI (wsI ds) k ws := ⟨_, rfl⟩
      rw [← hol] at hstep o1 o2 ⊢
      have hszk : szB nm k (n + 1) = 1 + (if nm k = true then 6 else 1) * szB nm (k + 1) n := rfl
      have hopt : ol.length ≤ (if nm k = true then 6 else 1) := by
        cases e : nmI ws k with
        | true =>
          rw [hnm k e]
          rw [e] at o1
          exact o1
        | false =>
          rw [e] at o1
          simp only [Bool.false_eq_true, if_false] at o1
          split <;> omega
      have hmul : ol.length * szB nm (k + 1) n ≤ (if nm k = true then 6 else 1) * szB nm (k + 1) n := Nat.mul_le_mul_right _ hopt
      refine for_ind (fun items m1 M1 => ∃ (rest dn : List Nat) (kvs1 : List (D × D)) (x7 x8 x9 : Option D), items = (rest.map fun i : Nat => D.int i) ∧ dn ++ rest = ol ∧ M1 = mput M p (.dct w kvs1) ∧ KInv (wsI ds) kvs1 ∧ kvs1.length ≤ kvs.length + dn.length * szB nm (k + 1) n ∧ m1 = [some (D.tup (List.map dbD ds)), some (D.int k), some (D.tup [whD ws]), some (D.tup [D.int 1]), some (D.ref p), some (hKey k ws), some (bOf (bfold (dn.map f))), x7, x8, x9]) ?_ ?_ _ _ _ ⟨ol, [], kvs, _, _, _, rfl, rfl, eput.symm, hK, by omega, rfl⟩
      · rintro m1 M1 ⟨rest, dn, kvs1, x7, x8, x9, hi, hdn, rfl, hK1, hl1, rfl⟩
        refine ⟨srcV_none, ?_⟩
        cases rest with
        | cons i rest => cases hi
        | nil =>
          rw [List.append_nil] at hdn
          subst hdn
          rw [← hstep]
          walk_at "rd"
          have hdl := dput_len kvs1 (hKey k ws) (bOf (hv (wsI ds) k ws))
          exact ⟨kvs1, rfl, hKey_key k ws, by omega, _, rfl, hKey_key k ws, _, (hK1.put k ws).get (dhas_put _ _ _), ret_of (h _ (hK1.put k ws) (by omega))⟩
      · rintro z its m1 M1 Cn hC ⟨rest, dn, kvs1, x7, x8, x9, hi, hdn, rfl, hK1, hl1, rfl⟩
        refine ⟨srcV_none, ?_⟩
        cases rest with
        | nil => cases hi
        | cons i rest =>
          rw [List.map_cons] at hi
          injection hi with h1 h2
          subst h1
          subst h2
          have hil : i ∈ ol := by rw [← hdn]; simp
          have hlen : dn.length + 1 ≤ ol.length := by rw [← hdn, List.length_append, List.length_cons]; omega
          have hm2 : (dn.length + 1) * szB nm (k + 1) n ≤ ol.length * szB nm (k + 1) n := Nat.mul_le_mul_right _ hlen
          rw [Nat.add_mul, Nat.one_mul] at hm2
          walk_at "s1"
          rw [show spHvU' w (N8 + 1) = spHvU w N8 from rfl]
          walk_at "st"
          refine ⟨ws, rfl, k, rfl, i, rfl, hw.len, _, _, _, _, _, rfl, n, by omega, ds, k + 1, stl ws k i, nm, p, kvs1, rfl, rfl, rfl, rfl, rfl, by omega, hds, hdl, wI_stl hw i, fun x hx => hnm x (nmI_stl hx), mput_same, hK1, by omega, fun kvs2 hK2 hl2 => ?_⟩
          rw [mput_mput]
          have hfi : f i = ext i (((wsI ds).getD k []).getD i 0) (hv (wsI ds) (k + 1) (stl ws k i)) := by rw [hf]
          have hbf : bfold ((dn ++ [i]).map f) = bstep (bfold (dn.map f)) (f i) := by
            rw [List.map_append, bfold_append, List.map_singleton, bfold_cons]
            rfl
          have hnx : ∀ x8 x9 : Option D, Cn [some (D.tup (List.map dbD ds)), some (D.int k), some (D.tup [whD ws]), some (D.tup [D.int 1]), some (D.ref p), some (hKey k ws), some (bOf (bstep (bfold (dn.map f)) (f i))), some (D.int i), x8, x9] (mput M p (.dct w kvs2)) := fun x8 x9 =>
            hC _ _ ⟨rest, dn ++ [i], kvs2, _, _, _, rfl, by rw [← hdn]; simp, rfl, hK2, by rw [List.length_append, List.length_singleton, Nat.add_mul, Nat.one_mul]; omega, by rw [hbf]⟩
          rw [hfi] at hnx
          cases e : hv (wsI ds) (k + 1) (stl ws k i) with
          | none =>
            rw [e] at hnx
            change (if (bOf none).isN = false then _ else _)
            rw [if_neg (by simp [bOf, D.isN])]
            exact fg_of (hnx _ _)
          | some q =>
            obtain ⟨os, x⟩ := q
            rw [e] at hnx
            change (if (bOf (some (os, x))).isN = false then _ else _)
            rw [if_pos (by simp [bOf, D.isN])]
            obtain ⟨d, hd9⟩ : ∃ d, ds[k]? = some d := ⟨_, List.getElem?_eq_getElem hk⟩
            have hdw := hds d (List.mem_of_getElem? hd9)
            obtain ⟨o, ho9⟩ : ∃ o, d.2[i]? = some o := by
              have z := o2 i hil
              have ew : (wsI ds).getD k [] = d.2.map fun o => o.2 := by
                unfold wsI
                rw [List.getD_eq_getElem?_getD, List.getElem?_map, hd9]
                rfl
              rw [ew, List.length_map] at z
              exact ⟨_, List.getElem?_eq_getElem z⟩
            have hwt : ((wsI ds).getD k []).getD i 0 = o.2 := by
              have ew : (wsI ds).getD k [] = d.2.map fun o => o.2 := by
                unfold wsI
                rw [List.getD_eq_getElem?_getD, List.getElem?_map, hd9]
                rfl
              rw [ew, List.getD_eq_getElem?_getD, List.getElem?_map, ho9]
              rfl
            rw [hwt] at hnx
            have hnx : ∀ x8 x9 : Option D, Cn [some (D.tup (List.map dbD ds)), some (D.int k), some (D.tup [whD ws]), some (D.tup [D.int 1]), some (D.ref p), some (hKey k ws), some (bOf (bstep (bfold (dn.map f)) (some (i :: os, o.2 * x)))), some (D.int i), x8, x9] (mput M p (.dct w kvs2)) := hnx
            have hgo : bOf (some (i :: os, o.2 * x)) = D.tup [.int (o.2 * x), .tup ([D.int i] ++ os.map fun i : Nat => D.int i)] := rfl
            have hat1 : ∀ {n : DM}, atI (ds.map dbD) (k : Nat) = some (dbD d) := atI_nat (by rw [List.getElem?_map, hd9]; rfl)
            have hat2 : atI (d.2.map opD) (i : Nat) = some (opD o) := atI_nat (by rw [List.getElem?_map, ho9]; rfl)
            obtain ⟨z1, z2⟩ := hv_bd hds hdl e
            have hcm : CMulA o.2 x := by
              obtain ⟨y1, y2⟩ := hdw.wt _ (List.mem_of_getElem? ho9)
              have y3 : Ab 72 o.2 := by
                show o.2.natAbs < 2 ^ 72
                omega
              exact y3.cmul z2 (by decide)
            have hgp : ∀ (y : D) (b : Bt) (hb : bOf b = y) x8 x9, (some b = some (bstep (bfold (dn.map f)) (some (i :: os, o.2 * x)))) → fg Cn [some (D.tup (List.map dbD ds)), some (D.int k), some (D.tup [whD ws]), some (D.tup [D.int 1]), some (D.ref p), some (hKey k ws), some y, some (D.int i), x8, x9] (mput M p (.dct w kvs2)) := fun y b hb x8 x9 he => by
              rw [← hb, Option.some.inj he]
              exact fg_of (hnx _ _)
            have hol1 : 1 + (os.map fun i : Nat => D.int i).length ≤ 16777216 := by
              rw [List.length_map]
              omega
            cases e3 : bfold (dn.map f) with
            | none =>
              rw [show bOf none = D.non from rfl, show bOf (some (os, x)) = D.tup [.int x, .tup (os.map fun i : Nat => D.int i)] from rfl]
              walk_at "rd"
              refine ⟨_, hat1 (n := M), _, items_dbD, _, atI_1 _ _ _, _, rfl, _, hat2, _, items_opD, _, atI_1 _ _ _, _, rfl, hcm, hol1, ?_⟩
              exact hgp _ (some (i :: os, o.2 * x)) rfl _ _ (by rw [e3]; rfl)
            | some q =>
              obtain ⟨os2, x2⟩ := q
              rw [show bOf (some (os2, x2)) = D.tup [.int x2, .tup (os2.map fun i : Nat => D.int i)] from rfl, show bOf (some (os, x)) = D.tup [.int x, .tup (os.map fun i : Nat => D.int i)] from rfl]
              walk_at "rd"
              refine ⟨_, hat1 (n := M), _, items_dbD, _, atI_1 _ _ _, _, rfl, _, hat2, _, items_opD, _, atI_1 _ _ _, _, rfl, hcm, ?_⟩
              by_cases c : x2 < o.2 * x
              · rw [if_pos c]
                exact ⟨hol1, hgp _ (some (i :: os, o.2 * x)) rfl _ _ (by rw [e3]; show _ = some (if x2 < o.2 * x then _ else _); rw [if_pos c])⟩
              · rw [if_neg c]
                exact hgp _ (some (os2, x2)) rfl _ _ (by rw [e3]; show _ = some (if x2 < o.2 * x then _ else _); rw [if_neg c])
theorem ok_heaviest_from (F : Def K mg "heaviest_from" s_heaviest_from ["doubts", "doubt", "wholes", "truth", "known"]) (B : Bi K mg) (I : Im mg) (c_settled_wholes : Cal P w K mg base 3 "settled_wholes" ["wholes", "doubt", "option"] sp_settled_wholes) (c_can_become : Cal P w K mg base 1 "can_become" ["wholes", "truth"] sp_can_become) (c_options_to_try : Cal P w K mg base 2 "options_to_try" ["doubts", "doubt", "wholes"] sp_options_to_try) : Cal P w K mg base 24 "heaviest_from" ["doubts", "doubt", "wholes", "truth", "known"] (sp_heaviest_from w) := by
  have z : ∀ n : Nat, Cal P w K mg base (n + 4) "heaviest_from" ["doubts", "doubt", "wholes", "truth", "known"] (spHvU w n) := by
    intro n
    induction n with
    | zero => exact ok_hv_from_step F B I c_settled_wholes c_can_become c_options_to_try 0 F.nil
    | succ n ih => exact ok_hv_from_step F B I c_settled_wholes c_can_become c_options_to_try (n + 1) ih
  exact z 20
/-! ### indexed -/
theorem prD_key {q : D × List D} (h : prOk q) : isKey (prD q) := by
  obtain ⟨⟨m, e, hm⟩, hv⟩ := h
  obtain ⟨h1, h2⟩ := row_key hm.2
  obtain ⟨h3, h4⟩ := row_key hv
  obtain ⟨a, b⟩ := q
  simp only at e
  subst e
  refine ⟨⟨_, rfl⟩, ?_, ?_⟩
  · simp [prD, mkD, kOk, kOks, h1, h3]
  · simp only [prD, mkD, nk, nks, PySem.NestedKey.depth, PySem.NestedKey.depthAll]
    simp only at h4
    omega
theorem prD_inj {p q : D × List D} (h : prD p = prD q) : p = q := by
  obtain ⟨a, b⟩ := p
  obtain ⟨c, d⟩ := q
  simp only [prD, D.tup.injEq, List.cons.injEq, and_true] at h
  rw [h.1, h.2]
theorem dget_put (kvs : List (D × D)) (x v y : D) : dget (dput kvs x v) y = if nk x = nk y then some v else dget kvs y := by
  have key : ∀ l : List (D × D), ((l.map fun p => if nk p.1 = nk x then (p.1, v) else p).find? fun p => decide (nk p.1 = nk y)).map (·.2) = if nk x = nk y ∧ dhas l x = true then some v else dget l y := by
    intro l
    induction l with
    | nil =>
      rw [if_neg (fun z => by cases z.2)]
      rfl
    | cons p l ih =>
      unfold dget dhas at ih ⊢
      rw [List.map_cons, List.find?_cons, List.find?_cons, List.any_cons]
      by_cases e1 : nk p.1 = nk x
      · rw [if_pos e1]
        by_cases e2 : nk x = nk y
        · have e3 : nk p.1 = nk y := e1.trans e2
          simp [e1, e2, e3]
        · have e3 : ¬ nk p.1 = nk y := fun z => e2 (e1.symm.trans z)
          simp only [decide_eq_false e3]
          rw [ih, if_neg (fun z => e2 z.1), if_neg (fun z => e2 z.1)]
      · rw [if_neg e1]
        by_cases e3 : nk p.1 = nk y
        · have e2 : ¬ nk x = nk y := fun z => e1 (e3.trans z.symm)
          simp [e3, e2]
        · simp only [decide_eq_false e3, decide_eq_false e1, Bool.false_or]
          exact ih
  unfold dput
  split
  · next c =>
    unfold dget at key ⊢
    rw [key kvs]
    by_cases e : nk x = nk y
    · rw [if_pos ⟨e, c⟩, if_pos e]
    · rw [if_neg (fun z => e z.1), if_neg e]
  · next c =>
    unfold dget
    rw [List.find?_append]
    by_cases e : nk x = nk y
    · rw [if_pos e]
      have hn : kvs.find? (fun p => decide (nk p.1 = nk y)) = none := by
        rw [List.find?_eq_none]
        intro p hp z
        refine c ?_
        unfold dhas
        rw [List.any_eq_true]
        exact ⟨p, hp, decide_eq_true ((of_decide_eq_true z).trans e.symm)⟩
      rw [hn]
      simp [e]
    · rw [if_neg e]
      cases kvs.find? (fun p => decide (nk p.1 = nk y)) with
      | some u => rfl
      | none => simp [e]
/-- where a pair stands -/
def IxOk (ds : List Dbt) (q : D × List D) (p : Nat × Nat) : Prop := ∃ d o, ds[p.1]? = some d ∧ d.1 = q.1 ∧ d.2[p.2]? = some o ∧ o.1 = q.2
noncomputable def ix (ds : List Dbt) (q : D × List D) : Nat × Nat := @dite _ (∃ p, IxOk ds q p) (Classical.propDecidable _) (fun h => Classical.choose h) (fun _ => (0, 0))
theorem ix_ok {ds : List Dbt} {q : D × List D} (h : ∃ p, IxOk ds q p) : IxOk ds q (ix ds q) := by
  unfold ix
  rw [dif_pos h]
  exact Classical.choose_spec h
theorem ix_ex {ds : List Dbt} {q : D × List D} (h : ∃ d ∈ ds, d.1 = q.1 ∧ q.2 ∈ rowsOf d) : ∃ p, IxOk ds q p := by
  obtain ⟨d, hd, e, hr⟩ := h
  obtain ⟨o, ho, e2⟩ := List.mem_map.mp hr
  obtain ⟨i, hi, e3⟩ := List.getElem_of_mem hd
  obtain ⟨j, hj, e4⟩ := List.getElem_of_mem ho
  exact ⟨(i, j), d, o, by rw [List.getElem?_eq_getElem hi, e3], e, by rw [List.getElem?_eq_getElem hj, e4], e2⟩
theorem nd_at {α : Type} {l : List α} (h : l.Nodup) {i j : Nat} {x : α} (hi : l[i]? = some x) (hj : l[j]? = some x) : i = j := by
  obtain ⟨a1, a2⟩ := List.getElem?_eq_some_iff.mp hi
  obtain ⟨b1, b2⟩ := List.getElem?_eq_some_iff.mp hj
  rcases Nat.lt_trichotomy i j with c | c | c
  · exact absurd (a2.trans b2.symm) ((List.pairwise_iff_getElem.mp h) i j a1 b1 c)
  · exact c
  · exact absurd (b2.trans a2.symm) ((List.pairwise_iff_getElem.mp h) j i b1 a1 c)
theorem ix_uniq {ds : List Dbt} (hds : ∀ d ∈ ds, dbW d) (hn : (ds.map (·.1)).Nodup) {q : D × List D} {p p' : Nat × Nat} (h : IxOk ds q p) (k : IxOk ds q p') : p = p' := by
  obtain ⟨d, o, h1, h2, h3, h4⟩ := h
  obtain ⟨d', o', k1, k2, k3, k4⟩ := k
  have e1 : p.1 = p'.1 := nd_at hn (x := q.1) (by rw [List.getElem?_map, h1]; exact congrArg some h2) (by rw [List.getElem?_map, k1]; exact congrArg some k2)
  rw [e1, k1] at h1
  cases h1
  have e2 : p.2 = p'.2 := nd_at (hds d (List.mem_of_getElem? k1)).nd (x := q.2) (by unfold rowsOf; rw [List.getElem?_map, h3]; exact congrArg some h4) (by unfold rowsOf; rw [List.getElem?_map, k3]; exact congrArg some k4)
  exact Prod.ext e1 e2
def IxInv (ds : List Dbt) (i0 j0 : Nat) (kvs : List (D × D)) : Prop := kvs.length ≤ i0 * 6 + j0 ∧ ∀ (i j : Nat) (d : Dbt) (o : Opt), ds[i]? = some d → d.2[j]? = some o → (i < i0 ∨ i = i0 ∧ j < j0) → dget kvs (prD (d.1, o.1)) = some (ipD (i, j))
theorem IxInv.put {ds : List Dbt} (hds : ∀ d ∈ ds, dbW d) (hn : (ds.map (·.1)).Nodup) {i0 j0 : Nat} {kvs : List (D × D)} (h : IxInv ds i0 j0 kvs) {d : Dbt} {o : Opt} (hd : ds[i0]? = some d) (ho : d.2[j0]? = some o) : IxInv ds i0 (j0 + 1) (dput kvs (prD (d.1, o.1)) (ipD (i0, j0))) := by
  refine ⟨?_, fun i j d' o' hd' ho' hij => ?_⟩
  · have := dput_len kvs (prD (d.1, o.1)) (ipD (i0, j0))
    have := h.1
    omega
  · have pk : ∀ {d : Dbt} {o : Opt} {i j : Nat}, ds[i]? = some d → d.2[j]? = some o → prOk (d.1, o.1) := fun {d o i j} hd ho => by
      have hdw := hds d (List.mem_of_getElem? hd)
      exact ⟨hdw.mark, hdw.rv (List.mem_of_getElem? ho)⟩
    rw [dget_put]
    by_cases e : nk (prD (d.1, o.1)) = nk (prD (d'.1, o'.1))
    · have e := prD_inj (nk_inj (prD_key (pk hd ho)).2.1 (prD_key (pk hd' ho')).2.1 e)
      have := ix_uniq hds hn (q := (d.1, o.1)) (p := (i0, j0)) (p' := (i, j)) ⟨d, o, hd, rfl, ho, rfl⟩ ⟨d', o', hd', (Prod.mk.inj e).1.symm, ho', (Prod.mk.inj e).2.symm⟩
      rw [if_pos (by rw [e]), this]
    · rw [if_neg e]
      refine h.2 i j d' o' hd' ho' ?_
      rcases hij with c | ⟨c1, c2⟩
      · exact .inl c
      · refine .inr ⟨c1, ?_⟩
        rcases Nat.lt_succ_iff_lt_or_eq.mp c2 with c3 | c3
        · exact c3
        · exfalso
          subst c1
          subst c3
          rw [hd] at hd'
          cases hd'
          rw [ho] at ho'
          cases ho'
          exact e rfl
theorem IxInv.next {ds : List Dbt} {i0 : Nat} {kvs : List (D × D)} {d : Dbt} (hd : ds[i0]? = some d) (hl : d.2.length ≤ 6) (h : IxInv ds i0 d.2.length kvs) : IxInv ds (i0 + 1) 0 kvs := by
  refine ⟨by have := h.1; omega, fun i j d' o' hd' ho' hij => h.2 i j d' o' hd' ho' ?_⟩
  rcases hij with c | ⟨_, c2⟩
  · rcases Nat.lt_succ_iff_lt_or_eq.mp c with c3 | c3
    · exact .inl c3
    · subst c3
      rw [hd] at hd'
      cases hd'
      exact .inr ⟨rfl, (List.getElem?_eq_some_iff.mp ho').1⟩
  · omega
theorem mid_at {α : Type} {l1 l2 l : List α} {x : α} (h : l1 ++ x :: l2 = l) : l[l1.length]? = some x := by
  rw [← h, List.getElem?_append_right (Nat.le_refl _), Nat.sub_self]
  rfl
abbrev sp_indexed (w : World) : DSp := ar2 fun a b M Q => ∃ (ds : List Dbt) (rs : List Rsn), a = .tup (ds.map dbD) ∧ b = reD rs ∧ (∀ d ∈ ds, dbW d) ∧ (ds.map (·.1)).Nodup ∧ ds.length ≤ 20 ∧ (∀ r ∈ rs, ∀ q ∈ r, ∃ d ∈ ds, d.1 = q.1 ∧ q.2 ∈ rowsOf d) ∧ Q (whD (rs.map fun r => r.map (ix ds))) M
theorem ok_indexed (F : Def K mg "indexed" s_indexed ["doubts", "reasons"]) (B : Bi K mg) (I : Im mg)  : Cal P w K mg base 1 "indexed" ["doubts", "reasons"] (sp_indexed w) := by
  have sc := sc_indexed
  refine F.cal sc (fun ds M Q h => len2 h) (fun f cdv A outer s H E hr => (ds_cons (ds_set (i := 2) sc.nd rfl (Or.inr rfl) (d_dnew (w := w) rfl))
    (ds_cons (ds_for PassesOwn.never rfl (di_enumT rfl B.b_enumerate (da_cons (d_v 0) da_nil)) (dg_tup (n := 2) rfl (dgs_cons (dg_name (i := 3) sc.nd rfl (Or.inl rfl)) (dgs_cons (dg_tup (n := 2) rfl (dgs_cons (dg_name (i := 4) sc.nd rfl (Or.inl rfl)) (dgs_cons (dg_name (i := 5) sc.nd rfl (Or.inl rfl)) dgs_nil))) dgs_nil)))
    (ds_one (ds_for PassesOwn.never rfl (di_enumT rfl B.b_enumerate (da_cons (d_v 5) da_nil)) (dg_tup (n := 2) rfl (dgs_cons (dg_name (i := 6) sc.nd rfl (Or.inl rfl)) (dgs_cons (dg_tup (n := 2) rfl (dgs_cons (dg_name (i := 7) sc.nd rfl (Or.inl rfl)) (dgs_cons (dg_name (i := 8) sc.nd rfl (Or.inl rfl)) dgs_nil))) dgs_nil)))
    (ds_one (ds_put (d_tup (da_cons (d_v 3) (da_cons (d_v 6) da_nil))) (d_v 2) (d_tup (da_cons (d_v 4) (da_cons (d_v 7) da_nil))) (s_dct (w := w) rfl (hu_9 hr)))))))
    (ds_one (ds_ret (d_ct c_tuple rfl B.b_tuple boot_tuple (da_cons (d_lcF rfl sc.nd (own := [("reason", 9)]) (di_seq (d_v 1)) (blkOk_by (N := N_indexed) (sc := defScope s_indexed) (by decide +kernel)) (by decide) (fun _ _ _ _ _ => (dg_name (i := 9) sc.nd rfl (Or.inl rfl))) (fun _ _ _ _ _ => dts_nil) (fun _ _ _ _ _ => (d_ct c_tuple rfl B.b_tuple boot_tuple (da_cons (d_lcF rfl sc.nd (own := [("pair", 10)]) (di_seq (d_v 9)) (blkOk_by (N := N_indexed) (sc := ({ kind := PySem.ScopeKind.function, names := [(PySem.Str.ofString ".0", PySem.NameKind.local), (PySem.Str.ofString "reason", PySem.NameKind.local), (PySem.Str.ofString "tuple", PySem.NameKind.globalImplicit), (PySem.Str.ofString "pairs", PySem.NameKind.cell)], isGenerator := false, isCoroutine := false } : PySem.Scope)) (by decide +kernel)) (by decide) (fun _ _ _ _ _ => (dg_name (i := 10) sc.nd rfl (Or.inl rfl))) (fun _ _ _ _ _ => dts_nil) (fun _ _ _ _ _ => (d_ix (x_dix (w := w) rfl (hu_9 hr)) (d_v 2) (d_v 10) (fun _ _ => rfl)))) da_nil)))) da_nil))))))) (fun ds M Q h => ?_)
  obtain ⟨a, b, rfl, ds, rs, rfl, rfl, hds, hn, hl, hr, h⟩ := h
  walk_at "st"
  intro p hp
  walk_at "st"
  intro _
  refine for_ind (fun items m1 M1 => ∃ (rest dn : List Dbt) (kvs : List (D × D)) (x3 x4 x5 x6 x7 x8 : Option D), items = enumD dn.length (rest.map dbD) ∧ dn ++ rest = ds ∧ M1 = mput M p (.dct w kvs) ∧ IxInv ds dn.length 0 kvs ∧ m1 = [some (D.tup (List.map dbD ds)), some (reD rs), some (D.ref p), x3, x4, x5, x6, x7, x8, none, none]) ?_ ?_ _ _ _ ⟨ds, [], [], _, _, _, _, _, _, rfl, rfl, rfl, ⟨Nat.zero_le _, fun i j d o _ _ hij => absurd hij (by simp)⟩, rfl⟩
  · rintro m1 M1 ⟨rest, dn, kvs, x3, x4, x5, x6, x7, x8, hi, hd, rfl, hK, rfl⟩
    refine ⟨srcV_none, ?_⟩
    cases rest with
    | cons x r => cases hi
    | nil =>
      rw [List.append_nil] at hd
      subst hd
      walk_at "rd"
      have e2 : whD (rs.map fun r => r.map (ix dn)) = .tup (rs.map fun r => irD (r.map (ix dn))) := by
        unfold whD
        rw [List.map_map]
        rfl
      rw [e2] at h
      refine ⟨_, items_reD, fun _ => ?_⟩
      refine lc_map rs rsD (fun r => irD (r.map (ix dn))) rfl srcV_none (fun r hr5 M5 l5 C1 h5 => ?_) fun p5 hp5 => ?_
      · have e3 : irD (r.map (ix dn)) = .tup (r.map fun q => ipD (ix dn q)) := by
          unfold irD
          rw [List.map_map]
          rfl
        rw [e3] at h5
        walk_at "rd"
        refine ⟨_, items_rsD, fun _ => ?_⟩
        refine lc_map r prD (fun q => ipD (ix dn q)) rfl srcV_none (fun q hq M6 l6 C6 h6 => ?_) fun p6 hp6 => ?_
        · obtain ⟨d, o, e1, e2, e3, e4⟩ := ix_ok (ix_ex (hr r hr5 q hq))
          have hg := hK.2 _ _ d o e1 e3 (.inl (List.getElem?_eq_some_iff.mp e1).1)
          have hdw := hds d (List.mem_of_getElem? e1)
          have hpk : prOk (d.1, o.1) := ⟨hdw.mark, hdw.rv (List.mem_of_getElem? e3)⟩
          have eq : (d.1, o.1) = q := Prod.ext e2 e4
          rw [eq] at hg hpk
          walk_at "rd"
          exact ⟨kvs, l6 _ _ (l5 _ _ mput_same), prD_key hpk, _, hg, h6⟩
        rw [mdel_mput hp6]
        exact h5
      rw [mdel_mput hp5]
      exact ret_le (.put (.refl M) hp) h
  · rintro z its m1 M1 Cn hC ⟨rest, dn, kvs, x3, x4, x5, x6, x7, x8, hi, hd, rfl, hK, rfl⟩
    refine ⟨srcV_none, ?_⟩
    cases rest with
    | nil => cases hi
    | cons d rest =>
      rw [List.map_cons] at hi
      injection hi with h1 h2
      subst h1
      subst h2
      have hdat : ds[dn.length]? = some d := mid_at hd
      have hdm : d ∈ ds := List.mem_of_getElem? hdat
      have hdw := hds d hdm
      have hdl : dn.length < ds.length := (List.getElem?_eq_some_iff.mp hdat).1
      walk_at "s1"
      intro _
      refine for_ind (fun items m1 M1 => ∃ (orest od : List Opt) (kvs2 : List (D × D)) (x6 x7 x8 : Option D), items = enumD od.length (orest.map opD) ∧ od ++ orest = d.2 ∧ M1 = mput M p (.dct w kvs2) ∧ IxInv ds dn.length od.length kvs2 ∧ m1 = [some (D.tup (List.map dbD ds)), some (reD rs), some (D.ref p), some (D.int dn.length), some d.1, some (D.tup (d.2.map opD)), x6, x7, x8, none, none]) ?_ ?_ _ _ _ ⟨d.2, [], kvs, _, _, _, rfl, rfl, rfl, hK, rfl⟩
      · rintro m1 M1 ⟨orest, od, kvs2, x6, x7, x8, hi, ho, rfl, hK2, rfl⟩
        refine ⟨srcV_none, ?_⟩
        cases orest with
        | cons x r => cases hi
        | nil =>
          rw [List.append_nil] at ho
          subst ho
          exact fg_of (hC _ _ ⟨rest, dn ++ [d], kvs2, _, _, _, _, _, _, by rw [List.length_append]; rfl, by rw [← hd]; simp, rfl, by rw [List.length_append]; exact hK2.next hdat hdw.len, rfl⟩)
      · rintro z its m1 M1 Cn2 hC2 ⟨orest, od, kvs2, x6, x7, x8, hi, ho, rfl, hK2, rfl⟩
        refine ⟨srcV_none, ?_⟩
        cases orest with
        | nil => cases hi
        | cons o orest =>
          rw [List.map_cons] at hi
          injection hi with h1 h2
          subst h1
          subst h2
          have hoat : d.2[od.length]? = some o := mid_at ho
          have hpk : prOk (d.1, o.1) := ⟨hdw.mark, hdw.rv (List.mem_of_getElem? hoat)⟩
          have hol : od.length < d.2.length := (List.getElem?_eq_some_iff.mp hoat).1
          have hd6 := hdw.len
          have hput := hK2.put hds hn hdat hoat
          walk_at "s1"
          refine ⟨kvs2, rfl, prD_key hpk, ?_, ?_⟩
          · have := hput.1
            show (dput kvs2 (prD (d.1, o.1)) (ipD (dn.length, od.length))).length ≤ 16777216
            omega
          exact fg_of (hC2 _ _ ⟨orest, od ++ [o], _, _, _, _, by rw [List.length_append]; rfl, by rw [← ho]; simp, rfl, by rw [List.length_append]; exact hput, rfl⟩)
/-! ### heaviest, likeliest -/
abbrev sp_heaviest (w : World) : DSp := ar3 fun a b c M Q => ∃ (ds : List Dbt) (ws : List IR) (nm : Nat → Bool), a = .tup (ds.map dbD) ∧ b = .tup [whD ws] ∧ c = .tup [.int 1] ∧ (∀ d ∈ ds, dbW d) ∧ ds.length ≤ 20 ∧ wI ds.length 0 ws ∧ (∀ x, nmI ws x = true → nm x = true) ∧ szB nm 0 ds.length ≤ 16777216 ∧ Q (match hv (wsI ds) 0 ws with | none => D.non | some q => .tup (q.1.map fun i : Nat => D.int i)) M
theorem ok_heaviest (F : Def K mg "heaviest" s_heaviest ["doubts", "wholes", "truth"]) (B : Bi K mg) (I : Im mg) (c_heaviest_from : Cal P w K mg base 24 "heaviest_from" ["doubts", "doubt", "wholes", "truth", "known"] (sp_heaviest_from w)) : Cal P w K mg base 25 "heaviest" ["doubts", "wholes", "truth"] (sp_heaviest w) := by
  have sc := sc_heaviest
  refine F.cal sc (fun ds M Q h => len3 h) (fun f cdv A outer s H E hr => (ds_cons (ds_set (i := 3) sc.nd rfl (Or.inl rfl) (d_call c_heaviest_from (hr.mono (by first | decide | omega)) rfl (da_cons (d_v 0) (da_cons d_int (da_cons (d_v 1) (da_cons (d_v 2) (da_cons (d_dnew (w := w) rfl) da_nil)))))))
    (ds_one (ds_ret (d_ifE (dt_cmp o_is (d_v 3) d_non (nomark _)) d_non (d_ix x_ix (d_v 3) d_int (fun _ _ => rfl))))))) (fun ds M Q h => ?_)
  obtain ⟨a, b, c, rfl, ds, ws, nm, rfl, rfl, rfl, hds, hl, hw, hnm, hsz, h⟩ := h
  walk_at "rd"
  intro p hp
  refine ⟨_, _, _, _, _, rfl, ds.length, hl, ds, 0, ws, nm, p, [], rfl, rfl, rfl, rfl, rfl, by omega, hds, hl, hw, hnm, mput_same, (fun q hq => by cases hq), by rw [List.length_nil]; omega, fun kvs2 hK2 hl2 => ?_⟩
  rw [mput_mput]
  cases e : hv (wsI ds) 0 ws with
  | none =>
    rw [e] at h
    change (if (bOf none).isN = true then _ else _)
    rw [if_pos (by simp [bOf, D.isN])]
    exact ret_le (.put (.refl M) hp) h
  | some q =>
    obtain ⟨os, x⟩ := q
    rw [e] at h
    change (if (bOf (some (os, x))).isN = true then _ else _)
    rw [if_neg (by simp [bOf, D.isN])]
    exact ⟨_, rfl, _, atI_1 _ _ _, ret_le (.put (.refl M) hp) h⟩
theorem ixs_wI {ds : List Dbt} (hds : ∀ d ∈ ds, dbW d) (hn : (ds.map (·.1)).Nodup) (hl : ds.length ≤ 20) {rs : List Rsn} (hr : ∀ r ∈ rs, RsnOk ds r) (hrl : rs.length ≤ 100) : wI ds.length 0 (rs.map fun r => r.map (ix ds)) := by
  have hix : ∀ r ∈ rs, ∀ q ∈ r, IxOk ds q (ix ds q) := fun r hr2 q hq => ix_ok (ix_ex ((hr r hr2).2 q hq))
  refine ⟨by rw [List.length_map]; exact hrl, fun s hs => ?_, fun s hs => ?_, fun s hs p hp => ?_⟩
  · obtain ⟨r, hr2, rfl⟩ := List.mem_map.mp hs
    rw [List.length_map]
    exact Nat.le_trans (hr r hr2).len hl
  · obtain ⟨r, hr2, rfl⟩ := List.mem_map.mp hs
    have z := hn.sublist (hr r hr2).1
    rw [List.map_map]
    unfold List.Nodup at z ⊢
    rw [List.pairwise_map] at z ⊢
    refine z.imp_of_mem fun {q u} hq hu hne he => hne ?_
    obtain ⟨d, o, e1, e2, _, _⟩ := hix r hr2 q hq
    obtain ⟨d', o', k1, k2, _, _⟩ := hix r hr2 u hu
    have he : (ix ds q).1 = (ix ds u).1 := he
    rw [he, k1] at e1
    cases e1
    exact e2.symm.trans k2
  · obtain ⟨r, hr2, rfl⟩ := List.mem_map.mp hs
    obtain ⟨q, hq, rfl⟩ := List.mem_map.mp hp
    obtain ⟨d, o, e1, _⟩ := hix r hr2 q hq
    exact ⟨Nat.zero_le _, (List.getElem?_eq_some_iff.mp e1).1⟩
theorem hv_os {ds : List Dbt} (hds : ∀ d ∈ ds, dbW d) {w : List IR} {os : List Nat} {x : Int} (h : hv (wsI ds) 0 w = some (os, x)) : osOk ds os := by
  obtain ⟨h1, _, h3⟩ := B_bd (fun ws hws => wsI_ab hds ws (List.mem_of_mem_drop hws)) h
  rw [List.drop_zero] at h1 h3
  refine ⟨h1.trans (wsI_len ds), fun i d o hd ho => ?_⟩
  have z := h3 i (d.2.map fun o => o.2) o (by unfold wsI; rw [List.getElem?_map, hd]; rfl) ho
  rw [List.length_map] at z
  exact z
abbrev sp_likeliest (w : World) : DSp := ar2 fun a b M Q => ∃ (ds : List Dbt) (rs : List Rsn) (nm : Nat → Bool), a = .tup (ds.map dbD) ∧ b = reD rs ∧ (∀ d ∈ ds, dbW d) ∧ (ds.map (·.1)).Nodup ∧ ds.length ≤ 20 ∧ (∀ r ∈ rs, RsnOk ds r) ∧ rs.length ≤ 100 ∧ (∀ x, nmI (rs.map fun r => r.map (ix ds)) x = true → nm x = true) ∧ szB nm 0 ds.length ≤ 16777216 ∧ Q (match hv (wsI ds) 0 (rs.map fun r => r.map (ix ds)) with | none => D.non | some q => .tup (told ds q.1)) M
theorem ok_likeliest (F : Def K mg "likeliest" s_likeliest ["doubts", "reasons"]) (B : Bi K mg) (I : Im mg) (c_indexed : Cal P w K mg base 1 "indexed" ["doubts", "reasons"] (sp_indexed w)) (c_told_settling : Cal P w K mg base 1 "told_settling" ["doubts", "options"] sp_told_settling) (c_heaviest : Cal P w K mg base 25 "heaviest" ["doubts", "wholes", "truth"] (sp_heaviest w)) : Cal P w K mg base 26 "likeliest" ["doubts", "reasons"] (sp_likeliest w) := by
  have sc := sc_likeliest
  refine F.cal sc (fun ds M Q h => len2 h) (fun f cdv A outer s H E hr => (ds_cons (ds_set (i := 2) sc.nd rfl (Or.inl rfl) (d_call c_heaviest (hr.mono (by first | decide | omega)) rfl (da_cons (d_v 0) (da_cons (d_tup (da_cons (d_call c_indexed (hr.mono (by first | decide | omega)) rfl (da_cons (d_v 0) (da_cons (d_v 1) da_nil))) da_nil)) (da_cons (d_tup (da_cons d_int da_nil)) da_nil)))))
    (ds_one (ds_ret (d_ifE (dt_cmp o_is (d_v 2) d_non (nomark _)) d_non (d_call c_told_settling (hr.mono (by first | decide | omega)) rfl (da_cons (d_v 0) (da_cons (d_v 2) da_nil)))))))) (fun ds M Q h => ?_)
  obtain ⟨a, b, rfl, ds, rs, nm, rfl, rfl, hds, hn, hl, hr, hrl, hnm, hsz, h⟩ := h
  walk_at "rd"
  refine ⟨ds, rfl, rs, rfl, hds, hn, hl, fun r hr2 => (hr r hr2).2, ds, rfl, _, rfl, hds, hl, ixs_wI hds hn hl hr hrl, nm, hnm, hsz, ?_⟩
  cases e : hv (wsI ds) 0 (rs.map fun r => r.map (ix ds)) with
  | none =>
    rw [e] at h
    change (if D.non.isN = true then _ else _)
    rw [if_pos (by simp [D.isN])]
    exact ret_of h
  | some q =>
    obtain ⟨os, x⟩ := q
    rw [e] at h
    change (if (D.tup _).isN = true then _ else _)
    rw [if_neg (by simp [D.isN])]
    exact ⟨ds, rfl, os, rfl, hds, hv_os hds e, ret_of h⟩
/-! ### assignments of the named doubts, in their order -/
def wtI (d : Dbt) (i : Nat) : Int := (d.2.map fun o => o.2).getD i 0
def rwI (d : Dbt) (i : Nat) : List D := (d.2.getD i ([], 0)).1
def pA (nm : Nat → Bool) : Nat → List Dbt → As → List (As × Int)
  | _, [], a => [(a, 1)]
  | k, d :: L, a => if nm k = true then (List.range d.2.length).flatMap fun i => (pA nm (k + 1) L (au a k i)).map fun q => (q.1, wtI d i * q.2) else pA nm (k + 1) L a
def idxA (nm : Nat → Bool) : Nat → List Dbt → As → List Nat
  | _, [], _ => []
  | k, _ :: L, a => if nm k = true then a k :: idxA nm (k + 1) L a else idxA nm (k + 1) L a
def rowA (nm : Nat → Bool) : Nat → List Dbt → As → List (List D)
  | _, [], _ => []
  | k, d :: L, a => if nm k = true then rwI d (a k) :: rowA nm (k + 1) L a else rowA nm (k + 1) L a
def nmL (nm : Nat → Bool) : Nat → List Dbt → List Dbt
  | _, [] => []
  | k, d :: L => if nm k = true then d :: nmL nm (k + 1) L else nmL nm (k + 1) L
theorem pA_lo {nm : Nat → Bool} : ∀ {L : List Dbt} {k : Nat} {a : As} {q : As × Int}, q ∈ pA nm k L a → ∀ x, x < k → q.1 x = a x
  | [], k, a, q, h, x, _ => by
    rw [pA, List.mem_singleton] at h
    rw [h]
  | d :: L, k, a, q, h, x, hx => by
    rw [pA] at h
    split at h
    · obtain ⟨i, _, h⟩ := List.mem_flatMap.mp h
      obtain ⟨u, hu, rfl⟩ := List.mem_map.mp h
      have := pA_lo hu x (by omega)
      show u.1 x = a x
      rw [this]
      unfold au
      rw [if_neg (by omega)]
    · exact pA_lo h x (by omega)
theorem pA_rng {nm : Nat → Bool} : ∀ {L : List Dbt} {k : Nat} {a : As} {q : As × Int}, q ∈ pA nm k L a → ∀ (j : Nat) (d : Dbt), L[j]? = some d → nm (k + j) = true → q.1 (k + j) < d.2.length
  | [], _, _, _, _, j, d, e, _ => by simp at e
  | d :: L, k, a, q, h, j, e, hj, hn => by
    rw [pA] at h
    cases j with
    | zero =>
      rw [List.getElem?_cons_zero] at hj
      cases hj
      rw [Nat.add_zero] at hn ⊢
      rw [if_pos hn] at h
      obtain ⟨i, hi, h⟩ := List.mem_flatMap.mp h
      obtain ⟨u, hu, rfl⟩ := List.mem_map.mp h
      have := pA_lo hu k (by omega)
      show u.1 k < _
      rw [this]
      unfold au
      rw [if_pos rfl]
      exact List.mem_range.mp hi
    | succ j =>
      rw [List.getElem?_cons_succ] at hj
      rw [show k + (j + 1) = k + 1 + j by omega] at hn ⊢
      split at h
      · obtain ⟨i, hi, h⟩ := List.mem_flatMap.mp h
        obtain ⟨u, hu, rfl⟩ := List.mem_map.mp h
        exact pA_rng hu j e hj hn
      · exact pA_rng h j e hj hn
theorem bfold_flat {α : Type} (f : α → List Bt) : ∀ l : List α, bfold (l.map fun i => bfold (f i)) = bfold (l.flatMap f)
  | [] => rfl
  | x :: l => by rw [List.map_cons, bfold_cons, List.flatMap_cons, bfold_append, bfold_flat f l]
theorem Bn_pA {nm : Nat → Bool} {T : As → Bool} : ∀ {L : List Dbt} {k : Nat} {a : As}, (∀ d ∈ L, dbW d) → Bn nm k (wsI L) T a = bfold (((pA nm k L a).filter fun q => T q.1).map fun q => some (idxA nm k L q.1, q.2))
  | [], k, a, _ => by
    show (if T a = true then some ([], 1) else none) = bfold ((List.filter (fun q : As × Int => T q.1) [(a, 1)]).map fun q => some (idxA nm k [] q.1, q.2))
    rw [List.filter_cons]
    split
    · rfl
    · rfl
  | d :: L, k, a, h => by
    have hL : ∀ d ∈ L, dbW d := fun x hx => h x (by simp [hx])
    have hd := h d (by simp)
    show Bn nm k ((d.2.map fun o => o.2) :: wsI L) T a = _
    rw [Bn]
    by_cases c : nm k = true
    · rw [if_pos c, List.length_map, pA, if_pos c, List.filter_flatMap, List.map_flatMap, ← bfold_flat]
      refine congrArg bfold (List.map_congr_left fun i hi => ?_)
      have hi := List.mem_range.mp hi
      have hw : 0 < (d.2.map fun o => o.2).getD i 0 := by
        rw [List.getD_eq_getElem?_getD, List.getElem?_map, List.getElem?_eq_getElem hi]
        exact (hd.wt _ (List.getElem_mem hi)).1
      rw [Bn_pA hL]
      show scl (fun l => i :: l) _ _ = _
      rw [bfold_scl _ hw, List.map_map, List.filter_map, List.map_map]
      refine congrArg bfold (List.map_congr_left fun q hq => ?_)
      have hq := (List.mem_filter.mp hq).1
      have e : q.1 k = i := by
        rw [pA_lo hq k (by omega)]
        unfold au
        rw [if_pos rfl]
      show some (i :: idxA nm (k + 1) L q.1, _ * q.2) = some (idxA nm k (d :: L) q.1, wtI d i * q.2)
      rw [idxA, if_pos c, e]
      rfl
    · rw [if_neg c, pA, if_neg c, Bn_pA hL]
      refine congrArg bfold (List.map_congr_left fun q hq => ?_)
      rw [idxA, if_neg c]
theorem flat_range {α β : Type} (d0 : α) (f : α → List β) (l : List α) : l.flatMap f = (List.range l.length).flatMap fun i => f (l.getD i d0) := by
  have e : l = (List.range l.length).map fun i => l.getD i d0 := by
    refine List.ext_getElem (by simp) fun i h1 h2 => ?_
    rw [List.getElem_map, List.getElem_range, List.getD_eq_getElem?_getD, List.getElem?_eq_getElem h1]
    rfl
  conv => lhs; rw [e]
  rw [List.flatMap_map]
theorem pset_pA {nm : Nat → Bool} : ∀ {L : List Dbt} {k : Nat} {a : As}, pset (nmL nm k L) = (pA nm k L a).map fun q => (rowA nm k L q.1, q.2)
  | [], k, a => rfl
  | d :: L, k, a => by
    by_cases c : nm k = true
    · rw [nmL, if_pos c, pset_cons, pA, if_pos c, flat_range (([], 0) : Opt), List.map_flatMap]
      refine congrArg (fun f => (List.range d.2.length).flatMap f) (funext fun i => ?_)
      rw [pset_pA (L := L) (k := k + 1) (a := au a k i), List.map_map, List.map_map]
      refine List.map_congr_left fun q hq => ?_
      have e : q.1 k = i := by
        rw [pA_lo hq k (by omega)]
        unfold au
        rw [if_pos rfl]
      show (_ :: rowA nm (k + 1) L q.1, _ * q.2) = (rowA nm k (d :: L) q.1, wtI d i * q.2)
      rw [rowA, if_pos c, e]
      refine Prod.ext rfl (congrArg (· * q.2) ?_)
      show (d.2.getD i ([], 0)).2 = (d.2.map fun o => o.2).getD i 0
      rw [List.getD_eq_getElem?_getD, List.getD_eq_getElem?_getD, List.getElem?_map]
      cases d.2[i]? <;> rfl
    · rw [nmL, if_neg c, pA, if_neg c, pset_pA (L := L) (k := k + 1) (a := a)]
      refine List.map_congr_left fun q hq => ?_
      rw [rowA, if_neg c]
theorem nmL_filter {nm : Nat → Bool} {f : Dbt → Bool} : ∀ {L : List Dbt} {k : Nat}, (∀ (j : Nat) (d : Dbt), L[j]? = some d → nm (k + j) = f d) → nmL nm k L = L.filter f
  | [], _, _ => rfl
  | d :: L, k, h => by
    have h0 := h 0 d rfl
    have hs := nmL_filter (L := L) (k := k + 1) (f := f) fun j e he => by
      have := h (j + 1) e he
      rw [← this]
      congr 1
      omega
    rw [nmL, List.filter_cons, hs]
    rw [Nat.add_zero] at h0
    rw [h0]
theorem nmL_sub {nm : Nat → Bool} : ∀ {L : List Dbt} {k : Nat}, (nmL nm k L).Sublist L
  | [], _ => .refl _
  | d :: L, k => by
    rw [nmL]
    split
    · exact nmL_sub.cons₂ d
    · exact nmL_sub.cons d
theorem sgo_rowA {nm : Nat → Bool} {b : As} : ∀ {L : List Dbt} {k : Nat} {σ : Sg}, (L.map (·.1)).Nodup → ∀ (j : Nat) (d : Dbt), L[j]? = some d → nm (k + j) = true → sgo σ (nmL nm k L) (rowA nm k L b) d.1 = rwI d (b (k + j))
  | [], _, _, _, j, d, e, _ => by simp at e
  | d :: L, k, σ, hn, j, e, hj, hm => by
    rw [List.map_cons, List.nodup_cons] at hn
    cases j with
    | zero =>
      rw [List.getElem?_cons_zero] at hj
      cases hj
      rw [Nat.add_zero] at hm ⊢
      rw [nmL, if_pos hm, rowA, if_pos hm, sgo, sgo_off]
      · exact upd_eq _ _ _
      · intro z
        obtain ⟨u, hu, e2⟩ := List.mem_map.mp z
        exact hn.1 (List.mem_map.mpr ⟨u, nmL_sub.mem hu, e2⟩)
    | succ j =>
      rw [List.getElem?_cons_succ] at hj
      rw [show k + (j + 1) = k + 1 + j by omega] at hm ⊢
      rw [nmL, rowA]
      split
      · rw [sgo]
        exact sgo_rowA hn.2 j e hj hm
      · exact sgo_rowA hn.2 j e hj hm
/-! ### the heaviest among the assignments of the named doubts -/
noncomputable def nmD (rs : List Rsn) (ds : List Dbt) (k : Nat) : Bool := match ds[k]? with
  | some d => isNm rs d.1
  | none => false
noncomputable def ixs (rs : List Rsn) (ds : List Dbt) : List IR := rs.map fun r => r.map (ix ds)
theorem nmD_at {rs : List Rsn} {ds : List Dbt} {k : Nat} {d : Dbt} (h : ds[k]? = some d) : nmD rs ds k = isNm rs d.1 := by
  unfold nmD
  rw [h]
section
variable {ds : List Dbt} {rs : List Rsn}
theorem ix_at (hr : ∀ r ∈ rs, RsnOk ds r) {r : Rsn} (hr2 : r ∈ rs) {q : D × List D} (hq : q ∈ r) : IxOk ds q (ix ds q) := ix_ok (ix_ex ((hr r hr2).2 q hq))
theorem nmI_D (hr : ∀ r ∈ rs, RsnOk ds r) {x : Nat} (h : nmI (ixs rs ds) x = true) : nmD rs ds x = true := by
  obtain ⟨s, hs, p, hp, e⟩ := nmI_iff.mp h
  obtain ⟨r, hr2, rfl⟩ := List.mem_map.mp hs
  obtain ⟨q, hq, rfl⟩ := List.mem_map.mp hp
  obtain ⟨d, o, e1, e2, _, _⟩ := ix_at hr hr2 hq
  rw [← e, nmD_at e1, isNm_iff]
  exact ⟨r, hr2, q, hq, e2.symm⟩
theorem ix_nm (hr : ∀ r ∈ rs, RsnOk ds r) {r : Rsn} (hr2 : r ∈ rs) {q : D × List D} (hq : q ∈ r) : nmD rs ds (ix ds q).1 = true :=
  nmI_D hr (nmI_iff.mpr ⟨r.map (ix ds), List.mem_map.mpr ⟨r, hr2, rfl⟩, ix ds q, List.mem_map.mpr ⟨q, hq, rfl⟩, rfl⟩)
theorem onNm (hr : ∀ r ∈ rs, RsnOk ds r) : OnNm (nmD rs ds) (holdI (ixs rs ds)) := by
  have key : ∀ a b : As, (∀ k, nmD rs ds k = true → a k = b k) → holdI (ixs rs ds) a = true → holdI (ixs rs ds) b = true := fun a b h z => by
    obtain ⟨s, hs, y⟩ := holdI_iff.mp z
    refine holdI_iff.mpr ⟨s, hs, fun p hp => ?_⟩
    rw [← y p hp]
    refine (h p.1 (nmI_D hr (nmI_iff.mpr ⟨s, hs, p, hp, rfl⟩))).symm
  intro a b h
  exact Bool.eq_iff_iff.mpr ⟨key a b h, key b a fun k hk => (h k hk).symm⟩
theorem rw_at {d : Dbt} {i : Nat} (h : i < d.2.length) : (rowsOf d)[i]? = some (rwI d i) := by
  unfold rowsOf rwI
  rw [List.getElem?_map, List.getD_eq_getElem?_getD, List.getElem?_eq_getElem h]
  rfl
theorem hold_pA (hds : ∀ d ∈ ds, dbW d) (hn : (ds.map (·.1)).Nodup) (hr : ∀ r ∈ rs, RsnOk ds r) {q : As × Int} (hq : q ∈ pA (nmD rs ds) 0 ds a0) : holdS rs (sgo sg0 (nmL (nmD rs ds) 0 ds) (rowA (nmD rs ds) 0 ds q.1)) = holdI (ixs rs ds) q.1 := by
  have each : ∀ r ∈ rs, ∀ u ∈ r, (sgo sg0 (nmL (nmD rs ds) 0 ds) (rowA (nmD rs ds) 0 ds q.1) u.1 = u.2 ↔ q.1 (ix ds u).1 = (ix ds u).2) := fun r hr2 u hu => by
    obtain ⟨d, o, e1, e2, e3, e4⟩ := ix_at hr hr2 hu
    have hm := ix_nm hr hr2 hu
    have hrow := sgo_rowA (σ := sg0) (b := q.1) (k := 0) hn (ix ds u).1 d e1 (by rw [Nat.zero_add]; exact hm)
    have hlt := pA_rng hq (ix ds u).1 d e1 (by rw [Nat.zero_add]; exact hm)
    rw [Nat.zero_add] at hrow hlt
    rw [← e2, hrow, ← e4]
    have ho : (rowsOf d)[(ix ds u).2]? = some o.1 := by
      unfold rowsOf
      rw [List.getElem?_map, e3]
      rfl
    constructor
    · intro z
      have h1 := rw_at hlt
      rw [z] at h1
      exact nd_at (hds d (List.mem_of_getElem? e1)).nd h1 ho
    · intro z
      have h1 := rw_at hlt
      rw [z, ho] at h1
      rw [z]
      exact (Option.some.inj h1).symm
  refine Bool.eq_iff_iff.mpr ?_
  unfold holdS
  rw [List.any_eq_true, holdI_iff]
  constructor
  · rintro ⟨r, hr2, z⟩
    refine ⟨_, List.mem_map.mpr ⟨r, hr2, rfl⟩, fun p hp => ?_⟩
    obtain ⟨u, hu, rfl⟩ := List.mem_map.mp hp
    exact (each r hr2 u hu).mp (isR_iff.mp (List.all_eq_true.mp z u hu))
  · rintro ⟨s, hs, z⟩
    obtain ⟨r, hr2, rfl⟩ := List.mem_map.mp hs
    exact ⟨r, hr2, List.all_eq_true.mpr fun u hu => isR_iff.mpr ((each r hr2 u hu).mpr (z _ (List.mem_map.mpr ⟨u, hu, rfl⟩)))⟩
noncomputable def pT (rs : List Rsn) (ds : List Dbt) : List (As × Int) := (pA (nmD rs ds) 0 ds a0).filter fun q => holdI (ixs rs ds) q.1
theorem hv_pT (hds : ∀ d ∈ ds, dbW d) (hr : ∀ r ∈ rs, RsnOk ds r) : hv (wsI ds) 0 (ixs rs ds) = scl (mrg (nmD rs ds) 0 (wsI ds)) (pm (nmD rs ds) 0 (wsI ds)) (bfold ((pT rs ds).map fun q => some (idxA (nmD rs ds) 0 ds q.1, q.2))) := by
  unfold hv pT
  rw [List.drop_zero, B_n (onNm hr) (wsI_ok hds), Bn_pA hds]
theorem hv_none (hds : ∀ d ∈ ds, dbW d) (hr : ∀ r ∈ rs, RsnOk ds r) (h : pT rs ds = []) : hv (wsI ds) 0 (ixs rs ds) = none := by
  rw [hv_pT hds hr, h]
  rfl
theorem hv_some (hds : ∀ d ∈ ds, dbW d) (hr : ∀ r ∈ rs, RsnOk ds r) {l1 l2 : List (As × Int)} {x : As × Int} (h : pT rs ds = l1 ++ x :: l2) (h1 : ∀ u ∈ l1, u.2 < x.2) (h2 : ∀ u ∈ l2, u.2 ≤ x.2) : ∃ y, hv (wsI ds) 0 (ixs rs ds) = some (mrg (nmD rs ds) 0 (wsI ds) (idxA (nmD rs ds) 0 ds x.1), y) := by
  have e : ((pT rs ds).map fun q => (some (idxA (nmD rs ds) 0 ds q.1, q.2) : Bt)) = ((pT rs ds).map fun q => (idxA (nmD rs ds) 0 ds q.1, q.2)).map some := by rw [List.map_map]; rfl
  have f : FM ((pT rs ds).map fun q => (idxA (nmD rs ds) 0 ds q.1, q.2)) (idxA (nmD rs ds) 0 ds x.1, x.2) := by
    refine ⟨l1.map fun q => (idxA (nmD rs ds) 0 ds q.1, q.2), l2.map fun q => (idxA (nmD rs ds) 0 ds q.1, q.2), by rw [h, List.map_append, List.map_cons], fun u hu => ?_, fun u hu => ?_⟩
    · obtain ⟨v, hv, rfl⟩ := List.mem_map.mp hu
      exact h1 v hv
    · obtain ⟨v, hv, rfl⟩ := List.mem_map.mp hu
      exact h2 v hv
  rw [hv_pT hds hr, e, fm_fold f]
  exact ⟨_, rfl⟩
end
theorem mrg_at {nm : Nat → Bool} {b : As} : ∀ {L : List Dbt} {k : Nat} (j : Nat) (d : Dbt), L[j]? = some d → (mrg nm k (wsI L) (idxA nm k L b))[j]? = some (if nm (k + j) = true then b (k + j) else fmi (d.2.map fun o => o.2))
  | [], _, j, d, h => by simp at h
  | d :: L, k, j, e, h => by
    show (mrg nm k ((d.2.map fun o => o.2) :: wsI L) _)[j]? = _
    rw [mrg, idxA]
    cases j with
    | zero =>
      rw [List.getElem?_cons_zero] at h
      cases h
      show _ = some (if nm k = true then b k else _)
      by_cases c : nm k = true
      · rw [if_pos c, if_pos c, if_pos c]
        rfl
      · rw [if_neg c, if_neg c, if_neg c]
        rfl
    | succ j =>
      rw [List.getElem?_cons_succ] at h
      have ih := mrg_at (nm := nm) (b := b) (k := k + 1) j e h
      rw [show k + (j + 1) = k + 1 + j by omega]
      by_cases c : nm k = true
      · rw [if_pos c, if_pos c, List.getElem?_cons_succ]
        exact ih
      · rw [if_neg c, if_neg c, List.getElem?_cons_succ]
        exact ih
theorem rowA_at {nm : Nat → Bool} {b : As} {κ : Dbt → D} : ∀ {L : List Dbt} {k : Nat}, L.Pairwise (fun x y => dlt (κ x) (κ y) = true) → ∀ (j : Nat) (d : Dbt), L[j]? = some d → nm (k + j) = true → (rowA nm k L b)[((nmL nm k L).filter fun o => dlt (κ o) (κ d)).length]? = some (rwI d (b (k + j)))
  | [], _, _, j, d, h, _ => by simp at h
  | d :: L, k, hp, j, e, h, hm => by
    rw [List.pairwise_cons] at hp
    cases j with
    | zero =>
      rw [List.getElem?_cons_zero] at h
      cases h
      rw [Nat.add_zero] at hm ⊢
      have h0 : ((nmL nm (k + 1) L).filter fun o => dlt (κ o) (κ d)) = [] := List.filter_eq_nil_iff.mpr fun o ho => by
        have := dlt_asym (hp.1 o (nmL_sub.mem ho))
        simp [this]
      rw [nmL, if_pos hm, List.filter_cons, dlt_irr, if_neg (by simp), h0, rowA, if_pos hm]
      rfl
    | succ j =>
      rw [List.getElem?_cons_succ] at h
      have ih := rowA_at (nm := nm) (b := b) (κ := κ) (k := k + 1) hp.2 j e h (by rw [show k + 1 + j = k + (j + 1) by omega]; exact hm)
      rw [show k + (j + 1) = k + 1 + j by omega, nmL, rowA]
      have hlt := hp.1 e (List.mem_of_getElem? h)
      by_cases c : nm k = true
      · rw [if_pos c, if_pos c, List.filter_cons, hlt, if_pos rfl, List.length_cons, List.getElem?_cons_succ]
        exact ih
      · rw [if_neg c, if_neg c]
        exact ih
/-! ### _law_due_likeliest -/
theorem nmD_named (rs : List Rsn) (ds : List Dbt) : nmL (nmD rs ds) 0 ds = ds.filter fun d => isNm rs d.1 := nmL_filter fun j d h => by rw [Nat.zero_add]; exact nmD_at h
theorem dbD_ok {d : Dbt} (h : dbW d) (n : Nat) : dOk (n + 4) (dbD d) = true := by
  have ho : (d.2.map opD).all (dOk (n + 2)) = true := by
    rw [List.all_map]
    refine List.all_eq_true.mpr fun o ho => ?_
    show dOk (n + 2) (.tup [.tup o.1, .int o.2]) = true
    rw [dOk_tup, List.all_cons, List.all_cons, List.all_nil, dOk_tup, row_ok (h.rv ho)]
    simp
  unfold dbD
  rw [dOk_tup, List.all_cons, List.all_cons, List.all_nil, h.mark.ok, dOk_tup, ho]
  rfl
theorem dbD_pl {d : Dbt} (h : dbW d) : pln (dbD d) = true := by
  have ho : plns (d.2.map opD) = true := plns_iff.mpr fun x hx => by
    obtain ⟨o, ho, rfl⟩ := List.mem_map.mp hx
    show (plns o.1 && (true && true)) = true
    rw [row_pl (h.rv ho)]
    rfl
  show (pln d.1 && (plns (d.2.map opD) && true)) = true
  rw [h.mark.pl, ho]
  rfl
theorem dbD_inj {d e : Dbt} (h : dbD d = dbD e) : d = e := by
  obtain ⟨m, os⟩ := d
  obtain ⟨n, us⟩ := e
  simp only [dbD, D.tup.injEq, List.cons.injEq, and_true] at h
  obtain ⟨h1, h2⟩ := h
  have h3 : os = us := (List.map_inj_right (f := opD) fun x y z => by
    obtain ⟨a, b⟩ := x
    obtain ⟨c, d⟩ := y
    simp only [opD, D.tup.injEq, List.cons.injEq, and_true, D.int.injEq] at z
    rw [z.1, z.2]).mp h2
  rw [h1, h3]
theorem any_db {l : List Dbt} (hl : ∀ d ∈ l, dbW d) {d : Dbt} (hd : dbW d) : ((l.map dbD).any fun z => D.eqv z (dbD d)) = true ↔ d ∈ l := by
  rw [List.any_map, List.any_eq_true]
  constructor
  · rintro ⟨o, ho, e⟩
    rw [← dbD_inj ((eqv_pl _ _ (dbD_pl (hl o ho)) (dbD_pl hd)).mp e)]
    exact ho
  · exact fun h => ⟨d, h, (eqv_pl _ _ (dbD_pl hd) (dbD_pl hd)).mpr rfl⟩
theorem fmi_at {d : Dbt} (hd : dbW d) {l1 l2 : List Opt} {o : Opt} (h : d.2 = l1 ++ o :: l2) (h1 : ∀ u ∈ l1, u.2 < o.2) (h2 : ∀ u ∈ d.2, u.2 ≤ o.2) : rwI d (fmi (d.2.map fun o => o.2)) = o.1 := by
  obtain ⟨ws, hws⟩ : ∃ ws, ws = d.2.map fun o : Opt => o.2 := ⟨_, rfl⟩
  have hwl : ws.length = d.2.length := by rw [hws, List.length_map]
  have hne : ws ≠ [] := fun z => by
    have := hd.pos
    rw [z] at hwl
    simp at hwl
    omega
  rw [← hws]
  obtain ⟨_, f2, f3, f4, f5⟩ := fm_of hne
  have hat : d.2[l1.length]? = some o := mid_at h.symm
  have hll : l1.length < d.2.length := (List.getElem?_eq_some_iff.mp hat).1
  have hw : ∀ {i : Nat} {u : Opt}, d.2[i]? = some u → ws.getD i 0 = u.2 := fun {i u} e => by
    rw [hws, List.getD_eq_getElem?_getD, List.getElem?_map, e]
    rfl
  have e : fmi ws = l1.length := by
    rcases Nat.lt_trichotomy (fmi ws) l1.length with c | c | c
    · exfalso
      have z1 := f5 l1.length (by omega)
      rw [hw hat] at z1
      have e3 : d.2[fmi ws]? = some l1[fmi ws] := by
        rw [h, List.getElem?_append_left c, List.getElem?_eq_getElem c]
      rw [← f3, hw e3] at z1
      have := h1 _ (List.getElem_mem c)
      omega
    · exact c
    · exfalso
      have z1 := f4 l1.length c
      rw [hw hat] at z1
      have e3 : d.2[fmi ws]? = some (d.2[fmi ws]'(by omega)) := List.getElem?_eq_getElem _
      rw [← f3, hw e3] at z1
      have := h2 _ (List.getElem_mem (by omega : fmi ws < d.2.length))
      omega
  unfold rwI
  rw [e, List.getD_eq_getElem?_getD, hat]
  rfl
noncomputable def rowJ (nm : Nat → Bool) (b : As) (d : Dbt) (j : Nat) : D := .tup (rwI d (if nm j = true then b j else fmi (d.2.map fun o => o.2)))
abbrev sp_l_due_likeliest : DSp := ar2 fun a b M Q => ∃ (ds : List Dbt) (rs : List Rsn), a = .tup (ds.map dbD) ∧ b = reD rs ∧ (∀ d ∈ ds, dbW d) ∧ (ds.map (·.1)).Nodup ∧ ds.length ≤ 20 ∧ ds.Pairwise (fun a b => dlt (mKey a.1) (mKey b.1) = true) ∧ (∀ r ∈ rs, RsnOk ds r) ∧ rs.length ≤ 100 ∧ (ds.filter fun d => isNm rs d.1).length ≤ 6 ∧ Q (match hv (wsI ds) 0 (ixs rs ds) with | none => D.non | some q => .tup (told ds q.1)) M
theorem ok_l_due_likeliest (F : Def K mg "_law_due_likeliest" s_l_due_likeliest ["doubts", "reasons"]) (B : Bi K mg) (I : Im mg) (c_l_all_settlings : Cal P w K mg base 1 "_law_all_settlings" ["doubts"] sp_l_all_settlings) (c_l_doubt_key : Cal P w K mg base 4 "_law_doubt_key" ["doubt"] sp_l_doubt_key) (c_l_all_weights : Cal P w K mg base 1 "_law_all_weights" ["doubts"] sp_l_all_weights) (c_l_truths : Cal P w K mg base 3 "_law_truths" ["doubts", "reasons"] sp_l_truths) (c_l_named : Cal P w K mg base 1 "_law_named" ["doubts", "reasons"] sp_l_named) (c_l_best_free : Cal P w K mg base 1 "_law_best_free" ["doubt"] sp_l_best_free) : Cal P w K mg base 5 "_law_due_likeliest" ["doubts", "reasons"] sp_l_due_likeliest := by
  have sc := sc_l_due_likeliest
  refine F.cal sc (fun ds M Q h => len2 h) (fun f cdv A outer s H E hr => (ds_cons (ds_set (i := 2) sc.nd rfl (Or.inl rfl) (d_call c_l_named (hr.mono (by first | decide | omega)) rfl (da_cons (d_v 0) (da_cons (d_v 1) da_nil))))
    (ds_cons (ds_set (i := 3) sc.nd rfl (Or.inr rfl) (d_call c_l_all_settlings (hr.mono (by first | decide | omega)) rfl (da_cons (d_v 2) da_nil)))
    (ds_cons (ds_set (i := 4) sc.nd rfl (Or.inr rfl) (d_call c_l_all_weights (hr.mono (by first | decide | omega)) rfl (da_cons (d_v 2) da_nil)))
    (ds_cons (ds_set (i := 5) sc.nd rfl (Or.inr rfl) (d_call c_l_truths (hr.mono (by first | decide | omega)) rfl (da_cons (d_v 2) (da_cons (d_v 1) da_nil))))
    (ds_cons (ds_if (dt_cmp (o_notin (hu_in hr)) d_bl (d_v 5) rfl)
    (ds_one (ds_ret d_non))
    ds_nil)
    (ds_cons (ds_set (i := 6) sc.nd rfl (Or.inr rfl) (d_cb (c_max rfl) rfl B.b_max boot_max (da_cons (d_lcF rfl sc.nd (own := [("k", 10)]) (di_range1 rfl B.b_range (da_cons (d_cb c_lenB rfl B.b_len boot_len (da_cons (d_v 4) da_nil)) da_nil)) (blkOk_by (N := N_l_due_likeliest) (sc := defScope s_l_due_likeliest) (by decide +kernel)) (by decide) (fun _ _ _ _ _ => (dg_name (i := 10) sc.nd rfl (Or.inl rfl))) (fun _ _ _ _ _ => (dts_one (dt_val (d_ix x_ix (d_v 5) (d_v 10) (fun _ _ => rfl))))) (fun _ _ _ _ _ => (d_ix x_ix (d_v 4) (d_v 10) (fun _ _ => rfl)))) da_nil)))
    (ds_cons (ds_set (i := 7) sc.nd rfl (Or.inl rfl) (d_fz (d_ct c_list rfl B.b_list boot_list (da_cons (d_ix x_ix (d_lcF rfl sc.nd (own := [("k", 10)]) (di_range1 rfl B.b_range (da_cons (d_cb c_lenB rfl B.b_len boot_len (da_cons (d_v 4) da_nil)) da_nil)) (blkOk_by (N := N_l_due_likeliest) (sc := defScope s_l_due_likeliest) (by decide +kernel)) (by decide) (fun _ _ _ _ _ => (dg_name (i := 10) sc.nd rfl (Or.inl rfl))) (fun _ _ _ _ _ => (dts_one (dt_w (dw_and (dt_val (d_ix x_ix (d_v 5) (d_v 10) (fun _ _ => rfl))) (dw_and1 (dt_cmp (o_eq (hu_eq hr)) (d_ix x_ix (d_v 4) (d_v 10) (fun _ _ => rfl)) (d_v 6) (nomark _))))))) (fun _ _ _ _ _ => (d_ix x_ix (d_v 3) (d_v 10) (fun _ _ => rfl)))) d_int (fun _ _ => rfl)) da_nil))))
    (ds_cons (ds_set (i := 8) sc.nd rfl (Or.inl rfl) (d_lst da_nil))
    (ds_cons (ds_for PassesOwn.never rfl (di_seq (d_v 0)) (dg_name (i := 9) sc.nd rfl (Or.inr rfl))
    (ds_one (ds_if (dt_cmp (o_in (hu_in hr)) (d_v 9) (d_v 2) rfl)
    (ds_one (ds_expr (d_mt PySem.F.slot_list_append PySem.F.type_list_append m_append (d_v 8) (da_cons (d_ix x_ix (d_v 7) (d_cb c_len rfl B.b_len boot_len (da_cons (d_lcF rfl sc.nd (own := [("one", 11)]) (di_seq (d_v 2)) (blkOk_by (N := N_l_due_likeliest) (sc := defScope s_l_due_likeliest) (by decide +kernel)) (by decide) (fun _ _ _ _ _ => (dg_name (i := 11) sc.nd rfl (Or.inl rfl))) (fun _ _ _ _ _ => (dts_one (dt_cmp (o_ltD (hu_eq hr)) (d_call c_l_doubt_key (hr.mono (by first | decide | omega)) rfl (da_cons (d_v 11) da_nil)) (d_call c_l_doubt_key (hr.mono (by first | decide | omega)) rfl (da_cons (d_v 9) da_nil)) (nomark _)))) (fun _ _ _ _ _ => (d_v 11))) da_nil)) (fun _ _ => rfl)) da_nil))))
    (ds_one (ds_expr (d_mt PySem.F.slot_list_append PySem.F.type_list_append m_append (d_v 8) (da_cons (d_call c_l_best_free (hr.mono (by first | decide | omega)) rfl (da_cons (d_v 9) da_nil)) da_nil)))))))
    (ds_one (ds_ret (d_ct c_tuple rfl B.b_tuple boot_tuple (da_cons (d_v 8) da_nil)))))))))))))) (fun ds M Q h => ?_)
  obtain ⟨a, b, rfl, ds, rs, rfl, rfl, hds, hn, hl, hp, hr, hrl, hnl, h⟩ := h
  have hrok : ∀ r ∈ rs, rsOk r ∧ r.length ≤ 1000 := fun r hr2 => ⟨(hr r hr2).ok hds, by have := (hr r hr2).len; omega⟩
  obtain ⟨N, hN⟩ : ∃ N, N = ds.filter fun d => isNm rs d.1 := ⟨_, rfl⟩
  have hNn : nmL (nmD rs ds) 0 ds = N := by rw [hN, nmD_named]
  have hNs : N.Sublist ds := by rw [hN]; exact List.filter_sublist
  have hNd : ∀ d ∈ N, dbW d := fun d hd => hds d (hNs.mem hd)
  have hNl : N.length ≤ 6 := by rw [hN]; exact hnl
  have hNr : ∀ r ∈ rs, RsnOk N r := fun r hr2 => by
    obtain ⟨h1, h2⟩ := hr r hr2
    refine ⟨?_, fun q hq => ?_⟩
    · have z := h1.filter fun m => isNm rs m
      have e1 : (r.map (·.1)).filter (fun m => isNm rs m) = r.map (·.1) := List.filter_eq_self.mpr fun m hm => by
        obtain ⟨q, hq, rfl⟩ := List.mem_map.mp hm
        exact isNm_iff.mpr ⟨r, hr2, q, hq, rfl⟩
      have e2 : (ds.map (·.1)).filter (fun m => isNm rs m) = N.map (·.1) := by
        rw [hN, List.filter_map]
        rfl
      rw [e1, e2] at z
      exact z
    · obtain ⟨d, hd, e, hq2⟩ := h2 q hq
      refine ⟨d, ?_, e, hq2⟩
      rw [hN]
      exact List.mem_filter.mpr ⟨hd, isNm_iff.mpr ⟨r, hr2, q, hq, e.symm⟩⟩
  have hNo : ∀ d ∈ N, d.2.length ≤ 6 ∧ ∀ o ∈ d.2, 0 < o.2 ∧ o.2 < 2 ^ 72 := fun d hd => ⟨(hNd d hd).len, (hNd d hd).wt⟩
  obtain ⟨P, hP⟩ : ∃ P, P = pA (nmD rs ds) 0 ds a0 := ⟨_, rfl⟩
  have hpset : pset N = P.map fun q => (rowA (nmD rs ds) 0 ds q.1, q.2) := by rw [← hNn, pset_pA (a := a0), hP]
  have hpT : pT rs ds = P.filter fun q => holdI (ixs rs ds) q.1 := by rw [hP]; rfl
  have eS : (pset N).map enS = P.map fun q => sD (rowA (nmD rs ds) 0 ds q.1) := by rw [hpset, List.map_map]; rfl
  have eW : (pset N).map enW = P.map fun q => D.int q.2 := by rw [hpset, List.map_map]; rfl
  have eT : ((pset N).map fun q => D.bl (holdS rs (sgo sg0 N q.1))) = P.map fun q => D.bl (holdI (ixs rs ds) q.1) := by
    rw [hpset, List.map_map, ← hNn]
    refine List.map_congr_left fun q hq => ?_
    rw [hP] at hq
    show D.bl (holdS rs (sgo sg0 _ (rowA (nmD rs ds) 0 ds q.1))) = _
    rw [hold_pA hds hn hr hq]
  walk_at "st"
  refine ⟨ds, rfl, rs, rfl, hds, hrok, by omega, ?_⟩
  rw [← hN]
  walk_at "st"
  refine ⟨N, rfl, hNo, hNl, ?_⟩
  rw [eS]
  walk_at "st"
  refine ⟨N, rfl, hNo, hNl, ?_⟩
  rw [eW]
  walk_at "st"
  refine ⟨N, rfl, rs, rfl, hNd, hn.sublist (hNs.map _), hNl, hNr, ?_⟩
  rw [eT]
  walk_at "st"
  have hany : ((P.map fun q => D.bl (holdI (ixs rs ds) q.1)).any fun z => D.eqv z (D.bl true)) = P.any fun q => holdI (ixs rs ds) q.1 := by
    rw [List.any_map]
    refine congrArg (fun f => P.any f) (funext fun q => ?_)
    show D.eqv (.bl (holdI (ixs rs ds) q.1)) (.bl true) = _
    rw [eqv_bl]
    cases holdI (ixs rs ds) q.1 <;> rfl
  refine ⟨by rw [List.all_map]; exact List.all_eq_true.mpr fun q _ => by simp, ?_⟩
  rw [hany]
  by_cases hE : pT rs ds = []
  · have e : (P.any fun q => holdI (ixs rs ds) q.1) = false := by
      rw [List.any_eq_false]
      intro q hq c
      have : q ∈ pT rs ds := by
        rw [hpT]
        exact List.mem_filter.mpr ⟨hq, c⟩
      rw [hE] at this
      cases this
    rw [if_pos e]
    rw [hv_none hds hr hE] at h
    exact ret_of h
  have e : (P.any fun q => holdI (ixs rs ds) q.1) = true := by
    cases e9 : pT rs ds with
    | nil => exact absurd e9 hE
    | cons q l =>
      have hq : q ∈ pT rs ds := by rw [e9]; simp
      rw [hpT] at hq
      obtain ⟨h1, h2⟩ := List.mem_filter.mp hq
      exact List.any_eq_true.mpr ⟨q, h1, h2⟩
  rw [e, if_neg (by simp)]
  have rng : ∀ {β : Type} (p : As × Int → Bool) (f : As × Int → β), ((List.range P.length).filter fun k => p (P.getD k (a0, 0))).map (fun k => f (P.getD k (a0, 0))) = (P.filter p).map f := fun p f => by
    have e9 : P = (List.range P.length).map fun k => P.getD k (a0, 0) := by
      refine List.ext_getElem (by simp) fun i h1 h2 => ?_
      rw [List.getElem_map, List.getElem_range, List.getD_eq_getElem?_getD, List.getElem?_eq_getElem h1]
      rfl
    conv => rhs; rw [e9]
    rw [List.filter_map, List.map_map]
    rfl
  have pat : ∀ {β : Type} (f : As × Int → β) {k : Nat}, k < P.length → (P.map f)[k]? = some (f (P.getD k (a0, 0))) := fun f k hk => by
    rw [List.getElem?_map, List.getElem?_eq_getElem hk, List.getD_eq_getElem?_getD, List.getElem?_eq_getElem hk]
    rfl
  walk_at "st"
  intro hPl
  rw [List.length_map] at hPl ⊢
  rw [Int.toNat_natCast, rangeD0]
  refine ⟨by omega, by omega, fun _ => ?_⟩
  refine lc_pure (List.range P.length) (fun k => D.int (k : Nat)) (fun k => holdI (ixs rs ds) (P.getD k (a0, 0)).1) (fun k => D.int (P.getD k (a0, 0)).2) rfl srcV_none (fun k hk M5 l5 C1 C2 h1 h2 => ?_) fun p5 hp5 => ?_
  · have hk := List.mem_range.mp hk
    walk_at "rd"
    refine ⟨_, atI_nat (pat (fun q => D.bl (holdI (ixs rs ds) q.1)) hk), _, rfl, ?_⟩
    split
    · next c => exact ⟨_, atI_nat (pat (fun q => D.int q.2) hk), h1 c⟩
    · next c => exact h2 (Bool.eq_false_iff.mpr c)
  have er := rng (fun q => holdI (ixs rs ds) q.1) (fun q => D.int q.2)
  rw [mdel_mput hp5, er, ← hpT]
  refine ⟨(pT rs ds).map (·.2), by rw [List.map_map]; rfl, by
    rw [List.length_map]
    exact List.length_pos_iff.mpr hE, fun n hn1 hn2 => ?_⟩
  obtain ⟨l1, x, l2, e1, e2, e3⟩ := first_split (P := fun u : As × Int => u.2 = n) (l := pT rs ds) (by
    obtain ⟨u, hu, e9⟩ := List.mem_map.mp hn1
    exact ⟨u, hu, e9⟩)
  have hmax : ∀ u ∈ pT rs ds, u.2 ≤ n := fun u hu => hn2 _ (List.mem_map.mpr ⟨u, hu, rfl⟩)
  obtain ⟨y, hy⟩ := hv_some hds hr e1 (fun u hu => by
    have h1 := e3 u hu
    have h2 := hmax u (by rw [e1]; simp [hu])
    omega) (fun u hu => by
    have h2 := hmax u (by rw [e1]; simp [hu])
    omega)
  rw [hy] at h
  have hxP : x ∈ pA (nmD rs ds) 0 ds a0 := by
    have : x ∈ pT rs ds := by rw [e1]; simp
    exact (List.mem_filter.mp this).1
  walk_at "st"
  intro _
  rw [List.length_map, Int.toNat_natCast, rangeD0]
  refine ⟨by omega, by omega, fun _ => ?_⟩
  refine lc_pure (List.range P.length) (fun k => D.int (k : Nat)) (fun k => holdI (ixs rs ds) (P.getD k (a0, 0)).1 && decide ((P.getD k (a0, 0)).2 = n)) (fun k => sD (rowA (nmD rs ds) 0 ds (P.getD k (a0, 0)).1)) rfl srcV_none (fun k hk M5 l5 C1 C2 h1 h2 => ?_) fun p6 hp6 => ?_
  · have hk := List.mem_range.mp hk
    walk_at "rd"
    refine ⟨_, atI_nat (pat (fun q => D.bl (holdI (ixs rs ds) q.1)) hk), _, rfl, ?_⟩
    split
    · next c =>
      refine ⟨_, atI_nat (pat (fun q => D.int q.2) hk), by simp, ?_⟩
      rw [eqv_int]
      by_cases e9 : (P.getD k (a0, 0)).2 = n
      · rw [if_pos (decide_eq_true e9)]
        exact ⟨_, atI_nat (pat (fun q => sD (rowA (nmD rs ds) 0 ds q.1)) hk), h1 (by rw [c, decide_eq_true e9]; rfl)⟩
      · rw [if_neg (by rw [decide_eq_true_iff]; exact e9)]
        exact h2 (by rw [decide_eq_false e9, Bool.and_false])
    · next c => exact h2 (by rw [Bool.eq_false_iff.mpr c]; rfl)
  have er2 := rng (fun q => holdI (ixs rs ds) q.1 && decide (q.2 = n)) (fun q => sD (rowA (nmD rs ds) 0 ds q.1))
  have ef : (P.filter fun q => holdI (ixs rs ds) q.1 && decide (q.2 = n)) = x :: l2.filter fun q => decide (q.2 = n) := by
    rw [show (fun q : As × Int => holdI (ixs rs ds) q.1 && decide (q.2 = n)) = fun q => decide (q.2 = n) && holdI (ixs rs ds) q.1 from funext fun q => Bool.and_comm _ _, ← List.filter_filter, ← hpT, e1, List.filter_append, List.filter_cons, if_pos (decide_eq_true e2), List.filter_eq_nil_iff.mpr (fun u hu => by simpa using e3 u hu), List.nil_append]
  rw [mdel_mput hp6, er2, ef]
  rw [List.map_cons]
  refine ⟨_, atI_0 _ _, (rowA (nmD rs ds) 0 ds x.1).map D.tup, rfl, fun p7 hp7 => ⟨_, rfl, ?_⟩⟩
  rw [mdel_mput hp7]
  walk_at "st"
  intro q hq
  have hos := hv_os hds hy
  have htold : told ds (mrg (nmD rs ds) 0 (wsI ds) (idxA (nmD rs ds) 0 ds x.1)) = ds.zipIdx.map fun u => rowJ (nmD rs ds) x.1 u.1 u.2 := by
    unfold told
    refine List.ext_getElem? fun i => ?_
    rw [List.getElem?_map, List.getElem?_map, List.getElem?_zipIdx, List.getElem?_zipIdx]
    cases e9 : ds[i]? with
    | none =>
      have : (mrg (nmD rs ds) 0 (wsI ds) (idxA (nmD rs ds) 0 ds x.1))[i]? = none := by
        rw [List.getElem?_eq_none_iff] at e9 ⊢
        rw [hos.1]
        exact e9
      rw [this]
      rfl
    | some d =>
      rw [mrg_at i d e9]
      show some (D.tup ((ds.getD (0 + i) (.non, [])).2.getD (if nmD rs ds (0 + i) = true then x.1 (0 + i) else fmi (d.2.map fun o => o.2)) ([], 0)).1) = some (rowJ (nmD rs ds) x.1 d (0 + i))
      have e10 : ds.getD i (.non, []) = d := by rw [List.getD_eq_getElem?_getD, e9]; rfl
      rw [Nat.zero_add, e10]
      rfl
  have h : Q (.tup (told ds (mrg (nmD rs ds) 0 (wsI ds) (idxA (nmD rs ds) 0 ds x.1)))) M := h
  rw [htold] at h
  walk_at "st"
  intro _
  refine for_ind (fun items m1 M1 => ∃ (rest dn : List Dbt) (x9 x10 x11 : Option D), items = rest.map dbD ∧ dn ++ rest = ds ∧ M1 = mput M q (.lst (dn.zipIdx.map fun u => rowJ (nmD rs ds) x.1 u.1 u.2)) ∧ m1 = [some (D.tup (List.map dbD ds)), some (reD rs), some (D.tup (List.map dbD N)), some (D.lst (List.map (fun q => sD (rowA (nmD rs ds) 0 ds q.1)) P)), some (D.lst (List.map (fun q => D.int q.2) P)), some (D.lst (List.map (fun q => D.bl (holdI (ixs rs ds) q.1)) P)), some (D.int n), some (D.lst ((rowA (nmD rs ds) 0 ds x.1).map D.tup)), some (.ref q), x9, x10, x11]) ?_ ?_ _ _ _ ⟨ds, [], _, _, _, rfl, rfl, rfl, rfl⟩
  · rintro m1 M1 ⟨rest, dn, x9, x10, x11, hi, hd, rfl, rfl⟩
    refine ⟨srcV_none, ?_⟩
    cases rest with
    | cons x r => cases hi
    | nil =>
      rw [List.append_nil] at hd
      subst hd
      walk_at "rd"
      exact ret_le (.put (.refl M) hq) h
  · rintro z its m1 M1 Cn hC ⟨rest, dn, x9, x10, x11, hi, hd, rfl, rfl⟩
    refine ⟨srcV_none, ?_⟩
    cases rest with
    | nil => cases hi
    | cons d rest =>
      rw [List.map_cons] at hi
      injection hi with h1 h2
      subst h1
      subst h2
      have hdat : ds[dn.length]? = some d := mid_at hd
      have hdm : d ∈ ds := List.mem_of_getElem? hdat
      have hdw := hds d hdm
      have hdn : dn.length < ds.length := (List.getElem?_eq_some_iff.mp hdat).1
      have hacc : ((dn ++ [d]).zipIdx.map fun u => rowJ (nmD rs ds) x.1 u.1 u.2) = (dn.zipIdx.map fun u => rowJ (nmD rs ds) x.1 u.1 u.2) ++ [rowJ (nmD rs ds) x.1 d dn.length] := by
        rw [List.zipIdx_append, List.map_append, Nat.zero_add]
        rfl
      have hal : (dn.zipIdx.map fun u => rowJ (nmD rs ds) x.1 u.1 u.2).length < 16777216 := by
        rw [List.length_map, List.length_zipIdx]
        omega
      have hnx : ∀ (z : D) x9 x10 x11, z = rowJ (nmD rs ds) x.1 d dn.length → fg Cn [some (D.tup (List.map dbD ds)), some (reD rs), some (D.tup (List.map dbD N)), some (D.lst (List.map (fun q => sD (rowA (nmD rs ds) 0 ds q.1)) P)), some (D.lst (List.map (fun q => D.int q.2) P)), some (D.lst (List.map (fun q => D.bl (holdI (ixs rs ds) q.1)) P)), some (D.int n), some (D.lst ((rowA (nmD rs ds) 0 ds x.1).map D.tup)), some (.ref q), x9, x10, x11] (mput M q (.lst ((dn.zipIdx.map fun u => rowJ (nmD rs ds) x.1 u.1 u.2) ++ [z]))) := fun z x9 x10 x11 hz => by
        rw [hz, ← hacc]
        exact fg_of (hC _ _ ⟨rest, dn ++ [d], _, _, _, rfl, by rw [← hd]; simp, rfl, rfl⟩)
      have hdo := dbD_ok hdw 59
      rw [show dbD d = D.tup [d.1, D.tup (d.2.map opD)] from rfl] at hdo
      have hNk : (N.map dbD).all (dOk 63) = true := by
        rw [List.all_map]
        exact List.all_eq_true.mpr fun o ho => dbD_ok (hNd o ho) 59
      have hnm : nmD rs ds dn.length = isNm rs d.1 := nmD_at hdat
      walk_at "s1"
      refine ⟨by simpa using hdo, hNk, ?_⟩
      rw [show D.tup [d.1, D.tup (d.2.map opD)] = dbD d from rfl]
      by_cases c : isNm rs d.1 = true
      · rw [if_pos ((any_db hNd hdw).mpr (by rw [hN]; exact List.mem_filter.mpr ⟨hdm, c⟩))]
        refine ⟨⟨_, rfl⟩, fun _ => ?_⟩
        refine lc_pure N dbD (fun o => dlt (mKey o.1) (mKey d.1)) dbD rfl srcV_none (fun o ho M5 l5 C1 C2 h1 h2 => ?_) fun p8 hp8 => ?_
        · obtain ⟨m, g1, k1⟩ := (hNd o ho).mark
          obtain ⟨m1, g2, k2⟩ := hdw.mark
          have y1 : mkKey m = mKey o.1 := by rw [g1, mKey_mk]
          have y2 : mkKey m1 = mKey d.1 := by rw [g2, mKey_mk]
          walk_at "rd"
          refine ⟨m, g1, ⟨_, rfl⟩, k1, m1, g2, ⟨_, rfl⟩, k2, by rw [y1]; exact mKey_ok (hNd o ho).mark 61, by rw [y2]; exact mKey_ok hdw.mark 61, by simp [mkKey], by rw [y1, y2]; exact mKey_alike (hNd o ho).mark hdw.mark, ?_⟩
          rw [y1, y2]
          change (if dlt (mKey o.1) (mKey d.1) = true then _ else _)
          split
          · next c9 => exact h1 c9
          · next c9 => exact h2 (Bool.eq_false_iff.mpr c9)
        · rw [mdel_mput hp8, List.length_map]
          have z := rowA_at (nm := nmD rs ds) (b := x.1) (κ := fun d => mKey d.1) (k := 0) hp dn.length d hdat (by rw [Nat.zero_add, hnm]; exact c)
          rw [hNn, Nat.zero_add] at z
          refine ⟨_, atI_nat (by rw [List.getElem?_map, z]; rfl), _, mput_same, hal, ?_⟩
          rw [mput_mput]
          exact hnx _ _ _ _ (by rw [rowJ, hnm, if_pos c])
      · rw [if_neg (fun z => c (by
          have := (any_db hNd hdw).mp z
          rw [hN] at this
          exact (List.mem_filter.mp this).2))]
        refine ⟨⟨_, rfl⟩, d, rfl, rfl, hdw, fun m1 m2 o e4 e5 e6 => ⟨_, rfl, hal, ?_⟩⟩
        exact hnx _ _ _ _ (by rw [rowJ, hnm, if_neg c, fmi_at hdw e4 e5 e6])
/-! ### a few of the doubts -/
theorem sub_sorted {R : Dbt → Dbt → Prop} (ir : ∀ a, ¬ R a a) (tr : ∀ a b c, R a b → R b c → R a c) : ∀ {ds few : List Dbt}, ds.Pairwise R → few.Pairwise R → (∀ x ∈ few, x ∈ ds) → few.Sublist ds
  | [], few, _, _, h => by
    cases few with
    | nil => exact .refl _
    | cons x l => exact absurd (h x (by simp)) (by simp)
  | d :: ds, [], _, _, _ => List.nil_sublist _
  | d :: ds, f :: fs, hd, hf, h => by
    rw [List.pairwise_cons] at hd
    have hf' := List.pairwise_cons.mp hf
    rcases List.mem_cons.mp (h f (by simp)) with e | hfd
    · subst e
      refine (sub_sorted ir tr hd.2 hf'.2 fun x hx => ?_).cons₂ f
      rcases List.mem_cons.mp (h x (by simp [hx])) with e | h2
      · exfalso
        rw [e] at hx
        exact ir _ (hf'.1 f hx)
      · exact h2
    · refine (sub_sorted ir tr hd.2 hf fun x hx => ?_).cons d
      rcases List.mem_cons.mp (h x hx) with e | h2
      · exfalso
        have r1 := hd.1 f hfd
        rcases List.mem_cons.mp hx with e2 | hx2
        · rw [← e2, e] at r1
          exact ir _ r1
        · have r2 := hf'.1 x hx2
          rw [e] at r2
          exact ir _ (tr _ _ _ r1 r2)
      · exact h2
theorem szB_le {nm : Nat → Bool} : ∀ {L : List Dbt} {k : Nat}, szB nm k L.length ≤ L.length * 6 ^ (nmL nm k L).length
  | [], _ => by simp [szB]
  | d :: L, k => by
    have ih := szB_le (nm := nm) (L := L) (k := k + 1)
    rw [List.length_cons, szB, nmL]
    have hp : 0 < 6 ^ (nmL nm (k + 1) L).length := Nat.pow_pos (by omega)
    by_cases c : nm k = true
    · rw [if_pos c, if_pos c, List.length_cons, Nat.pow_succ, Nat.add_mul, Nat.one_mul]
      have e : L.length * (6 ^ (nmL nm (k + 1) L).length * 6) = 6 * (L.length * 6 ^ (nmL nm (k + 1) L).length) := by
        rw [← Nat.mul_assoc, Nat.mul_comm]
      rw [e]
      omega
    · rw [if_neg c, if_neg c, Nat.add_mul, Nat.one_mul, Nat.one_mul]
      omega
theorem uniq_mark {ds : List Dbt} (hn : (ds.map (·.1)).Nodup) {d e : Dbt} (hd : d ∈ ds) (he : e ∈ ds) (h : d.1 = e.1) : d = e := by
  induction ds with
  | nil => cases hd
  | cons x l ih =>
    rw [List.map_cons, List.nodup_cons] at hn
    rcases List.mem_cons.mp hd with e1 | hd2
    · rcases List.mem_cons.mp he with e2 | he2
      · rw [e1, e2]
      · exact absurd (List.mem_map.mpr ⟨e, he2, by rw [← h, e1]⟩) hn.1
    · rcases List.mem_cons.mp he with e2 | he2
      · exact absurd (List.mem_map.mpr ⟨d, hd2, by rw [h, e2]⟩) hn.1
      · exact ih hn.2 hd2 he2
abbrev SK (a b : Dbt) : Prop := dlt (mKey a.1) (mKey b.1) = true
structure Few (ds few : List Dbt) : Prop where
  w : ∀ d ∈ ds, dbW d
  nd : (ds.map (·.1)).Nodup
  len : ds.length ≤ 20
  srt : ds.Pairwise SK
  sub : few.Sublist ds
  fl : few.length ≤ 6
def gR (few : List Dbt) (rs : List Rsn) : Prop := (∀ r ∈ rs, RsnOk few r) ∧ rs.length ≤ 100
section
variable {ds few : List Dbt} {rs : List Rsn} (F : Few ds few) (G : gR few rs)
include F G
theorem Few.rsn : ∀ r ∈ rs, RsnOk ds r := fun r hr => by
  obtain ⟨h1, h2⟩ := G.1 r hr
  refine ⟨h1.trans (F.sub.map _), fun q hq => ?_⟩
  obtain ⟨d, hd, e⟩ := h2 q hq
  exact ⟨d, F.sub.mem hd, e⟩
theorem Few.named : (ds.filter fun d => isNm rs d.1).length ≤ 6 := by
  refine Nat.le_trans (List.Sublist.length_le (sub_sorted (R := SK) (fun a h => by rw [SK, dlt_irr] at h; cases h) (fun a b c h k => dlt_trans h k) (F.srt.sublist F.sub) (F.srt.sublist List.filter_sublist) fun d hd => ?_)) F.fl
  obtain ⟨h1, h2⟩ := List.mem_filter.mp hd
  obtain ⟨r, hr, q, hq, e⟩ := isNm_iff.mp h2
  obtain ⟨d', hd', e2, _⟩ := (G.1 r hr).2 q hq
  rw [uniq_mark F.nd h1 (F.sub.mem hd') (e.symm.trans e2.symm)]
  exact hd'
theorem Few.sz : szB (nmD rs ds) 0 ds.length ≤ 16777216 := by
  have h := szB_le (nm := nmD rs ds) (L := ds) (k := 0)
  rw [nmD_named] at h
  have h2 : 6 ^ (ds.filter fun d => isNm rs d.1).length ≤ 46656 := Nat.le_trans (Nat.pow_le_pow_right (by omega) (F.named G)) (by decide)
  have h3 : ds.length * 6 ^ (ds.filter fun d => isNm rs d.1).length ≤ 20 * 46656 := Nat.mul_le_mul F.len h2
  omega
end
theorem told_ok {ds : List Dbt} (hds : ∀ d ∈ ds, dbW d) (os : List Nat) : dOk 24 (.tup (told ds os)) = true := by
  rw [dOk_tup]
  unfold told
  rw [List.all_map]
  refine List.all_eq_true.mpr fun u _ => ?_
  show dOk 23 (.tup ((ds.getD u.2 (.non, [])).2.getD u.1 ([], 0)).1) = true
  rw [dOk_tup]
  refine row_ok (fun v hv => ?_) 22
  rw [List.getD_eq_getElem?_getD, List.getD_eq_getElem?_getD] at hv
  cases e : ds[u.2]? with
  | none =>
    rw [e] at hv
    simp at hv
  | some d =>
    rw [e] at hv
    cases e2 : d.2[u.1]? with
    | none =>
      rw [Option.getD_some, e2] at hv
      simp at hv
    | some o =>
      rw [Option.getD_some, e2] at hv
      exact (hds d (List.mem_of_getElem? e)).rv (List.mem_of_getElem? e2) v hv
def d2 (d : Dbt) : Dbt := (d.1, d.2.map fun o => (o.1, (2 : Int)))
theorem d2_w {d : Dbt} (h : dbW d) : dbW (d2 d) := by
  have e : rowsOf (d2 d) = rowsOf d := by
    unfold rowsOf d2
    rw [List.map_map]
    rfl
  refine ⟨h.mark, ?_, ?_, by rw [e]; exact h.nd, by rw [e]; exact h.row, fun o ho => ?_⟩
  · show 0 < (d.2.map _).length
    rw [List.length_map]
    exact h.pos
  · show (d.2.map _).length ≤ 6
    rw [List.length_map]
    exact h.len
  · obtain ⟨u, _, rfl⟩ := List.mem_map.mp ho
    show (0 : Int) < 2 ∧ (2 : Int) < 2 ^ 72
    decide
theorem d2_db (d : Dbt) : dbD (d2 d) = .tup [d.1, .tup (d.2.map fun o => opD (o.1, 2))] := by
  show D.tup [d.1, .tup ((d.2.map fun o => (o.1, (2 : Int))).map opD)] = _
  rw [List.map_map]
  rfl
theorem mem3 {M : DM} {p q r : Addr} {a b c a' b' c' : DO} (h1 : p ≠ q) (h2 : p ≠ r) (h3 : q ≠ r) : mput (mput (mput (mput (mput (mput M p a) q b) r c) p a') q b') r c' = mput (mput (mput M p a') q b') r c' := by
  funext x
  unfold mput
  by_cases e1 : x = r
  · simp only [if_pos e1]
  · by_cases e2 : x = q
    · simp only [if_neg e1, if_pos e2]
    · by_cases e3 : x = p
      · simp only [if_neg e1, if_neg e2, if_pos e3]
      · simp only [if_neg e1, if_neg e2, if_neg e3]
theorem ok_law {f0 : Addr} {fd0 : FuncData} (F : Fun K "law" "law" s_law f0 fd0) (B : Bi K mg) (I : Im mg) (c_likeliest : Cal P w K mg base 26 "likeliest" ["doubts", "reasons"] (sp_likeliest w)) (c_l_draws : Cal P w K mg base 1 "_law_draws" ["script", "many"] sp_l_draws) (c_l_take : Cal P w K mg base 1 "_law_take" ["draws", "many"] sp_l_take) (c_l_pick : Cal P w K mg base 2 "_law_pick" ["draws", "row"] sp_l_pick) (c_l_same : Cal P w K mg base 25 "_law_same" ["actual", "due"] sp_l_same) (c_l_words : Cal P w K mg base 2 "_law_words" ["draws", "many"] sp_l_words) (c_l_drawn_doubts : Cal P w K mg base 9 "_law_drawn_doubts" ["draws", "words", "many", "most"] sp_l_drawn_doubts) (c_l_doubt_key : Cal P w K mg base 4 "_law_doubt_key" ["doubt"] sp_l_doubt_key) (c_l_drawn_reasons : Cal P w K mg base 10 "_law_drawn_reasons" ["draws", "doubts", "many", "width"] sp_l_drawn_reasons) (c_l_due_likeliest : Cal P w K mg base 5 "_law_due_likeliest" ["doubts", "reasons"] sp_l_due_likeliest) : FnOk P w K mg base CX0 29 f0 fd0 ["script"] (upSp K sp_law) := by
  have sc := sc_law
  refine fn_ok F sc (fun ds M Q h => len1 h) (fun f cdv A outer s H E hr => (ds_cons (ds_set (i := 1) sc.nd rfl (Or.inl rfl) (d_call c_l_draws (hr.mono (by first | decide | omega)) rfl (da_cons (d_v 0) (da_cons d_int da_nil))))
    (ds_cons (ds_set (i := 2) sc.nd rfl (Or.inl rfl) (d_call c_l_words (hr.mono (by first | decide | omega)) rfl (da_cons (d_v 1) (da_cons d_int da_nil))))
    (ds_cons (ds_set (i := 3) sc.nd rfl (Or.inl rfl) (d_ix x_ix (d_lstF (da_cons (d_tup (da_cons d_int (da_cons d_int da_nil))) (da_cons (d_tup (da_cons d_int (da_cons d_int da_nil))) (da_cons (d_tup (da_cons d_int (da_cons d_int da_nil))) (da_cons (d_tup (da_cons d_int (da_cons d_int da_nil))) (da_cons (d_tup (da_cons d_int (da_cons d_int da_nil))) (da_cons (d_tup (da_cons (d_op o_add d_int (d_call c_l_take (hr.mono (by first | decide | omega)) rfl (da_cons (d_v 1) (da_cons d_int da_nil)))) (da_cons d_int da_nil))) (da_cons (d_tup (da_cons d_int (da_cons d_int da_nil))) (da_cons (d_tup (da_cons d_int (da_cons d_int da_nil))) da_nil))))))))) (d_call c_l_take (hr.mono (by first | decide | omega)) rfl (da_cons (d_v 1) (da_cons d_int da_nil))) (fun _ _ => rfl)))
    (ds_cons (ds_set (i := 4) sc.nd rfl (Or.inl rfl) (d_call c_l_drawn_doubts (hr.mono (by first | decide | omega)) rfl (da_cons (d_v 1) (da_cons (d_v 2) (da_cons (d_ix x_ix (d_v 3) d_int (fun _ _ => rfl)) (da_cons (d_ix x_ix (d_v 3) d_int (fun _ _ => rfl)) da_nil))))))
    (ds_cons (ds_if (dt_cmp (o_eq (hu_eq hr)) (d_call c_l_take (hr.mono (by first | decide | omega)) rfl (da_cons (d_v 1) (da_cons d_int da_nil))) d_int (nomark _))
    (ds_one (ds_set (i := 4) sc.nd rfl (Or.inl rfl) (d_ct c_tuple rfl B.b_tuple boot_tuple (da_cons (d_lcF rfl sc.nd (own := [("doubt", 13)]) (di_seq (d_v 4)) (blkOk_by (N := N_law) (sc := defScope s_law) (by decide +kernel)) (by decide) (fun _ _ _ _ _ => (dg_name (i := 13) sc.nd rfl (Or.inl rfl))) (fun _ _ _ _ _ => dts_nil) (fun _ _ _ _ _ => (d_tup (da_cons (d_ix x_ix (d_v 13) d_int (fun _ _ => rfl)) (da_cons (d_ct c_tuple rfl B.b_tuple boot_tuple (da_cons (d_lcF rfl sc.nd (own := [("option", 12)]) (di_seq (d_ix x_ix (d_v 13) d_int (fun _ _ => rfl))) (blkOk_by (N := N_law) (sc := ({ kind := PySem.ScopeKind.function, names := [(PySem.Str.ofString ".0", PySem.NameKind.local), (PySem.Str.ofString "doubt", PySem.NameKind.local), (PySem.Str.ofString "tuple", PySem.NameKind.globalImplicit)], isGenerator := false, isCoroutine := false } : PySem.Scope)) (by decide +kernel)) (by decide) (fun _ _ _ _ _ => (dg_name (i := 12) sc.nd rfl (Or.inl rfl))) (fun _ _ _ _ _ => dts_nil) (fun _ _ _ _ _ => (d_tup (da_cons (d_ix x_ix (d_v 12) d_int (fun _ _ => rfl)) (da_cons d_int da_nil))))) da_nil)) da_nil))))) da_nil))))
    ds_nil)
    (ds_cons (ds_set (i := 5) sc.nd rfl (Or.inl rfl) (d_ct c_list rfl B.b_list boot_list (da_cons (d_v 4) da_nil)))
    (ds_cons (ds_set (i := 6) sc.nd rfl (Or.inl rfl) (d_lst da_nil))
    (ds_cons (ds_for PassesOwn.never rfl (di_range1 rfl B.b_range (da_cons d_int da_nil)) (dg_name (i := 7) sc.nd rfl (Or.inl rfl))
    (ds_one (ds_if (dt_cmp o_gt (d_cb c_len rfl B.b_len boot_len (da_cons (d_v 5) da_nil)) d_int (nomark _))
    (ds_one (ds_expr (d_mt PySem.F.slot_list_append PySem.F.type_list_append m_append (d_v 6) (da_cons (d_mt PySem.F.slot_list_pop PySem.F.type_list_pop m_popAt (d_v 5) (da_cons (d_call c_l_take (hr.mono (by first | decide | omega)) rfl (da_cons (d_v 1) (da_cons (d_cb c_len rfl B.b_len boot_len (da_cons (d_v 5) da_nil)) da_nil))) da_nil)) da_nil))))
    ds_nil)))
    (ds_cons (ds_set (i := 6) sc.nd rfl (Or.inl rfl) (d_ct c_tuple rfl B.b_tuple boot_tuple (da_cons (d_fz (d_sortK c_l_doubt_key (hr.mono (by first | decide | omega)).in1.in1 rfl rfl B.b_sorted (da_cons (d_v 6) da_nil))) da_nil)))
    (ds_cons (ds_set (i := 8) sc.nd rfl (Or.inr rfl) (d_call c_l_pick (hr.mono (by first | decide | omega)) rfl (da_cons (d_v 1) (da_cons (d_v 6) da_nil))))
    (ds_cons (ds_setLcF (i := 9) rfl sc.nd rfl rfl (sw_true rfl rfl rfl (by decide +kernel)) (own := [("option", 12)]) (di_seq (d_ix x_ix (d_v 8) d_int (fun _ _ => rfl))) (blkOk_by (N := N_law) (sc := defScope s_law) (by decide +kernel)) (by decide) (fun _ _ _ _ _ => (dg_name (i := 12) sc.nd rfl (Or.inl rfl))) (fun _ _ _ _ _ => dts_nil) (fun _ _ _ _ _ => (d_tup (da_cons (d_tup (da_cons (d_ix x_ix (d_v 8) d_int (fun _ _ => rfl)) (da_cons (d_ix x_ix (d_v 12) d_int (fun _ _ => rfl)) da_nil))) da_nil))))
    (ds_cons (ds_set (i := 10) sc.nd rfl (Or.inl rfl) (d_call c_l_drawn_reasons (hr.mono (by first | decide | omega)) rfl (da_cons (d_v 1) (da_cons (d_v 6) (da_cons d_int (da_cons d_int da_nil))))))
    (ds_cons (ds_for PassesOwn.never rfl (di_seq (d_lstF (da_cons (d_v 10) (da_cons (d_call c_l_drawn_reasons (hr.mono (by first | decide | omega)) rfl (da_cons (d_v 1) (da_cons (d_v 6) (da_cons d_int (da_cons d_int da_nil))))) (da_cons (d_tup da_nil) (da_cons (d_ct c_tuple rfl B.b_tuple boot_tuple (da_cons (d_v 9) da_nil)) (da_cons (d_tup (da_cons (d_tup da_nil) da_nil)) (da_cons (d_ct c_tuple rfl B.b_tuple boot_tuple (da_cons (d_sl (d_v 9) (dp_some (d_neg d_int)) dp_none) da_nil)) (da_cons (d_v 10) da_nil))))))))) (dg_name (i := 11) sc.nd rfl (Or.inl rfl))
    (ds_one (ds_if (dt_not (dt_val (d_call c_l_same (hr.mono (by first | decide | omega)) rfl (da_cons (d_call c_likeliest (hr.mono (by first | decide | omega)) rfl (da_cons (d_v 4) (da_cons (d_v 11) da_nil))) (da_cons (d_call c_l_due_likeliest (hr.mono (by first | decide | omega)) rfl (da_cons (d_v 4) (da_cons (d_v 11) da_nil))) da_nil)))))
    (ds_one (ds_ret d_bl))
    ds_nil)))
    (ds_one (ds_ret d_bl)))))))))))))))) (fun ds M Q h => ?_)
  obtain ⟨a, rfl, ns, hns, rfl, h⟩ := h
  walk_at "st"
  refine ⟨⟨ns, rfl⟩, fun p o hp ho => ?_⟩
  obtain ⟨d0, hd0⟩ : ∃ d0, d0 = D.lst (ns.map D.int) := ⟨_, rfl⟩
  rw [← hd0]
  walk_at "st"
  refine ⟨7, rfl, by omega, dr_put ho, fun o1 ws ho1 hl hd hu => ?_⟩
  have hok : ∀ w ∈ ws, PyData.strOk w = true := fun w m => wok_str (hu w m)
  obtain ⟨wV, hwV⟩ : ∃ z, z = D.lst (ws.map D.str) := ⟨_, rfl⟩
  rw [← hwV]
  walk_at "st"
  refine ⟨dr_put ho1, fun o2 r ho2 r0 r1 => ⟨dr_put ho2, fun o3 r2 ho3 r20 r21 => ?_⟩⟩
  obtain ⟨sn, sm, hs1, hs2, hs3, hs4, hat⟩ : ∃ sn sm : Nat, 1 ≤ sn ∧ sn ≤ 20 ∧ 2 ≤ sm ∧ sm ≤ 6 ∧ atI [D.tup [.int 3, .int 3], .tup [.int 4, .int 3], .tup [.int 2, .int 6], .tup [.int 1, .int 6], .tup [.int 6, .int 3], .tup [.int (7 + r), .int 3], .tup [.int 6, .int 2], .tup [.int 3, .int 5]] r2 = some (.tup [.int (sn : Nat), .int (sm : Nat)]) := by
    obtain ⟨rn, hrn⟩ : ∃ rn : Nat, 7 + r = (rn : Nat) := ⟨(7 + r).toNat, by omega⟩
    rw [hrn]
    rcases (by omega : r2 = 0 ∨ r2 = 1 ∨ r2 = 2 ∨ r2 = 3 ∨ r2 = 4 ∨ r2 = 5 ∨ r2 = 6 ∨ r2 = 7) with rfl | rfl | rfl | rfl | rfl | rfl | rfl | rfl
    · exact ⟨3, 3, by omega, by omega, by omega, by omega, rfl⟩
    · exact ⟨4, 3, by omega, by omega, by omega, by omega, rfl⟩
    · exact ⟨2, 6, by omega, by omega, by omega, by omega, rfl⟩
    · exact ⟨1, 6, by omega, by omega, by omega, by omega, rfl⟩
    · exact ⟨6, 3, by omega, by omega, by omega, by omega, rfl⟩
    · exact ⟨rn, 3, by omega, by omega, by omega, by omega, rfl⟩
    · exact ⟨6, 2, by omega, by omega, by omega, by omega, rfl⟩
    · exact ⟨3, 5, by omega, by omega, by omega, by omega, rfl⟩
  refine ⟨_, hat, ?_⟩
  walk_at "st"
  refine ⟨ws, hwV, sn, rfl, sm, rfl, by omega, hs3, by omega, by omega, hd, hok, dr_put ho3, fun o4 ds0 ho4 hdl0 hds0 hn0 hpw0 => ?_⟩
  refine seq_cut (fun m' M' => ∃ (o5 : DO) (ds : List Dbt) (x12 x13 : Option D), DrO o5 ∧ M' = mput M p o5 ∧ ds.length = sn ∧ (∀ d ∈ ds, dbW d) ∧ (ds.map (·.1)).Nodup ∧ ds.Pairwise SK ∧ m' = [some d0, some (.ref p), some wV, some (.tup [.int (sn : Nat), .int (sm : Nat)]), some (.tup (ds.map dbD)), none, none, none, none, none, none, none, x12, x13]) (fun Cn hC => ?_) ?_
  · walk_at "s1"
    refine ⟨dr_put ho4, fun o5 r5 ho5 r50 r51 => ?_⟩
    split
    · intro _
      refine lc_map ds0 dbD (fun d => dbD (d2 d)) rfl srcV_none (fun d hd9 M5 l5 C1 h5 => ?_) fun p5 hp5 => ?_
      · rw [d2_db] at h5
        walk_at "rd"
        intro _
        refine lc_map d.2 opD (fun o => opD (o.1, 2)) rfl srcV_none (fun o ho M6 l6 C6 h6 => ?_) fun p6 hp6 => ?_
        · walk_at "rd"
          exact h6
        rw [mdel_mput hp6]
        exact h5
      rw [mdel_mput hp5]
      exact hC _ _ ⟨o5, ds0.map d2, _, _, ho5, rfl, by rw [List.length_map]; exact hdl0, fun d hd9 => by
        obtain ⟨e, he, rfl⟩ := List.mem_map.mp hd9
        exact d2_w (hds0 e he).1, by rw [List.map_map]; exact hn0, List.pairwise_map.mpr hpw0, by rw [List.map_map]; rfl⟩
    · exact hC _ _ ⟨o5, ds0, _, _, ho5, rfl, hdl0, fun d hd => (hds0 d hd).1, hn0, hpw0, rfl⟩
  rintro m' M' ⟨o5, ds, x12, x13, ho5, rfl, hdl, hdw, hn, hpw, rfl⟩
  walk_at "st"
  intro p5 hp5
  have h5p : p ≠ p5 := ne_of_fresh mput_same hp5
  have h5M : M p5 = none := by rw [mput_ne h5p.symm] at hp5; exact hp5
  walk_at "st"
  intro p6 hp6
  have h6p5 : p5 ≠ p6 := ne_of_fresh mput_same hp6
  have hp6' : mput M p o5 p6 = none := by rw [mput_ne h6p5.symm] at hp6; exact hp6
  have h6p : p ≠ p6 := ne_of_fresh mput_same hp6'
  have h6M : M p6 = none := by rw [mput_ne h6p.symm] at hp6'; exact hp6'
  refine seq_cut (fun m' M' => ∃ (o6 : DO) (left few : List Dbt) (x7 x12 x13 : Option D), DrO o6 ∧ (few ++ left).Perm ds ∧ few.length ≤ 6 ∧ few ≠ [] ∧ M' = mput (mput (mput M p o6) p5 (.lst (left.map dbD))) p6 (.lst (few.map dbD)) ∧ m' = [some d0, some (.ref p), some wV, some (.tup [.int (sn : Nat), .int (sm : Nat)]), some (.tup (ds.map dbD)), some (.ref p5), some (.ref p6), x7, none, none, none, none, x12, x13]) (fun Cn hC => ?_) ?_
  · walk_at "s1"
    intro _
    refine for_ind (fun items m1 M1 => ∃ (i : Nat) (o6 : DO) (left few : List Dbt) (x7 x12 x13 : Option D), items = rangeD i (6 - i) ∧ i ≤ 6 ∧ DrO o6 ∧ (few ++ left).Perm ds ∧ few.length ≤ i ∧ (0 < i → few ≠ []) ∧ M1 = mput (mput (mput M p o6) p5 (.lst (left.map dbD))) p6 (.lst (few.map dbD)) ∧ m1 = [some d0, some (.ref p), some wV, some (.tup [.int (sn : Nat), .int (sm : Nat)]), some (.tup (ds.map dbD)), some (.ref p5), some (.ref p6), x7, none, none, none, none, x12, x13]) ?_ ?_ _ _ _ ⟨0, o5, ds, [], _, _, _, rfl, by omega, ho5, .refl _, by simp, by omega, rfl, rfl⟩
    · rintro m1 M1 ⟨i, o6, left, few, x7, x12, x13, hi, hi6, ho6, hpm, hfl, hne, rfl, rfl⟩
      refine ⟨srcV_none, ?_⟩
      have hi2 : i = 6 := by
        have := congrArg List.length hi
        simp [rangeD] at this
        omega
      exact hC _ _ ⟨o6, left, few, _, _, _, ho6, hpm, by omega, hne (by omega), rfl, rfl⟩
    · rintro z its m1 M1 Cn2 hC2 ⟨i, o6, left, few, x7, x12, x13, hi, hi6, ho6, hpm, hfl, hne, rfl, rfl⟩
      refine ⟨srcV_none, ?_⟩
      have hi5 : i < 6 := by
        rcases Nat.lt_or_ge i 6 with c | c
        · exact c
        · exfalso
          rw [show 6 - i = 0 by omega] at hi
          cases hi
      rw [show 6 - i = (6 - (i + 1)) + 1 by omega, rangeD_cons] at hi
      injection hi with e1 e2
      subst e1
      subst e2
      have eL : mput (mput (mput M p o6) p5 (.lst (left.map dbD))) p6 (.lst (few.map dbD)) p5 = some (.lst (left.map dbD)) := by rw [mput_ne h6p5, mput_same]
      walk_at "s1"
      refine ⟨(left.map dbD).length, by rw [eL], ?_⟩
      by_cases hlf : left = []
      · subst hlf
        rw [if_neg (by simp)]
        refine fg_of (hC2 _ _ ⟨i + 1, o6, [], few, _, _, _, rfl, by omega, ho6, hpm, by omega, fun _ z => ?_, rfl, rfl⟩)
        rw [z] at hpm
        have := hpm.length_eq
        simp at this
        omega
      · have hlp : 0 < left.length := List.length_pos_iff.mpr hlf
        rw [if_pos (by rw [List.length_map]; omega)]
        refine ⟨⟨_, rfl⟩, ⟨_, by rw [eL]⟩, (left.map dbD).length, by rw [eL], ⟨o6, by rw [mput_ne h6p, mput_ne h5p, mput_same], ho6⟩, by rw [List.length_map]; omega, fun o7 r7 ho7 r70 r71 => ?_⟩
        rw [List.length_map] at r71
        obtain ⟨rn, rfl⟩ : ∃ rn : Nat, r7 = (rn : Nat) := ⟨r7.toNat, by omega⟩
        have hrn : rn < left.length := by omega
        refine ⟨left.map dbD, rn, rfl, by rw [mput_ne h5p.symm, eL], dbD left[rn], by rw [List.getElem?_map, List.getElem?_eq_getElem hrn]; rfl, few.map dbD, by rw [mput_ne h6p5.symm, mput_ne h6p.symm, mput_same], by rw [List.length_map]; omega, ?_⟩
        rw [mem3 h5p h6p h6p5, map_erase, show few.map dbD ++ [dbD left[rn]] = (few ++ [left[rn]]).map dbD from by rw [List.map_append]; rfl]
        refine fg_of (hC2 _ _ ⟨i + 1, o7, left.eraseIdx rn, few ++ [left[rn]], _, _, _, rfl, by omega, ho7, ?_, by rw [List.length_append, List.length_singleton]; omega, fun _ => by simp, rfl, rfl⟩)
        rw [List.append_assoc]
        exact ((erase_perm left rn hrn).symm.append_left few).trans hpm
  rintro m' M' ⟨o6, left, few0, x7, x12, x13, ho6, hpm, hfl, hfn, rfl, rfl⟩
  have hfm : ∀ d ∈ few0, d ∈ ds := fun d hd => hpm.mem_iff.mp (by simp [hd])
  have hf0n : (few0.map (·.1)).Nodup := by
    have z := (hpm.map (·.1)).nodup_iff.mpr hn
    rw [List.map_append, List.nodup_append] at z
    exact z.1
  walk_at "st"
  obtain ⟨k1, k2, k3⟩ := dbs_sortK (ds := few0) fun d hd => (hdw d (hfm d hd)).mark
  refine ⟨dKey, fun x hx Q' hq' => ?_, k3, k1, .inl k2, fun p1 hp1 => ?_⟩
  · obtain ⟨d, hd, rfl⟩ := List.mem_map.mp hx
    obtain ⟨m, e, hm⟩ := (hdw d (hfm d hd)).mark
    exact ⟨m, ⟨_, by rw [dbD, e]⟩, hm, by
      have : dKey (dbD d) = mkKey m := by rw [dbD, e]; rfl
      rw [← this]
      exact hq'⟩
  obtain ⟨few, hus, hperm⟩ := perm_map dbD (xs := few0) (List.mergeSort_perm (few0.map dbD) (PySem.W.dataLe false fun x => D.py (dKey x)))
  refine ⟨_, rfl, ?_⟩
  rw [mdel_mput hp1, hus]
  have hfd : ∀ d ∈ few, d ∈ ds := fun d hd => hfm d (hperm.mem_iff.mp hd)
  have hkm : ∀ d ∈ ds, dKey (dbD d) = mKey d.1 := fun d hd => by
    obtain ⟨m, e, hm⟩ := (hdw d hd).mark
    rw [dbD, e]
    rfl
  have hfs : few.Pairwise SK := by
    have hsp := sort_pair (fun x => dKey x) (few0.map dbD)
    rw [hus, List.pairwise_map] at hsp
    have hn9 : few.Pairwise (fun a b => a.1 ≠ b.1) := List.pairwise_map.mp ((hperm.map _).nodup_iff.mpr hf0n)
    refine (hsp.and hn9).imp_of_mem fun {a b} ha hb ⟨h1, h2⟩ => ?_
    rw [hkm a (hfd a ha), hkm b (hfd b hb)] at h1
    show dlt (mKey a.1) (mKey b.1) = true
    cases e9 : dlt (mKey a.1) (mKey b.1) with
    | true => rfl
    | false => exact absurd (mKey_tri (hdw a (hfd a ha)).mark (hdw b (hfd b hb)).mark e9 h1) h2
  have hF : Few ds few := ⟨hdw, hn, by omega, hpw, sub_sorted (R := SK) (fun a h => by rw [SK, dlt_irr] at h; cases h) (fun a b c h k => dlt_trans h k) hpw hfs hfd, by rw [hperm.length_eq]; exact hfl⟩
  have hfe : few ≠ [] := fun z => by
    rw [z] at hperm
    exact hfn hperm.symm.eq_nil
  have hfw : ∀ d ∈ few, dbW d := fun d hd => hdw d (hfd d hd)
  have hfnd : (few.map (·.1)).Nodup := hn.sublist (hF.sub.map _)
  have hfl6 := hF.fl
  have eN : mput (mput (mput M p o6) p5 (.lst (left.map dbD))) p6 (.lst (few0.map dbD)) = mput (mput (mput M p5 (.lst (left.map dbD))) p6 (.lst (few0.map dbD))) p o6 := by rw [mput_comm h5p, mput_comm h6p]
  obtain ⟨N, hN⟩ : ∃ N, N = mput (mput M p5 (.lst (left.map dbD))) p6 (.lst (few0.map dbD)) := ⟨_, rfl⟩
  have hMN : MLe M N := by rw [hN]; exact (MLe.put (.refl M) h5M).put h6M
  rw [eN, ← hN]
  walk_at "st"
  refine ⟨dr_put ho6, by simpa using hfe, fun o8 x ho8 hx => ?_⟩
  obtain ⟨sd, hsd, rfl⟩ := List.mem_map.mp hx
  have hsw := hfw sd hsd
  walk_at "st"
  intro _
  refine lc_map sd.2 opD (fun o => rsD [(sd.1, o.1)]) rfl srcV_none (fun o ho M5 l5 C1 h5 => ?_) fun p9 hp9 => ?_
  · walk_at "rd"
    exact h5
  rw [mdel_mput hp9]
  walk_at "st"
  refine ⟨few, rfl, 5, rfl, 3, rfl, by omega, by omega, by omega, by omega, by omega, hfw, hfnd, dr_put ho8, fun o9 rs1 ho9 hr1 hr1k hr1n => ?_⟩
  have g1 : gR few rs1 := ⟨hr1.each, hr1.len⟩
  walk_at "st"
  refine ⟨few, rfl, 3, rfl, 2, rfl, by omega, by omega, by omega, by omega, by omega, hfw, hfnd, dr_put ho9, fun o10 rs2 ho10 hr2 hr2k hr2n => ?_⟩
  have g2 : gR few rs2 := ⟨hr2.each, hr2.len⟩
  have gE : ∀ os : List Opt, (∀ o ∈ os, o ∈ sd.2) → os.length ≤ 6 → gR few (os.map fun o => [(sd.1, o.1)]) := fun os hos hol => by
    refine ⟨fun r hr => ?_, ?_⟩
    · obtain ⟨o, ho, rfl⟩ := List.mem_map.mp hr
      refine ⟨?_, fun q hq => ?_⟩
      · exact List.singleton_sublist.mpr (List.mem_map.mpr ⟨sd, hsd, rfl⟩)
      · rw [List.mem_singleton.mp hq]
        exact ⟨sd, hsd, rfl, List.mem_map.mpr ⟨o, hos o ho, rfl⟩⟩
    · rw [List.length_map]
      omega
  have eE : ∀ os : List Opt, D.tup (os.map fun o => rsD [(sd.1, o.1)]) = reD (os.map fun o => [(sd.1, o.1)]) := fun os => by
    show _ = D.tup ((os.map fun o => [(sd.1, o.1)]).map rsD)
    rw [List.map_map]
    rfl
  have gAll : ∀ z ∈ [reD rs1, reD rs2, D.tup [], D.tup (List.map (fun o : Opt => rsD [(sd.1, o.1)]) sd.2), D.tup [D.tup []], D.tup (DL.cutD (List.map (fun o : Opt => rsD [(sd.1, o.1)]) sd.2) (some (-1)) none), reD rs1], ∃ rs, z = reD rs ∧ gR few rs := by
    intro z hz
    simp only [List.mem_cons, List.not_mem_nil, or_false] at hz
    rcases hz with rfl | rfl | rfl | rfl | rfl | rfl | rfl
    · exact ⟨_, rfl, g1⟩
    · exact ⟨_, rfl, g2⟩
    · exact ⟨[], rfl, by simp [gR]⟩
    · exact ⟨_, eE sd.2, gE sd.2 (fun o ho => ho) hsw.len⟩
    · exact ⟨[[]], rfl, fun r hr => by rw [List.mem_singleton.mp hr]; exact ⟨List.nil_sublist _, by simp⟩, by simp⟩
    · unfold DL.cutD
      rw [List.length_map, ← List.map_drop, ← List.map_take]
      refine ⟨_, eE _, gE _ (fun o ho => List.mem_of_mem_drop (List.mem_of_mem_take ho)) ?_⟩
      have h6 := hsw.len
      rw [List.length_take, List.length_drop]
      omega
    · exact ⟨_, rfl, g1⟩
  generalize [reD rs1, reD rs2, D.tup [], D.tup (List.map (fun o : Opt => rsD [(sd.1, o.1)]) sd.2), D.tup [D.tup []], D.tup (DL.cutD (List.map (fun o : Opt => rsD [(sd.1, o.1)]) sd.2) (some (-1)) none), reD rs1] = zs at gAll
  refine for_ind (fun items m1 M1 => (∀ z ∈ items, ∃ rs, z = reD rs ∧ gR few rs) ∧ M1 = mput N p o10 ∧ ∃ x11 x12 x13 : Option D, m1 = [some d0, some (.ref p), some wV, some (.tup [.int (sn : Nat), .int (sm : Nat)]), some (.tup (ds.map dbD)), some (.ref p5), some (.tup (few.map dbD)), x7, some (D.tup [sd.1, D.tup (List.map opD sd.2)]), some (D.lst (List.map (fun o : Opt => rsD [(sd.1, o.1)]) sd.2)), some (reD rs1), x11, x12, x13]) ?_ ?_ _ _ _ ⟨gAll, rfl, _, _, _, rfl⟩
  · rintro m1 M1 ⟨_, rfl, x11, x12, x13, rfl⟩
    refine ⟨srcV_none, ?_⟩
    walk_at "rd"
    exact ret_of (h _)
  · rintro z its m1 M1 Cn hC ⟨hz, rfl, x11, x12, x13, rfl⟩
    refine ⟨srcV_none, ?_⟩
    obtain ⟨rs, rfl, hg⟩ := hz z (by simp)
    have hrs := hF.rsn hg
    walk_at "s1"
    refine ⟨ds, rfl, rs, rfl, hdw, hn, by omega, hrs, hg.2, nmD rs ds, fun x hx => nmI_D hrs hx, hF.sz hg, ds, rfl, rs, rfl, hdw, hn, by omega, hpw, hrs, hg.2, hF.named hg, rfl, ?_, fg_of (hC _ _ ⟨fun z hz2 => hz z (by simp [hz2]), rfl, _, _, _, rfl⟩)⟩
    cases hv (wsI ds) 0 (ixs rs ds) with
    | none => simp
    | some q => exact told_ok hdw q.1
end
theorem dm_indexed {K : PySem.W.Frag} {h : Heap} {mg : Str → Option Value} (X : K.In h) (G : h.Ns mainGlobals mg) {f : Addr} {oc : Value} {od an : Option Addr} {sl : Array (Option Value)} {kV dc pm cd ct : Value} (a : PySem.W.nsIn K mainGlobals "indexed" = some (some (.ref f))) (l : K.lookup f = some ⟨oc, od, .func (PySem.W.fnOf "indexed" "indexed" (defArgs s_indexed) (defBody s_indexed) (defScope s_indexed) .none kV dc pm an cd ct), sl⟩) (c : PySem.W.codeIn K cd "indexed" = true) (k : PySem.W.keepIn K (.ref f) = true) : Def K mg "indexed" s_indexed ["doubts", "reasons"] := ⟨_, _, fun_mk (st := s_indexed) l c k, PySem.W.mg_of X G a, (fun_mk (st := s_indexed) l c k).binds (ps := ["doubts", "reasons"]) fun _ _ _ _ _ _ us hl => match us, hl with | [_, _], _ => rfl⟩
theorem dm_told_settling {K : PySem.W.Frag} {h : Heap} {mg : Str → Option Value} (X : K.In h) (G : h.Ns mainGlobals mg) {f : Addr} {oc : Value} {od an : Option Addr} {sl : Array (Option Value)} {kV dc pm cd ct : Value} (a : PySem.W.nsIn K mainGlobals "told_settling" = some (some (.ref f))) (l : K.lookup f = some ⟨oc, od, .func (PySem.W.fnOf "told_settling" "told_settling" (defArgs s_told_settling) (defBody s_told_settling) (defScope s_told_settling) .none kV dc pm an cd ct), sl⟩) (c : PySem.W.codeIn K cd "told_settling" = true) (k : PySem.W.keepIn K (.ref f) = true) : Def K mg "told_settling" s_told_settling ["doubts", "options"] := ⟨_, _, fun_mk (st := s_told_settling) l c k, PySem.W.mg_of X G a, (fun_mk (st := s_told_settling) l c k).binds (ps := ["doubts", "options"]) fun _ _ _ _ _ _ us hl => match us, hl with | [_, _], _ => rfl⟩
theorem dm_has_all {K : PySem.W.Frag} {h : Heap} {mg : Str → Option Value} (X : K.In h) (G : h.Ns mainGlobals mg) {f : Addr} {oc : Value} {od an : Option Addr} {sl : Array (Option Value)} {kV dc pm cd ct : Value} (a : PySem.W.nsIn K mainGlobals "has_all" = some (some (.ref f))) (l : K.lookup f = some ⟨oc, od, .func (PySem.W.fnOf "has_all" "has_all" (defArgs s_has_all) (defBody s_has_all) (defScope s_has_all) .none kV dc pm an cd ct), sl⟩) (c : PySem.W.codeIn K cd "has_all" = true) (k : PySem.W.keepIn K (.ref f) = true) : Def K mg "has_all" s_has_all ["reason", "other"] := ⟨_, _, fun_mk (st := s_has_all) l c k, PySem.W.mg_of X G a, (fun_mk (st := s_has_all) l c k).binds (ps := ["reason", "other"]) fun _ _ _ _ _ _ us hl => match us, hl with | [_, _], _ => rfl⟩
theorem dm_settled {K : PySem.W.Frag} {h : Heap} {mg : Str → Option Value} (X : K.In h) (G : h.Ns mainGlobals mg) {f : Addr} {oc : Value} {od an : Option Addr} {sl : Array (Option Value)} {kV dc pm cd ct : Value} (a : PySem.W.nsIn K mainGlobals "settled" = some (some (.ref f))) (l : K.lookup f = some ⟨oc, od, .func (PySem.W.fnOf "settled" "settled" (defArgs s_settled) (defBody s_settled) (defScope s_settled) .none kV dc pm an cd ct), sl⟩) (c : PySem.W.codeIn K cd "settled" = true) (k : PySem.W.keepIn K (.ref f) = true) : Def K mg "settled" s_settled ["reasons", "doubt", "option"] := ⟨_, _, fun_mk (st := s_settled) l c k, PySem.W.mg_of X G a, (fun_mk (st := s_settled) l c k).binds (ps := ["reasons", "doubt", "option"]) fun _ _ _ _ _ _ us hl => match us, hl with | [_, _, _], _ => rfl⟩
theorem dm_standing {K : PySem.W.Frag} {h : Heap} {mg : Str → Option Value} (X : K.In h) (G : h.Ns mainGlobals mg) {f : Addr} {oc : Value} {od an : Option Addr} {sl : Array (Option Value)} {kV dc pm cd ct : Value} (a : PySem.W.nsIn K mainGlobals "standing" = some (some (.ref f))) (l : K.lookup f = some ⟨oc, od, .func (PySem.W.fnOf "standing" "standing" (defArgs s_standing) (defBody s_standing) (defScope s_standing) .none kV dc pm an cd ct), sl⟩) (c : PySem.W.codeIn K cd "standing" = true) (k : PySem.W.keepIn K (.ref f) = true) : Def K mg "standing" s_standing ["reasons"] := ⟨_, _, fun_mk (st := s_standing) l c k, PySem.W.mg_of X G a, (fun_mk (st := s_standing) l c k).binds (ps := ["reasons"]) fun _ _ _ _ _ _ us hl => match us, hl with | [_], _ => rfl⟩
theorem dm_settled_wholes {K : PySem.W.Frag} {h : Heap} {mg : Str → Option Value} (X : K.In h) (G : h.Ns mainGlobals mg) {f : Addr} {oc : Value} {od an : Option Addr} {sl : Array (Option Value)} {kV dc pm cd ct : Value} (a : PySem.W.nsIn K mainGlobals "settled_wholes" = some (some (.ref f))) (l : K.lookup f = some ⟨oc, od, .func (PySem.W.fnOf "settled_wholes" "settled_wholes" (defArgs s_settled_wholes) (defBody s_settled_wholes) (defScope s_settled_wholes) .none kV dc pm an cd ct), sl⟩) (c : PySem.W.codeIn K cd "settled_wholes" = true) (k : PySem.W.keepIn K (.ref f) = true) : Def K mg "settled_wholes" s_settled_wholes ["wholes", "doubt", "option"] := ⟨_, _, fun_mk (st := s_settled_wholes) l c k, PySem.W.mg_of X G a, (fun_mk (st := s_settled_wholes) l c k).binds (ps := ["wholes", "doubt", "option"]) fun _ _ _ _ _ _ us hl => match us, hl with | [_, _, _], _ => rfl⟩
theorem dm_can_become {K : PySem.W.Frag} {h : Heap} {mg : Str → Option Value} (X : K.In h) (G : h.Ns mainGlobals mg) {f : Addr} {oc : Value} {od an : Option Addr} {sl : Array (Option Value)} {kV dc pm cd ct : Value} (a : PySem.W.nsIn K mainGlobals "can_become" = some (some (.ref f))) (l : K.lookup f = some ⟨oc, od, .func (PySem.W.fnOf "can_become" "can_become" (defArgs s_can_become) (defBody s_can_become) (defScope s_can_become) .none kV dc pm an cd ct), sl⟩) (c : PySem.W.codeIn K cd "can_become" = true) (k : PySem.W.keepIn K (.ref f) = true) : Def K mg "can_become" s_can_become ["wholes", "truth"] := ⟨_, _, fun_mk (st := s_can_become) l c k, PySem.W.mg_of X G a, (fun_mk (st := s_can_become) l c k).binds (ps := ["wholes", "truth"]) fun _ _ _ _ _ _ us hl => match us, hl with | [_, _], _ => rfl⟩
theorem dm_options_to_try {K : PySem.W.Frag} {h : Heap} {mg : Str → Option Value} (X : K.In h) (G : h.Ns mainGlobals mg) {f : Addr} {oc : Value} {od an : Option Addr} {sl : Array (Option Value)} {kV dc pm cd ct : Value} (a : PySem.W.nsIn K mainGlobals "options_to_try" = some (some (.ref f))) (l : K.lookup f = some ⟨oc, od, .func (PySem.W.fnOf "options_to_try" "options_to_try" (defArgs s_options_to_try) (defBody s_options_to_try) (defScope s_options_to_try) .none kV dc pm an cd ct), sl⟩) (c : PySem.W.codeIn K cd "options_to_try" = true) (k : PySem.W.keepIn K (.ref f) = true) : Def K mg "options_to_try" s_options_to_try ["doubts", "doubt", "wholes"] := ⟨_, _, fun_mk (st := s_options_to_try) l c k, PySem.W.mg_of X G a, (fun_mk (st := s_options_to_try) l c k).binds (ps := ["doubts", "doubt", "wholes"]) fun _ _ _ _ _ _ us hl => match us, hl with | [_, _, _], _ => rfl⟩
theorem dm_heaviest_from {K : PySem.W.Frag} {h : Heap} {mg : Str → Option Value} (X : K.In h) (G : h.Ns mainGlobals mg) {f : Addr} {oc : Value} {od an : Option Addr} {sl : Array (Option Value)} {kV dc pm cd ct : Value} (a : PySem.W.nsIn K mainGlobals "heaviest_from" = some (some (.ref f))) (l : K.lookup f = some ⟨oc, od, .func (PySem.W.fnOf "heaviest_from" "heaviest_from" (defArgs s_heaviest_from) (defBody s_heaviest_from) (defScope s_heaviest_from) .none kV dc pm an cd ct), sl⟩) (c : PySem.W.codeIn K cd "heaviest_from" = true) (k : PySem.W.keepIn K (.ref f) = true) : Def K mg "heaviest_from" s_heaviest_from ["doubts", "doubt", "wholes", "truth", "known"] := ⟨_, _, fun_mk (st := s_heaviest_from) l c k, PySem.W.mg_of X G a, (fun_mk (st := s_heaviest_from) l c k).binds (ps := ["doubts", "doubt", "wholes", "truth", "known"]) fun _ _ _ _ _ _ us hl => match us, hl with | [_, _, _, _, _], _ => rfl⟩
theorem dm_heaviest {K : PySem.W.Frag} {h : Heap} {mg : Str → Option Value} (X : K.In h) (G : h.Ns mainGlobals mg) {f : Addr} {oc : Value} {od an : Option Addr} {sl : Array (Option Value)} {kV dc pm cd ct : Value} (a : PySem.W.nsIn K mainGlobals "heaviest" = some (some (.ref f))) (l : K.lookup f = some ⟨oc, od, .func (PySem.W.fnOf "heaviest" "heaviest" (defArgs s_heaviest) (defBody s_heaviest) (defScope s_heaviest) .none kV dc pm an cd ct), sl⟩) (c : PySem.W.codeIn K cd "heaviest" = true) (k : PySem.W.keepIn K (.ref f) = true) : Def K mg "heaviest" s_heaviest ["doubts", "wholes", "truth"] := ⟨_, _, fun_mk (st := s_heaviest) l c k, PySem.W.mg_of X G a, (fun_mk (st := s_heaviest) l c k).binds (ps := ["doubts", "wholes", "truth"]) fun _ _ _ _ _ _ us hl => match us, hl with | [_, _, _], _ => rfl⟩
theorem dm_likeliest {K : PySem.W.Frag} {h : Heap} {mg : Str → Option Value} (X : K.In h) (G : h.Ns mainGlobals mg) {f : Addr} {oc : Value} {od an : Option Addr} {sl : Array (Option Value)} {kV dc pm cd ct : Value} (a : PySem.W.nsIn K mainGlobals "likeliest" = some (some (.ref f))) (l : K.lookup f = some ⟨oc, od, .func (PySem.W.fnOf "likeliest" "likeliest" (defArgs s_likeliest) (defBody s_likeliest) (defScope s_likeliest) .none kV dc pm an cd ct), sl⟩) (c : PySem.W.codeIn K cd "likeliest" = true) (k : PySem.W.keepIn K (.ref f) = true) : Def K mg "likeliest" s_likeliest ["doubts", "reasons"] := ⟨_, _, fun_mk (st := s_likeliest) l c k, PySem.W.mg_of X G a, (fun_mk (st := s_likeliest) l c k).binds (ps := ["doubts", "reasons"]) fun _ _ _ _ _ _ us hl => match us, hl with | [_, _], _ => rfl⟩
theorem dm_l_draws {K : PySem.W.Frag} {h : Heap} {mg : Str → Option Value} (X : K.In h) (G : h.Ns mainGlobals mg) {f : Addr} {oc : Value} {od an : Option Addr} {sl : Array (Option Value)} {kV dc pm cd ct : Value} (a : PySem.W.nsIn K mainGlobals "_law_draws" = some (some (.ref f))) (l : K.lookup f = some ⟨oc, od, .func (PySem.W.fnOf "_law_draws" "_law_draws" (defArgs s_l_draws) (defBody s_l_draws) (defScope s_l_draws) .none kV dc pm an cd ct), sl⟩) (c : PySem.W.codeIn K cd "_law_draws" = true) (k : PySem.W.keepIn K (.ref f) = true) : Def K mg "_law_draws" s_l_draws ["script", "many"] := ⟨_, _, fun_mk (st := s_l_draws) l c k, PySem.W.mg_of X G a, (fun_mk (st := s_l_draws) l c k).binds (ps := ["script", "many"]) fun _ _ _ _ _ _ us hl => match us, hl with | [_, _], _ => rfl⟩
theorem dm_l_take {K : PySem.W.Frag} {h : Heap} {mg : Str → Option Value} (X : K.In h) (G : h.Ns mainGlobals mg) {f : Addr} {oc : Value} {od an : Option Addr} {sl : Array (Option Value)} {kV dc pm cd ct : Value} (a : PySem.W.nsIn K mainGlobals "_law_take" = some (some (.ref f))) (l : K.lookup f = some ⟨oc, od, .func (PySem.W.fnOf "_law_take" "_law_take" (defArgs s_l_take) (defBody s_l_take) (defScope s_l_take) .none kV dc pm an cd ct), sl⟩) (c : PySem.W.codeIn K cd "_law_take" = true) (k : PySem.W.keepIn K (.ref f) = true) : Def K mg "_law_take" s_l_take ["draws", "many"] := ⟨_, _, fun_mk (st := s_l_take) l c k, PySem.W.mg_of X G a, (fun_mk (st := s_l_take) l c k).binds (ps := ["draws", "many"]) fun _ _ _ _ _ _ us hl => match us, hl with | [_, _], _ => rfl⟩
theorem dm_l_pick {K : PySem.W.Frag} {h : Heap} {mg : Str → Option Value} (X : K.In h) (G : h.Ns mainGlobals mg) {f : Addr} {oc : Value} {od an : Option Addr} {sl : Array (Option Value)} {kV dc pm cd ct : Value} (a : PySem.W.nsIn K mainGlobals "_law_pick" = some (some (.ref f))) (l : K.lookup f = some ⟨oc, od, .func (PySem.W.fnOf "_law_pick" "_law_pick" (defArgs s_l_pick) (defBody s_l_pick) (defScope s_l_pick) .none kV dc pm an cd ct), sl⟩) (c : PySem.W.codeIn K cd "_law_pick" = true) (k : PySem.W.keepIn K (.ref f) = true) : Def K mg "_law_pick" s_l_pick ["draws", "row"] := ⟨_, _, fun_mk (st := s_l_pick) l c k, PySem.W.mg_of X G a, (fun_mk (st := s_l_pick) l c k).binds (ps := ["draws", "row"]) fun _ _ _ _ _ _ us hl => match us, hl with | [_, _], _ => rfl⟩
theorem dm_l_same {K : PySem.W.Frag} {h : Heap} {mg : Str → Option Value} (X : K.In h) (G : h.Ns mainGlobals mg) {f : Addr} {oc : Value} {od an : Option Addr} {sl : Array (Option Value)} {kV dc pm cd ct : Value} (a : PySem.W.nsIn K mainGlobals "_law_same" = some (some (.ref f))) (l : K.lookup f = some ⟨oc, od, .func (PySem.W.fnOf "_law_same" "_law_same" (defArgs s_l_same) (defBody s_l_same) (defScope s_l_same) .none kV dc pm an cd ct), sl⟩) (c : PySem.W.codeIn K cd "_law_same" = true) (k : PySem.W.keepIn K (.ref f) = true) : Def K mg "_law_same" s_l_same ["actual", "due"] := ⟨_, _, fun_mk (st := s_l_same) l c k, PySem.W.mg_of X G a, (fun_mk (st := s_l_same) l c k).binds (ps := ["actual", "due"]) fun _ _ _ _ _ _ us hl => match us, hl with | [_, _], _ => rfl⟩
theorem dm_l_words {K : PySem.W.Frag} {h : Heap} {mg : Str → Option Value} (X : K.In h) (G : h.Ns mainGlobals mg) {f : Addr} {oc : Value} {od an : Option Addr} {sl : Array (Option Value)} {kV dc pm cd ct : Value} (a : PySem.W.nsIn K mainGlobals "_law_words" = some (some (.ref f))) (l : K.lookup f = some ⟨oc, od, .func (PySem.W.fnOf "_law_words" "_law_words" (defArgs s_l_words) (defBody s_l_words) (defScope s_l_words) .none kV dc pm an cd ct), sl⟩) (c : PySem.W.codeIn K cd "_law_words" = true) (k : PySem.W.keepIn K (.ref f) = true) : Def K mg "_law_words" s_l_words ["draws", "many"] := ⟨_, _, fun_mk (st := s_l_words) l c k, PySem.W.mg_of X G a, (fun_mk (st := s_l_words) l c k).binds (ps := ["draws", "many"]) fun _ _ _ _ _ _ us hl => match us, hl with | [_, _], _ => rfl⟩
theorem dm_l_value_key {K : PySem.W.Frag} {h : Heap} {mg : Str → Option Value} (X : K.In h) (G : h.Ns mainGlobals mg) {f : Addr} {oc : Value} {od an : Option Addr} {sl : Array (Option Value)} {kV dc pm cd ct : Value} (a : PySem.W.nsIn K mainGlobals "_law_value_key" = some (some (.ref f))) (l : K.lookup f = some ⟨oc, od, .func (PySem.W.fnOf "_law_value_key" "_law_value_key" (defArgs s_l_value_key) (defBody s_l_value_key) (defScope s_l_value_key) .none kV dc pm an cd ct), sl⟩) (c : PySem.W.codeIn K cd "_law_value_key" = true) (k : PySem.W.keepIn K (.ref f) = true) : Def K mg "_law_value_key" s_l_value_key ["value"] := ⟨_, _, fun_mk (st := s_l_value_key) l c k, PySem.W.mg_of X G a, (fun_mk (st := s_l_value_key) l c k).binds (ps := ["value"]) fun _ _ _ _ _ _ us hl => match us, hl with | [_], _ => rfl⟩
theorem dm_l_row_key {K : PySem.W.Frag} {h : Heap} {mg : Str → Option Value} (X : K.In h) (G : h.Ns mainGlobals mg) {f : Addr} {oc : Value} {od an : Option Addr} {sl : Array (Option Value)} {kV dc pm cd ct : Value} (a : PySem.W.nsIn K mainGlobals "_law_row_key" = some (some (.ref f))) (l : K.lookup f = some ⟨oc, od, .func (PySem.W.fnOf "_law_row_key" "_law_row_key" (defArgs s_l_row_key) (defBody s_l_row_key) (defScope s_l_row_key) .none kV dc pm an cd ct), sl⟩) (c : PySem.W.codeIn K cd "_law_row_key" = true) (k : PySem.W.keepIn K (.ref f) = true) : Def K mg "_law_row_key" s_l_row_key ["row"] := ⟨_, _, fun_mk (st := s_l_row_key) l c k, PySem.W.mg_of X G a, (fun_mk (st := s_l_row_key) l c k).binds (ps := ["row"]) fun _ _ _ _ _ _ us hl => match us, hl with | [_], _ => rfl⟩
theorem dm_l_sorted_rows {K : PySem.W.Frag} {h : Heap} {mg : Str → Option Value} (X : K.In h) (G : h.Ns mainGlobals mg) {f : Addr} {oc : Value} {od an : Option Addr} {sl : Array (Option Value)} {kV dc pm cd ct : Value} (a : PySem.W.nsIn K mainGlobals "_law_sorted_rows" = some (some (.ref f))) (l : K.lookup f = some ⟨oc, od, .func (PySem.W.fnOf "_law_sorted_rows" "_law_sorted_rows" (defArgs s_l_sorted_rows) (defBody s_l_sorted_rows) (defScope s_l_sorted_rows) .none kV dc pm an cd ct), sl⟩) (c : PySem.W.codeIn K cd "_law_sorted_rows" = true) (k : PySem.W.keepIn K (.ref f) = true) : Def K mg "_law_sorted_rows" s_l_sorted_rows ["rows"] := ⟨_, _, fun_mk (st := s_l_sorted_rows) l c k, PySem.W.mg_of X G a, (fun_mk (st := s_l_sorted_rows) l c k).binds (ps := ["rows"]) fun _ _ _ _ _ _ us hl => match us, hl with | [_], _ => rfl⟩
theorem dm_l_mark_key {K : PySem.W.Frag} {h : Heap} {mg : Str → Option Value} (X : K.In h) (G : h.Ns mainGlobals mg) {f : Addr} {oc : Value} {od an : Option Addr} {sl : Array (Option Value)} {kV dc pm cd ct : Value} (a : PySem.W.nsIn K mainGlobals "_law_mark_key" = some (some (.ref f))) (l : K.lookup f = some ⟨oc, od, .func (PySem.W.fnOf "_law_mark_key" "_law_mark_key" (defArgs s_l_mark_key) (defBody s_l_mark_key) (defScope s_l_mark_key) .none kV dc pm an cd ct), sl⟩) (c : PySem.W.codeIn K cd "_law_mark_key" = true) (k : PySem.W.keepIn K (.ref f) = true) : Def K mg "_law_mark_key" s_l_mark_key ["mark"] := ⟨_, _, fun_mk (st := s_l_mark_key) l c k, PySem.W.mg_of X G a, (fun_mk (st := s_l_mark_key) l c k).binds (ps := ["mark"]) fun _ _ _ _ _ _ us hl => match us, hl with | [_], _ => rfl⟩
theorem dm_l_is_part {K : PySem.W.Frag} {h : Heap} {mg : Str → Option Value} (X : K.In h) (G : h.Ns mainGlobals mg) {f : Addr} {oc : Value} {od an : Option Addr} {sl : Array (Option Value)} {kV dc pm cd ct : Value} (a : PySem.W.nsIn K mainGlobals "_law_is_part" = some (some (.ref f))) (l : K.lookup f = some ⟨oc, od, .func (PySem.W.fnOf "_law_is_part" "_law_is_part" (defArgs s_l_is_part) (defBody s_l_is_part) (defScope s_l_is_part) .none kV dc pm an cd ct), sl⟩) (c : PySem.W.codeIn K cd "_law_is_part" = true) (k : PySem.W.keepIn K (.ref f) = true) : Def K mg "_law_is_part" s_l_is_part ["small", "large"] := ⟨_, _, fun_mk (st := s_l_is_part) l c k, PySem.W.mg_of X G a, (fun_mk (st := s_l_is_part) l c k).binds (ps := ["small", "large"]) fun _ _ _ _ _ _ us hl => match us, hl with | [_, _], _ => rfl⟩
theorem dm_l_pair_key {K : PySem.W.Frag} {h : Heap} {mg : Str → Option Value} (X : K.In h) (G : h.Ns mainGlobals mg) {f : Addr} {oc : Value} {od an : Option Addr} {sl : Array (Option Value)} {kV dc pm cd ct : Value} (a : PySem.W.nsIn K mainGlobals "_law_pair_key" = some (some (.ref f))) (l : K.lookup f = some ⟨oc, od, .func (PySem.W.fnOf "_law_pair_key" "_law_pair_key" (defArgs s_l_pair_key) (defBody s_l_pair_key) (defScope s_l_pair_key) .none kV dc pm an cd ct), sl⟩) (c : PySem.W.codeIn K cd "_law_pair_key" = true) (k : PySem.W.keepIn K (.ref f) = true) : Def K mg "_law_pair_key" s_l_pair_key ["pair"] := ⟨_, _, fun_mk (st := s_l_pair_key) l c k, PySem.W.mg_of X G a, (fun_mk (st := s_l_pair_key) l c k).binds (ps := ["pair"]) fun _ _ _ _ _ _ us hl => match us, hl with | [_], _ => rfl⟩
theorem dm_l_reason_key {K : PySem.W.Frag} {h : Heap} {mg : Str → Option Value} (X : K.In h) (G : h.Ns mainGlobals mg) {f : Addr} {oc : Value} {od an : Option Addr} {sl : Array (Option Value)} {kV dc pm cd ct : Value} (a : PySem.W.nsIn K mainGlobals "_law_reason_key" = some (some (.ref f))) (l : K.lookup f = some ⟨oc, od, .func (PySem.W.fnOf "_law_reason_key" "_law_reason_key" (defArgs s_l_reason_key) (defBody s_l_reason_key) (defScope s_l_reason_key) .none kV dc pm an cd ct), sl⟩) (c : PySem.W.codeIn K cd "_law_reason_key" = true) (k : PySem.W.keepIn K (.ref f) = true) : Def K mg "_law_reason_key" s_l_reason_key ["reason"] := ⟨_, _, fun_mk (st := s_l_reason_key) l c k, PySem.W.mg_of X G a, (fun_mk (st := s_l_reason_key) l c k).binds (ps := ["reason"]) fun _ _ _ _ _ _ us hl => match us, hl with | [_], _ => rfl⟩
theorem dm_l_all_settlings {K : PySem.W.Frag} {h : Heap} {mg : Str → Option Value} (X : K.In h) (G : h.Ns mainGlobals mg) {f : Addr} {oc : Value} {od an : Option Addr} {sl : Array (Option Value)} {kV dc pm cd ct : Value} (a : PySem.W.nsIn K mainGlobals "_law_all_settlings" = some (some (.ref f))) (l : K.lookup f = some ⟨oc, od, .func (PySem.W.fnOf "_law_all_settlings" "_law_all_settlings" (defArgs s_l_all_settlings) (defBody s_l_all_settlings) (defScope s_l_all_settlings) .none kV dc pm an cd ct), sl⟩) (c : PySem.W.codeIn K cd "_law_all_settlings" = true) (k : PySem.W.keepIn K (.ref f) = true) : Def K mg "_law_all_settlings" s_l_all_settlings ["doubts"] := ⟨_, _, fun_mk (st := s_l_all_settlings) l c k, PySem.W.mg_of X G a, (fun_mk (st := s_l_all_settlings) l c k).binds (ps := ["doubts"]) fun _ _ _ _ _ _ us hl => match us, hl with | [_], _ => rfl⟩
theorem dm_l_member_key {K : PySem.W.Frag} {h : Heap} {mg : Str → Option Value} (X : K.In h) (G : h.Ns mainGlobals mg) {f : Addr} {oc : Value} {od an : Option Addr} {sl : Array (Option Value)} {kV dc pm cd ct : Value} (a : PySem.W.nsIn K mainGlobals "_law_member_key" = some (some (.ref f))) (l : K.lookup f = some ⟨oc, od, .func (PySem.W.fnOf "_law_member_key" "_law_member_key" (defArgs s_l_member_key) (defBody s_l_member_key) (defScope s_l_member_key) .none kV dc pm an cd ct), sl⟩) (c : PySem.W.codeIn K cd "_law_member_key" = true) (k : PySem.W.keepIn K (.ref f) = true) : Def K mg "_law_member_key" s_l_member_key ["member"] := ⟨_, _, fun_mk (st := s_l_member_key) l c k, PySem.W.mg_of X G a, (fun_mk (st := s_l_member_key) l c k).binds (ps := ["member"]) fun _ _ _ _ _ _ us hl => match us, hl with | [_], _ => rfl⟩
theorem dm_l_thin {K : PySem.W.Frag} {h : Heap} {mg : Str → Option Value} (X : K.In h) (G : h.Ns mainGlobals mg) {f : Addr} {oc : Value} {od an : Option Addr} {sl : Array (Option Value)} {kV dc pm cd ct : Value} (a : PySem.W.nsIn K mainGlobals "_law_thin" = some (some (.ref f))) (l : K.lookup f = some ⟨oc, od, .func (PySem.W.fnOf "_law_thin" "_law_thin" (defArgs s_l_thin) (defBody s_l_thin) (defScope s_l_thin) .none kV dc pm an cd ct), sl⟩) (c : PySem.W.codeIn K cd "_law_thin" = true) (k : PySem.W.keepIn K (.ref f) = true) : Def K mg "_law_thin" s_l_thin ["members"] := ⟨_, _, fun_mk (st := s_l_thin) l c k, PySem.W.mg_of X G a, (fun_mk (st := s_l_thin) l c k).binds (ps := ["members"]) fun _ _ _ _ _ _ us hl => match us, hl with | [_], _ => rfl⟩
theorem dm_l_pool_of {K : PySem.W.Frag} {h : Heap} {mg : Str → Option Value} (X : K.In h) (G : h.Ns mainGlobals mg) {f : Addr} {oc : Value} {od an : Option Addr} {sl : Array (Option Value)} {kV dc pm cd ct : Value} (a : PySem.W.nsIn K mainGlobals "_law_pool_of" = some (some (.ref f))) (l : K.lookup f = some ⟨oc, od, .func (PySem.W.fnOf "_law_pool_of" "_law_pool_of" (defArgs s_l_pool_of) (defBody s_l_pool_of) (defScope s_l_pool_of) .none kV dc pm an cd ct), sl⟩) (c : PySem.W.codeIn K cd "_law_pool_of" = true) (k : PySem.W.keepIn K (.ref f) = true) : Def K mg "_law_pool_of" s_l_pool_of ["draws", "words"] := ⟨_, _, fun_mk (st := s_l_pool_of) l c k, PySem.W.mg_of X G a, (fun_mk (st := s_l_pool_of) l c k).binds (ps := ["draws", "words"]) fun _ _ _ _ _ _ us hl => match us, hl with | [_, _], _ => rfl⟩
theorem dm_l_drawn_weight {K : PySem.W.Frag} {h : Heap} {mg : Str → Option Value} (X : K.In h) (G : h.Ns mainGlobals mg) {f : Addr} {oc : Value} {od an : Option Addr} {sl : Array (Option Value)} {kV dc pm cd ct : Value} (a : PySem.W.nsIn K mainGlobals "_law_drawn_weight" = some (some (.ref f))) (l : K.lookup f = some ⟨oc, od, .func (PySem.W.fnOf "_law_drawn_weight" "_law_drawn_weight" (defArgs s_l_drawn_weight) (defBody s_l_drawn_weight) (defScope s_l_drawn_weight) .none kV dc pm an cd ct), sl⟩) (c : PySem.W.codeIn K cd "_law_drawn_weight" = true) (k : PySem.W.keepIn K (.ref f) = true) : Def K mg "_law_drawn_weight" s_l_drawn_weight ["draws"] := ⟨_, _, fun_mk (st := s_l_drawn_weight) l c k, PySem.W.mg_of X G a, (fun_mk (st := s_l_drawn_weight) l c k).binds (ps := ["draws"]) fun _ _ _ _ _ _ us hl => match us, hl with | [_], _ => rfl⟩
theorem dm_l_drawn_options {K : PySem.W.Frag} {h : Heap} {mg : Str → Option Value} (X : K.In h) (G : h.Ns mainGlobals mg) {f : Addr} {oc : Value} {od an : Option Addr} {sl : Array (Option Value)} {kV dc pm cd ct : Value} (a : PySem.W.nsIn K mainGlobals "_law_drawn_options" = some (some (.ref f))) (l : K.lookup f = some ⟨oc, od, .func (PySem.W.fnOf "_law_drawn_options" "_law_drawn_options" (defArgs s_l_drawn_options) (defBody s_l_drawn_options) (defScope s_l_drawn_options) .none kV dc pm an cd ct), sl⟩) (c : PySem.W.codeIn K cd "_law_drawn_options" = true) (k : PySem.W.keepIn K (.ref f) = true) : Def K mg "_law_drawn_options" s_l_drawn_options ["draws", "key", "others", "pool", "many"] := ⟨_, _, fun_mk (st := s_l_drawn_options) l c k, PySem.W.mg_of X G a, (fun_mk (st := s_l_drawn_options) l c k).binds (ps := ["draws", "key", "others", "pool", "many"]) fun _ _ _ _ _ _ us hl => match us, hl with | [_, _, _, _, _], _ => rfl⟩
theorem dm_l_doubt_key {K : PySem.W.Frag} {h : Heap} {mg : Str → Option Value} (X : K.In h) (G : h.Ns mainGlobals mg) {f : Addr} {oc : Value} {od an : Option Addr} {sl : Array (Option Value)} {kV dc pm cd ct : Value} (a : PySem.W.nsIn K mainGlobals "_law_doubt_key" = some (some (.ref f))) (l : K.lookup f = some ⟨oc, od, .func (PySem.W.fnOf "_law_doubt_key" "_law_doubt_key" (defArgs s_l_doubt_key) (defBody s_l_doubt_key) (defScope s_l_doubt_key) .none kV dc pm an cd ct), sl⟩) (c : PySem.W.codeIn K cd "_law_doubt_key" = true) (k : PySem.W.keepIn K (.ref f) = true) : Def K mg "_law_doubt_key" s_l_doubt_key ["doubt"] := ⟨_, _, fun_mk (st := s_l_doubt_key) l c k, PySem.W.mg_of X G a, (fun_mk (st := s_l_doubt_key) l c k).binds (ps := ["doubt"]) fun _ _ _ _ _ _ us hl => match us, hl with | [_], _ => rfl⟩
theorem dm_l_drawn_doubts {K : PySem.W.Frag} {h : Heap} {mg : Str → Option Value} (X : K.In h) (G : h.Ns mainGlobals mg) {f : Addr} {oc : Value} {od an : Option Addr} {sl : Array (Option Value)} {kV dc pm cd ct : Value} (a : PySem.W.nsIn K mainGlobals "_law_drawn_doubts" = some (some (.ref f))) (l : K.lookup f = some ⟨oc, od, .func (PySem.W.fnOf "_law_drawn_doubts" "_law_drawn_doubts" (defArgs s_l_drawn_doubts) (defBody s_l_drawn_doubts) (defScope s_l_drawn_doubts) .none kV dc pm an cd ct), sl⟩) (c : PySem.W.codeIn K cd "_law_drawn_doubts" = true) (k : PySem.W.keepIn K (.ref f) = true) : Def K mg "_law_drawn_doubts" s_l_drawn_doubts ["draws", "words", "many", "most"] := ⟨_, _, fun_mk (st := s_l_drawn_doubts) l c k, PySem.W.mg_of X G a, (fun_mk (st := s_l_drawn_doubts) l c k).binds (ps := ["draws", "words", "many", "most"]) fun _ _ _ _ _ _ us hl => match us, hl with | [_, _, _, _], _ => rfl⟩
theorem dm_l_drawn_reason {K : PySem.W.Frag} {h : Heap} {mg : Str → Option Value} (X : K.In h) (G : h.Ns mainGlobals mg) {f : Addr} {oc : Value} {od an : Option Addr} {sl : Array (Option Value)} {kV dc pm cd ct : Value} (a : PySem.W.nsIn K mainGlobals "_law_drawn_reason" = some (some (.ref f))) (l : K.lookup f = some ⟨oc, od, .func (PySem.W.fnOf "_law_drawn_reason" "_law_drawn_reason" (defArgs s_l_drawn_reason) (defBody s_l_drawn_reason) (defScope s_l_drawn_reason) .none kV dc pm an cd ct), sl⟩) (c : PySem.W.codeIn K cd "_law_drawn_reason" = true) (k : PySem.W.keepIn K (.ref f) = true) : Def K mg "_law_drawn_reason" s_l_drawn_reason ["draws", "doubts", "width"] := ⟨_, _, fun_mk (st := s_l_drawn_reason) l c k, PySem.W.mg_of X G a, (fun_mk (st := s_l_drawn_reason) l c k).binds (ps := ["draws", "doubts", "width"]) fun _ _ _ _ _ _ us hl => match us, hl with | [_, _, _], _ => rfl⟩
theorem dm_l_drawn_reasons {K : PySem.W.Frag} {h : Heap} {mg : Str → Option Value} (X : K.In h) (G : h.Ns mainGlobals mg) {f : Addr} {oc : Value} {od an : Option Addr} {sl : Array (Option Value)} {kV dc pm cd ct : Value} (a : PySem.W.nsIn K mainGlobals "_law_drawn_reasons" = some (some (.ref f))) (l : K.lookup f = some ⟨oc, od, .func (PySem.W.fnOf "_law_drawn_reasons" "_law_drawn_reasons" (defArgs s_l_drawn_reasons) (defBody s_l_drawn_reasons) (defScope s_l_drawn_reasons) .none kV dc pm an cd ct), sl⟩) (c : PySem.W.codeIn K cd "_law_drawn_reasons" = true) (k : PySem.W.keepIn K (.ref f) = true) : Def K mg "_law_drawn_reasons" s_l_drawn_reasons ["draws", "doubts", "many", "width"] := ⟨_, _, fun_mk (st := s_l_drawn_reasons) l c k, PySem.W.mg_of X G a, (fun_mk (st := s_l_drawn_reasons) l c k).binds (ps := ["draws", "doubts", "many", "width"]) fun _ _ _ _ _ _ us hl => match us, hl with | [_, _, _, _], _ => rfl⟩
theorem dm_l_all_weights {K : PySem.W.Frag} {h : Heap} {mg : Str → Option Value} (X : K.In h) (G : h.Ns mainGlobals mg) {f : Addr} {oc : Value} {od an : Option Addr} {sl : Array (Option Value)} {kV dc pm cd ct : Value} (a : PySem.W.nsIn K mainGlobals "_law_all_weights" = some (some (.ref f))) (l : K.lookup f = some ⟨oc, od, .func (PySem.W.fnOf "_law_all_weights" "_law_all_weights" (defArgs s_l_all_weights) (defBody s_l_all_weights) (defScope s_l_all_weights) .none kV dc pm an cd ct), sl⟩) (c : PySem.W.codeIn K cd "_law_all_weights" = true) (k : PySem.W.keepIn K (.ref f) = true) : Def K mg "_law_all_weights" s_l_all_weights ["doubts"] := ⟨_, _, fun_mk (st := s_l_all_weights) l c k, PySem.W.mg_of X G a, (fun_mk (st := s_l_all_weights) l c k).binds (ps := ["doubts"]) fun _ _ _ _ _ _ us hl => match us, hl with | [_], _ => rfl⟩
theorem dm_l_given {K : PySem.W.Frag} {h : Heap} {mg : Str → Option Value} (X : K.In h) (G : h.Ns mainGlobals mg) {f : Addr} {oc : Value} {od an : Option Addr} {sl : Array (Option Value)} {kV dc pm cd ct : Value} (a : PySem.W.nsIn K mainGlobals "_law_given" = some (some (.ref f))) (l : K.lookup f = some ⟨oc, od, .func (PySem.W.fnOf "_law_given" "_law_given" (defArgs s_l_given) (defBody s_l_given) (defScope s_l_given) .none kV dc pm an cd ct), sl⟩) (c : PySem.W.codeIn K cd "_law_given" = true) (k : PySem.W.keepIn K (.ref f) = true) : Def K mg "_law_given" s_l_given ["doubts", "settling"] := ⟨_, _, fun_mk (st := s_l_given) l c k, PySem.W.mg_of X G a, (fun_mk (st := s_l_given) l c k).binds (ps := ["doubts", "settling"]) fun _ _ _ _ _ _ us hl => match us, hl with | [_, _], _ => rfl⟩
theorem dm_l_holds {K : PySem.W.Frag} {h : Heap} {mg : Str → Option Value} (X : K.In h) (G : h.Ns mainGlobals mg) {f : Addr} {oc : Value} {od an : Option Addr} {sl : Array (Option Value)} {kV dc pm cd ct : Value} (a : PySem.W.nsIn K mainGlobals "_law_holds" = some (some (.ref f))) (l : K.lookup f = some ⟨oc, od, .func (PySem.W.fnOf "_law_holds" "_law_holds" (defArgs s_l_holds) (defBody s_l_holds) (defScope s_l_holds) .none kV dc pm an cd ct), sl⟩) (c : PySem.W.codeIn K cd "_law_holds" = true) (k : PySem.W.keepIn K (.ref f) = true) : Def K mg "_law_holds" s_l_holds ["reasons", "given"] := ⟨_, _, fun_mk (st := s_l_holds) l c k, PySem.W.mg_of X G a, (fun_mk (st := s_l_holds) l c k).binds (ps := ["reasons", "given"]) fun _ _ _ _ _ _ us hl => match us, hl with | [_, _], _ => rfl⟩
theorem dm_l_truths {K : PySem.W.Frag} {h : Heap} {mg : Str → Option Value} (X : K.In h) (G : h.Ns mainGlobals mg) {f : Addr} {oc : Value} {od an : Option Addr} {sl : Array (Option Value)} {kV dc pm cd ct : Value} (a : PySem.W.nsIn K mainGlobals "_law_truths" = some (some (.ref f))) (l : K.lookup f = some ⟨oc, od, .func (PySem.W.fnOf "_law_truths" "_law_truths" (defArgs s_l_truths) (defBody s_l_truths) (defScope s_l_truths) .none kV dc pm an cd ct), sl⟩) (c : PySem.W.codeIn K cd "_law_truths" = true) (k : PySem.W.keepIn K (.ref f) = true) : Def K mg "_law_truths" s_l_truths ["doubts", "reasons"] := ⟨_, _, fun_mk (st := s_l_truths) l c k, PySem.W.mg_of X G a, (fun_mk (st := s_l_truths) l c k).binds (ps := ["doubts", "reasons"]) fun _ _ _ _ _ _ us hl => match us, hl with | [_, _], _ => rfl⟩
theorem dm_l_named {K : PySem.W.Frag} {h : Heap} {mg : Str → Option Value} (X : K.In h) (G : h.Ns mainGlobals mg) {f : Addr} {oc : Value} {od an : Option Addr} {sl : Array (Option Value)} {kV dc pm cd ct : Value} (a : PySem.W.nsIn K mainGlobals "_law_named" = some (some (.ref f))) (l : K.lookup f = some ⟨oc, od, .func (PySem.W.fnOf "_law_named" "_law_named" (defArgs s_l_named) (defBody s_l_named) (defScope s_l_named) .none kV dc pm an cd ct), sl⟩) (c : PySem.W.codeIn K cd "_law_named" = true) (k : PySem.W.keepIn K (.ref f) = true) : Def K mg "_law_named" s_l_named ["doubts", "reasons"] := ⟨_, _, fun_mk (st := s_l_named) l c k, PySem.W.mg_of X G a, (fun_mk (st := s_l_named) l c k).binds (ps := ["doubts", "reasons"]) fun _ _ _ _ _ _ us hl => match us, hl with | [_, _], _ => rfl⟩
theorem dm_l_best_free {K : PySem.W.Frag} {h : Heap} {mg : Str → Option Value} (X : K.In h) (G : h.Ns mainGlobals mg) {f : Addr} {oc : Value} {od an : Option Addr} {sl : Array (Option Value)} {kV dc pm cd ct : Value} (a : PySem.W.nsIn K mainGlobals "_law_best_free" = some (some (.ref f))) (l : K.lookup f = some ⟨oc, od, .func (PySem.W.fnOf "_law_best_free" "_law_best_free" (defArgs s_l_best_free) (defBody s_l_best_free) (defScope s_l_best_free) .none kV dc pm an cd ct), sl⟩) (c : PySem.W.codeIn K cd "_law_best_free" = true) (k : PySem.W.keepIn K (.ref f) = true) : Def K mg "_law_best_free" s_l_best_free ["doubt"] := ⟨_, _, fun_mk (st := s_l_best_free) l c k, PySem.W.mg_of X G a, (fun_mk (st := s_l_best_free) l c k).binds (ps := ["doubt"]) fun _ _ _ _ _ _ us hl => match us, hl with | [_], _ => rfl⟩
theorem dm_l_due_likeliest {K : PySem.W.Frag} {h : Heap} {mg : Str → Option Value} (X : K.In h) (G : h.Ns mainGlobals mg) {f : Addr} {oc : Value} {od an : Option Addr} {sl : Array (Option Value)} {kV dc pm cd ct : Value} (a : PySem.W.nsIn K mainGlobals "_law_due_likeliest" = some (some (.ref f))) (l : K.lookup f = some ⟨oc, od, .func (PySem.W.fnOf "_law_due_likeliest" "_law_due_likeliest" (defArgs s_l_due_likeliest) (defBody s_l_due_likeliest) (defScope s_l_due_likeliest) .none kV dc pm an cd ct), sl⟩) (c : PySem.W.codeIn K cd "_law_due_likeliest" = true) (k : PySem.W.keepIn K (.ref f) = true) : Def K mg "_law_due_likeliest" s_l_due_likeliest ["doubts", "reasons"] := ⟨_, _, fun_mk (st := s_l_due_likeliest) l c k, PySem.W.mg_of X G a, (fun_mk (st := s_l_due_likeliest) l c k).binds (ps := ["doubts", "reasons"]) fun _ _ _ _ _ _ us hl => match us, hl with | [_, _], _ => rfl⟩
theorem dm_law {K : PySem.W.Frag} {h : Heap} {mg : Str → Option Value} (X : K.In h) (G : h.Ns mainGlobals mg) {f : Addr} {oc : Value} {od an : Option Addr} {sl : Array (Option Value)} {kV dc pm cd ct : Value} (a : PySem.W.nsIn K mainGlobals "law" = some (some (.ref f))) (l : K.lookup f = some ⟨oc, od, .func (PySem.W.fnOf "law" "law" (defArgs s_law) (defBody s_law) (defScope s_law) .none kV dc pm an cd ct), sl⟩) (c : PySem.W.codeIn K cd "law" = true) (k : PySem.W.keepIn K (.ref f) = true) : Def K mg "law" s_law ["script"] := ⟨_, _, fun_mk (st := s_law) l c k, PySem.W.mg_of X G a, (fun_mk (st := s_law) l c k).binds (ps := ["script"]) fun _ _ _ _ _ _ us hl => match us, hl with | [_], _ => rfl⟩
set_option maxHeartbeats 0 in
theorem all_mk {P : Program} {w : World} {K : PySem.W.Frag} {h : Heap} {mg : Str → Option Value} {fa : Addr} (X : K.In h) (G : h.Ns mainGlobals mg) (hfa : mg "law" = some (.ref fa))
    {f0 : Addr} {oc0 : Value} {od0 an0 : Option Addr} {sl0 : Array (Option Value)} {kV0 dc0 pm0 cd0 ct0 : Value}
    (a0 : PySem.W.nsIn K mainGlobals "indexed" = some (some (.ref f0))) (l0 : K.lookup f0 = some ⟨oc0, od0, .func (PySem.W.fnOf "indexed" "indexed" (defArgs s_indexed) (defBody s_indexed) (defScope s_indexed) .none kV0 dc0 pm0 an0 cd0 ct0), sl0⟩) (c0 : PySem.W.codeIn K cd0 "indexed" = true) (k0 : PySem.W.keepIn K (.ref f0) = true)
    {f1 : Addr} {oc1 : Value} {od1 an1 : Option Addr} {sl1 : Array (Option Value)} {kV1 dc1 pm1 cd1 ct1 : Value}
    (a1 : PySem.W.nsIn K mainGlobals "told_settling" = some (some (.ref f1))) (l1 : K.lookup f1 = some ⟨oc1, od1, .func (PySem.W.fnOf "told_settling" "told_settling" (defArgs s_told_settling) (defBody s_told_settling) (defScope s_told_settling) .none kV1 dc1 pm1 an1 cd1 ct1), sl1⟩) (c1 : PySem.W.codeIn K cd1 "told_settling" = true) (k1 : PySem.W.keepIn K (.ref f1) = true)
    {f2 : Addr} {oc2 : Value} {od2 an2 : Option Addr} {sl2 : Array (Option Value)} {kV2 dc2 pm2 cd2 ct2 : Value}
    (a2 : PySem.W.nsIn K mainGlobals "has_all" = some (some (.ref f2))) (l2 : K.lookup f2 = some ⟨oc2, od2, .func (PySem.W.fnOf "has_all" "has_all" (defArgs s_has_all) (defBody s_has_all) (defScope s_has_all) .none kV2 dc2 pm2 an2 cd2 ct2), sl2⟩) (c2 : PySem.W.codeIn K cd2 "has_all" = true) (k2 : PySem.W.keepIn K (.ref f2) = true)
    {f3 : Addr} {oc3 : Value} {od3 an3 : Option Addr} {sl3 : Array (Option Value)} {kV3 dc3 pm3 cd3 ct3 : Value}
    (a3 : PySem.W.nsIn K mainGlobals "settled" = some (some (.ref f3))) (l3 : K.lookup f3 = some ⟨oc3, od3, .func (PySem.W.fnOf "settled" "settled" (defArgs s_settled) (defBody s_settled) (defScope s_settled) .none kV3 dc3 pm3 an3 cd3 ct3), sl3⟩) (c3 : PySem.W.codeIn K cd3 "settled" = true) (k3 : PySem.W.keepIn K (.ref f3) = true)
    {f4 : Addr} {oc4 : Value} {od4 an4 : Option Addr} {sl4 : Array (Option Value)} {kV4 dc4 pm4 cd4 ct4 : Value}
    (a4 : PySem.W.nsIn K mainGlobals "standing" = some (some (.ref f4))) (l4 : K.lookup f4 = some ⟨oc4, od4, .func (PySem.W.fnOf "standing" "standing" (defArgs s_standing) (defBody s_standing) (defScope s_standing) .none kV4 dc4 pm4 an4 cd4 ct4), sl4⟩) (c4 : PySem.W.codeIn K cd4 "standing" = true) (k4 : PySem.W.keepIn K (.ref f4) = true)
    {f5 : Addr} {oc5 : Value} {od5 an5 : Option Addr} {sl5 : Array (Option Value)} {kV5 dc5 pm5 cd5 ct5 : Value}
    (a5 : PySem.W.nsIn K mainGlobals "settled_wholes" = some (some (.ref f5))) (l5 : K.lookup f5 = some ⟨oc5, od5, .func (PySem.W.fnOf "settled_wholes" "settled_wholes" (defArgs s_settled_wholes) (defBody s_settled_wholes) (defScope s_settled_wholes) .none kV5 dc5 pm5 an5 cd5 ct5), sl5⟩) (c5 : PySem.W.codeIn K cd5 "settled_wholes" = true) (k5 : PySem.W.keepIn K (.ref f5) = true)
    {f6 : Addr} {oc6 : Value} {od6 an6 : Option Addr} {sl6 : Array (Option Value)} {kV6 dc6 pm6 cd6 ct6 : Value}
    (a6 : PySem.W.nsIn K mainGlobals "can_become" = some (some (.ref f6))) (l6 : K.lookup f6 = some ⟨oc6, od6, .func (PySem.W.fnOf "can_become" "can_become" (defArgs s_can_become) (defBody s_can_become) (defScope s_can_become) .none kV6 dc6 pm6 an6 cd6 ct6), sl6⟩) (c6 : PySem.W.codeIn K cd6 "can_become" = true) (k6 : PySem.W.keepIn K (.ref f6) = true)
    {f7 : Addr} {oc7 : Value} {od7 an7 : Option Addr} {sl7 : Array (Option Value)} {kV7 dc7 pm7 cd7 ct7 : Value}
    (a7 : PySem.W.nsIn K mainGlobals "options_to_try" = some (some (.ref f7))) (l7 : K.lookup f7 = some ⟨oc7, od7, .func (PySem.W.fnOf "options_to_try" "options_to_try" (defArgs s_options_to_try) (defBody s_options_to_try) (defScope s_options_to_try) .none kV7 dc7 pm7 an7 cd7 ct7), sl7⟩) (c7 : PySem.W.codeIn K cd7 "options_to_try" = true) (k7 : PySem.W.keepIn K (.ref f7) = true)
    {f8 : Addr} {oc8 : Value} {od8 an8 : Option Addr} {sl8 : Array (Option Value)} {kV8 dc8 pm8 cd8 ct8 : Value}
    (a8 : PySem.W.nsIn K mainGlobals "heaviest_from" = some (some (.ref f8))) (l8 : K.lookup f8 = some ⟨oc8, od8, .func (PySem.W.fnOf "heaviest_from" "heaviest_from" (defArgs s_heaviest_from) (defBody s_heaviest_from) (defScope s_heaviest_from) .none kV8 dc8 pm8 an8 cd8 ct8), sl8⟩) (c8 : PySem.W.codeIn K cd8 "heaviest_from" = true) (k8 : PySem.W.keepIn K (.ref f8) = true)
    {f9 : Addr} {oc9 : Value} {od9 an9 : Option Addr} {sl9 : Array (Option Value)} {kV9 dc9 pm9 cd9 ct9 : Value}
    (a9 : PySem.W.nsIn K mainGlobals "heaviest" = some (some (.ref f9))) (l9 : K.lookup f9 = some ⟨oc9, od9, .func (PySem.W.fnOf "heaviest" "heaviest" (defArgs s_heaviest) (defBody s_heaviest) (defScope s_heaviest) .none kV9 dc9 pm9 an9 cd9 ct9), sl9⟩) (c9 : PySem.W.codeIn K cd9 "heaviest" = true) (k9 : PySem.W.keepIn K (.ref f9) = true)
    {f10 : Addr} {oc10 : Value} {od10 an10 : Option Addr} {sl10 : Array (Option Value)} {kV10 dc10 pm10 cd10 ct10 : Value}
    (a10 : PySem.W.nsIn K mainGlobals "likeliest" = some (some (.ref f10))) (l10 : K.lookup f10 = some ⟨oc10, od10, .func (PySem.W.fnOf "likeliest" "likeliest" (defArgs s_likeliest) (defBody s_likeliest) (defScope s_likeliest) .none kV10 dc10 pm10 an10 cd10 ct10), sl10⟩) (c10 : PySem.W.codeIn K cd10 "likeliest" = true) (k10 : PySem.W.keepIn K (.ref f10) = true)
    {f11 : Addr} {oc11 : Value} {od11 an11 : Option Addr} {sl11 : Array (Option Value)} {kV11 dc11 pm11 cd11 ct11 : Value}
    (a11 : PySem.W.nsIn K mainGlobals "_law_draws" = some (some (.ref f11))) (l11 : K.lookup f11 = some ⟨oc11, od11, .func (PySem.W.fnOf "_law_draws" "_law_draws" (defArgs s_l_draws) (defBody s_l_draws) (defScope s_l_draws) .none kV11 dc11 pm11 an11 cd11 ct11), sl11⟩) (c11 : PySem.W.codeIn K cd11 "_law_draws" = true) (k11 : PySem.W.keepIn K (.ref f11) = true)
    {f12 : Addr} {oc12 : Value} {od12 an12 : Option Addr} {sl12 : Array (Option Value)} {kV12 dc12 pm12 cd12 ct12 : Value}
    (a12 : PySem.W.nsIn K mainGlobals "_law_take" = some (some (.ref f12))) (l12 : K.lookup f12 = some ⟨oc12, od12, .func (PySem.W.fnOf "_law_take" "_law_take" (defArgs s_l_take) (defBody s_l_take) (defScope s_l_take) .none kV12 dc12 pm12 an12 cd12 ct12), sl12⟩) (c12 : PySem.W.codeIn K cd12 "_law_take" = true) (k12 : PySem.W.keepIn K (.ref f12) = true)
    {f13 : Addr} {oc13 : Value} {od13 an13 : Option Addr} {sl13 : Array (Option Value)} {kV13 dc13 pm13 cd13 ct13 : Value}
    (a13 : PySem.W.nsIn K mainGlobals "_law_pick" = some (some (.ref f13))) (l13 : K.lookup f13 = some ⟨oc13, od13, .func (PySem.W.fnOf "_law_pick" "_law_pick" (defArgs s_l_pick) (defBody s_l_pick) (defScope s_l_pick) .none kV13 dc13 pm13 an13 cd13 ct13), sl13⟩) (c13 : PySem.W.codeIn K cd13 "_law_pick" = true) (k13 : PySem.W.keepIn K (.ref f13) = true)
    {f14 : Addr} {oc14 : Value} {od14 an14 : Option Addr} {sl14 : Array (Option Value)} {kV14 dc14 pm14 cd14 ct14 : Value}
    (a14 : PySem.W.nsIn K mainGlobals "_law_same" = some (some (.ref f14))) (l14 : K.lookup f14 = some ⟨oc14, od14, .func (PySem.W.fnOf "_law_same" "_law_same" (defArgs s_l_same) (defBody s_l_same) (defScope s_l_same) .none kV14 dc14 pm14 an14 cd14 ct14), sl14⟩) (c14 : PySem.W.codeIn K cd14 "_law_same" = true) (k14 : PySem.W.keepIn K (.ref f14) = true)
    {f15 : Addr} {oc15 : Value} {od15 an15 : Option Addr} {sl15 : Array (Option Value)} {kV15 dc15 pm15 cd15 ct15 : Value}
    (a15 : PySem.W.nsIn K mainGlobals "_law_words" = some (some (.ref f15))) (l15 : K.lookup f15 = some ⟨oc15, od15, .func (PySem.W.fnOf "_law_words" "_law_words" (defArgs s_l_words) (defBody s_l_words) (defScope s_l_words) .none kV15 dc15 pm15 an15 cd15 ct15), sl15⟩) (c15 : PySem.W.codeIn K cd15 "_law_words" = true) (k15 : PySem.W.keepIn K (.ref f15) = true)
    {f16 : Addr} {oc16 : Value} {od16 an16 : Option Addr} {sl16 : Array (Option Value)} {kV16 dc16 pm16 cd16 ct16 : Value}
    (a16 : PySem.W.nsIn K mainGlobals "_law_value_key" = some (some (.ref f16))) (l16 : K.lookup f16 = some ⟨oc16, od16, .func (PySem.W.fnOf "_law_value_key" "_law_value_key" (defArgs s_l_value_key) (defBody s_l_value_key) (defScope s_l_value_key) .none kV16 dc16 pm16 an16 cd16 ct16), sl16⟩) (c16 : PySem.W.codeIn K cd16 "_law_value_key" = true) (k16 : PySem.W.keepIn K (.ref f16) = true)
    {f17 : Addr} {oc17 : Value} {od17 an17 : Option Addr} {sl17 : Array (Option Value)} {kV17 dc17 pm17 cd17 ct17 : Value}
    (a17 : PySem.W.nsIn K mainGlobals "_law_row_key" = some (some (.ref f17))) (l17 : K.lookup f17 = some ⟨oc17, od17, .func (PySem.W.fnOf "_law_row_key" "_law_row_key" (defArgs s_l_row_key) (defBody s_l_row_key) (defScope s_l_row_key) .none kV17 dc17 pm17 an17 cd17 ct17), sl17⟩) (c17 : PySem.W.codeIn K cd17 "_law_row_key" = true) (k17 : PySem.W.keepIn K (.ref f17) = true)
    {f18 : Addr} {oc18 : Value} {od18 an18 : Option Addr} {sl18 : Array (Option Value)} {kV18 dc18 pm18 cd18 ct18 : Value}
    (a18 : PySem.W.nsIn K mainGlobals "_law_sorted_rows" = some (some (.ref f18))) (l18 : K.lookup f18 = some ⟨oc18, od18, .func (PySem.W.fnOf "_law_sorted_rows" "_law_sorted_rows" (defArgs s_l_sorted_rows) (defBody s_l_sorted_rows) (defScope s_l_sorted_rows) .none kV18 dc18 pm18 an18 cd18 ct18), sl18⟩) (c18 : PySem.W.codeIn K cd18 "_law_sorted_rows" = true) (k18 : PySem.W.keepIn K (.ref f18) = true)
    {f19 : Addr} {oc19 : Value} {od19 an19 : Option Addr} {sl19 : Array (Option Value)} {kV19 dc19 pm19 cd19 ct19 : Value}
    (a19 : PySem.W.nsIn K mainGlobals "_law_mark_key" = some (some (.ref f19))) (l19 : K.lookup f19 = some ⟨oc19, od19, .func (PySem.W.fnOf "_law_mark_key" "_law_mark_key" (defArgs s_l_mark_key) (defBody s_l_mark_key) (defScope s_l_mark_key) .none kV19 dc19 pm19 an19 cd19 ct19), sl19⟩) (c19 : PySem.W.codeIn K cd19 "_law_mark_key" = true) (k19 : PySem.W.keepIn K (.ref f19) = true)
    {f20 : Addr} {oc20 : Value} {od20 an20 : Option Addr} {sl20 : Array (Option Value)} {kV20 dc20 pm20 cd20 ct20 : Value}
    (a20 : PySem.W.nsIn K mainGlobals "_law_is_part" = some (some (.ref f20))) (l20 : K.lookup f20 = some ⟨oc20, od20, .func (PySem.W.fnOf "_law_is_part" "_law_is_part" (defArgs s_l_is_part) (defBody s_l_is_part) (defScope s_l_is_part) .none kV20 dc20 pm20 an20 cd20 ct20), sl20⟩) (c20 : PySem.W.codeIn K cd20 "_law_is_part" = true) (k20 : PySem.W.keepIn K (.ref f20) = true)
    {f21 : Addr} {oc21 : Value} {od21 an21 : Option Addr} {sl21 : Array (Option Value)} {kV21 dc21 pm21 cd21 ct21 : Value}
    (a21 : PySem.W.nsIn K mainGlobals "_law_pair_key" = some (some (.ref f21))) (l21 : K.lookup f21 = some ⟨oc21, od21, .func (PySem.W.fnOf "_law_pair_key" "_law_pair_key" (defArgs s_l_pair_key) (defBody s_l_pair_key) (defScope s_l_pair_key) .none kV21 dc21 pm21 an21 cd21 ct21), sl21⟩) (c21 : PySem.W.codeIn K cd21 "_law_pair_key" = true) (k21 : PySem.W.keepIn K (.ref f21) = true)
    {f22 : Addr} {oc22 : Value} {od22 an22 : Option Addr} {sl22 : Array (Option Value)} {kV22 dc22 pm22 cd22 ct22 : Value}
    (a22 : PySem.W.nsIn K mainGlobals "_law_reason_key" = some (some (.ref f22))) (l22 : K.lookup f22 = some ⟨oc22, od22, .func (PySem.W.fnOf "_law_reason_key" "_law_reason_key" (defArgs s_l_reason_key) (defBody s_l_reason_key) (defScope s_l_reason_key) .none kV22 dc22 pm22 an22 cd22 ct22), sl22⟩) (c22 : PySem.W.codeIn K cd22 "_law_reason_key" = true) (k22 : PySem.W.keepIn K (.ref f22) = true)
    {f23 : Addr} {oc23 : Value} {od23 an23 : Option Addr} {sl23 : Array (Option Value)} {kV23 dc23 pm23 cd23 ct23 : Value}
    (a23 : PySem.W.nsIn K mainGlobals "_law_all_settlings" = some (some (.ref f23))) (l23 : K.lookup f23 = some ⟨oc23, od23, .func (PySem.W.fnOf "_law_all_settlings" "_law_all_settlings" (defArgs s_l_all_settlings) (defBody s_l_all_settlings) (defScope s_l_all_settlings) .none kV23 dc23 pm23 an23 cd23 ct23), sl23⟩) (c23 : PySem.W.codeIn K cd23 "_law_all_settlings" = true) (k23 : PySem.W.keepIn K (.ref f23) = true)
    {f24 : Addr} {oc24 : Value} {od24 an24 : Option Addr} {sl24 : Array (Option Value)} {kV24 dc24 pm24 cd24 ct24 : Value}
    (a24 : PySem.W.nsIn K mainGlobals "_law_member_key" = some (some (.ref f24))) (l24 : K.lookup f24 = some ⟨oc24, od24, .func (PySem.W.fnOf "_law_member_key" "_law_member_key" (defArgs s_l_member_key) (defBody s_l_member_key) (defScope s_l_member_key) .none kV24 dc24 pm24 an24 cd24 ct24), sl24⟩) (c24 : PySem.W.codeIn K cd24 "_law_member_key" = true) (k24 : PySem.W.keepIn K (.ref f24) = true)
    {f25 : Addr} {oc25 : Value} {od25 an25 : Option Addr} {sl25 : Array (Option Value)} {kV25 dc25 pm25 cd25 ct25 : Value}
    (a25 : PySem.W.nsIn K mainGlobals "_law_thin" = some (some (.ref f25))) (l25 : K.lookup f25 = some ⟨oc25, od25, .func (PySem.W.fnOf "_law_thin" "_law_thin" (defArgs s_l_thin) (defBody s_l_thin) (defScope s_l_thin) .none kV25 dc25 pm25 an25 cd25 ct25), sl25⟩) (c25 : PySem.W.codeIn K cd25 "_law_thin" = true) (k25 : PySem.W.keepIn K (.ref f25) = true)
    {f26 : Addr} {oc26 : Value} {od26 an26 : Option Addr} {sl26 : Array (Option Value)} {kV26 dc26 pm26 cd26 ct26 : Value}
    (a26 : PySem.W.nsIn K mainGlobals "_law_pool_of" = some (some (.ref f26))) (l26 : K.lookup f26 = some ⟨oc26, od26, .func (PySem.W.fnOf "_law_pool_of" "_law_pool_of" (defArgs s_l_pool_of) (defBody s_l_pool_of) (defScope s_l_pool_of) .none kV26 dc26 pm26 an26 cd26 ct26), sl26⟩) (c26 : PySem.W.codeIn K cd26 "_law_pool_of" = true) (k26 : PySem.W.keepIn K (.ref f26) = true)
    {f27 : Addr} {oc27 : Value} {od27 an27 : Option Addr} {sl27 : Array (Option Value)} {kV27 dc27 pm27 cd27 ct27 : Value}
    (a27 : PySem.W.nsIn K mainGlobals "_law_drawn_weight" = some (some (.ref f27))) (l27 : K.lookup f27 = some ⟨oc27, od27, .func (PySem.W.fnOf "_law_drawn_weight" "_law_drawn_weight" (defArgs s_l_drawn_weight) (defBody s_l_drawn_weight) (defScope s_l_drawn_weight) .none kV27 dc27 pm27 an27 cd27 ct27), sl27⟩) (c27 : PySem.W.codeIn K cd27 "_law_drawn_weight" = true) (k27 : PySem.W.keepIn K (.ref f27) = true)
    {f28 : Addr} {oc28 : Value} {od28 an28 : Option Addr} {sl28 : Array (Option Value)} {kV28 dc28 pm28 cd28 ct28 : Value}
    (a28 : PySem.W.nsIn K mainGlobals "_law_drawn_options" = some (some (.ref f28))) (l28 : K.lookup f28 = some ⟨oc28, od28, .func (PySem.W.fnOf "_law_drawn_options" "_law_drawn_options" (defArgs s_l_drawn_options) (defBody s_l_drawn_options) (defScope s_l_drawn_options) .none kV28 dc28 pm28 an28 cd28 ct28), sl28⟩) (c28 : PySem.W.codeIn K cd28 "_law_drawn_options" = true) (k28 : PySem.W.keepIn K (.ref f28) = true)
    {f29 : Addr} {oc29 : Value} {od29 an29 : Option Addr} {sl29 : Array (Option Value)} {kV29 dc29 pm29 cd29 ct29 : Value}
    (a29 : PySem.W.nsIn K mainGlobals "_law_doubt_key" = some (some (.ref f29))) (l29 : K.lookup f29 = some ⟨oc29, od29, .func (PySem.W.fnOf "_law_doubt_key" "_law_doubt_key" (defArgs s_l_doubt_key) (defBody s_l_doubt_key) (defScope s_l_doubt_key) .none kV29 dc29 pm29 an29 cd29 ct29), sl29⟩) (c29 : PySem.W.codeIn K cd29 "_law_doubt_key" = true) (k29 : PySem.W.keepIn K (.ref f29) = true)
    {f30 : Addr} {oc30 : Value} {od30 an30 : Option Addr} {sl30 : Array (Option Value)} {kV30 dc30 pm30 cd30 ct30 : Value}
    (a30 : PySem.W.nsIn K mainGlobals "_law_drawn_doubts" = some (some (.ref f30))) (l30 : K.lookup f30 = some ⟨oc30, od30, .func (PySem.W.fnOf "_law_drawn_doubts" "_law_drawn_doubts" (defArgs s_l_drawn_doubts) (defBody s_l_drawn_doubts) (defScope s_l_drawn_doubts) .none kV30 dc30 pm30 an30 cd30 ct30), sl30⟩) (c30 : PySem.W.codeIn K cd30 "_law_drawn_doubts" = true) (k30 : PySem.W.keepIn K (.ref f30) = true)
    {f31 : Addr} {oc31 : Value} {od31 an31 : Option Addr} {sl31 : Array (Option Value)} {kV31 dc31 pm31 cd31 ct31 : Value}
    (a31 : PySem.W.nsIn K mainGlobals "_law_drawn_reason" = some (some (.ref f31))) (l31 : K.lookup f31 = some ⟨oc31, od31, .func (PySem.W.fnOf "_law_drawn_reason" "_law_drawn_reason" (defArgs s_l_drawn_reason) (defBody s_l_drawn_reason) (defScope s_l_drawn_reason) .none kV31 dc31 pm31 an31 cd31 ct31), sl31⟩) (c31 : PySem.W.codeIn K cd31 "_law_drawn_reason" = true) (k31 : PySem.W.keepIn K (.ref f31) = true)
    {f32 : Addr} {oc32 : Value} {od32 an32 : Option Addr} {sl32 : Array (Option Value)} {kV32 dc32 pm32 cd32 ct32 : Value}
    (a32 : PySem.W.nsIn K mainGlobals "_law_drawn_reasons" = some (some (.ref f32))) (l32 : K.lookup f32 = some ⟨oc32, od32, .func (PySem.W.fnOf "_law_drawn_reasons" "_law_drawn_reasons" (defArgs s_l_drawn_reasons) (defBody s_l_drawn_reasons) (defScope s_l_drawn_reasons) .none kV32 dc32 pm32 an32 cd32 ct32), sl32⟩) (c32 : PySem.W.codeIn K cd32 "_law_drawn_reasons" = true) (k32 : PySem.W.keepIn K (.ref f32) = true)
    {f33 : Addr} {oc33 : Value} {od33 an33 : Option Addr} {sl33 : Array (Option Value)} {kV33 dc33 pm33 cd33 ct33 : Value}
    (a33 : PySem.W.nsIn K mainGlobals "_law_all_weights" = some (some (.ref f33))) (l33 : K.lookup f33 = some ⟨oc33, od33, .func (PySem.W.fnOf "_law_all_weights" "_law_all_weights" (defArgs s_l_all_weights) (defBody s_l_all_weights) (defScope s_l_all_weights) .none kV33 dc33 pm33 an33 cd33 ct33), sl33⟩) (c33 : PySem.W.codeIn K cd33 "_law_all_weights" = true) (k33 : PySem.W.keepIn K (.ref f33) = true)
    {f34 : Addr} {oc34 : Value} {od34 an34 : Option Addr} {sl34 : Array (Option Value)} {kV34 dc34 pm34 cd34 ct34 : Value}
    (a34 : PySem.W.nsIn K mainGlobals "_law_given" = some (some (.ref f34))) (l34 : K.lookup f34 = some ⟨oc34, od34, .func (PySem.W.fnOf "_law_given" "_law_given" (defArgs s_l_given) (defBody s_l_given) (defScope s_l_given) .none kV34 dc34 pm34 an34 cd34 ct34), sl34⟩) (c34 : PySem.W.codeIn K cd34 "_law_given" = true) (k34 : PySem.W.keepIn K (.ref f34) = true)
    {f35 : Addr} {oc35 : Value} {od35 an35 : Option Addr} {sl35 : Array (Option Value)} {kV35 dc35 pm35 cd35 ct35 : Value}
    (a35 : PySem.W.nsIn K mainGlobals "_law_holds" = some (some (.ref f35))) (l35 : K.lookup f35 = some ⟨oc35, od35, .func (PySem.W.fnOf "_law_holds" "_law_holds" (defArgs s_l_holds) (defBody s_l_holds) (defScope s_l_holds) .none kV35 dc35 pm35 an35 cd35 ct35), sl35⟩) (c35 : PySem.W.codeIn K cd35 "_law_holds" = true) (k35 : PySem.W.keepIn K (.ref f35) = true)
    {f36 : Addr} {oc36 : Value} {od36 an36 : Option Addr} {sl36 : Array (Option Value)} {kV36 dc36 pm36 cd36 ct36 : Value}
    (a36 : PySem.W.nsIn K mainGlobals "_law_truths" = some (some (.ref f36))) (l36 : K.lookup f36 = some ⟨oc36, od36, .func (PySem.W.fnOf "_law_truths" "_law_truths" (defArgs s_l_truths) (defBody s_l_truths) (defScope s_l_truths) .none kV36 dc36 pm36 an36 cd36 ct36), sl36⟩) (c36 : PySem.W.codeIn K cd36 "_law_truths" = true) (k36 : PySem.W.keepIn K (.ref f36) = true)
    {f37 : Addr} {oc37 : Value} {od37 an37 : Option Addr} {sl37 : Array (Option Value)} {kV37 dc37 pm37 cd37 ct37 : Value}
    (a37 : PySem.W.nsIn K mainGlobals "_law_named" = some (some (.ref f37))) (l37 : K.lookup f37 = some ⟨oc37, od37, .func (PySem.W.fnOf "_law_named" "_law_named" (defArgs s_l_named) (defBody s_l_named) (defScope s_l_named) .none kV37 dc37 pm37 an37 cd37 ct37), sl37⟩) (c37 : PySem.W.codeIn K cd37 "_law_named" = true) (k37 : PySem.W.keepIn K (.ref f37) = true)
    {f38 : Addr} {oc38 : Value} {od38 an38 : Option Addr} {sl38 : Array (Option Value)} {kV38 dc38 pm38 cd38 ct38 : Value}
    (a38 : PySem.W.nsIn K mainGlobals "_law_best_free" = some (some (.ref f38))) (l38 : K.lookup f38 = some ⟨oc38, od38, .func (PySem.W.fnOf "_law_best_free" "_law_best_free" (defArgs s_l_best_free) (defBody s_l_best_free) (defScope s_l_best_free) .none kV38 dc38 pm38 an38 cd38 ct38), sl38⟩) (c38 : PySem.W.codeIn K cd38 "_law_best_free" = true) (k38 : PySem.W.keepIn K (.ref f38) = true)
    {f39 : Addr} {oc39 : Value} {od39 an39 : Option Addr} {sl39 : Array (Option Value)} {kV39 dc39 pm39 cd39 ct39 : Value}
    (a39 : PySem.W.nsIn K mainGlobals "_law_due_likeliest" = some (some (.ref f39))) (l39 : K.lookup f39 = some ⟨oc39, od39, .func (PySem.W.fnOf "_law_due_likeliest" "_law_due_likeliest" (defArgs s_l_due_likeliest) (defBody s_l_due_likeliest) (defScope s_l_due_likeliest) .none kV39 dc39 pm39 an39 cd39 ct39), sl39⟩) (c39 : PySem.W.codeIn K cd39 "_law_due_likeliest" = true) (k39 : PySem.W.keepIn K (.ref f39) = true)
    {f40 : Addr} {oc40 : Value} {od40 an40 : Option Addr} {sl40 : Array (Option Value)} {kV40 dc40 pm40 cd40 ct40 : Value}
    (a40 : PySem.W.nsIn K mainGlobals "law" = some (some (.ref f40))) (l40 : K.lookup f40 = some ⟨oc40, od40, .func (PySem.W.fnOf "law" "law" (defArgs s_law) (defBody s_law) (defScope s_law) .none kV40 dc40 pm40 an40 cd40 ct40), sl40⟩) (c40 : PySem.W.codeIn K cd40 "law" = true) (k40 : PySem.W.keepIn K (.ref f40) = true)
    (z_all : PySem.W.nsIn K mainGlobals "all" = some none)    (z_any : PySem.W.nsIn K mainGlobals "any" = some none)    (z_bool : PySem.W.nsIn K mainGlobals "bool" = some none)    (z_enumerate : PySem.W.nsIn K mainGlobals "enumerate" = some none)    (z_int : PySem.W.nsIn K mainGlobals "int" = some none)    (z_isinstance : PySem.W.nsIn K mainGlobals "isinstance" = some none)    (z_len : PySem.W.nsIn K mainGlobals "len" = some none)    (z_list : PySem.W.nsIn K mainGlobals "list" = some none)    (z_max : PySem.W.nsIn K mainGlobals "max" = some none)    (z_range : PySem.W.nsIn K mainGlobals "range" = some none)    (z_set : PySem.W.nsIn K mainGlobals "set" = some none)    (z_sorted : PySem.W.nsIn K mainGlobals "sorted" = some none)    (z_str : PySem.W.nsIn K mainGlobals "str" = some none)    (z_tuple : PySem.W.nsIn K mainGlobals "tuple" = some none)    (z_zip : PySem.W.nsIn K mainGlobals "zip" = some none) :
    ∃ fd : FuncData, (∀ (s : Shared) (v : Value), BindsTo s fd ⟨[v], []⟩ [("script", v)]) ∧ ∀ base : Heap, K.In base → base.Ns mainGlobals mg → FnOk P w K mg base CX0 29 fa fd ["script"] (upSp K sp_law) := by
  have e := hfa.symm.trans (PySem.W.mg_of X G a40)
  cases e
  have D_indexed : Def K mg "indexed" s_indexed ["doubts", "reasons"] := dm_indexed X G a0 l0 c0 k0
  have D_told_settling : Def K mg "told_settling" s_told_settling ["doubts", "options"] := dm_told_settling X G a1 l1 c1 k1
  have D_has_all : Def K mg "has_all" s_has_all ["reason", "other"] := dm_has_all X G a2 l2 c2 k2
  have D_settled : Def K mg "settled" s_settled ["reasons", "doubt", "option"] := dm_settled X G a3 l3 c3 k3
  have D_standing : Def K mg "standing" s_standing ["reasons"] := dm_standing X G a4 l4 c4 k4
  have D_settled_wholes : Def K mg "settled_wholes" s_settled_wholes ["wholes", "doubt", "option"] := dm_settled_wholes X G a5 l5 c5 k5
  have D_can_become : Def K mg "can_become" s_can_become ["wholes", "truth"] := dm_can_become X G a6 l6 c6 k6
  have D_options_to_try : Def K mg "options_to_try" s_options_to_try ["doubts", "doubt", "wholes"] := dm_options_to_try X G a7 l7 c7 k7
  have D_heaviest_from : Def K mg "heaviest_from" s_heaviest_from ["doubts", "doubt", "wholes", "truth", "known"] := dm_heaviest_from X G a8 l8 c8 k8
  have D_heaviest : Def K mg "heaviest" s_heaviest ["doubts", "wholes", "truth"] := dm_heaviest X G a9 l9 c9 k9
  have D_likeliest : Def K mg "likeliest" s_likeliest ["doubts", "reasons"] := dm_likeliest X G a10 l10 c10 k10
  have D_l_draws : Def K mg "_law_draws" s_l_draws ["script", "many"] := dm_l_draws X G a11 l11 c11 k11
  have D_l_take : Def K mg "_law_take" s_l_take ["draws", "many"] := dm_l_take X G a12 l12 c12 k12
  have D_l_pick : Def K mg "_law_pick" s_l_pick ["draws", "row"] := dm_l_pick X G a13 l13 c13 k13
  have D_l_same : Def K mg "_law_same" s_l_same ["actual", "due"] := dm_l_same X G a14 l14 c14 k14
  have D_l_words : Def K mg "_law_words" s_l_words ["draws", "many"] := dm_l_words X G a15 l15 c15 k15
  have D_l_value_key : Def K mg "_law_value_key" s_l_value_key ["value"] := dm_l_value_key X G a16 l16 c16 k16
  have D_l_row_key : Def K mg "_law_row_key" s_l_row_key ["row"] := dm_l_row_key X G a17 l17 c17 k17
  have D_l_sorted_rows : Def K mg "_law_sorted_rows" s_l_sorted_rows ["rows"] := dm_l_sorted_rows X G a18 l18 c18 k18
  have D_l_mark_key : Def K mg "_law_mark_key" s_l_mark_key ["mark"] := dm_l_mark_key X G a19 l19 c19 k19
  have D_l_is_part : Def K mg "_law_is_part" s_l_is_part ["small", "large"] := dm_l_is_part X G a20 l20 c20 k20
  have D_l_pair_key : Def K mg "_law_pair_key" s_l_pair_key ["pair"] := dm_l_pair_key X G a21 l21 c21 k21
  have D_l_reason_key : Def K mg "_law_reason_key" s_l_reason_key ["reason"] := dm_l_reason_key X G a22 l22 c22 k22
  have D_l_all_settlings : Def K mg "_law_all_settlings" s_l_all_settlings ["doubts"] := dm_l_all_settlings X G a23 l23 c23 k23
  have D_l_member_key : Def K mg "_law_member_key" s_l_member_key ["member"] := dm_l_member_key X G a24 l24 c24 k24
  have D_l_thin : Def K mg "_law_thin" s_l_thin ["members"] := dm_l_thin X G a25 l25 c25 k25
  have D_l_pool_of : Def K mg "_law_pool_of" s_l_pool_of ["draws", "words"] := dm_l_pool_of X G a26 l26 c26 k26
  have D_l_drawn_weight : Def K mg "_law_drawn_weight" s_l_drawn_weight ["draws"] := dm_l_drawn_weight X G a27 l27 c27 k27
  have D_l_drawn_options : Def K mg "_law_drawn_options" s_l_drawn_options ["draws", "key", "others", "pool", "many"] := dm_l_drawn_options X G a28 l28 c28 k28
  have D_l_doubt_key : Def K mg "_law_doubt_key" s_l_doubt_key ["doubt"] := dm_l_doubt_key X G a29 l29 c29 k29
  have D_l_drawn_doubts : Def K mg "_law_drawn_doubts" s_l_drawn_doubts ["draws", "words", "many", "most"] := dm_l_drawn_doubts X G a30 l30 c30 k30
  have D_l_drawn_reason : Def K mg "_law_drawn_reason" s_l_drawn_reason ["draws", "doubts", "width"] := dm_l_drawn_reason X G a31 l31 c31 k31
  have D_l_drawn_reasons : Def K mg "_law_drawn_reasons" s_l_drawn_reasons ["draws", "doubts", "many", "width"] := dm_l_drawn_reasons X G a32 l32 c32 k32
  have D_l_all_weights : Def K mg "_law_all_weights" s_l_all_weights ["doubts"] := dm_l_all_weights X G a33 l33 c33 k33
  have D_l_given : Def K mg "_law_given" s_l_given ["doubts", "settling"] := dm_l_given X G a34 l34 c34 k34
  have D_l_holds : Def K mg "_law_holds" s_l_holds ["reasons", "given"] := dm_l_holds X G a35 l35 c35 k35
  have D_l_truths : Def K mg "_law_truths" s_l_truths ["doubts", "reasons"] := dm_l_truths X G a36 l36 c36 k36
  have D_l_named : Def K mg "_law_named" s_l_named ["doubts", "reasons"] := dm_l_named X G a37 l37 c37 k37
  have D_l_best_free : Def K mg "_law_best_free" s_l_best_free ["doubt"] := dm_l_best_free X G a38 l38 c38 k38
  have D_l_due_likeliest : Def K mg "_law_due_likeliest" s_l_due_likeliest ["doubts", "reasons"] := dm_l_due_likeliest X G a39 l39 c39 k39
  have D_law : Def K mg "law" s_law ["script"] := dm_law X G a40 l40 c40 k40
  have B : Bi K mg := ⟨PySem.W.mg_none_of X G z_all, PySem.W.mg_none_of X G z_any, PySem.W.mg_none_of X G z_bool, PySem.W.mg_none_of X G z_enumerate, PySem.W.mg_none_of X G z_int, PySem.W.mg_none_of X G z_isinstance, PySem.W.mg_none_of X G z_len, PySem.W.mg_none_of X G z_list, PySem.W.mg_none_of X G z_max, PySem.W.mg_none_of X G z_range, PySem.W.mg_none_of X G z_set, PySem.W.mg_none_of X G z_sorted, PySem.W.mg_none_of X G z_str, PySem.W.mg_none_of X G z_tuple, PySem.W.mg_none_of X G z_zip⟩
  have I : Im mg := ⟨True.intro⟩
  refine ⟨PySem.W.fnOf "law" "law" (defArgs s_law) (defBody s_law) (defScope s_law) .none kV40 dc40 pm40 an40 cd40 ct40, fun s v => .of_eq rfl, fun base _ _ => ?_⟩
  have C_indexed := ok_indexed (P := P) (w := w) (base := base) D_indexed B I 
  have C_told_settling := ok_told_settling (P := P) (w := w) (base := base) D_told_settling B I 
  have C_has_all := ok_has_all (P := P) (w := w) (base := base) D_has_all B I 
  have C_settled := ok_settled (P := P) (w := w) (base := base) D_settled B I C_has_all
  have C_standing := ok_standing (P := P) (w := w) (base := base) D_standing B I 
  have C_settled_wholes := ok_settled_wholes (P := P) (w := w) (base := base) D_settled_wholes B I C_settled
  have C_can_become := ok_can_become (P := P) (w := w) (base := base) D_can_become B I 
  have C_options_to_try := ok_options_to_try (P := P) (w := w) (base := base) D_options_to_try B I C_standing
  have C_heaviest_from := ok_heaviest_from (P := P) (w := w) (base := base) D_heaviest_from B I C_settled_wholes C_can_become C_options_to_try
  have C_heaviest := ok_heaviest (P := P) (w := w) (base := base) D_heaviest B I C_heaviest_from
  have C_likeliest := ok_likeliest (P := P) (w := w) (base := base) D_likeliest B I C_indexed C_told_settling C_heaviest
  have C_l_draws := ok_l_draws (P := P) (w := w) (base := base) D_l_draws B I 
  have C_l_take := ok_l_take (P := P) (w := w) (base := base) D_l_take B I 
  have C_l_pick := ok_l_pick (P := P) (w := w) (base := base) D_l_pick B I C_l_take
  have C_l_same := ok_l_same (P := P) (w := w) (base := base) D_l_same B I 
  have C_l_words := ok_l_words (P := P) (w := w) (base := base) D_l_words B I C_l_take
  have C_l_value_key := ok_l_value_key (P := P) (w := w) (base := base) D_l_value_key B I 
  have C_l_row_key := ok_l_row_key (P := P) (w := w) (base := base) D_l_row_key B I C_l_value_key
  have C_l_sorted_rows := ok_l_sorted_rows (P := P) (w := w) (base := base) D_l_sorted_rows B I C_l_row_key
  have C_l_mark_key := ok_l_mark_key (P := P) (w := w) (base := base) D_l_mark_key B I C_l_row_key
  have C_l_is_part := ok_l_is_part (P := P) (w := w) (base := base) D_l_is_part B I 
  have C_l_pair_key := ok_l_pair_key (P := P) (w := w) (base := base) D_l_pair_key B I C_l_row_key C_l_mark_key
  have C_l_reason_key := ok_l_reason_key (P := P) (w := w) (base := base) D_l_reason_key B I C_l_pair_key
  have C_l_all_settlings := ok_l_all_settlings (P := P) (w := w) (base := base) D_l_all_settlings B I 
  have C_l_member_key := ok_l_member_key (P := P) (w := w) (base := base) D_l_member_key B I C_l_reason_key
  have C_l_thin := ok_l_thin (P := P) (w := w) (base := base) D_l_thin B I C_l_is_part C_l_member_key
  have C_l_pool_of := ok_l_pool_of (P := P) (w := w) (base := base) D_l_pool_of B I C_l_take C_l_pick
  have C_l_drawn_weight := ok_l_drawn_weight (P := P) (w := w) (base := base) D_l_drawn_weight B I C_l_take C_l_pick
  have C_l_drawn_options := ok_l_drawn_options (P := P) (w := w) (base := base) D_l_drawn_options B I C_l_take C_l_pick C_l_sorted_rows C_l_drawn_weight
  have C_l_doubt_key := ok_l_doubt_key (P := P) (w := w) (base := base) D_l_doubt_key B I C_l_mark_key
  have C_l_drawn_doubts := ok_l_drawn_doubts (P := P) (w := w) (base := base) D_l_drawn_doubts B I C_l_take C_l_pick C_l_pool_of C_l_drawn_options C_l_doubt_key
  have C_l_drawn_reason := ok_l_drawn_reason (P := P) (w := w) (base := base) D_l_drawn_reason B I C_l_take C_l_pick
  have C_l_drawn_reasons := ok_l_drawn_reasons (P := P) (w := w) (base := base) D_l_drawn_reasons B I C_l_take C_l_thin C_l_drawn_reason
  have C_l_all_weights := ok_l_all_weights (P := P) (w := w) (base := base) D_l_all_weights B I 
  have C_l_given := ok_l_given (P := P) (w := w) (base := base) D_l_given B I 
  have C_l_holds := ok_l_holds (P := P) (w := w) (base := base) D_l_holds B I C_l_is_part
  have C_l_truths := ok_l_truths (P := P) (w := w) (base := base) D_l_truths B I C_l_all_settlings C_l_given C_l_holds
  have C_l_named := ok_l_named (P := P) (w := w) (base := base) D_l_named B I 
  have C_l_best_free := ok_l_best_free (P := P) (w := w) (base := base) D_l_best_free B I 
  have C_l_due_likeliest := ok_l_due_likeliest (P := P) (w := w) (base := base) D_l_due_likeliest B I C_l_all_settlings C_l_doubt_key C_l_all_weights C_l_truths C_l_named C_l_best_free
  exact ok_law (fun_mk (st := s_law) l40 c40 k40) B I C_likeliest C_l_draws C_l_take C_l_pick C_l_same C_l_words C_l_drawn_doubts C_l_doubt_key C_l_drawn_reasons C_l_due_likeliest
end Law
open PySem PySem.W PyProof.Rows
set_option maxHeartbeats 0 in
theorem PySem.Challenge.cw_doubtbook_k57_likeliest_settlings_holds : PySem.Challenge.rw_doubtbook_k57_likeliest_settlings.Holds := by
  w_on; o_law; k_head; (case hw => w_witness2)
  k_fill
  refine L2.walk_of (l := PySem.Challenge.rw_doubtbook_k57_likeliest_settlings) (n := 63) (k := 29) (x := "script") (CX := fun _ => L2.CX0) (sp := fun w => DL.upSp _ DL.sp_law) rfl (by decide) rfl ⟨rfl, by decide, by decide⟩ (fun w h Y => PySem.W.kIn_of Y) ?F (fun w H a ns hl hO hS => DL.law_start hl hO hS) (fun _ _ _ _ _ h => h)
  case F =>
    intro w mg fa h KX G hmg
    refine' Law.all_mk KX G hmg ?a0 ?l0 ?c0 ?k0 ?a1 ?l1 ?c1 ?k1 ?a2 ?l2 ?c2 ?k2 ?a3 ?l3 ?c3 ?k3 ?a4 ?l4 ?c4 ?k4 ?a5 ?l5 ?c5 ?k5 ?a6 ?l6 ?c6 ?k6 ?a7 ?l7 ?c7 ?k7 ?a8 ?l8 ?c8 ?k8 ?a9 ?l9 ?c9 ?k9 ?a10 ?l10 ?c10 ?k10 ?a11 ?l11 ?c11 ?k11 ?a12 ?l12 ?c12 ?k12 ?a13 ?l13 ?c13 ?k13 ?a14 ?l14 ?c14 ?k14 ?a15 ?l15 ?c15 ?k15 ?a16 ?l16 ?c16 ?k16 ?a17 ?l17 ?c17 ?k17 ?a18 ?l18 ?c18 ?k18 ?a19 ?l19 ?c19 ?k19 ?a20 ?l20 ?c20 ?k20 ?a21 ?l21 ?c21 ?k21 ?a22 ?l22 ?c22 ?k22 ?a23 ?l23 ?c23 ?k23 ?a24 ?l24 ?c24 ?k24 ?a25 ?l25 ?c25 ?k25 ?a26 ?l26 ?c26 ?k26 ?a27 ?l27 ?c27 ?k27 ?a28 ?l28 ?c28 ?k28 ?a29 ?l29 ?c29 ?k29 ?a30 ?l30 ?c30 ?k30 ?a31 ?l31 ?c31 ?k31 ?a32 ?l32 ?c32 ?k32 ?a33 ?l33 ?c33 ?k33 ?a34 ?l34 ?c34 ?k34 ?a35 ?l35 ?c35 ?k35 ?a36 ?l36 ?c36 ?k36 ?a37 ?l37 ?c37 ?k37 ?a38 ?l38 ?c38 ?k38 ?a39 ?l39 ?c39 ?k39 ?a40 ?l40 ?c40 ?k40 ?z_all ?z_any ?z_bool ?z_enumerate ?z_int ?z_isinstance ?z_len ?z_list ?z_max ?z_range ?z_set ?z_sorted ?z_str ?z_tuple ?z_zip
    (case a0 => k_is); (case l0 => k_is); (case c0 => k_is); (case k0 => k_is); (case a1 => k_is); (case l1 => k_is); (case c1 => k_is); (case k1 => k_is); (case a2 => k_is); (case l2 => k_is); (case c2 => k_is); (case k2 => k_is); (case a3 => k_is); (case l3 => k_is); (case c3 => k_is); (case k3 => k_is); (case a4 => k_is); (case l4 => k_is); (case c4 => k_is); (case k4 => k_is); (case a5 => k_is); (case l5 => k_is); (case c5 => k_is); (case k5 => k_is); (case a6 => k_is); (case l6 => k_is); (case c6 => k_is); (case k6 => k_is); (case a7 => k_is); (case l7 => k_is); (case c7 => k_is); (case k7 => k_is); (case a8 => k_is); (case l8 => k_is); (case c8 => k_is); (case k8 => k_is); (case a9 => k_is); (case l9 => k_is); (case c9 => k_is); (case k9 => k_is); (case a10 => k_is); (case l10 => k_is); (case c10 => k_is); (case k10 => k_is); (case a11 => k_is); (case l11 => k_is); (case c11 => k_is); (case k11 => k_is); (case a12 => k_is); (case l12 => k_is); (case c12 => k_is); (case k12 => k_is); (case a13 => k_is); (case l13 => k_is); (case c13 => k_is); (case k13 => k_is); (case a14 => k_is); (case l14 => k_is); (case c14 => k_is); (case k14 => k_is); (case a15 => k_is); (case l15 => k_is); (case c15 => k_is); (case k15 => k_is); (case a16 => k_is); (case l16 => k_is); (case c16 => k_is); (case k16 => k_is); (case a17 => k_is); (case l17 => k_is); (case c17 => k_is); (case k17 => k_is); (case a18 => k_is); (case l18 => k_is); (case c18 => k_is); (case k18 => k_is); (case a19 => k_is); (case l19 => k_is); (case c19 => k_is); (case k19 => k_is); (case a20 => k_is); (case l20 => k_is); (case c20 => k_is); (case k20 => k_is); (case a21 => k_is); (case l21 => k_is); (case c21 => k_is); (case k21 => k_is); (case a22 => k_is); (case l22 => k_is); (case c22 => k_is); (case k22 => k_is); (case a23 => k_is); (case l23 => k_is); (case c23 => k_is); (case k23 => k_is); (case a24 => k_is); (case l24 => k_is); (case c24 => k_is); (case k24 => k_is); (case a25 => k_is); (case l25 => k_is); (case c25 => k_is); (case k25 => k_is); (case a26 => k_is); (case l26 => k_is); (case c26 => k_is); (case k26 => k_is); (case a27 => k_is); (case l27 => k_is); (case c27 => k_is); (case k27 => k_is); (case a28 => k_is); (case l28 => k_is); (case c28 => k_is); (case k28 => k_is); (case a29 => k_is); (case l29 => k_is); (case c29 => k_is); (case k29 => k_is); (case a30 => k_is); (case l30 => k_is); (case c30 => k_is); (case k30 => k_is); (case a31 => k_is); (case l31 => k_is); (case c31 => k_is); (case k31 => k_is); (case a32 => k_is); (case l32 => k_is); (case c32 => k_is); (case k32 => k_is); (case a33 => k_is); (case l33 => k_is); (case c33 => k_is); (case k33 => k_is); (case a34 => k_is); (case l34 => k_is); (case c34 => k_is); (case k34 => k_is); (case a35 => k_is); (case l35 => k_is); (case c35 => k_is); (case k35 => k_is); (case a36 => k_is); (case l36 => k_is); (case c36 => k_is); (case k36 => k_is); (case a37 => k_is); (case l37 => k_is); (case c37 => k_is); (case k37 => k_is); (case a38 => k_is); (case l38 => k_is); (case c38 => k_is); (case k38 => k_is); (case a39 => k_is); (case l39 => k_is); (case c39 => k_is); (case k39 => k_is); (case a40 => k_is); (case l40 => k_is); (case c40 => k_is); (case k40 => k_is); (case z_all => k_is); (case z_any => k_is); (case z_bool => k_is); (case z_enumerate => k_is); (case z_int => k_is); (case z_isinstance => k_is); (case z_len => k_is); (case z_list => k_is); (case z_max => k_is); (case z_range => k_is); (case z_set => k_is); (case z_sorted => k_is); (case z_str => k_is); (case z_tuple => k_is); (case z_zip => k_is)
