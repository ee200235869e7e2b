import PyProof.Rows.All
import Wide.All
import OpenK.AllK
import Wide.FinOn
import HandS.ForMost
import HandS.Deep
import HandS.Flow
import HandS.Wide
import HandS.Sort
import HandS.SortRule
import HandS.SortInts
import HandS.SortKw
import HandS.IsInst
import HandS.SetFor
import HandS.TupLe
import HandS.Conv
import HandS.Codes
import HandS.Style
import HandS.Defaults
import HandS.More
import HandS.ExcInit
import HandS.ExcField
import HandS.ExcIs
import HandS.ExcOwn
import HandS.WordsExc
import HandS.HeadHook2
import KE.KExcIs
import HandS.Ends
import HandS.Words
import HandS.Head0
import HandS.Head1
import HandS.Head2
import HandS.HeadEnd
import HandS.HeadHook1
import PySem.Challenge.RW_havenwebs_k86_whole_centres_of_trees
set_option Elab.async false
set_option linter.all false
set_option maxRecDepth 100000
set_option maxHeartbeats 4000000
/-! DL1: readings over data: what is known of slots and of objects that may change; the state between statements. -/
namespace DL
open PySem PySem.Spec PyProof.Rows L2

abbrev D := PyData

/-! ### heaps -/
theorem same_new {H : Hp} {p : Addr} {o : HO} (h : H p = none) : Same H (upd H p o) := fun b u e => by
  rw [upd_ne (ne_of_none e h)]
  exact e
theorem same_upd {F H : Hp} {p : Addr} {o : HO} (e : Same F H) (h : F p = none) : Same F (upd H p o) := fun b u q => by
  rw [upd_ne (ne_of_none q h)]
  exact e b u q
theorem same_rd {F H : Hp} {a : Addr} {u : HO} (e : Same F H) (h : Rd F a u) : Rd H a u := by
  rcases h with h | ⟨o, h⟩
  · exact .inl (e a _ h)
  · exact .inr ⟨o, e a _ h⟩
theorem same_l {K : PySem.W.Frag} {F H : Hp} {a : Addr} {xs : List V} (e : Same F H) (h : SqL K F a xs) : SqL K H a xs := h.imp (same_rd e) id
mutual
/- data: every list and tuple of it stands in the heap -/
inductive Da (H : Hp) : V → PyData → Prop
  | non : Da H .non .none
  | bl (b : Bool) : Da H (.bl b) (.bool b)
  | int (i : Int) : Da H (.int i) (.int i)
  | str (x : Str) : Da H (.str x) (.str x)
  | lst {a : Addr} {xs : List V} {ds : List PyData} : H a = some (.lst xs) → Das H xs ds → Da H (.ref a) (.list ds)
  | tup {a : Addr} {xs : List V} {ds : List PyData} : H a = some (.tup xs) → Das H xs ds → Da H (.ref a) (.tuple ds)
inductive Das (H : Hp) : List V → List PyData → Prop
  | nil : Das H [] []
  | cons {v : V} {vs : List V} {d : PyData} {ds : List PyData} : Da H v d → Das H vs ds → Das H (v :: vs) (d :: ds)
end
mutual
theorem Da.dp {K : PySem.W.Frag} {F : Hp} : ∀ (d : PyData) (v : V), Da F v d → Dp K F v d
  | .none, _, h => by cases h; exact .non
  | .bool b, _, h => by cases h; exact .bl b
  | .int i, _, h => by cases h; exact .int i
  | .str x, _, h => by cases h; exact .str x
  | .list ds, _, h => by
    cases h with
    | lst hs ha => exact .lst (SqL.of hs) (Das.dp ds _ ha)
  | .tuple ds, _, h => by
    cases h with
    | tup hs ha => exact .tup (SqT.of hs) (Das.dp ds _ ha)
  | .dict _, _, h => by cases h
theorem Das.dp {K : PySem.W.Frag} {F : Hp} : ∀ (ds : List PyData) (vs : List V), Das F vs ds → DpAll K F vs ds
  | [], _, h => by cases h; exact .nil
  | d :: ds, _, h => by
    cases h with
    | cons h1 h2 => exact .cons (Da.dp d _ h1) (Das.dp ds _ h2)
end
mutual
theorem daM {F H : Hp} (e : Same F H) : ∀ (d : PyData) (v : V), Da F v d → Da H v d
  | .none, _, h => by cases h; exact .non
  | .bool b, _, h => by cases h; exact .bl b
  | .int i, _, h => by cases h; exact .int i
  | .str x, _, h => by cases h; exact .str x
  | .list ds, _, h => by
    cases h with
    | lst hs ha => exact .lst (e _ _ hs) (dasM e ds _ ha)
  | .tuple ds, _, h => by
    cases h with
    | tup hs ha => exact .tup (e _ _ hs) (dasM e ds _ ha)
  | .dict _, _, h => by cases h
theorem dasM {F H : Hp} (e : Same F H) : ∀ (ds : List PyData) (vs : List V), Das F vs ds → Das H vs ds
  | [], _, h => by cases h; exact .nil
  | d :: ds, _, h => by
    cases h with
    | cons h1 h2 => exact .cons (daM e d _ h1) (dasM e ds _ h2)
end
mutual
/- no list is in it -/
def lf : PyData → Bool
  | .none => true
  | .bool _ => true
  | .int _ => true
  | .str _ => true
  | .list _ => false
  | .tuple xs => lfs xs
  | .dict _ => false
def lfs : List PyData → Bool
  | [] => true
  | x :: xs => lf x && lfs xs
end
def isT : HO → Bool
  | .tup _ => true
  | _ => false
def Tups (F H : Hp) : Prop := ∀ a o, F a = some o → isT o = true → H a = some o
mutual
theorem daT {F H : Hp} (e : Tups F H) : ∀ (d : PyData) (v : V), lf d = true → Da F v d → Da H v d
  | .none, _, _, h => by cases h; exact .non
  | .bool b, _, _, h => by cases h; exact .bl b
  | .int i, _, _, h => by cases h; exact .int i
  | .str x, _, _, h => by cases h; exact .str x
  | .list ds, _, l, h => by simp [lf] at l
  | .tuple ds, _, l, h => by
    cases h with
    | tup hs ha => exact .tup (e _ _ hs rfl) (dasT e ds _ (by simpa [lf] using l) ha)
  | .dict _, _, l, h => by cases h
theorem dasT {F H : Hp} (e : Tups F H) : ∀ (ds : List PyData) (vs : List V), lfs ds = true → Das F vs ds → Das H vs ds
  | [], _, _, h => by cases h; exact .nil
  | d :: ds, _, l, h => by
    cases h with
    | cons h1 h2 =>
      have l' : lf d = true ∧ lfs ds = true := by simpa [lfs] using l
      exact .cons (daT e d _ l'.1 h1) (dasT e ds _ l'.2 h2)
end
section
variable {F : Hp}
theorem das_len : ∀ {vs : List V} {ds : List PyData}, Das F vs ds → vs.length = ds.length
  | _, _, .nil => rfl
  | _, _, .cons _ t => by simp [das_len t]
theorem das_get : ∀ {vs : List V} {ds : List PyData} {i : Nat} {v : V}, Das F vs ds → vs[i]? = some v → ∃ d, ds[i]? = some d ∧ Da F v d
  | _, _, _, _, .nil, e => by simp at e
  | _, _, 0, _, .cons r _, e => by simp at e; subst e; exact ⟨_, rfl, r⟩
  | _, _, i + 1, v, .cons _ t, e => by
    obtain ⟨d, h1, h2⟩ := das_get (i := i) (v := v) t (by simpa using e)
    exact ⟨d, by simpa using h1, h2⟩
theorem das_get' {vs : List V} {ds : List PyData} {i : Nat} {d : PyData} (h : Das F vs ds) (e : ds[i]? = some d) : ∃ v, vs[i]? = some v ∧ Da F v d := by
  have hl := das_len h
  obtain ⟨hi, _⟩ := List.getElem?_eq_some_iff.mp e
  obtain ⟨d', h1, h2⟩ := das_get h (List.getElem?_eq_getElem (show i < vs.length by omega))
  rw [e] at h1
  cases h1
  exact ⟨_, List.getElem?_eq_getElem (by omega), h2⟩
theorem das_app : ∀ {vs ws : List V} {ds es : List PyData}, Das F vs ds → Das F ws es → Das F (vs ++ ws) (ds ++ es)
  | _, _, _, _, .nil, s => s
  | _, _, _, _, .cons r t, s => .cons r (das_app t s)
theorem das_one {v : V} {d : PyData} (h : Da F v d) : Das F [v] [d] := .cons h .nil
theorem das_take : ∀ {vs : List V} {ds : List PyData} (n : Nat), Das F vs ds → Das F (vs.take n) (ds.take n)
  | _, _, 0, _ => .nil
  | _, _, _ + 1, .nil => .nil
  | _, _, n + 1, .cons r t => .cons r (das_take n t)
theorem das_drop : ∀ {vs : List V} {ds : List PyData} (n : Nat), Das F vs ds → Das F (vs.drop n) (ds.drop n)
  | _, _, 0, r => r
  | _, _, _ + 1, .nil => .nil
  | _, _, n + 1, .cons _ t => das_drop n t
theorem das_set {v : V} {d : PyData} (r : Da F v d) : ∀ {vs : List V} {ds : List PyData} (i : Nat), Das F vs ds → Das F (vs.set i v) (ds.set i d)
  | _, _, _, .nil => .nil
  | _, _, 0, .cons _ t => .cons r t
  | _, _, i + 1, .cons q t => .cons q (das_set r i t)
theorem das_erase : ∀ {vs : List V} {ds : List PyData} (i : Nat), Das F vs ds → Das F (vs.eraseIdx i) (ds.eraseIdx i)
  | _, _, _, .nil => .nil
  | _, _, 0, .cons _ t => t
  | _, _, i + 1, .cons q t => .cons q (das_erase i t)
theorem das_dropLast {vs : List V} {ds : List PyData} (h : Das F vs ds) : Das F vs.dropLast ds.dropLast := by
  rw [List.dropLast_eq_take, List.dropLast_eq_take, das_len h]
  exact das_take _ h
theorem das_rev : ∀ {vs : List V} {ds : List PyData}, Das F vs ds → Das F vs.reverse ds.reverse
  | _, _, .nil => .nil
  | _, _, .cons r t => by
    rw [List.reverse_cons, List.reverse_cons]
    exact das_app (das_rev t) (das_one r)
theorem das_int : ∀ {ns : List Int} {vs : List V}, Das F vs (ns.map PyData.int) → vs = ns.map V.int
  | [], _, h => by cases h; rfl
  | n :: ns, _, h => by
    cases h with
    | cons h1 h2 =>
      cases h1
      rw [das_int h2]
      rfl
theorem das_ints : ∀ (ns : List Int), Das F (ns.map V.int) (ns.map PyData.int)
  | [] => .nil
  | n :: ns => .cons (.int n) (das_ints ns)
theorem das_bool : ∀ {bs : List Bool} {vs : List V}, Das F vs (bs.map PyData.bool) → vs = bs.map V.bl
  | [], _, h => by cases h; rfl
  | n :: ns, _, h => by
    cases h with
    | cons h1 h2 =>
      cases h1
      rw [das_bool h2]
      rfl
end

/-! ### the state -/
/-- what is known of a slot: nothing; data that this def has made (or without lists); data that was handed in; an object that may change -/
inductive Sl where
  | un
  | fr (d : PyData)
  | bo (d : PyData)
  | pt (a : Addr)
  | sq (ns : List Int)
  | ex (a dd : Addr) (f : Str) (d : PyData)
  | tv (vs : List V)
/-- an object that may change: a list; a law's feed -/
inductive Ob where
  | l (ds : List PyData)
  | fd (s : Addr) (ns : List Int)
  | lw (k : Nat)
abbrev OL := List (Addr × Ob)
abbrev noA : Hp := fun _ => none
/-- what is constant through a def: the module's part, the heap at the entry, what may be borrowed, what may be changed of the entry's heap, what else is held -/
structure Cn where
  K : PySem.W.Frag
  H0 : Hp
  B : Hp
  M : List Addr
  G : List (V × PyData)
  A : Hp
/-- a feed's numbers -/
structure FeedI (n : Nat) (i w sd : Int) : Prop where
  i0 : 0 ≤ i
  i1 : i ≤ n
  w0 : 0 ≤ w
  s0 : 0 ≤ sd
  s1 : sd < 2147483647
def ObOk (c : Cn) (F H : Hp) (a : Addr) : Ob → Prop
  | .l ds => c.H0 a = none ∧ ∃ vs, H a = some (.lst vs) ∧ Das F vs ds
  | .lw k => c.H0 a = none ∧ ∃ vs, H a = some (.lst vs) ∧ vs.length ≤ k
  | .fd s ns => (c.H0 a = none ∨ a ∈ c.M) ∧ (∃ i w sd : Int, H a = some (.lst [.ref s, .int i, .int w, .int sd]) ∧ FeedI ns.length i w sd) ∧ (SqL c.K F s (ns.map V.int) ∨ SqL c.K c.B s (ns.map V.int))
def SlOk (c : Cn) (F : Hp) (x : Option V) : Sl → Prop
  | .un => True
  | .fr d => ∃ v, x = some v ∧ Da F v d
  | .bo d => ∃ v, x = some v ∧ Da c.B v d
  | .pt a => x = some (.ref a)
  | .sq ns => ∃ a, x = some (.ref a) ∧ SqL c.K c.B a (ns.map V.int)
  | .ex a dd f d => x = some (.ref a) ∧ ∃ v, F dd = some (.xd [(f, v)]) ∧ Da F v d
  | .tv vs => ∃ t, x = some (.ref t) ∧ F t = some (.tup vs)
structure Is (c : Cn) (F H : Hp) (σ : L2.St) (Γ : List Sl) (O : OL) : Prop where
  fh : Same F H
  bh : Same c.B H
  ft : Tups H F
  f0 : ∀ a o, F a = some o → c.H0 a = none ∨ isT o = true ∨ c.A a = some o
  h0 : ∀ a o, c.H0 a = some o → a ∉ c.M → H a = some o
  mm : ∀ a, a ∈ c.M → H a ≠ none
  nd : (O.map (·.1)).Nodup
  oF : ∀ e ∈ O, F e.1 = none
  oB : ∀ e ∈ O, c.B e.1 = none
  oH : ∀ e ∈ O, ObOk c F H e.1 e.2
  gh : ∀ p ∈ c.G, Da F p.1 p.2
  bz : ∀ a, c.H0 a = none → c.B a = none
  ln : σ.length = Γ.length
  sl : ∀ (i : Nat) (s : Sl), Γ[i]? = some s → SlOk c F ((σ[i]?).bind id) s
/-- from one point to a later one; what Hs has is safe -/
structure Gr (Hs F H : Hp) (O : OL) (F' H' : Hp) (O' : OL) : Prop where
  ff : Same F F'
  hh : ∀ a o, Hs a ≠ none → H a = some o → a ∉ O.map (·.1) → H' a = some o
  nf : ∀ a, Hs a ≠ none → a ∉ O.map (·.1) → F a = none → F' a = none
  kk : ∀ a, a ∈ O'.map (·.1) → a ∈ O.map (·.1) ∨ Hs a = none
  dm : ∀ a, H' a = none → H a = none
section
variable {c : Cn} {Hs Hr F H F' H' F1 H1 F2 H2 : Hp} {σ σ' : L2.St} {Γ Γ' : List Sl} {O O' O1 O2 : OL}
theorem Gr.refl (Hs F H : Hp) (O : OL) : Gr Hs F H O F H O := ⟨Same.refl _, fun _ _ _ h _ => h, fun _ _ _ h => h, fun _ h => .inl h, fun _ h => h⟩
theorem Gr.trans (a : Gr Hs F H O F1 H1 O1) (b : Gr Hs F1 H1 O1 F2 H2 O2) : Gr Hs F H O F2 H2 O2 := by
  have key : ∀ x, Hs x ≠ none → x ∉ O.map (·.1) → x ∉ O1.map (·.1) := fun x e n m => (a.kk x m).elim n e
  refine ⟨a.ff.trans b.ff, fun x o s e n => b.hh x o s (a.hh x o s e n) (key x s n), fun x s n f => b.nf x s (key x s n) (a.nf x s n f), fun x m => ?_, fun x h => a.dm x (b.dm x h)⟩
  rcases b.kk x m with q | q
  · exact a.kk x q
  · exact .inr q
/-- what a lesser heap has is safe, too -/
theorem Gr.less (e : ∀ a, Hs a = none → Hr a = none) (g : Gr Hs F H O F' H' O') : Gr Hr F H O F' H' O' :=
  ⟨g.ff, fun x o s => g.hh x o fun z => s (e x z), fun x s => g.nf x fun z => s (e x z), fun x m => (g.kk x m).imp id (e x), g.dm⟩
theorem ObOk.mono {a : Addr} {u : Ob} (e : Same F F') (hh : H a = H' a) (h : ObOk c F H a u) : ObOk c F' H' a u := by
  cases u with
  | l ds =>
    obtain ⟨h0, vs, h1, h2⟩ := h
    exact ⟨h0, vs, by rw [← hh]; exact h1, dasM e _ _ h2⟩
  | fd s ns =>
    obtain ⟨h0, ⟨i, w, sd, h1, h2⟩, h3⟩ := h
    exact ⟨h0, ⟨i, w, sd, by rw [← hh]; exact h1, h2⟩, h3.imp (same_l e) id⟩
  | lw k =>
    obtain ⟨h0, vs, h1, h2⟩ := h
    exact ⟨h0, vs, by rw [← hh]; exact h1, h2⟩
theorem ObOk.there {a : Addr} {u : Ob} (h : ObOk c F H a u) : ∃ vs, H a = some (.lst vs) := by
  cases u with
  | l ds => obtain ⟨_, vs, h1, _⟩ := h; exact ⟨_, h1⟩
  | fd s ns => obtain ⟨_, ⟨i, w, sd, h1, _⟩, _⟩ := h; exact ⟨_, h1⟩
  | lw k => obtain ⟨_, vs, h1, _⟩ := h; exact ⟨_, h1⟩
theorem SlOk.mono {x : Option V} {s : Sl} (e : Same F F') (h : SlOk c F x s) : SlOk c F' x s := by
  cases s with
  | un => trivial
  | fr d => obtain ⟨v, h1, h2⟩ := h; exact ⟨v, h1, daM e _ _ h2⟩
  | bo d => exact h
  | pt a => exact h
  | sq ns => exact h
  | ex a dd f d => obtain ⟨h1, v, h2, h3⟩ := h; exact ⟨h1, v, e _ _ h2, daM e _ _ h3⟩
  | tv vs => obtain ⟨t, h1, h2⟩ := h; exact ⟨t, h1, e _ _ h2⟩
/-- an address with nothing in H is no key -/
theorem Is.notKey (I : Is c F H σ Γ O) {p : Addr} (hp : H p = none) : p ∉ O.map (·.1) := fun m => by
  obtain ⟨e, he, rfl⟩ := List.mem_map.mp m
  obtain ⟨vs, q⟩ := (I.oH e he).there
  rw [hp] at q
  cases q
theorem Is.h0none (I : Is c F H σ Γ O) {p : Addr} (hp : H p = none) : c.H0 p = none := by
  have m : p ∉ c.M := fun m => I.mm p m hp
  cases q : c.H0 p with
  | none => rfl
  | some o => rw [I.h0 p o q m] at hp; cases hp
/-- the abstract heap has grown, the view with it, the keys stand -/
theorem Is.grow (I : Is c F H σ Γ O) (ef : Same F F') (eh : ∀ a o, H a = some o → H' a = some o) (fh : Same F' H') (ft : Tups H' F') (f0 : ∀ a o, F' a = some o → c.H0 a = none ∨ isT o = true ∨ c.A a = some o)
    (hk : ∀ e ∈ O, F' e.1 = none) : Is c F' H' σ Γ O :=
  ⟨fh, fun a o e => eh a o (I.bh a o e), ft, f0, fun a o e m => eh a o (I.h0 a o e m), (fun a m z => I.mm a m (Same.free (fun b o e => eh b o e) z)), I.nd, hk, I.oB, fun e he => by
    obtain ⟨vs, q⟩ := (I.oH e he).there
    exact (I.oH e he).mono ef (by rw [q, eh _ _ q]), fun p hp => daM ef _ _ (I.gh p hp), I.bz, I.ln, fun i s e => (I.sl i s e).mono ef⟩
/-- a new list, not seen -/
theorem Is.newL (I : Is c F H σ Γ O) {p : Addr} (hp : H p = none) (xs : List V) : Is c F (upd H p (.lst xs)) σ Γ O ∧ Gr Hs F H O F (upd H p (.lst xs)) O := by
  have fp : F p = none := I.fh.free hp
  refine ⟨I.grow (Same.refl _) (fun a o e => same_new hp a o e) (same_upd I.fh fp) (fun a o e t => ?_) I.f0 I.oF, Same.refl _, fun a o _ e _ => same_new hp a o e, fun _ _ _ h => h, fun _ h => .inl h, fun a h => (same_new hp).free h⟩
  by_cases ha : a = p
  · subst ha
    rw [upd_same] at e
    cases e
    cases t
  · rw [upd_ne ha] at e
    exact I.ft a o e t
/-- a new tuple, seen -/
theorem Is.newT (I : Is c F H σ Γ O) {p : Addr} (hp : H p = none) (xs : List V) : Is c (upd F p (.tup xs)) (upd H p (.tup xs)) σ Γ O ∧ ((∀ a, H a = none → Hs a = none) → Gr Hs F H O (upd F p (.tup xs)) (upd H p (.tup xs)) O) := by
  have fp : F p = none := I.fh.free hp
  refine ⟨I.grow (same_new fp) (fun a o e => same_new hp a o e) (fun a o e => ?_) (fun a o e t => ?_) (fun a o e => ?_) (fun e he => ?_), fun hs => ⟨same_new fp, fun a o _ e _ => same_new hp a o e, fun a ha _ hf => ?_, fun _ h => .inl h, fun a h => (same_new hp).free h⟩⟩
  · by_cases ha : a = p
    · subst ha
      rw [upd_same] at e ⊢
      exact e
    · rw [upd_ne ha] at e ⊢
      exact I.fh a o e
  · by_cases ha : a = p
    · subst ha
      rw [upd_same] at e ⊢
      exact e
    · rw [upd_ne ha] at e ⊢
      exact I.ft a o e t
  · by_cases ha : a = p
    · subst ha
      rw [upd_same] at e
      cases e
      exact .inr (.inl rfl)
    · rw [upd_ne ha] at e
      exact I.f0 a o e
  · have hk : e.1 ≠ p := fun q => I.notKey hp (by rw [← q]; exact List.mem_map_of_mem he)
    rw [upd_ne hk]
    exact I.oF e he
  · rw [upd_ne (fun q => ha (by rw [q]; exact hs p hp))]
    exact hf
/-- what stands in H and is not seen comes to be seen: new lists -/
theorem Is.see (I : Is c F H σ Γ O) {ps : List Addr} (h0 : ∀ p ∈ ps, c.H0 p = none) (hk : ∀ p ∈ ps, p ∉ O.map (·.1)) :
    ∃ F', Is c F' H σ Γ O ∧ Same F F' ∧ (∀ p ∈ ps, F' p = H p) ∧ (∀ a, a ∉ ps → F' a = F a) := by
  classical
  have sf : Same F (fun a => if a ∈ ps then H a else F a) := fun a o e => by
    by_cases ha : a ∈ ps
    · show (if a ∈ ps then H a else F a) = _
      rw [if_pos ha]
      exact I.fh a o e
    · show (if a ∈ ps then H a else F a) = _
      rw [if_neg ha]
      exact e
  refine ⟨fun a => if a ∈ ps then H a else F a, I.grow sf (fun _ _ e => e) (fun a o e => ?_) (fun a o e t => sf a o (I.ft a o e t)) (fun a o e => ?_) (fun e he => ?_), sf, fun p hp => if_pos hp, fun a ha => if_neg ha⟩
  · by_cases ha : a ∈ ps
    · exact (if_pos ha).symm.trans e
    · exact I.fh a o ((if_neg ha).symm.trans e)
  · by_cases ha : a ∈ ps
    · exact .inl (h0 a ha)
    · exact I.f0 a o ((if_neg ha).symm.trans e)
  · have hm : e.1 ∉ ps := fun q => hk e.1 q (List.mem_map_of_mem he)
    show (if e.1 ∈ ps then H e.1 else F e.1) = none
    rw [if_neg hm]
    exact I.oF e he
end
end DL

/-! DL2: what an expression gives, as data; the rules of expressions. -/
namespace DL
open PySem PySem.Spec PyProof.Rows L2

/-- what an expression gives: data of this def's making, borrowed data, an object that may change, a new list that nothing else holds, the script -/
inductive Res where
  | fr (d : PyData)
  | bo (d : PyData)
  | pt (a : Addr)
  | nw (ds : List PyData)
  | sq (ns : List Int)
  | ty (n : String)
def Nw (c : Cn) (Hs F H : Hp) (O : OL) (p : Addr) (vs : List V) : Prop := H p = some (.lst vs) ∧ F p = none ∧ p ∉ O.map (·.1) ∧ c.H0 p = none ∧ Hs p = none
def ResOk (c : Cn) (Hs F H : Hp) (O : OL) (v : V) : Res → Prop
  | .fr d => Da F v d
  | .bo d => Da c.B v d
  | .pt a => v = .ref a
  | .nw ds => ∃ p vs, v = .ref p ∧ Nw c Hs F H O p vs ∧ Das F vs ds
  | .sq ns => ∃ a, v = .ref a ∧ SqL c.K c.B a (ns.map V.int)
  | .ty n => v = .ty n
inductive ResOks (c : Cn) (Hs F H : Hp) (O : OL) : List V → List Res → Prop
  | nil : ResOks c Hs F H O [] []
  | cons {v : V} {vs : List V} {r : Res} {rs : List Res} : ResOk c Hs F H O v r → ResOks c Hs F H O vs rs → ResOks c Hs F H O (v :: vs) (r :: rs)
def Sl.res : Sl → Option Res
  | .un => none
  | .fr d => some (.fr d)
  | .bo d => some (.bo d)
  | .pt a => some (.pt a)
  | .sq ns => some (.sq ns)
  | .ex a _ _ _ => some (.pt a)
  | .tv _ => none
def We (c : Cn) (Γ : List Sl) (O : OL) (t : TE) (Φ : Res → OL → Prop) : Prop :=
  ∀ F H σ, Is c F H σ Γ O → ∀ Q : VK, (∀ v F' H' r O', Φ r O' → Is c F' H' σ Γ O' → Gr H F H O F' H' O' → ResOk c H F' H' O' v r → Q v H') → t σ H Q
def Wt (c : Cn) (Γ : List Sl) (O : OL) (t : TT) (Φ : Bool → OL → Prop) : Prop :=
  ∀ F H σ, Is c F H σ Γ O → ∀ Q : Bool → Hp → Prop, (∀ b F' H' O', Φ b O' → Is c F' H' σ Γ O' → Gr H F H O F' H' O' → Q b H') → t σ H Q
def Wa (c : Cn) (Γ : List Sl) (O : OL) (t : TA) (Φ : List Res → OL → Prop) : Prop :=
  ∀ F H σ, Is c F H σ Γ O → ∀ Q : List V → Hp → Prop, (∀ vs F' H' rs O', Φ rs O' → Is c F' H' σ Γ O' → Gr H F H O F' H' O' → ResOks c H F' H' O' vs rs → Q vs H') → t σ H Q
/-- Hs is an earlier heap -/
def Be (Hs H : Hp) : Prop := ∀ a, H a = none → Hs a = none
/-- operations by values -/
def Wo (c : Cn) (Γ : List Sl) (O : OL) (r : R2) (a b : Res) (Φ : Res → OL → Prop) : Prop :=
  ∀ Hs F H σ, Is c F H σ Γ O → Be Hs H → ∀ x y, ResOk c Hs F H O x a → ResOk c Hs F H O y b → ∀ Q : VK, (∀ v F' H' r O', Φ r O' → Is c F' H' σ Γ O' → Gr Hs F H O F' H' O' → ResOk c Hs F' H' O' v r → Q v H') → r x y H Q
def Wu (c : Cn) (Γ : List Sl) (O : OL) (r : V → Hp → VK → Prop) (a : Res) (Φ : Res → OL → Prop) : Prop :=
  ∀ Hs F H σ, Is c F H σ Γ O → Be Hs H → ∀ x, ResOk c Hs F H O x a → ∀ Q : VK, (∀ v F' H' r O', Φ r O' → Is c F' H' σ Γ O' → Gr Hs F H O F' H' O' → ResOk c Hs F' H' O' v r → Q v H') → r x H Q
def Wc (c : Cn) (Γ : List Sl) (O : OL) (r : List V → Hp → VK → Prop) (as : List Res) (Φ : Res → OL → Prop) : Prop :=
  ∀ Hs F H σ, Is c F H σ Γ O → Be Hs H → ∀ xs, ResOks c Hs F H O xs as → ∀ Q : VK, (∀ v F' H' r O', Φ r O' → Is c F' H' σ Γ O' → Gr Hs F H O F' H' O' → ResOk c Hs F' H' O' v r → Q v H') → r xs H Q
def Wm (c : Cn) (Γ : List Sl) (O : OL) (r : V → List V → Hp → VK → Prop) (a : Res) (as : List Res) (Φ : Res → OL → Prop) : Prop :=
  ∀ Hs F H σ, Is c F H σ Γ O → Be Hs H → ∀ x xs, ResOk c Hs F H O x a → ResOks c Hs F H O xs as → ∀ Q : VK, (∀ v F' H' r O', Φ r O' → Is c F' H' σ Γ O' → Gr Hs F H O F' H' O' → ResOk c Hs F' H' O' v r → Q v H') → r x xs H Q

section
variable {c : Cn} {Hs Hr F H F' H' F1 H1 F2 H2 : Hp} {σ σ' : L2.St} {Γ Γ' : List Sl} {O O' O1 O2 : OL} {v : V} {r : Res}
theorem Be.refl (H : Hp) : Be H H := fun _ h => h
theorem Be.trans (a : Be Hs H) (b : Be H H') : Be Hs H' := fun x h => a x (b x h)
theorem Gr.be (g : Gr Hs F H O F' H' O') : Be H H' := g.dm
theorem ResOk.gr (g : Gr H F H O F' H' O') (h : ResOk c Hs F H O v r) : ResOk c Hs F' H' O' v r := by
  cases r with
  | fr d => exact daM g.ff _ _ h
  | bo d => exact h
  | pt a => exact h
  | sq ns => exact h
  | ty n => exact h
  | nw ds =>
    obtain ⟨p, vs, e, ⟨h1, h2, h4, h5, h7⟩, h6⟩ := h
    have hn : H p ≠ none := by rw [h1]; exact fun z => nomatch z
    refine ⟨p, vs, e, ⟨g.hh p _ hn h1 h4, g.nf p hn h4 h2, fun m => ?_, h5, h7⟩, dasM g.ff _ _ h6⟩
    rcases g.kk p m with q | q
    · exact h4 q
    · exact hn q
theorem ResOk.less (e : Be Hr Hs) (h : ResOk c Hs F H O v r) : ResOk c Hr F H O v r := by
  cases r with
  | fr d => exact h
  | bo d => exact h
  | pt a => exact h
  | sq ns => exact h
  | ty n => exact h
  | nw ds =>
    obtain ⟨p, vs, e', ⟨h1, h2, h4, h5, h7⟩, h6⟩ := h
    exact ⟨p, vs, e', ⟨h1, h2, h4, h5, e p h7⟩, h6⟩
theorem ResOks.gr (g : Gr H F H O F' H' O') : ∀ {vs : List V} {rs : List Res}, ResOks c Hs F H O vs rs → ResOks c Hs F' H' O' vs rs
  | _, _, .nil => .nil
  | _, _, .cons a b => .cons (a.gr g) (ResOks.gr g b)
theorem ResOks.less (e : Be Hr Hs) : ∀ {vs : List V} {rs : List Res}, ResOks c Hs F H O vs rs → ResOks c Hr F H O vs rs
  | _, _, .nil => .nil
  | _, _, .cons a b => .cons (a.less e) (ResOks.less e b)

/-- the data of a result, read where it stands -/
inductive Any (O : OL) : Res → PyData → Prop
  | fr {d : PyData} : Any O (.fr d) d
  | bo {d : PyData} : Any O (.bo d) d
  | nw {ds : List PyData} : Any O (.nw ds) (.list ds)
  | pt {a : Addr} {ds : List PyData} (h : (a, Ob.l ds) ∈ O) : Any O (.pt a) (.list ds)
theorem Any.da (I : Is c F H σ Γ O) {d : PyData} (a : Any O r d) (h : ResOk c Hs F H O v r) : Da H v d := by
  cases a with
  | fr => exact daM I.fh _ _ h
  | bo => exact daM I.bh _ _ h
  | nw =>
    obtain ⟨p, vs, e, ⟨h1, _⟩, h6⟩ := h
    subst e
    exact .lst h1 (dasM I.fh _ _ h6)
  | pt m =>
    have e : v = .ref _ := h
    subst e
    obtain ⟨_, vs, h1, h2⟩ := I.oH _ m
    exact .lst h1 (dasM I.fh _ _ h2)
theorem Any.int (I : Is c F H σ Γ O) {i : Int} (a : Any O r (.int i)) (h : ResOk c Hs F H O v r) : v = .int i := by
  have := a.da I h
  cases this
  rfl
theorem Any.bool (I : Is c F H σ Γ O) {i : Bool} (a : Any O r (.bool i)) (h : ResOk c Hs F H O v r) : v = .bl i := by
  have := a.da I h
  cases this
  rfl
theorem Any.str (I : Is c F H σ Γ O) {i : Str} (a : Any O r (.str i)) (h : ResOk c Hs F H O v r) : v = .str i := by
  have := a.da I h
  cases this
  rfl
/-- a list whose items are data of W's kind: true: made here (or without lists) -/
inductive Seq (O : OL) : Res → List PyData → Bool → Prop
  | fr {ds : List PyData} : Seq O (.fr (.list ds)) ds true
  | nw {ds : List PyData} : Seq O (.nw ds) ds true
  | pt {a : Addr} {ds : List PyData} (h : (a, Ob.l ds) ∈ O) : Seq O (.pt a) ds true
  | bo {ds : List PyData} : Seq O (.bo (.list ds)) ds false
  | bf {ds : List PyData} (h : lfs ds = true) : Seq O (.bo (.list ds)) ds true
def Vw (c : Cn) (F : Hp) (b : Bool) : Hp := if b = true then F else c.B
theorem Is.tb (I : Is c F H σ Γ O) : Tups c.B F := fun a o e t => I.ft a o (I.bh a o e) t
theorem Seq.da (I : Is c F H σ Γ O) {ds : List PyData} {b : Bool} (a : Seq O r ds b) (h : ResOk c Hs F H O v r) : ∃ p vs, v = .ref p ∧ H p = some (.lst vs) ∧ Das (Vw c F b) vs ds := by
  cases a with
  | fr =>
    cases h with
    | lst h1 h2 => exact ⟨_, _, rfl, I.fh _ _ h1, h2⟩
  | bo =>
    cases h with
    | lst h1 h2 => exact ⟨_, _, rfl, I.bh _ _ h1, h2⟩
  | bf l =>
    cases h with
    | lst h1 h2 => exact ⟨_, _, rfl, I.bh _ _ h1, dasT I.tb _ _ l h2⟩
  | nw =>
    obtain ⟨p, vs, e, ⟨h1, _⟩, h6⟩ := h
    exact ⟨p, vs, e, h1, h6⟩
  | pt m =>
    have e : v = .ref _ := h
    obtain ⟨_, vs, h1, h2⟩ := I.oH _ m
    exact ⟨_, vs, e, h1, h2⟩
def Res.of : Bool → PyData → Res
  | true, d => .fr d
  | false, d => .bo d
theorem resOk_of {b : Bool} {d : PyData} (h : Da (Vw c F b) v d) : ResOk c Hs F H O v (Res.of b d) := by
  cases b with
  | true => exact h
  | false => exact h
/-- tuples -/
inductive Tup : Res → List PyData → Bool → Prop
  | fr {ds : List PyData} : Tup (.fr (.tuple ds)) ds true
  | bo {ds : List PyData} : Tup (.bo (.tuple ds)) ds false
theorem Tup.da (I : Is c F H σ Γ O) {ds : List PyData} {b : Bool} (a : Tup r ds b) (h : ResOk c Hs F H O v r) : ∃ p vs, v = .ref p ∧ H p = some (.tup vs) ∧ Das (Vw c F b) vs ds := by
  cases a with
  | fr =>
    cases h with
    | tup h1 h2 => exact ⟨_, _, rfl, I.fh _ _ h1, h2⟩
  | bo =>
    cases h with
    | tup h1 h2 => exact ⟨_, _, rfl, I.bh _ _ h1, h2⟩
/-- what can be put into data of this def's making -/
inductive Fz : Res → PyData → Prop
  | fr {d : PyData} : Fz (.fr d) d
  | bf {d : PyData} (h : lf d = true) : Fz (.bo d) d
  | nw {ds : List PyData} : Fz (.nw ds) (.list ds)
inductive Fzs : List Res → List PyData → Prop
  | nil : Fzs [] []
  | cons {r : Res} {rs : List Res} {d : PyData} {ds : List PyData} : Fz r d → Fzs rs ds → Fzs (r :: rs) (d :: ds)
/-- the addresses of new lists among results -/
theorem Fzs.see (I : Is c F H σ Γ O) : ∀ {rs : List Res} {ds : List PyData} {vs : List V}, Fzs rs ds → ResOks c Hs F H O vs rs →
    ∃ ps : List Addr, (∀ p ∈ ps, c.H0 p = none ∧ p ∉ O.map (·.1) ∧ Hs p = none) ∧ ∀ F', Same F F' → (∀ p ∈ ps, F' p = H p) → Das F' vs ds
  | _, _, _, .nil, .nil => ⟨[], fun p hp => (by cases hp), fun _ _ _ => Das.nil⟩
  | _, _, _, .cons a as, .cons h hs => by
    obtain ⟨ps, h1, h2⟩ := Fzs.see I as hs
    cases a with
    | fr => exact ⟨ps, h1, fun F' e k => .cons (daM e _ _ h) (h2 F' e k)⟩
    | bf l => exact ⟨ps, h1, fun F' e k => .cons (daM e _ _ (daT I.tb _ _ l h)) (h2 F' e k)⟩
    | nw =>
      obtain ⟨p, xs, rfl, ⟨n1, n2, n4, n5, n7⟩, n6⟩ := h
      refine ⟨p :: ps, fun q hq => ?_, fun F' e k => .cons (.lst ?_ (dasM e _ _ n6)) (h2 F' e fun q hq => k q (List.mem_cons_of_mem _ hq))⟩
      · rcases List.mem_cons.mp hq with rfl | hq
        · exact ⟨n5, n4, n7⟩
        · exact h1 q hq
      · rw [k p List.mem_cons_self]
        exact n1
/-- results put into data: the view grows -/
theorem Fzs.go (I : Is c F H σ Γ O) {rs : List Res} {ds : List PyData} {vs : List V} (f : Fzs rs ds) (h : ResOks c Hs F H O vs rs) : ∃ F', Is c F' H σ Γ O ∧ Gr Hs F H O F' H O ∧ Das F' vs ds := by
  obtain ⟨ps, h1, h2⟩ := f.see I h
  obtain ⟨F', I', e, k, k'⟩ := I.see (ps := ps) (fun p hp => (h1 p hp).1) fun p hp => (h1 p hp).2.1
  exact ⟨F', I', ⟨e, fun _ _ _ h _ => h, fun a s n f => by rw [k' a fun m => s (h1 a m).2.2]; exact f, fun _ h => .inl h, fun _ h => h⟩, h2 F' e k⟩
theorem Fz.go (I : Is c F H σ Γ O) {d : PyData} (f : Fz r d) (h : ResOk c Hs F H O v r) : ∃ F', Is c F' H σ Γ O ∧ Gr Hs F H O F' H O ∧ Da F' v d := by
  obtain ⟨F', I', e, k⟩ := Fzs.go I (.cons f .nil) (.cons h .nil)
  cases k with
  | cons k1 _ => exact ⟨F', I', e, k1⟩

/-! ### the rules: plain things -/
variable {Φ : Res → OL → Prop} {ta tb tc : TE} {t u : TT}
theorem We.imp {Ψ : Res → OL → Prop} (h : We c Γ O ta Φ) (k : ∀ r O', Φ r O' → Ψ r O') : We c Γ O ta Ψ := fun F H σ I Q q => h F H σ I Q fun v F' H' r O' p => q v F' H' r O' (k r O' p)
theorem Wt.imp {Φ Ψ : Bool → OL → Prop} (h : Wt c Γ O t Φ) (k : ∀ r O', Φ r O' → Ψ r O') : Wt c Γ O t Ψ := fun F H σ I Q q => h F H σ I Q fun v F' H' r p => q v F' H' r (k v r p)
theorem we_var {i : Nat} {s : Sl} {r : Res} (h : Γ[i]? = some s) (hr : s.res = some r) (k : Φ r O) : We c Γ O (tVar i) Φ := by
  intro F H σ I Q q
  have z := I.sl i s h
  have lift : ∀ v, (σ[i]?).bind id = some v → σ[i]? = some (some v) := fun v e => by
    cases hx : σ[i]? with
    | none => rw [hx] at e; cases e
    | some x => rw [hx] at e; exact congrArg some e
  cases s with
  | un => cases hr
  | fr d =>
    cases hr
    obtain ⟨v, e, h2⟩ := z
    exact ⟨v, lift v e, q v F H _ O k I (Gr.refl _ _ _ _) h2⟩
  | bo d =>
    cases hr
    obtain ⟨v, e, h2⟩ := z
    exact ⟨v, lift v e, q v F H _ O k I (Gr.refl _ _ _ _) h2⟩
  | pt a =>
    cases hr
    exact ⟨.ref a, lift _ z, q _ F H _ O k I (Gr.refl _ _ _ _) rfl⟩
  | sq ns =>
    cases hr
    obtain ⟨a, e, h2⟩ := z
    exact ⟨.ref a, lift _ e, q _ F H _ O k I (Gr.refl _ _ _ _) ⟨a, rfl, h2⟩⟩
  | ex a dd f d =>
    cases hr
    exact ⟨.ref a, lift _ z.1, q _ F H _ O k I (Gr.refl _ _ _ _) rfl⟩
  | tv vs => cases hr
theorem we_int {i : Int} (k : Φ (.fr (.int i)) O) : We c Γ O (tC (.int i)) Φ := fun F H σ I Q q => q _ F H _ O k I (Gr.refl _ _ _ _) (Da.int i)
theorem we_bl {i : Bool} (k : Φ (.fr (.bool i)) O) : We c Γ O (tC (.bl i)) Φ := fun F H σ I Q q => q _ F H _ O k I (Gr.refl _ _ _ _) (Da.bl i)
theorem we_str {i : Str} (k : Φ (.fr (.str i)) O) : We c Γ O (tC (.str i)) Φ := fun F H σ I Q q => q _ F H _ O k I (Gr.refl _ _ _ _) (Da.str i)
theorem we_ty {n : String} (k : Φ (.ty n) O) : We c Γ O (tC (.ty n)) Φ := fun F H σ I Q q => q _ F H _ O k I (Gr.refl _ _ _ _) rfl
theorem we_non (k : Φ (.fr .none) O) : We c Γ O (tC .non) Φ := fun F H σ I Q q => q _ F H _ O k I (Gr.refl _ _ _ _) Da.non
/-- one evaluation behind another -/
theorem Gr.then (g1 : Gr H F H O F1 H1 O1) (g2 : Gr H1 F1 H1 O1 F2 H2 O2) : Gr H F H O F2 H2 O2 := g1.trans (g2.less g1.be)
theorem We.then {Ψ : Res → OL → Prop} {Q : VK} (I : Is c F1 H1 σ Γ O1) (g1 : Gr H F H O F1 H1 O1) (h : We c Γ O1 ta Ψ)
    (q : ∀ v F' H' r O', Ψ r O' → Is c F' H' σ Γ O' → Gr H F H O F' H' O' → Gr H1 F1 H1 O1 F' H' O' → ResOk c H F' H' O' v r → Q v H') : ta σ H1 Q :=
  h F1 H1 σ I Q fun v F2 H2 r O2 p2 I2 g2 ro => q v F2 H2 r O2 p2 I2 (g1.then g2) g2 (ro.less g1.be)
theorem we_op {r : R2} (h : We c Γ O ta fun a O1 => We c Γ O1 tb fun b O2 => Wo c Γ O2 r a b Φ) : We c Γ O (tOp r ta tb) Φ := fun F H σ I Q q =>
  h F H σ I _ fun x F1 H1 a O1 p I1 g1 ra => p.then I1 g1 fun y F2 H2 b O2 p2 I2 g2 g12 rb => p2 H F2 H2 σ I2 g2.be x y (ra.gr g12) rb Q fun v F3 H3 r3 O3 p3 I3 g3 r4 => q v F3 H3 r3 O3 p3 I3 (g2.trans g3) r4
theorem we_un {r : V → Hp → VK → Prop} (h : We c Γ O ta fun a O1 => Wu c Γ O1 r a Φ) : We c Γ O (tUn r ta) Φ := fun F H σ I Q q =>
  h F H σ I _ fun x F1 H1 a O1 p I1 g1 ra => p H F1 H1 σ I1 g1.be x ra Q fun v F3 H3 r3 O3 p3 I3 g3 r4 => q v F3 H3 r3 O3 p3 I3 (g1.trans g3) r4
theorem we_chain {r r' : R2} (h : We c Γ O ta fun a O1 => We c Γ O1 tb fun b O2 => Wo c Γ O2 r a b fun z O3 => ∃ k, Any O3 z (.bool k) ∧ if k = true then ∃ bd, Any O2 b bd ∧ lf bd = true ∧ We c Γ O3 tc fun e O4 => (Wo c Γ O4 r' (.fr bd) e Φ) else Φ (.fr (.bool false)) O3) :
    We c Γ O (tChain r r' ta tb tc) Φ := fun F H σ I Q q =>
  h F H σ I _ fun x F1 H1 a O1 p I1 g1 ra => p.then I1 g1 fun y F2 H2 b O2 p2 I2 g2 g12 rb => p2 H F2 H2 σ I2 g2.be x y (ra.gr g12) rb _ fun z F3 H3 r3 O3 p3 I3 g3 r4 => by
    obtain ⟨k, ka, p3⟩ := p3
    refine ⟨k, ka.bool I3 r4, ?_⟩
    cases k with
    | true =>
      obtain ⟨bd, kb, kl, p3⟩ := p3
      have y3 : Da F3 y bd := daM g3.ff _ _ (daT I2.ft _ _ kl (kb.da I2 rb))
      exact We.then I3 (g2.trans g3) p3 fun w F4 H4 e O4 p4 I4 g4 g34 re => p4 H F4 H4 σ I4 g4.be y w (daM g34.ff _ _ y3) re Q fun v F5 H5 r5 O5 p5 I5 g5 r6 => q v F5 H5 r5 O5 p5 I5 (g4.trans g5) r6
    | false => exact q _ F3 H3 _ O3 p3 I3 (g2.trans g3) (Da.bl false)
theorem we_if (h : Wt c Γ O t fun b O1 => if b = true then We c Γ O1 ta Φ else We c Γ O1 tb Φ) : We c Γ O (tIf t ta tb) Φ := fun F H σ I Q q =>
  h F H σ I _ fun b F1 H1 O1 p I1 g1 => by
    cases b with
    | true => exact We.then I1 g1 p fun v F2 H2 r O2 p2 I2 g2 _ => q v F2 H2 r O2 p2 I2 g2
    | false => exact We.then I1 g1 p fun v F2 H2 r O2 p2 I2 g2 _ => q v F2 H2 r O2 p2 I2 g2
theorem we_and (h : We c Γ O ta fun a O1 => ∃ k, Any O1 a (.bool k) ∧ if k = true then We c Γ O1 tb Φ else Φ (.fr (.bool false)) O1) : We c Γ O (tAndV ta tb) Φ := fun F H σ I Q q =>
  h F H σ I _ fun x F1 H1 a O1 p I1 g1 ra => by
    obtain ⟨k, ka, p⟩ := p
    refine ⟨k, ka.bool I1 ra, ?_⟩
    cases k with
    | true => exact We.then I1 g1 p fun v F2 H2 r O2 p2 I2 g2 _ => q v F2 H2 r O2 p2 I2 g2
    | false => exact q _ F1 H1 _ O1 p I1 g1 (Da.bl false)
theorem we_or (h : We c Γ O ta fun a O1 => ∃ k, Any O1 a (.bool k) ∧ if k = true then Φ (.fr (.bool true)) O1 else We c Γ O1 tb Φ) : We c Γ O (tOrV ta tb) Φ := fun F H σ I Q q =>
  h F H σ I _ fun x F1 H1 a O1 p I1 g1 ra => by
    obtain ⟨k, ka, p⟩ := p
    refine ⟨k, ka.bool I1 ra, ?_⟩
    cases k with
    | false => exact We.then I1 g1 p fun v F2 H2 r O2 p2 I2 g2 _ => q v F2 H2 r O2 p2 I2 g2
    | true => exact q _ F1 H1 _ O1 p I1 g1 (Da.bl true)
theorem we_not (h : We c Γ O ta fun a O1 => ∃ k, Any O1 a (.bool k) ∧ Φ (.fr (.bool (!k))) O1) : We c Γ O (tNotV ta) Φ := fun F H σ I Q q =>
  h F H σ I _ fun x F1 H1 a O1 p I1 g1 ra => by
    obtain ⟨k, ka, p⟩ := p
    exact ⟨k, ka.bool I1 ra, q _ F1 H1 _ O1 p I1 g1 (Da.bl _)⟩
def dN : PyData → Bool
  | .none => true
  | _ => false
theorem we_isN (h : We c Γ O ta fun a O1 => ∃ d, Any O1 a d ∧ Φ (.fr (.bool (dN d))) O1) : We c Γ O (tIsN ta) Φ := fun F H σ I Q q =>
  h F H σ I _ fun x F1 H1 a O1 p I1 g1 ra => by
    obtain ⟨d, ka, p⟩ := p
    have z := ka.da I1 ra
    have e : decide (x = .non) = dN d := by cases z <;> simp [dN]
    show Q (.bl (decide (x = .non))) H1
    rw [e]
    exact q _ F1 H1 _ O1 p I1 g1 (Da.bl _)
theorem we_notN (h : We c Γ O ta fun a O1 => ∃ d, Any O1 a d ∧ Φ (.fr (.bool (!dN d))) O1) : We c Γ O (tNotN ta) Φ := fun F H σ I Q q =>
  h F H σ I _ fun x F1 H1 a O1 p I1 g1 ra => by
    obtain ⟨d, ka, p⟩ := p
    have z := ka.da I1 ra
    have e : decide (x = .non) = dN d := by cases z <;> simp [dN]
    show Q (.bl (!decide (x = .non))) H1
    rw [e]
    exact q _ F1 H1 _ O1 p I1 g1 (Da.bl _)
theorem wa_nil {Φ : List Res → OL → Prop} (k : Φ [] O) : Wa c Γ O tNil Φ := fun F H σ I Q q => q [] F H [] O k I (Gr.refl _ _ _ _) .nil
theorem wa_cons {Φ : List Res → OL → Prop} {ts : TA} (h : We c Γ O ta fun a O1 => Wa c Γ O1 ts fun as O2 => Φ (a :: as) O2) : Wa c Γ O (tCons ta ts) Φ := fun F H σ I Q q =>
  h F H σ I _ fun x F1 H1 a O1 p I1 g1 ra => p F1 H1 σ I1 _ fun xs F2 H2 as O2 p2 I2 g2 rs => q (x :: xs) F2 H2 (a :: as) O2 p2 I2 (g1.then g2) (.cons (ra.gr g2) (rs.less g1.be))
theorem we_cb {r : List V → Hp → VK → Prop} {ts : TA} (h : Wa c Γ O ts fun as O1 => Wc c Γ O1 r as Φ) : We c Γ O (tCB r ts) Φ := fun F H σ I Q q =>
  h F H σ I _ fun x F1 H1 a O1 p I1 g1 ra => p H F1 H1 σ I1 g1.be x ra Q fun v F3 H3 r3 O3 p3 I3 g3 r4 => q v F3 H3 r3 O3 p3 I3 (g1.trans g3) r4
theorem we_tup {ts : TA} (h : Wa c Γ O ts fun as O1 => ∃ ds, Fzs as ds ∧ ds.length ≤ 1000 ∧ Φ (.fr (.tuple ds)) O1) : We c Γ O (tTup ts) Φ := fun F H σ I Q q =>
  h F H σ I _ fun xs F1 H1 as O1 p I1 g1 rs => by
    obtain ⟨ds, f, hl, p⟩ := p
    obtain ⟨F2, I2, e2, k2⟩ := f.go I1 rs
    have hz := das_len k2
    refine ⟨Nat.le_trans (by omega : xs.length ≤ 1000) (by rw [sizeLine_eq]; decide), fun a ha => ?_⟩
    obtain ⟨I3, g3⟩ := I2.newT (Hs := H) ha xs
    have g3 := g3 g1.be
    exact q _ _ _ _ O1 p I3 ((g1.trans e2).trans g3) (.tup upd_same (dasM g3.ff _ _ k2))
theorem we_lst {ts : TA} (h : Wa c Γ O ts fun as O1 => ∃ ds, Fzs as ds ∧ ds.length ≤ 1000 ∧ Φ (.nw ds) O1) : We c Γ O (tLst ts) Φ := fun F H σ I Q q =>
  h F H σ I _ fun xs F1 H1 as O1 p I1 g1 rs => by
    obtain ⟨ds, f, hl, p⟩ := p
    obtain ⟨F2, I2, e2, k2⟩ := f.go I1 rs
    have hz := das_len k2
    refine ⟨Nat.le_trans (by omega : xs.length ≤ 1000) (by rw [sizeLine_eq]; decide), fun a ha => ?_⟩
    obtain ⟨I3, g3⟩ := I2.newL (Hs := H) ha xs
    exact q _ _ _ _ O1 p I3 ((g1.trans e2).trans g3) ⟨a, xs, rfl, ⟨upd_same, I2.fh.free ha, I2.notKey ha, I2.h0none ha, g1.be a ha⟩, k2⟩
end
end DL

/-! DL3: operators, built-in calls, methods. -/
namespace DL
open PySem PySem.Spec PyProof.Rows L2

/-! ### readings that serve several kinds -/
section
variable {X : Cx}
theorem opr_or {f : Value → Value → Sem Value} {r r' : R2} (h : OpR X f r) (h' : OpR X f r') : OpR X f (fun x y H Q => r x y H Q ∨ r' x y H Q) := by
  intro pins s σ H x y v u Q I rx ry q
  rcases q with q | q
  · exact h pins s σ H x y v u Q I rx ry q
  · exact h' pins s σ H x y v u Q I rx ry q
def rAddS : R2 := fun x y H Q => ∃ i j, x = .str i ∧ y = .str j ∧ i.length + j.length ≤ sizeLine ∧ Q (.str (i ++ j)) H
def rAddA : R2 := fun x y H Q => rI0 (fun i j => .int (i + j)) x y H Q ∨ rCat x y H Q ∨ rAddS x y H Q
theorem op_addA : OpR X (binaryOp .Add) rAddA := opr_or op_add (opr_or op_cat op_add_str)
def rMulA : R2 := fun x y H Q => rI CMul (fun i j => .int (i * j)) x y H Q ∨ rI CMulW (fun i j => .int (i * j)) x y H Q ∨ rRep x y H Q
theorem op_mulA : OpR X (binaryOp .Mult) rMulA := opr_or op_mul (opr_or op_mulW op_rep)
def rInA (K : PySem.W.Frag) : R2 := fun x y H Q => rInD K x y H Q ∨ rIn K false x y H Q
theorem op_inA (hu : X.A.units + 65 < cLine) : OpR X (compareOp .In) (rInA X.K) := opr_or (op_inD hu) op_in_seq
def rNotInA (K : PySem.W.Frag) : R2 := fun x y H Q => rNotInD K x y H Q ∨ rIn K true x y H Q
theorem op_notInA (hu : X.A.units + 65 < cLine) : OpR X (compareOp .NotIn) (rNotInA X.K) := opr_or (op_notInD hu) op_notIn_seq
def rLtA (K : PySem.W.Frag) : R2 := fun x y H Q => rI0 (fun i j => .bl (decide (i < j))) x y H Q ∨ rLtT K x y H Q
theorem op_ltA (hu : X.A.units < cLine) : OpR X (compareOp .Lt) (rLtA X.K) := opr_or (opB0 fun _ _ _ _ _ _ _ h => lt_int h) (op_ltT hu)
def rLeI : R2 := rI0 fun i j => .bl (decide (i ≤ j))
theorem op_leI : OpR X (compareOp .LtE) rLeI := opB0 fun _ _ _ _ _ _ _ h => le_int h
def rGtI : R2 := rI0 fun i j => .bl (decide (j < i))
theorem op_gtI : OpR X (compareOp .Gt) rGtI := opB0 fun _ _ _ _ _ _ _ h => gt_int h
def rGeI : R2 := rI0 fun i j => .bl (decide (j ≤ i))
theorem op_geI : OpR X (compareOp .GtE) rGeI := opB0 fun _ _ _ _ _ _ _ h => ge_int h
theorem Room.un65 {k : Nat} {A : Around} (r : Room k A) : A.units + 65 < cLine := by have := r.un; omega
end

section
variable {c : Cn} {Hs Hr F H F' H' F1 H1 F2 H2 : Hp} {σ σ' : L2.St} {Γ Γ' : List Sl} {O O' O1 O2 : OL} {v : V} {r a b : Res} {Φ : Res → OL → Prop}
/-! ### numbers -/
theorem wo_int {g : Int → Int → Int} {i j : Int} (ha : Any O a (.int i)) (hb : Any O b (.int j)) (k : Φ (.fr (.int (g i j))) O) : Wo c Γ O (rI0 fun i j => .int (g i j)) a b Φ :=
  fun Hs F H σ I be x y hx hy Q q => ⟨i, j, ha.int I hx, hb.int I hy, q _ F H _ O k I (Gr.refl _ _ _ _) (Da.int _)⟩
theorem wo_bool {g : Int → Int → Bool} {i j : Int} (ha : Any O a (.int i)) (hb : Any O b (.int j)) (k : Φ (.fr (.bool (g i j))) O) : Wo c Γ O (rI0 fun i j => .bl (g i j)) a b Φ :=
  fun Hs F H σ I be x y hx hy Q q => ⟨i, j, ha.int I hx, hb.int I hy, q _ F H _ O k I (Gr.refl _ _ _ _) (Da.bl _)⟩
theorem wo_intC {C : Int → Int → Prop} {g : Int → Int → Int} {i j : Int} (ha : Any O a (.int i)) (hb : Any O b (.int j)) (hc : C i j) (k : Φ (.fr (.int (g i j))) O) : Wo c Γ O (rI C fun i j => .int (g i j)) a b Φ :=
  fun Hs F H σ I be x y hx hy Q q => ⟨i, j, ha.int I hx, hb.int I hy, hc, q _ F H _ O k I (Gr.refl _ _ _ _) (Da.int _)⟩
theorem wo_l {r1 r2 : R2} (h : Wo c Γ O r1 a b Φ) : Wo c Γ O (fun x y H Q => r1 x y H Q ∨ r2 x y H Q) a b Φ := fun Hs F H σ I be x y hx hy Q q => .inl (h Hs F H σ I be x y hx hy Q q)
theorem wo_r {r1 r2 : R2} (h : Wo c Γ O r2 a b Φ) : Wo c Γ O (fun x y H Q => r1 x y H Q ∨ r2 x y H Q) a b Φ := fun Hs F H σ I be x y hx hy Q q => .inr (h Hs F H σ I be x y hx hy Q q)
theorem wo_add {i j : Int} (ha : Any O a (.int i)) (hb : Any O b (.int j)) (k : Φ (.fr (.int (i + j))) O) : Wo c Γ O rAddA a b Φ := wo_l (wo_int ha hb k)
theorem wo_sub {i j : Int} (ha : Any O a (.int i)) (hb : Any O b (.int j)) (k : Φ (.fr (.int (i - j))) O) : Wo c Γ O (rI0 fun i j => .int (i - j)) a b Φ := wo_int ha hb k
theorem wo_mul {i j : Int} (ha : Any O a (.int i)) (hb : Any O b (.int j)) (hc : CMul i j) (k : Φ (.fr (.int (i * j))) O) : Wo c Γ O rMulA a b Φ := wo_l (wo_intC ha hb hc k)
theorem wo_mulW {i j : Int} (ha : Any O a (.int i)) (hb : Any O b (.int j)) (hc : CMulW i j) (k : Φ (.fr (.int (i * j))) O) : Wo c Γ O rMulA a b Φ := wo_r (wo_l (wo_intC ha hb hc k))
theorem wo_fdiv {i j : Int} (ha : Any O a (.int i)) (hb : Any O b (.int j)) (hc : 0 < j ∧ j < 1073741824) (k : Φ (.fr (.int (i / j))) O) : Wo c Γ O (rI CDivN fun i j => .int (i.fdiv j)) a b Φ := by
  refine wo_intC (g := fun i j => i.fdiv j) ha hb (show CDivN i j from ⟨by omega, by omega⟩) ?_
  show Φ (.fr (.int (i.fdiv j))) O
  rw [Int.fdiv_eq_ediv_of_nonneg i (by omega)]
  exact k
theorem wo_mod {i j : Int} (ha : Any O a (.int i)) (hb : Any O b (.int j)) (hc : 0 < j) (k : Φ (.fr (.int (i % j))) O) : Wo c Γ O (rI (fun _ j => j ≠ 0) fun i j => .int (i.fmod j)) a b Φ := by
  refine wo_intC (C := fun _ j => j ≠ 0) (g := fun i j => i.fmod j) ha hb (by show j ≠ 0; omega) ?_
  show Φ (.fr (.int (i.fmod j))) O
  rw [Int.fmod_eq_emod_of_nonneg i (by omega)]
  exact k
theorem wo_pow {i j : Int} (ha : Any O a (.int i)) (hb : Any O b (.int j)) (hc : CPow i j) (k : Φ (.fr (.int (i ^ j.toNat))) O) : Wo c Γ O (rI CPow fun i j => .int (i ^ j.toNat)) a b Φ := wo_intC ha hb hc k
theorem wo_lt {i j : Int} (ha : Any O a (.int i)) (hb : Any O b (.int j)) (k : Φ (.fr (.bool (decide (i < j)))) O) : Wo c Γ O (rLtA c.K) a b Φ := wo_l (wo_bool ha hb k)
theorem wo_le {i j : Int} (ha : Any O a (.int i)) (hb : Any O b (.int j)) (k : Φ (.fr (.bool (decide (i ≤ j)))) O) : Wo c Γ O rLeI a b Φ := wo_bool ha hb k
theorem wo_gt {i j : Int} (ha : Any O a (.int i)) (hb : Any O b (.int j)) (k : Φ (.fr (.bool (decide (j < i)))) O) : Wo c Γ O rGtI a b Φ := wo_bool ha hb k
theorem wo_ge {i j : Int} (ha : Any O a (.int i)) (hb : Any O b (.int j)) (k : Φ (.fr (.bool (decide (j ≤ i)))) O) : Wo c Γ O rGeI a b Φ := wo_bool ha hb k
theorem wu_neg {i : Int} (ha : Any O a (.int i)) (k : Φ (.fr (.int (-i))) O) : Wu c Γ O (rU fun i => .int (-i)) a Φ :=
  fun Hs F H σ I be x hx Q q => ⟨i, ha.int I hx, q _ F H _ O k I (Gr.refl _ _ _ _) (Da.int _)⟩

/-! ### data compared -/
theorem wo_eq {d e : PyData} (ha : Any O a d) (hb : Any O b e) (sd : SeqAt.shaped d = true) (se : SeqAt.shaped e = true) (k : Φ (.fr (.bool (PyData.eqv d e))) O) : Wo c Γ O (rEqD c.K) a b Φ :=
  fun Hs F H σ I be x y hx hy Q q => ⟨d, e, Da.dp _ _ (ha.da I hx), Da.dp _ _ (hb.da I hy), sd, se, q _ F H _ O k I (Gr.refl _ _ _ _) (Da.bl _)⟩
theorem wo_ne {d e : PyData} (ha : Any O a d) (hb : Any O b e) (sd : SeqAt.shaped d = true) (se : SeqAt.shaped e = true) (k : Φ (.fr (.bool (!PyData.eqv d e))) O) : Wo c Γ O (rNeD c.K) a b Φ :=
  fun Hs F H σ I be x y hx hy Q q => ⟨d, e, Da.dp _ _ (ha.da I hx), Da.dp _ _ (hb.da I hy), sd, se, q _ F H _ O k I (Gr.refl _ _ _ _) (Da.bl _)⟩
theorem wo_in {d : PyData} {ds : List PyData} (ha : Any O a d) (hb : Any O b (.list ds)) (sd : SeqAt.shaped d = true) (se : SeqAt.shaped (.list ds) = true) (k : Φ (.fr (.bool (ds.any fun z => PyData.eqv z d))) O) : Wo c Γ O (rInA c.K) a b Φ :=
  wo_l fun Hs F H σ I be x y hx hy Q q => ⟨d, ds, Da.dp _ _ (ha.da I hx), Da.dp _ _ (hb.da I hy), sd, se, q _ F H _ O k I (Gr.refl _ _ _ _) (Da.bl _)⟩
theorem wo_notin {d : PyData} {ds : List PyData} (ha : Any O a d) (hb : Any O b (.list ds)) (sd : SeqAt.shaped d = true) (se : SeqAt.shaped (.list ds) = true) (k : Φ (.fr (.bool (!ds.any fun z => PyData.eqv z d))) O) : Wo c Γ O (rNotInA c.K) a b Φ :=
  wo_l fun Hs F H σ I be x y hx hy Q q => ⟨d, ds, Da.dp _ _ (ha.da I hx), Da.dp _ _ (hb.da I hy), sd, se, q _ F H _ O k I (Gr.refl _ _ _ _) (Da.bl _)⟩
theorem inV_ints (i : Int) : ∀ ns : List Int, inV (.int i) (ns.map V.int) = ns.any fun z => z == i
  | [] => rfl
  | n :: ns => by
    show (eqV (.int n) (.int i) || inV (.int i) (ns.map V.int)) = _
    rw [inV_ints i ns]
    rfl
theorem flat_ints : ∀ ns : List Int, (ns.map V.int).all flatV = true
  | [] => rfl
  | n :: ns => by
    show (true && (ns.map V.int).all flatV) = true
    rw [flat_ints ns]
    rfl
theorem wo_inT {i : Int} {ds : List PyData} {w : Bool} (ns : List Int) (ha : Any O a (.int i)) (hb : Tup b ds w) (e : ds = ns.map PyData.int) (k : Φ (.fr (.bool (ns.any fun z => z == i))) O) : Wo c Γ O (rInA c.K) a b Φ :=
  wo_r fun Hs F H σ I be x y hx hy Q q => by
    obtain ⟨p, vs, rfl, h1, h2⟩ := hb.da I hy
    subst e
    cases das_int h2
    cases ha.int I hx
    refine ⟨p, _, rfl, .inr (SqT.of h1), rfl, flat_ints ns, ?_⟩
    show Q (.bl (inV (.int i) (ns.map V.int))) H
    rw [inV_ints]
    exact q _ F H _ O k I (Gr.refl _ _ _ _) (Da.bl _)
theorem wo_notinT {i : Int} {ds : List PyData} {w : Bool} (ns : List Int) (ha : Any O a (.int i)) (hb : Tup b ds w) (e : ds = ns.map PyData.int) (k : Φ (.fr (.bool (!ns.any fun z => z == i))) O) : Wo c Γ O (rNotInA c.K) a b Φ :=
  wo_r fun Hs F H σ I be x y hx hy Q q => by
    obtain ⟨p, vs, rfl, h1, h2⟩ := hb.da I hy
    subst e
    cases das_int h2
    cases ha.int I hx
    refine ⟨p, _, rfl, .inr (SqT.of h1), rfl, flat_ints ns, ?_⟩
    show Q (.bl (!inV (.int i) (ns.map V.int))) H
    rw [inV_ints]
    exact q _ F H _ O k I (Gr.refl _ _ _ _) (Da.bl _)

/-! ### lists: +, *, [i] -/
theorem wo_cat {ds es : List PyData} (ha : Seq O a ds true) (hb : Seq O b es true) (hl : ds.length + es.length ≤ 1000000) (k : Φ (.nw (ds ++ es)) O) : Wo c Γ O rAddA a b Φ :=
  wo_r (wo_l fun Hs F H σ I be x y hx hy Q q => by
    obtain ⟨p, vs, rfl, h1, h2⟩ := ha.da I hx
    obtain ⟨p', vs', rfl, h1', h2'⟩ := hb.da I hy
    have e1 := das_len h2
    have e2 := das_len h2'
    refine ⟨p, p', vs, vs', rfl, rfl, h1, h1', Nat.le_trans (by omega : vs.length + vs'.length ≤ 1000000) (by rw [sizeLine_eq]; decide), fun n hn => ?_⟩
    obtain ⟨I3, g3⟩ := I.newL (Hs := Hs) hn (vs ++ vs')
    exact q _ _ _ _ O k I3 g3 ⟨n, _, rfl, ⟨upd_same, I.fh.free hn, I.notKey hn, I.h0none hn, be n hn⟩, das_app h2 h2'⟩)
theorem wo_addS {s t : Str} (ha : Any O a (.str s)) (hb : Any O b (.str t)) (hl : s.length + t.length ≤ 1000000) (k : Φ (.fr (.str (s ++ t))) O) : Wo c Γ O rAddA a b Φ :=
  wo_r (wo_r fun Hs F H σ I be x y hx hy Q q => ⟨s, t, ha.str I hx, hb.str I hy, Nat.le_trans hl (by rw [sizeLine_eq]; decide), q _ F H _ O k I (Gr.refl _ _ _ _) (Da.str _)⟩)
theorem das_rep {F : Hp} {vs : List V} {ds : List PyData} (h : Das F vs ds) : ∀ k : Nat, Das F (List.replicate k vs).flatten (List.replicate k ds).flatten
  | 0 => .nil
  | k + 1 => by
    rw [List.replicate_succ, List.replicate_succ, List.flatten_cons, List.flatten_cons]
    exact das_app h (das_rep h k)
theorem wo_rep {ds : List PyData} {n : Int} (ha : Seq O a ds true) (hb : Any O b (.int n)) (h1 : -(2 ^ 63) ≤ n) (h2 : n < 2 ^ 63) (hl : ds.length * n.toNat ≤ 1000000) (k : Φ (.nw (List.replicate n.toNat ds).flatten) O) : Wo c Γ O rMulA a b Φ :=
  wo_r (wo_r fun Hs F H σ I be x y hx hy Q q => by
    obtain ⟨p, vs, rfl, g1, g2⟩ := ha.da I hx
    have e1 := das_len g2
    refine ⟨p, n, vs, rfl, hb.int I hy, g1, h1, h2, Nat.le_trans (by rw [e1]; exact hl) (by rw [sizeLine_eq]; decide), fun m hm => ?_⟩
    obtain ⟨I3, g3⟩ := I.newL (Hs := Hs) hm (List.replicate n.toNat vs).flatten
    exact q _ _ _ _ O k I3 g3 ⟨m, _, rfl, ⟨upd_same, I.fh.free hm, I.notKey hm, I.h0none hm, be m hm⟩, das_rep g2 _⟩)
theorem atI_das {F : Hp} {vs : List V} {ds : List PyData} {i : Int} {d : PyData} (h : Das F vs ds) (e : atI ds i = some d) : ∃ v, atI vs i = some v ∧ Da F v d := by
  unfold atI at e ⊢
  rw [das_len h]
  cases q : ixN ds.length i with
  | none => rw [q] at e; cases e
  | some j =>
    rw [q] at e
    exact das_get' h e
theorem wo_ix {ds : List PyData} {w : Bool} {i : Int} {d : PyData} (ha : Seq O a ds w) (hb : Any O b (.int i)) (h : atI ds i = some d) (k : Φ (Res.of w d) O) : Wo c Γ O (rIx c.K) a b Φ :=
  fun Hs F H σ I be x y hx hy Q q => .inl (by
    obtain ⟨p, vs, rfl, g1, g2⟩ := ha.da I hx
    obtain ⟨v, e, hv⟩ := atI_das g2 h
    exact ⟨p, vs, i, v, rfl, hb.int I hy, SqL.of g1, e, q v F H _ O k I (Gr.refl _ _ _ _) (resOk_of hv)⟩)
theorem wo_ixT {ds : List PyData} {w : Bool} {i : Int} {d : PyData} (ha : Tup a ds w) (hb : Any O b (.int i)) (h : atI ds i = some d) (k : Φ (Res.of w d) O) : Wo c Γ O (rIx c.K) a b Φ :=
  fun Hs F H σ I be x y hx hy Q q => .inr (.inl (by
    obtain ⟨p, vs, rfl, g1, g2⟩ := ha.da I hx
    obtain ⟨v, e, hv⟩ := atI_das g2 h
    exact ⟨p, vs, i, v, rfl, hb.int I hy, SqT.of g1, e, q v F H _ O k I (Gr.refl _ _ _ _) (resOk_of hv)⟩))
theorem atI_of {α : Type} {xs : List α} {i : Int} {d : α} (h0 : 0 ≤ i) (h : xs[i.toNat]? = some d) : atI xs i = some d := by
  have e : i = (i.toNat : Int) := by omega
  rw [e]
  exact atI_nat h
/-- a list is cut: a new list -/
def cutD (ds : List PyData) (lo hi : Option Int) : List PyData := (ds.drop (HT.sIx ds.length 0 lo)).take (HT.sIx ds.length ds.length hi - HT.sIx ds.length 0 lo)
def Wp (c : Cn) (Γ : List Sl) (O : OL) (t : TO) (Φ : Option Int → OL → Prop) : Prop :=
  ∀ F H σ, Is c F H σ Γ O → ∀ Q : Option Int → Hp → Prop, (∀ b F' H' O', Φ b O' → Is c F' H' σ Γ O' → Gr H F H O F' H' O' → Q b H') → t σ H Q
theorem wp_no {Φ : Option Int → OL → Prop} (k : Φ none O) : Wp c Γ O tNoPart Φ := fun F H σ I Q q => q _ F H O k I (Gr.refl _ _ _ _)
theorem wp_some {Φ : Option Int → OL → Prop} {t : TE} (h : We c Γ O t fun a O1 => ∃ i, Any O1 a (.int i) ∧ Φ (some i) O1) : Wp c Γ O (tPart t) Φ := fun F H σ I Q q =>
  h F H σ I _ fun x F1 H1 a O1 p I1 g1 ra => by
    obtain ⟨i, ai, p⟩ := p
    exact ⟨i, ai.int I1 ra, q _ F1 H1 O1 p I1 g1⟩
theorem we_slL {te : TE} {tl th : TO} (h : We c Γ O te fun a O1 => Wp c Γ O1 tl fun lo O2 => Wp c Γ O2 th fun hi O3 => ∃ ds, Seq O3 a ds true ∧ Φ (.nw (cutD ds lo hi)) O3) : We c Γ O (tSl (rSlL c.K) te tl th) Φ := fun F H σ I Q q =>
  h F H σ I _ fun x F1 H1 a O1 p I1 g1 ra => p F1 H1 σ I1 _ fun lo F2 H2 O2 p2 I2 g2 => p2 F2 H2 σ I2 _ fun hi F3 H3 O3 p3 I3 g3 => by
    obtain ⟨ds, hs, p3⟩ := p3
    have g : Gr H F H O F3 H3 O3 := (g1.then g2).then g3
    have ra3 := (ra.gr g2).gr g3
    obtain ⟨p, vs, rfl, h1, h2⟩ := hs.da I3 ra3
    refine ⟨p, vs, rfl, SqL.of h1, fun n hn => ?_⟩
    obtain ⟨I4, g4⟩ := I3.newL (Hs := H) hn (cutV vs lo hi)
    refine q _ _ _ _ O3 p3 I4 (g.trans g4) ⟨n, _, rfl, ⟨upd_same, I3.fh.free hn, I3.notKey hn, I3.h0none hn, g.be n hn⟩, ?_⟩
    unfold cutV cutD
    rw [das_len h2]
    exact das_take _ (das_drop _ h2)

/-! ### built-in calls -/
theorem ResOks.one {x : Res} {xs : List V} (h : ResOks c Hs F H O xs [x]) : ∃ v, xs = [v] ∧ ResOk c Hs F H O v x := by
  cases h with
  | cons h t => cases t; exact ⟨_, rfl, h⟩
theorem ResOks.two {x y : Res} {xs : List V} (h : ResOks c Hs F H O xs [x, y]) : ∃ v w, xs = [v, w] ∧ ResOk c Hs F H O v x ∧ ResOk c Hs F H O w y := by
  cases h with
  | cons h t =>
    obtain ⟨w, rfl, hw⟩ := t.one
    exact ⟨_, _, rfl, h, hw⟩
abbrev rLenA (K : PySem.W.Frag) : List V → Hp → VK → Prop := fun xs H Q => ∃ x n, xs = [x] ∧ LenV K x H n ∧ Q (.int n) H
theorem wc_lenL {ds : List PyData} (ha : Any O a (.list ds)) (k : Φ (.fr (.int ds.length)) O) : Wc c Γ O (rLenA c.K) [a] Φ := fun Hs F H σ I be xs hxs Q q => by
  obtain ⟨x, rfl, hx⟩ := hxs.one
  cases ha.da I hx with
  | lst h1 h2 =>
    rename_i p vs
    refine ⟨_, vs.length, rfl, .inl ⟨vs, SqL.of h1, rfl⟩, ?_⟩
    rw [das_len h2]
    exact q _ F H _ O k I (Gr.refl _ _ _ _) (Da.int _)
theorem wc_lenT {ds : List PyData} (ha : Any O a (.tuple ds)) (k : Φ (.fr (.int ds.length)) O) : Wc c Γ O (rLenA c.K) [a] Φ := fun Hs F H σ I be xs hxs Q q => by
  obtain ⟨x, rfl, hx⟩ := hxs.one
  cases ha.da I hx with
  | tup h1 h2 =>
    rename_i p vs
    refine ⟨_, vs.length, rfl, .inr ⟨vs, SqT.of h1, rfl⟩, ?_⟩
    rw [das_len h2]
    exact q _ F H _ O k I (Gr.refl _ _ _ _) (Da.int _)
theorem wc_lenS {s : Str} (ha : Any O a (.str s)) (hl : s.length ≤ 1000000) (k : Φ (.fr (.int s.length)) O) : Wc c Γ O (rLenA c.K) [a] Φ := fun Hs F H σ I be xs hxs Q q => by
  obtain ⟨x, rfl, hx⟩ := hxs.one
  cases ha.str I hx
  exact ⟨_, s.length, rfl, ⟨Nat.le_trans hl (by rw [sizeLine_eq]; decide), rfl⟩, q _ F H _ O k I (Gr.refl _ _ _ _) (Da.int _)⟩
abbrev rAbs : List V → Hp → VK → Prop := fun xs H Q => ∃ i, xs = [.int i] ∧ Q (.int (if i < 0 then -i else i)) H
theorem wc_abs {i : Int} (ha : Any O a (.int i)) (k : Φ (.fr (.int (if i < 0 then -i else i))) O) : Wc c Γ O rAbs [a] Φ := fun Hs F H σ I be xs hxs Q q => by
  obtain ⟨x, rfl, hx⟩ := hxs.one
  cases ha.int I hx
  exact ⟨i, rfl, q _ F H _ O k I (Gr.refl _ _ _ _) (Da.int _)⟩
abbrev rMax2 : List V → Hp → VK → Prop := fun xs H Q => ∃ i j, xs = [.int i, .int j] ∧ Q (.int (if j > i then j else i)) H
abbrev rMin2 : List V → Hp → VK → Prop := fun xs H Q => ∃ i j, xs = [.int i, .int j] ∧ Q (.int (if j < i then j else i)) H
theorem wc_max2 {i j : Int} (ha : Any O a (.int i)) (hb : Any O b (.int j)) (k : Φ (.fr (.int (max i j))) O) : Wc c Γ O rMax2 [a, b] Φ := fun Hs F H σ I be xs hxs Q q => by
  obtain ⟨x, y, rfl, hx, hy⟩ := hxs.two
  cases ha.int I hx
  cases hb.int I hy
  refine ⟨i, j, rfl, ?_⟩
  have e : (if j > i then j else i) = max i j := by
    split <;> omega
  rw [e]
  exact q _ F H _ O k I (Gr.refl _ _ _ _) (Da.int _)
theorem wc_min2 {i j : Int} (ha : Any O a (.int i)) (hb : Any O b (.int j)) (k : Φ (.fr (.int (min i j))) O) : Wc c Γ O rMin2 [a, b] Φ := fun Hs F H σ I be xs hxs Q q => by
  obtain ⟨x, y, rfl, hx, hy⟩ := hxs.two
  cases ha.int I hx
  cases hb.int I hy
  refine ⟨i, j, rfl, ?_⟩
  have e : (if j < i then j else i) = min i j := by
    split <;> omega
  rw [e]
  exact q _ F H _ O k I (Gr.refl _ _ _ _) (Da.int _)
abbrev rInt1 : List V → Hp → VK → Prop := fun xs H Q => (∃ i, xs = [.int i] ∧ Q (.int i) H) ∨ ∃ k, xs = [.bl k] ∧ Q (.int (if k then 1 else 0)) H
theorem wc_int {i : Int} (ha : Any O a (.int i)) (k : Φ (.fr (.int i)) O) : Wc c Γ O rInt1 [a] Φ := fun Hs F H σ I be xs hxs Q q => by
  obtain ⟨x, rfl, hx⟩ := hxs.one
  cases ha.int I hx
  exact .inl ⟨i, rfl, q _ F H _ O k I (Gr.refl _ _ _ _) (Da.int _)⟩
theorem wc_intB {i : Bool} (ha : Any O a (.bool i)) (k : Φ (.fr (.int (if i then 1 else 0))) O) : Wc c Γ O rInt1 [a] Φ := fun Hs F H σ I be xs hxs Q q => by
  obtain ⟨x, rfl, hx⟩ := hxs.one
  cases ha.bool I hx
  exact .inr ⟨i, rfl, q _ F H _ O k I (Gr.refl _ _ _ _) (Da.int _)⟩
theorem wc_sum {ds : List PyData} (ns : List Int) (ha : Any O a (.list ds)) (e : ds = ns.map PyData.int) (k : Φ (.fr (.int ns.sum)) O) : Wc c Γ O (rSum c.K) [a] Φ := fun Hs F H σ I be xs hxs Q q => by
  obtain ⟨x, rfl, hx⟩ := hxs.one
  subst e
  cases ha.da I hx with
  | lst h1 h2 =>
    cases das_int h2
    exact ⟨_, ns, rfl, SqL.of h1, q _ F H _ O k I (Gr.refl _ _ _ _) (Da.int _)⟩
theorem wc_any {ds : List PyData} (bs : List Bool) (ha : Any O a (.list ds)) (e : ds = bs.map PyData.bool) (k : Φ (.fr (.bool (bs.any id))) O) : Wc c Γ O (rAny c.K) [a] Φ := fun Hs F H σ I be xs hxs Q q => by
  obtain ⟨x, rfl, hx⟩ := hxs.one
  subst e
  cases ha.da I hx with
  | lst h1 h2 =>
    cases das_bool h2
    exact ⟨_, bs, rfl, SqL.of h1, q _ F H _ O k I (Gr.refl _ _ _ _) (Da.bl _)⟩
theorem wc_all {ds : List PyData} (bs : List Bool) (ha : Any O a (.list ds)) (e : ds = bs.map PyData.bool) (k : Φ (.fr (.bool (bs.all id))) O) : Wc c Γ O (rAll c.K) [a] Φ := fun Hs F H σ I be xs hxs Q q => by
  obtain ⟨x, rfl, hx⟩ := hxs.one
  subst e
  cases ha.da I hx with
  | lst h1 h2 =>
    cases das_bool h2
    exact ⟨_, bs, rfl, SqL.of h1, q _ F H _ O k I (Gr.refl _ _ _ _) (Da.bl _)⟩
theorem wc_max {ds : List PyData} (ns : List Int) (ha : Any O a (.list ds)) (e : ds = ns.map PyData.int) (h0 : 0 < ns.length) (k : ∀ m, m ∈ ns → (∀ y ∈ ns, y ≤ m) → Φ (.fr (.int m)) O) : Wc c Γ O (rMax c.K) [a] Φ := fun Hs F H σ I be xs hxs Q q => by
  obtain ⟨x, rfl, hx⟩ := hxs.one
  subst e
  cases ha.da I hx with
  | lst h1 h2 =>
    cases das_int h2
    exact ⟨_, ns, rfl, SqL.of h1, h0, fun m h3 h4 => q _ F H _ O (k m h3 h4) I (Gr.refl _ _ _ _) (Da.int _)⟩
theorem wc_min {ds : List PyData} (ns : List Int) (ha : Any O a (.list ds)) (e : ds = ns.map PyData.int) (h0 : 0 < ns.length) (k : ∀ m, m ∈ ns → (∀ y ∈ ns, m ≤ y) → Φ (.fr (.int m)) O) : Wc c Γ O (rMin c.K) [a] Φ := fun Hs F H σ I be xs hxs Q q => by
  obtain ⟨x, rfl, hx⟩ := hxs.one
  subst e
  cases ha.da I hx with
  | lst h1 h2 =>
    cases das_int h2
    exact ⟨_, ns, rfl, SqL.of h1, h0, fun m h3 h4 => q _ F H _ O (k m h3 h4) I (Gr.refl _ _ _ _) (Da.int _)⟩
abbrev rListA (K : PySem.W.Frag) : List V → Hp → VK → Prop := fun xs H Q => ∃ p ys, xs = [.ref p] ∧ (SqL K H p ys ∨ SqT K H p ys) ∧ ∀ l, H l = none → Q (.ref l) (upd H l (.lst ys))
theorem Is.nw (I : Is c F H σ Γ O) (be : Be Hs H) {p : Addr} {vs : List V} {ds : List PyData} (hp : H p = none) (h : Das F vs ds) : ResOk c Hs F (upd H p (.lst vs)) O (.ref p) (.nw ds) :=
  ⟨p, vs, rfl, ⟨upd_same, I.fh.free hp, I.notKey hp, I.h0none hp, be p hp⟩, h⟩
theorem wc_listL {ds : List PyData} (ha : Seq O a ds true) (k : Φ (.nw ds) O) : Wc c Γ O (rListA c.K) [a] Φ := fun Hs F H σ I be xs hxs Q q => by
  obtain ⟨x, rfl, hx⟩ := hxs.one
  obtain ⟨p, vs, rfl, h1, h2⟩ := ha.da I hx
  refine ⟨p, vs, rfl, .inl (SqL.of h1), fun l hl => ?_⟩
  obtain ⟨I3, g3⟩ := I.newL (Hs := Hs) hl vs
  exact q _ _ _ _ O k I3 g3 (I.nw be hl h2)
theorem wc_listT {ds : List PyData} (ha : Tup a ds true) (k : Φ (.nw ds) O) : Wc c Γ O (rListA c.K) [a] Φ := fun Hs F H σ I be xs hxs Q q => by
  obtain ⟨x, rfl, hx⟩ := hxs.one
  obtain ⟨p, vs, rfl, h1, h2⟩ := ha.da I hx
  refine ⟨p, vs, rfl, .inr (SqT.of h1), fun l hl => ?_⟩
  obtain ⟨I3, g3⟩ := I.newL (Hs := Hs) hl vs
  exact q _ _ _ _ O k I3 g3 (I.nw be hl h2)
theorem wc_listQ {ns : List Int} (k : Φ (.nw (ns.map PyData.int)) O) : Wc c Γ O (rListA c.K) [.sq ns] Φ := fun Hs F H σ I be xs hxs Q q => by
  obtain ⟨x, rfl, hx⟩ := hxs.one
  obtain ⟨p, rfl, h1⟩ := hx
  refine ⟨p, ns.map V.int, rfl, .inl (same_l I.bh h1), fun l hl => ?_⟩
  obtain ⟨I3, g3⟩ := I.newL (Hs := Hs) hl (ns.map V.int)
  exact q _ _ _ _ O k I3 g3 (I.nw be hl (das_ints ns))
theorem wc_sortedI {ds : List PyData} (ns : List Int) (ha : Any O a (.list ds)) (e : ds = ns.map PyData.int) (k : ∀ ns' : List Int, ns'.Perm ns → ns'.Pairwise (· ≤ ·) → Φ (.nw (ns'.map PyData.int)) O) : Wc c Γ O (rSortedI c.K) [a] Φ := fun Hs F H σ I be xs hxs Q q => by
  obtain ⟨x, rfl, hx⟩ := hxs.one
  subst e
  cases ha.da I hx with
  | lst h1 h2 =>
    cases das_int h2
    refine ⟨_, ns, rfl, SqL.of h1, fun ns' l h3 h4 hl => ?_⟩
    obtain ⟨I3, g3⟩ := I.newL (Hs := Hs) hl (ns'.map V.int)
    exact q _ _ _ _ O (k ns' h3 h4) I3 g3 (I.nw be hl (das_ints ns'))

/-! ### an own list changes -/
theorem Is.setO (I : Is c F H σ Γ O) {j : Nat} {a : Addr} {ds ds' : List PyData} {vs' : List V} (hj : O[j]? = some (a, .l ds)) (h : Das F vs' ds') :
    Is c F (upd H a (.lst vs')) σ Γ (O.set j (a, .l ds')) ∧ Gr Hs F H O F (upd H a (.lst vs')) (O.set j (a, .l ds')) := by
  have hm : (a, Ob.l ds) ∈ O := List.mem_of_getElem? hj
  obtain ⟨ha0, vs, ha1, ha2⟩ := I.oH _ hm
  have fa : F a = none := I.oF _ hm
  have ba : c.B a = none := I.oB _ hm
  have hjl := (List.getElem?_eq_some_iff.mp hj).1
  have keys : (O.set j (a, Ob.l ds')).map (·.1) = O.map (·.1) := by
    rw [List.map_set]
    apply List.ext_getElem?
    intro i
    by_cases hi : j = i
    · subst hi
      rw [List.getElem?_set_self (by simpa using hjl), List.getElem?_map, hj]
      rfl
    · rw [List.getElem?_set_ne hi]
  have nda := I.nd
  have other : ∀ e ∈ O.set j (a, Ob.l ds'), e = (a, Ob.l ds') ∨ (e ∈ O ∧ e.1 ≠ a) := fun e he => by
    obtain ⟨i, hi⟩ := List.getElem?_of_mem he
    by_cases hij : j = i
    · subst hij
      rw [List.getElem?_set_self hjl] at hi
      cases hi
      exact .inl rfl
    · rw [List.getElem?_set_ne hij] at hi
      refine .inr ⟨List.mem_of_getElem? hi, fun q => hij ?_⟩
      have e1 : (O.map (·.1))[i]? = some a := by rw [List.getElem?_map, hi]; simp [q]
      have e2 : (O.map (·.1))[j]? = some a := by rw [List.getElem?_map, hj]; rfl
      exact (List.getElem?_inj (by simpa using hjl) nda).mp (e2.trans e1.symm)
  refine ⟨⟨same_upd I.fh fa, same_upd I.bh ba, fun b o e t => ?_, I.f0, fun b o e m => ?_, fun b m z => I.mm b m ?_, by rw [keys]; exact nda, fun e he => ?_, fun e he => ?_, fun e he => ?_, I.gh, I.bz, I.ln, I.sl⟩,
    Same.refl _, fun b o _ e n => ?_, fun _ _ _ f => f, fun b m => by rw [keys] at m; exact .inl m, fun b z => ?_⟩
  · by_cases hb : b = a
    · subst hb
      rw [upd_same] at e
      cases e
      cases t
    · rw [upd_ne hb] at e
      exact I.ft b o e t
  · rw [upd_ne (fun q => by rw [q] at e; rw [ha0] at e; cases e)]
    exact I.h0 b o e m
  · by_cases hb : b = a
    · subst hb; rw [upd_same] at z; cases z
    · rw [upd_ne hb] at z; exact z
  · rcases other e he with rfl | ⟨h1, _⟩
    · exact fa
    · exact I.oF e h1
  · rcases other e he with rfl | ⟨h1, _⟩
    · exact ba
    · exact I.oB e h1
  · rcases other e he with rfl | ⟨h1, h2⟩
    · exact ⟨ha0, vs', upd_same, h⟩
    · exact (I.oH e h1).mono (Same.refl _) (upd_ne h2).symm
  · rw [upd_ne (fun q => n (by rw [q]; exact List.mem_map_of_mem hm))]
    exact e
  · by_cases hb : b = a
    · subst hb; rw [upd_same] at z; cases z
    · rw [upd_ne hb] at z; exact z
theorem Is.own (I : Is c F H σ Γ O) {j : Nat} {a : Addr} {ds : List PyData} (hj : O[j]? = some (a, .l ds)) : ∃ vs, H a = some (.lst vs) ∧ Das F vs ds := (I.oH _ (List.mem_of_getElem? hj)).2
theorem wm_append {p : Addr} {j : Nat} {ds : List PyData} {d : PyData} (hj : O[j]? = some (p, .l ds)) (hb : Fz b d) (hl : ds.length < 1000000) (k : Φ (.fr .none) (O.set j (p, .l (ds ++ [d])))) : Wm c Γ O rAppend (.pt p) [b] Φ :=
  fun Hs F H σ I be x xs hx hys Q q => by
    have e : x = .ref p := hx
    subst e
    obtain ⟨y, rfl, hy⟩ := hys.one
    obtain ⟨F2, I2, g2, k2⟩ := hb.go I hy
    obtain ⟨vs, h1, h2⟩ := I2.own hj
    obtain ⟨I3, g3⟩ := I2.setO (Hs := Hs) hj (das_app h2 (das_one k2))
    have e1 := das_len h2
    exact ⟨p, vs, y, rfl, rfl, h1, Nat.lt_of_lt_of_le (by omega : vs.length < 1000000) (by rw [sizeLine_eq]; decide), q _ _ _ _ _ k I3 (g2.trans g3) Da.non⟩
theorem wm_pop {p : Addr} {j : Nat} {ds : List PyData} {d : PyData} (hj : O[j]? = some (p, .l ds)) (hd : ds[ds.length - 1]? = some d) (k : Φ (.fr d) (O.set j (p, .l ds.dropLast))) : Wm c Γ O rPop (.pt p) [] Φ :=
  fun Hs F H σ I be x xs hx hy Q q => by
    have e : x = .ref p := hx
    subst e
    cases hy
    obtain ⟨vs, h1, h2⟩ := I.own hj
    obtain ⟨I3, g3⟩ := I.setO (Hs := Hs) hj (das_dropLast h2)
    have e1 := das_len h2
    rw [← e1] at hd
    obtain ⟨v, e2, h3⟩ := das_get' h2 hd
    exact ⟨p, vs, v, rfl, rfl, h1, e2, q _ _ _ _ _ k I3 g3 h3⟩
theorem wm_popAt {p : Addr} {j : Nat} {ds : List PyData} {d : PyData} {i : Int} (hj : O[j]? = some (p, .l ds)) (hb : Any O b (.int i)) (h0 : 0 ≤ i) (h63 : i < 2 ^ 63) (hd : ds[i.toNat]? = some d) (k : Φ (.fr d) (O.set j (p, .l (ds.eraseIdx i.toNat)))) :
    Wm c Γ O rPopAt (.pt p) [b] Φ :=
  fun Hs F H σ I be x xs hx hys Q q => by
    have e : x = .ref p := hx
    subst e
    obtain ⟨y, rfl, hy⟩ := hys.one
    cases hb.int I hy
    obtain ⟨vs, h1, h2⟩ := I.own hj
    obtain ⟨I3, g3⟩ := I.setO (Hs := Hs) hj (das_erase i.toNat h2)
    have e1 := das_len h2
    obtain ⟨v, e2, h3⟩ := das_get' h2 hd
    have hlt := (List.getElem?_eq_some_iff.mp e2).1
    exact ⟨p, vs, i, i.toNat, v, rfl, rfl, h1, by omega, h63, seqIndex_of h0 (by omega), e2, q _ _ _ _ _ k I3 g3 h3⟩
/-- a method of a list -/
theorem we_bmL {to : TE} {ts : TA} {m : V → List V → Hp → VK → Prop} (h : We c Γ O to fun a O1 => (∃ ds, Any O1 a (.list ds)) ∧ Wa c Γ O1 ts fun as O2 => Wm c Γ O2 m a as Φ) : We c Γ O (tBM c.K "list" m to ts) Φ := fun F H σ I Q q =>
  h F H σ I _ fun x F1 H1 a O1 p I1 g1 ra => by
    obtain ⟨⟨ds, an⟩, p⟩ := p
    refine ⟨?_, p F1 H1 σ I1 _ fun xs F2 H2 as O2 p2 I2 g2 rs => p2 H F2 H2 σ I2 (g1.then g2).be x xs (ra.gr g2) (rs.less g1.be) Q fun v F3 H3 r3 O3 p3 I3 g3 r4 => q v F3 H3 r3 O3 p3 I3 ((g1.then g2).trans g3) r4⟩
    cases an.da I1 ra with
    | lst h1 h2 => exact .inl ⟨rfl, _, SqL.of h1⟩
theorem we_bmL0 {to : TE} {m : V → List V → Hp → VK → Prop} (h : We c Γ O to fun a O1 => (∃ ds, Any O1 a (.list ds)) ∧ Wm c Γ O1 m a [] Φ) : We c Γ O (tBM0 c.K "list" m to) Φ := fun F H σ I Q q =>
  h F H σ I _ fun x F1 H1 a O1 p I1 g1 ra => by
    obtain ⟨⟨ds, an⟩, p⟩ := p
    refine ⟨?_, p H F1 H1 σ I1 g1.be x [] ra .nil Q fun v F3 H3 r3 O3 p3 I3 g3 r4 => q v F3 H3 r3 O3 p3 I3 (g1.trans g3) r4⟩
    cases an.da I1 ra with
    | lst h1 h2 => exact .inl ⟨rfl, _, SqL.of h1⟩
end
end DL

/-! DL4: tests, calls of defs, targets, what is walked, comprehensions. -/
namespace DL
open PySem PySem.Spec PyProof.Rows L2

def iSeq (K : PySem.W.Frag) (tl : TE) : TI := fun σ H R => tl σ H fun x H1 => ∃ a, x = .ref a ∧ (((∃ xs, SqL K H1 a xs) ∧ R (Itl K a) H1) ∨ ((∃ xs, SqT K H1 a xs) ∧ R (Itt K a) H1))
theorem pi_seq {X : Cx} {tg : Expr} {l : Expr} {tl : TE} (hl : PE X l tl) : PI X tg l (iSeq X.K tl) := by
  refine ⟨fun pins s σ H R I h => ?_⟩
  refine thn (hl.run pins s σ H _ I h) fun v s1 ⟨x, H1, I1, r1, q1⟩ => ?_
  obtain ⟨a, e, q1⟩ := q1
  subst e
  cases r1
  rcases q1 with ⟨⟨xs, hq⟩, q⟩ | ⟨⟨xs, hq⟩, q⟩
  · obtain ⟨its, rv, p, hz⟩ := I1.list hq
    refine wpAny_pyIter_list p.isList ?_
    refine ⟨s1.heap.objs.size, [s1.heap.objs.size], _, _, H1, rfl, I1.kept (t' := s1.toks) fun b o e => Heap.get?_push_of_some _ e, turn_list a _, ⟨_, Heap.get?_push_size _ rfl, rfl, rfl⟩, fun b hb => ?_, q⟩
    have e : b = s1.heap.objs.size := by simpa using hb
    subst e
    exact I1.fpOk (Nat.le_refl _) (I1.hok.fresh (Nat.le_refl _))
  · obtain ⟨its, rv, p, hz⟩ := I1.tuple hq
    refine wpAny_pyIter_tuple (show s1.heap.IsTuple a its.toArray from p) ?_
    refine ⟨s1.heap.objs.size, [s1.heap.objs.size], _, _, H1, rfl, I1.kept (t' := s1.toks) fun b o e => Heap.get?_push_of_some _ e, turn_tuple a _, ⟨_, Heap.get?_push_size _ rfl, rfl, rfl⟩, fun b hb => ?_, q⟩
    have e : b = s1.heap.objs.size := by simpa using hb
    subst e
    exact I1.fpOk (Nat.le_refl _) (I1.hok.fresh (Nat.le_refl _))

section
variable {c : Cn} {Hs Hr F H F' H' F1 H1 F2 H2 : Hp} {σ σ' : L2.St} {Γ Γ' : List Sl} {O O' O1 O2 : OL} {v : V} {r a b : Res} {Φ : Res → OL → Prop} {ta tb te : TE} {t u : TT}
/-! ### tests -/
theorem wt_B {Φ : Bool → OL → Prop} (h : We c Γ O te fun a O1 => ∃ k, Any O1 a (.bool k) ∧ Φ k O1) : Wt c Γ O (tB te) Φ := fun F H σ I Q q =>
  h F H σ I _ fun x F1 H1 a O1 p I1 g1 ra => by
    obtain ⟨k, ka, p⟩ := p
    exact ⟨k, ka.bool I1 ra, q k F1 H1 O1 p I1 g1⟩
theorem wt_T {Φ : Bool → OL → Prop} (h : We c Γ O te fun a O1 => ∃ k, Any O1 a (.bool k) ∧ Φ k O1) : Wt c Γ O (tTest te) Φ := wt_B h
/-- truth of data -/
inductive Tru : PyData → Bool → Prop
  | non : Tru .none false
  | bool {k : Bool} : Tru (.bool k) k
  | int {i : Int} : Tru (.int i) (i != 0)
  | list {ds : List PyData} : Tru (.list ds) (!ds.isEmpty)
  | tuple {ds : List PyData} : Tru (.tuple ds) (!ds.isEmpty)
theorem Tru.ok {d : PyData} {k : Bool} (t : Tru d k) (h : Da H v d) : TruV c.K v H k := by
  cases t with
  | non => cases h; exact rfl
  | bool => cases h; exact rfl
  | int => cases h; exact rfl
  | list =>
    cases h with
    | lst h1 h2 => refine .inl ⟨_, SqL.of h1, ?_⟩; cases h2 <;> rfl
  | tuple =>
    cases h with
    | tup h1 h2 => refine .inr (.inl ⟨_, SqT.of h1, ?_⟩); cases h2 <;> rfl
abbrev tTru (K : PySem.W.Frag) (ta : TE) : TT := fun σ H Q => ta σ H fun x H' => ∃ k, TruV K x H' k ∧ Q k H'
theorem wt_tru {Φ : Bool → OL → Prop} (h : We c Γ O te fun a O1 => ∃ d k, Any O1 a d ∧ Tru d k ∧ Φ k O1) : Wt c Γ O (tTru c.K te) Φ := fun F H σ I Q q =>
  h F H σ I _ fun x F1 H1 a O1 p I1 g1 ra => by
    obtain ⟨d, k, ka, tr, p⟩ := p
    exact ⟨k, tr.ok (ka.da I1 ra), q k F1 H1 O1 p I1 g1⟩
theorem Wt.then {Ψ : Bool → OL → Prop} {Q : Bool → Hp → Prop} (I : Is c F1 H1 σ Γ O1) (g1 : Gr H F H O F1 H1 O1) (h : Wt c Γ O1 t Ψ) (q : ∀ b F' H' O', Ψ b O' → Is c F' H' σ Γ O' → Gr H F H O F' H' O' → Q b H') : t σ H1 Q :=
  h F1 H1 σ I Q fun v F2 H2 O2 p2 I2 g2 => q v F2 H2 O2 p2 I2 (g1.then g2)
theorem wt_and {Φ : Bool → OL → Prop} (h : Wt c Γ O t fun b O1 => if b = true then Wt c Γ O1 u Φ else Φ false O1) : Wt c Γ O (tAnd t u) Φ := fun F H σ I Q q =>
  h F H σ I _ fun b F1 H1 O1 p I1 g1 => by
    cases b with
    | true => exact Wt.then I1 g1 p q
    | false => exact q _ F1 H1 O1 p I1 g1
theorem wt_or {Φ : Bool → OL → Prop} (h : Wt c Γ O t fun b O1 => if b = true then Φ true O1 else Wt c Γ O1 u Φ) : Wt c Γ O (tOr t u) Φ := fun F H σ I Q q =>
  h F H σ I _ fun b F1 H1 O1 p I1 g1 => by
    cases b with
    | false => exact Wt.then I1 g1 p q
    | true => exact q _ F1 H1 O1 p I1 g1
theorem wt_not {Φ : Bool → OL → Prop} (h : Wt c Γ O t fun b O1 => Φ (!b) O1) : Wt c Γ O (tNot t) Φ := fun F H σ I Q q =>
  h F H σ I _ fun b F1 H1 O1 p I1 g1 => q _ F1 H1 O1 p I1 g1
theorem wt_yes {Φ : Bool → OL → Prop} (k : Φ true O) : Wt c Γ O tYes Φ := fun F H σ I Q q => q _ F H O k I (Gr.refl _ _ _ _)

/-! ### defs: what they promise -/
/-- what a def gives: data that is new (or without lists); a new list that nothing else holds -/
inductive Rt where
  | d (d : PyData)
  | l (ds : List PyData)
def Rt.res : Rt → Res
  | .d x => .fr x
  | .l xs => .nw xs
def RtOk (H H' F' : Hp) (v : V) : Rt → Prop
  | .d d => Da F' v d
  | .l ds => ∃ p vs, v = .ref p ∧ H p = none ∧ H' p = some (.lst vs) ∧ F' p = none ∧ Das F' vs ds
/-- behind a call: M is changed, all else stands; F' is what is new, and the tuples -/
structure Out (H H' F' : Hp) (M : List Addr) : Prop where
  hh : ∀ a o, H a = some o → a ∉ M → H' a = some o
  fh : Same F' H'
  ft : Tups H' F'
  f0 : ∀ a o, F' a = some o → H a = none ∨ isT o = true
  dm : Be H H'
/-- .. where what came in by A may be told, too -/
structure OutA (H H' F' : Hp) (M : List Addr) (A : Hp) : Prop where
  hh : ∀ a o, H a = some o → a ∉ M → H' a = some o
  fh : Same F' H'
  ft : Tups H' F'
  f0 : ∀ a o, F' a = some o → H a = none ∨ isT o = true ∨ A a = some o
  dm : Be H H'
def FeedAt (H : Hp) (a s : Addr) (ns : List Int) : Prop := ∃ i w sd : Int, H a = some (.lst [.ref s, .int i, .int w, .int sd]) ∧ FeedI ns.length i w sd
def delH (H : Hp) (a : Addr) : Hp := fun b => if b = a then none else H b
/-- a def that changes nothing -/
def SpD (T : List PyData → (Rt → Prop) → Prop) : Sp := fun vs H Q _ => ∃ ds Φ, T ds Φ ∧ Das H vs ds ∧ ∀ v r H' F', Φ r → Out H H' F' [] → RtOk H H' F' v r → Q v H'
/-- a def whose first argument is the feed -/
def SpF (K : PySem.W.Frag) (T : List PyData → (Rt → Prop) → Prop) : Sp := fun vs H Q _ => ∃ a s ns vs' ds Φ, vs = .ref a :: vs' ∧ FeedAt H a s ns ∧ SqL K (delH H a) s (ns.map V.int) ∧ T ds Φ ∧ Das (delH H a) vs' ds ∧
  ∀ v r H' F', Φ r → Out H H' F' [a] → FeedAt H' a s ns → RtOk H H' F' v r → Q v H'
/-- the state behind a call -/
theorem Is.outA {M' : List Addr} {A : Hp} (hA : Same A F) (I : Is c F H σ Γ O) (be : Be Hs H) (out : OutA H H' F' M' A) (hM : ∀ m ∈ M', ∃ s ns, (m, Ob.fd s ns) ∈ O ∧ FeedAt H' m s ns) :
    ∃ F2, Is c F2 H' σ Γ O ∧ Gr Hs F H O F2 H' O ∧ Same F' F2 ∧ ∀ p, H p = none → F' p = none → F2 p = none := by
  have hk : ∀ m ∈ M', m ∈ O.map (·.1) := fun m hm => by
    obtain ⟨s, ns, h1, _⟩ := hM m hm
    exact List.mem_map_of_mem h1
  have fM : ∀ m ∈ M', F m = none := fun m hm => by
    obtain ⟨s, ns, h1, _⟩ := hM m hm
    exact I.oF _ h1
  have bM : ∀ m ∈ M', c.B m = none := fun m hm => by
    obtain ⟨s, ns, h1, _⟩ := hM m hm
    exact I.oB _ h1
  have fH : Same F H' := fun a o e => out.hh a o (I.fh a o e) fun m => by rw [fM a m] at e; cases e
  have bH : Same c.B H' := fun a o e => out.hh a o (I.bh a o e) fun m => by rw [bM a m] at e; cases e
  generalize hF2 : (fun a => match F a with | some o => some o | none => F' a : Hp) = F2
  have a1 : ∀ a o, F a = some o → F2 a = some o := fun a o e => by rw [← hF2]; show (match F a with | some o => some o | none => F' a) = _; rw [e]
  have a2 : ∀ a, F a = none → F2 a = F' a := fun a e => by rw [← hF2]; show (match F a with | some o => some o | none => F' a) = _; rw [e]
  have f2H : Same F2 H' := fun a o e => by
    cases q : F a with
    | none => rw [a2 a q] at e; exact out.fh a o e
    | some u => rw [a1 a u q] at e; cases e; exact fH a _ q
  have f'2 : Same F' F2 := fun a o e => by
    cases q : F a with
    | none => rw [a2 a q]; exact e
    | some u =>
      have h1 := fH a u q
      rw [out.fh a o e] at h1
      cases h1
      exact a1 a _ q
  have key : ∀ a, F a = none → H a ≠ none → a ∉ M' → F2 a = none := fun a f h m => by
    rw [a2 a f]
    cases q : F' a with
    | none => rfl
    | some o =>
      rcases out.f0 a o q with z | z | z
      · exact absurd z h
      · cases hq : H a with
        | none => exact absurd hq h
        | some u =>
          have h1 := out.hh a u hq m
          rw [out.fh a o q] at h1
          cases h1
          rw [I.ft a _ hq z] at f
          cases f
      · rw [hA a o z] at f; cases f
  have keyM : ∀ a, a ∈ M' → F2 a = none := fun a m => by
    rw [a2 a (fM a m)]
    cases q : F' a with
    | none => rfl
    | some o =>
      obtain ⟨s, ns, h1, ⟨i, w, sd, h2, _⟩⟩ := hM a m
      have h3 := out.fh a o q
      rw [h2] at h3
      cases h3
      rcases out.f0 a _ q with z | z | z
      · obtain ⟨vs, q2⟩ := (I.oH _ h1).there
        rw [z] at q2
        cases q2
      · cases z
      · have := hA a _ z
        rw [fM a m] at this
        cases this
  refine ⟨F2, ⟨f2H, bH, fun a o e t => f'2 a o (out.ft a o e t), fun a o e => ?_, fun a o e m => ?_, fun a m z => I.mm a m (out.dm a z), I.nd, fun e he => ?_, I.oB, fun e he => ?_, fun p hp => daM (fun a o e => a1 a o e) _ _ (I.gh p hp), I.bz, I.ln, fun i s e => (I.sl i s e).mono fun a o e => a1 a o e⟩,
    ⟨fun a o e => a1 a o e, fun a o s e n => out.hh a o e fun m => n (hk a m), fun a s n f => ?_, fun _ h => .inl h, out.dm⟩, f'2, fun p h f => ?_⟩
  · cases q : F a with
    | none =>
      rw [a2 a q] at e
      rcases out.f0 a o e with z | z | z
      · exact .inl (I.h0none z)
      · exact .inr (.inl z)
      · have := hA a o z
        rw [q] at this
        cases this
    | some u =>
      rw [a1 a u q] at e
      cases e
      exact I.f0 a _ q
  · refine out.hh a o (I.h0 a o e m) fun m' => ?_
    obtain ⟨s, ns, h1, _⟩ := hM a m'
    obtain ⟨h2, _⟩ := I.oH _ h1
    rcases h2 with z | z
    · rw [z] at e; cases e
    · exact m z
  · obtain ⟨vs, q⟩ := (I.oH e he).there
    by_cases m : e.1 ∈ M'
    · exact keyM _ m
    · exact key _ (I.oF e he) (by rw [q]; exact fun z => nomatch z) m
  · by_cases m : e.1 ∈ M'
    · obtain ⟨s, ns, h1, h2⟩ := hM e.1 m
      obtain ⟨k, u⟩ := e
      have e2 : u = Ob.fd s ns := by
        obtain ⟨i, hi⟩ := List.getElem?_of_mem he
        obtain ⟨j, hj⟩ := List.getElem?_of_mem h1
        have hil := (List.getElem?_eq_some_iff.mp hi).1
        have e1 : (O.map (·.1))[i]? = (O.map (·.1))[j]? := by rw [List.getElem?_map, List.getElem?_map, hi, hj]; rfl
        have e3 := (List.getElem?_inj (by simpa using hil) I.nd).mp e1
        subst e3
        rw [hi] at hj
        cases hj
        rfl
      subst e2
      obtain ⟨g1, _, g3⟩ := I.oH _ he
      exact ⟨g1, h2, g3.imp (same_l fun a o e => a1 a o e) id⟩
    · obtain ⟨vs, q⟩ := (I.oH e he).there
      exact (I.oH e he).mono (fun a o e => a1 a o e) (by rw [q, out.hh _ _ q m])
  · by_cases m : a ∈ M'
    · exact absurd (hk a m) n
    · exact key a f (fun z => s (be a z)) m
  · rw [a2 p (I.fh.free h)]
    exact f
theorem Is.out {M' : List Addr} (I : Is c F H σ Γ O) (be : Be Hs H) (out : Out H H' F' M') (hM : ∀ m ∈ M', ∃ s ns, (m, Ob.fd s ns) ∈ O ∧ FeedAt H' m s ns) :
    ∃ F2, Is c F2 H' σ Γ O ∧ Gr Hs F H O F2 H' O ∧ Same F' F2 ∧ ∀ p, H p = none → F' p = none → F2 p = none :=
  Is.outA (A := noA) (fun a o e => by cases e) I be ⟨out.hh, out.fh, out.ft, fun a o e => (out.f0 a o e).imp id .inl, out.dm⟩ hM
theorem Is.ret {M' : List Addr} {v : V} {rt : Rt} {F2 : Hp} (I : Is c F H σ Γ O) (be : Be Hs H) (I2 : Is c F2 H' σ Γ O) (e : Same F' F2) (n : ∀ p, H p = none → F' p = none → F2 p = none) (h : RtOk H H' F' v rt) : ResOk c Hs F2 H' O v rt.res := by
  cases rt with
  | d d => exact daM e _ _ h
  | l ds =>
    obtain ⟨p, vs, rfl, h1, h2, h3, h4⟩ := h
    exact ⟨p, vs, rfl, ⟨h2, n p h1 h3, I.notKey h1, I.h0none h1, be p h1⟩, dasM e _ _ h4⟩
inductive Anys (O : OL) : List Res → List PyData → Prop
  | nil : Anys O [] []
  | cons {r : Res} {rs : List Res} {d : PyData} {ds : List PyData} : Any O r d → Anys O rs ds → Anys O (r :: rs) (d :: ds)
theorem Anys.das (I : Is c F H σ Γ O) : ∀ {rs : List Res} {ds : List PyData} {vs : List V}, Anys O rs ds → ResOks c Hs F H O vs rs → Das H vs ds
  | _, _, _, .nil, .nil => .nil
  | _, _, _, .cons a as, .cons h hs => .cons (a.da I h) (Anys.das I as hs)
/-- f(..), a def that changes nothing -/
theorem we_call {T : List PyData → (Rt → Prop) → Prop} {E : XK} {ts : TA} (h : Wa c Γ O ts fun as O1 => ∃ ds, Anys O1 as ds ∧ T ds fun rt => Φ rt.res O1) : We c Γ O (tCall (SpD T) [] E ts) Φ := fun F H σ I Q q =>
  h F H σ I _ fun xs F1 H1 as O1 p I1 g1 rs => by
    obtain ⟨ds, an, p⟩ := p
    refine ⟨ds, _, p, by rw [List.append_nil]; exact an.das I1 rs, fun v rt H' F' hp out ok => ?_⟩
    obtain ⟨F2, I2, g2, e2, n2⟩ := I1.out g1.be out fun m hm => by cases hm
    exact q v F2 H' rt.res O1 hp I2 (g1.trans g2) (I1.ret (M' := []) g1.be I2 e2 n2 ok)
theorem delH_same {F H : Hp} {a : Addr} (e : Same F H) (h : F a = none) : Same F (delH H a) := fun b o q => by
  show (if b = a then none else H b) = _
  rw [if_neg (fun z => by rw [z, h] at q; cases q)]
  exact e b o q
theorem delH_at {H : Hp} {a b : Addr} {o : HO} (h : H b = some o) (n : b ≠ a) : delH H a b = some o := by
  show (if b = a then none else H b) = _
  rw [if_neg n]
  exact h
theorem Any.daF (I : Is c F H σ Γ O) {d : PyData} {p s : Addr} {ns : List Int} (hp : (p, Ob.fd s ns) ∈ O) (a : Any O r d) (h : ResOk c Hs F H O v r) : Da (delH H p) v d := by
  have fd : Same F (delH H p) := delH_same I.fh (I.oF _ hp)
  cases a with
  | fr => exact daM fd _ _ h
  | bo => exact daM (delH_same I.bh (I.oB _ hp)) _ _ h
  | nw =>
    obtain ⟨q, vs, rfl, ⟨h1, h2, h3, _⟩, h6⟩ := h
    exact .lst (delH_at h1 fun z => h3 (by rw [z]; exact List.mem_map_of_mem hp)) (dasM fd _ _ h6)
  | @pt b ds m =>
    have e : v = .ref b := h
    subst e
    obtain ⟨_, vs, h1, h2⟩ := I.oH _ m
    refine .lst (delH_at h1 fun z => ?_) (dasM fd _ _ h2)
    subst z
    obtain ⟨i, hi⟩ := List.getElem?_of_mem m
    obtain ⟨j, hj⟩ := List.getElem?_of_mem hp
    have hil := (List.getElem?_eq_some_iff.mp hi).1
    have e1 : (O.map (·.1))[i]? = (O.map (·.1))[j]? := by rw [List.getElem?_map, List.getElem?_map, hi, hj]; rfl
    have e3 := (List.getElem?_inj (by simpa using hil) I.nd).mp e1
    subst e3
    rw [hi] at hj
    cases hj
theorem Anys.dasF (I : Is c F H σ Γ O) {p s : Addr} {ns : List Int} (hp : (p, Ob.fd s ns) ∈ O) : ∀ {rs : List Res} {ds : List PyData} {vs : List V}, Anys O rs ds → ResOks c Hs F H O vs rs → Das (delH H p) vs ds
  | _, _, _, .nil, .nil => .nil
  | _, _, _, .cons a as, .cons h hs => .cons (a.daF I hp h) (Anys.dasF I hp as hs)
/-- f(feed, ..) -/
theorem we_callF {T : List PyData → (Rt → Prop) → Prop} {E : XK} {ts : TA} (h : Wa c Γ O ts fun as O1 => ∃ p s ns as' ds, as = .pt p :: as' ∧ (p, Ob.fd s ns) ∈ O1 ∧ Anys O1 as' ds ∧ T ds fun rt => Φ rt.res O1) : We c Γ O (tCall (SpF c.K T) [] E ts) Φ := fun F H σ I Q q =>
  h F H σ I _ fun xs F1 H1 as O1 p I1 g1 rs => by
    obtain ⟨p, s, ns, as', ds, rfl, hp, an, hT⟩ := p
    cases rs with
    | @cons x xs' _ _ hx hxs =>
      have e : x = .ref p := hx
      subst e
      obtain ⟨_, hf, hs⟩ := I1.oH _ hp
      have hs' : SqL c.K (delH H1 p) s (ns.map V.int) := by
        rcases hs with z | z
        · exact same_l (delH_same I1.fh (I1.oF _ hp)) z
        · exact same_l (delH_same I1.bh (I1.oB _ hp)) z
      refine ⟨p, s, ns, xs', ds, _, by rw [List.append_nil], hf, hs', hT, an.dasF I1 hp hxs, fun v rt H' F' hp' out fe ok => ?_⟩
      obtain ⟨F2, I2, g2, e2, n2⟩ := I1.out g1.be out fun m hm => by
        rcases List.mem_singleton.mp hm with rfl
        exact ⟨s, ns, hp, fe⟩
      exact q v F2 H' rt.res O1 hp' I2 (g1.trans g2) (I1.ret (M' := []) g1.be I2 e2 n2 ok)
end
end DL

/-! DL5: targets, what is walked, comprehensions. -/
namespace DL
open PySem PySem.Spec PyProof.Rows L2

section
variable {c : Cn} {Hs Hr F H F' H' F1 H1 F2 H2 : Hp} {σ σ' : L2.St} {Γ Γ' : List Sl} {O O' O1 O2 : OL} {v : V} {r a b : Res} {Φ : Res → OL → Prop} {ta tb te : TE} {t u : TT}
/-! ### slots -/
theorem getElem?_set_sl {Γ : List Sl} {i j : Nat} {s : Sl} (hi : i < Γ.length) : (Γ.set i s)[j]? = if i = j then some s else Γ[j]? := by
  by_cases h : i = j
  · subst h
    rw [if_pos rfl, List.getElem?_set_self hi]
  · rw [if_neg h, List.getElem?_set_ne h]
theorem Is.set (I : Is c F H σ Γ O) {i : Nat} {s : Sl} {v : V} (h : SlOk c F (some v) s) : Is c F H (σ.set i (some v)) (Γ.set i s) O := by
  refine ⟨I.fh, I.bh, I.ft, I.f0, I.h0, I.mm, I.nd, I.oF, I.oB, I.oH, I.gh, I.bz, by rw [List.length_set, List.length_set]; exact I.ln, fun j s' e => ?_⟩
  by_cases hi : i < Γ.length
  · rw [getElem?_set_sl hi] at e
    by_cases hij : i = j
    · subst hij
      rw [if_pos rfl] at e
      cases e
      rw [List.getElem?_set_self (by rw [I.ln]; exact hi)]
      exact h
    · rw [if_neg hij] at e
      rw [List.getElem?_set_ne hij]
      exact I.sl j s' e
  · rw [List.set_eq_of_length_le (Nat.le_of_not_lt hi)] at e
    rw [List.set_eq_of_length_le (by rw [I.ln]; exact Nat.le_of_not_lt hi)]
    exact I.sl j s' e
/-- an unlike frame at the same heap -/
theorem Is.back (I : Is c F H σ Γ O) (I' : Is c F' H' σ' Γ' O') (e : Same F F') : Is c F' H' σ Γ O' :=
  ⟨I'.fh, I'.bh, I'.ft, I'.f0, I'.h0, I'.mm, I'.nd, I'.oF, I'.oB, I'.oH, I'.gh, I'.bz, I.ln, fun i s h => (I.sl i s h).mono e⟩
def wipeG (Γ : List Sl) : List Nat → List Sl
  | [] => Γ
  | v :: vs => (wipeG Γ vs).set v .un
theorem Is.wipe (I : Is c F H σ Γ O) : ∀ vs : List Nat, Is c F H (wipe σ vs) (wipeG Γ vs) O
  | [] => I
  | v :: vs => by
    have J := Is.wipe I vs
    refine ⟨I.fh, I.bh, I.ft, I.f0, I.h0, I.mm, I.nd, I.oF, I.oB, I.oH, I.gh, I.bz, by show ((L2.wipe σ vs).set v none).length = ((wipeG Γ vs).set v .un).length; rw [List.length_set, List.length_set]; exact J.ln, fun j s' e => ?_⟩
    have e : ((wipeG Γ vs).set v .un)[j]? = some s' := e
    show SlOk c F ((((L2.wipe σ vs).set v none)[j]?).bind id) s'
    by_cases hi : v < (wipeG Γ vs).length
    · rw [getElem?_set_sl hi] at e
      by_cases hij : v = j
      · subst hij
        rw [if_pos rfl] at e
        cases e
        trivial
      · rw [if_neg hij] at e
        rw [List.getElem?_set_ne hij]
        exact J.sl j s' e
    · rw [List.set_eq_of_length_le (Nat.le_of_not_lt hi)] at e
      rw [List.set_eq_of_length_le (by rw [J.ln]; exact Nat.le_of_not_lt hi)]
      exact J.sl j s' e
theorem wipe_in {σ : L2.St} {i : Nat} : ∀ {vs : List Nat}, i ∈ vs → i < σ.length → (wipe σ vs)[i]? = some none
  | v :: vs, h, hl => by
    show ((wipe σ vs).set v none)[i]? = _
    by_cases hv : v = i
    · subst hv
      rw [List.getElem?_set_self (by rw [wipe_length]; exact hl)]
    · rw [List.getElem?_set_ne hv]
      exact wipe_in ((List.mem_cons.mp h).resolve_left (fun e => hv e.symm)) hl
theorem wipe_eq {σ σ' : L2.St} {vs : List Nat} (hl : σ'.length = σ.length) (h : ∀ j, j ∉ vs → σ'[j]? = σ[j]?) : wipe σ' vs = wipe σ vs := by
  apply List.ext_getElem?
  intro j
  by_cases hj : j ∈ vs
  · by_cases hlt : j < σ.length
    · rw [wipe_in hj (by omega), wipe_in hj hlt]
    · rw [List.getElem?_eq_none (by rw [wipe_length]; omega), List.getElem?_eq_none (by rw [wipe_length]; omega)]
  · rw [wipe_out hj, wipe_out hj, h j hj]

/-! ### targets -/
/-- a result stored; the places ix alone are changed -/
def Wg (c : Cn) (Γ : List Sl) (O : OL) (g : TG) (ix : List Nat) (r : Res) (Ψ : List Sl → Prop) : Prop :=
  ∀ Hs F H σ, Is c F H σ Γ O → ∀ x, ResOk c Hs F H O x r → ∀ Q : L2.St → Hp → Prop, (∀ σ' Γ', Ψ Γ' → Is c F H σ' Γ' O → σ'.length = σ.length → (∀ j, j ∉ ix → σ'[j]? = σ[j]?) → Q σ' H) → g x σ H Q
def Wgs (c : Cn) (Γ : List Sl) (O : OL) (g : TGs) (ix : List Nat) (rs : List Res) (Ψ : List Sl → Prop) : Prop :=
  ∀ Hs F H σ, Is c F H σ Γ O → ∀ xs, ResOks c Hs F H O xs rs → ∀ Q : L2.St → Hp → Prop, (∀ σ' Γ', Ψ Γ' → Is c F H σ' Γ' O → σ'.length = σ.length → (∀ j, j ∉ ix → σ'[j]? = σ[j]?) → Q σ' H) → g xs σ H Q
def Res.sl : Res → Option Sl
  | .fr x => some (.fr x)
  | .bo x => some (.bo x)
  | .pt x => some (.pt x)
  | .sq x => some (.sq x)
  | .nw _ => none
  | .ty _ => none
theorem ResOk.sl {s : Sl} (h : ResOk c Hs F H O v r) (e : r.sl = some s) : SlOk c F (some v) s := by
  cases r with
  | fr d => cases e; exact ⟨v, rfl, h⟩
  | bo d => cases e; exact ⟨v, rfl, h⟩
  | pt a => cases e; exact congrArg some h
  | sq ns => cases e; obtain ⟨a, e, h2⟩ := h; exact ⟨a, congrArg some e, h2⟩
  | nw ds => cases e
  | ty n => cases e
theorem wg_name {Ψ : List Sl → Prop} {i : Nat} {s : Sl} (hs : r.sl = some s) (k : Ψ (Γ.set i s)) : Wg c Γ O (gName i) [i] r Ψ := fun Hs F H σ I x hx Q q =>
  q _ _ k (I.set (hx.sl hs)) (List.length_set) fun j hj => List.getElem?_set_ne (fun e => hj (by rw [e]; exact List.mem_singleton_self _))
theorem wgs_nil {Ψ : List Sl → Prop} (k : Ψ Γ) : Wgs c Γ O gNil [] [] Ψ := fun Hs F H σ I xs hx Q q => by
  cases hx
  exact ⟨rfl, q σ Γ k I rfl fun _ _ => rfl⟩
theorem wgs_cons {Ψ : List Sl → Prop} {g : TG} {gs : TGs} {ix is : List Nat} {rs : List Res} (h : Wg c Γ O g ix r fun Γ1 => Wgs c Γ1 O gs is rs Ψ) : Wgs c Γ O (gCons g gs) (ix ++ is) (r :: rs) Ψ := fun Hs F H σ I xs hx Q q => by
  cases hx with
  | cons h1 h2 =>
    exact ⟨_, _, rfl, h Hs F H σ I _ h1 _ fun σ1 Γ1 p1 I1 l1 k1 => p1 Hs F H σ1 I1 _ h2 Q fun σ2 Γ2 p2 I2 l2 k2 => q σ2 Γ2 p2 I2 (l2.trans l1) fun j hj =>
      (k2 j fun m => hj (List.mem_append_right _ m)).trans (k1 j fun m => hj (List.mem_append_left _ m))⟩
theorem resOks_of {w : Bool} : ∀ {vs : List V} {ds : List PyData}, Das (Vw c F w) vs ds → ResOks c Hs F H O vs (ds.map (Res.of w))
  | _, _, .nil => .nil
  | _, _, .cons h t => .cons (resOk_of h) (resOks_of t)
theorem wg_tup {Ψ : List Sl → Prop} {n : Nat} {gs : TGs} {ix : List Nat} {ds : List PyData} {w : Bool} (ht : Tup r ds w) (hn : ds.length = n) (h : Wgs c Γ O gs ix (ds.map (Res.of w)) Ψ) : Wg c Γ O (gTup c.K n gs) ix r Ψ := fun Hs F H σ I x hx Q q => by
  obtain ⟨p, vs, rfl, h1, h2⟩ := ht.da I hx
  exact ⟨p, vs, rfl, SqT.of h1, by rw [das_len h2]; exact hn, h Hs F H σ I vs (resOks_of h2) Q q⟩

/-! ### what is walked -/
def Wk (c : Cn) (g : List (V × PyData)) (J : It) (n : Nat) (item : Nat → Res) : Prop :=
  ∀ F H σ Γ O, Is c F H σ Γ O → (∀ p ∈ g, Da F p.1 p.2) → ∀ i, (i < n → J.go i H ∧ ∀ x H', J.yld i H x H' → ∃ F', Is c F' H' σ Γ O ∧ (∀ Hs, Be Hs H → Gr Hs F H O F' H' O) ∧ ∀ Hs, ResOk c Hs F' H' O x (item i)) ∧ (i = n → J.stop i H)
def Wi (c : Cn) (Γ : List Sl) (O : OL) (wi : TI) (Φ : Nat → (Nat → Res) → OL → Prop) : Prop :=
  ∀ F H σ, Is c F H σ Γ O → ∀ R : It → Hp → Prop, (∀ g J F' H' O' n item, Φ n item O' → Is c F' H' σ Γ O' → Gr H F H O F' H' O' → (∀ p ∈ g, Da F' p.1 p.2) → Wk c g J n item → R J H') → wi σ H R
/-- what a loop may walk: it stays -/
inductive SeqW : Res → List PyData → Bool → Prop
  | fr {ds : List PyData} : SeqW (.fr (.list ds)) ds true
  | nw {ds : List PyData} : SeqW (.nw ds) ds true
  | bo {ds : List PyData} : SeqW (.bo (.list ds)) ds false
  | bf {ds : List PyData} (h : lfs ds = true) : SeqW (.bo (.list ds)) ds true
  | tf {ds : List PyData} : SeqW (.fr (.tuple ds)) ds true
  | tb {ds : List PyData} : SeqW (.bo (.tuple ds)) ds false
theorem itm {ds : List PyData} {i : Nat} (hi : i < ds.length) : ds[i]? = some (ds.getD i .none) := by
  rw [List.getD_eq_getElem?_getD, List.getElem?_eq_getElem hi]
  rfl
/-- a walk over a list that is seen in W -/
theorem wk_list {p : Addr} {ds : List PyData} {w : Bool} {g : List (V × PyData)} (hW : ∀ F H σ Γ O, Is c F H σ Γ O → (∀ p ∈ g, Da F p.1 p.2) → ∃ vs, H p = some (.lst vs) ∧ Das (Vw c F w) vs ds) :
    Wk c g (Itl c.K p) ds.length fun i => Res.of w (ds.getD i .none) := fun F H σ Γ O I gh i => by
  obtain ⟨vs, h1, h2⟩ := hW F H σ Γ O I gh
  have hl := das_len h2
  refine ⟨fun hi => ⟨⟨vs, vs[i], SqL.of h1, List.getElem?_eq_getElem (by omega)⟩, fun x H' y => ?_⟩, fun hi => ⟨vs, SqL.of h1, by omega⟩⟩
  obtain ⟨rfl, y⟩ := y
  obtain ⟨d, e1, e2⟩ := das_get h2 (y vs (SqL.of h1))
  have e3 : ds.getD i .none = d := by rw [List.getD_eq_getElem?_getD, e1]; rfl
  exact ⟨F, I, fun _ _ => Gr.refl _ _ _ _, fun Hs => by dsimp only; rw [e3]; exact resOk_of e2⟩
theorem wk_tuple {p : Addr} {ds : List PyData} {w : Bool} {g : List (V × PyData)} (hW : ∀ F H σ Γ O, Is c F H σ Γ O → (∀ p ∈ g, Da F p.1 p.2) → ∃ vs, H p = some (.tup vs) ∧ Das (Vw c F w) vs ds) :
    Wk c g (Itt c.K p) ds.length fun i => Res.of w (ds.getD i .none) := fun F H σ Γ O I gh i => by
  obtain ⟨vs, h1, h2⟩ := hW F H σ Γ O I gh
  have hl := das_len h2
  refine ⟨fun hi => ⟨⟨vs, vs[i], SqT.of h1, List.getElem?_eq_getElem (by omega)⟩, fun x H' y => ?_⟩, fun hi => ⟨vs, SqT.of h1, by omega⟩⟩
  obtain ⟨rfl, y⟩ := y
  obtain ⟨d, e1, e2⟩ := das_get h2 (y vs (SqT.of h1))
  have e3 : ds.getD i .none = d := by rw [List.getD_eq_getElem?_getD, e1]; rfl
  exact ⟨F, I, fun _ _ => Gr.refl _ _ _ _, fun Hs => by dsimp only; rw [e3]; exact resOk_of e2⟩
theorem wi_seq {Φ : Nat → (Nat → Res) → OL → Prop} (h : We c Γ O te fun r O1 => ∃ ds w, SeqW r ds w ∧ Φ ds.length (fun i => Res.of w (ds.getD i .none)) O1) : Wi c Γ O (iSeq c.K te) Φ := fun F H σ I R q =>
  h F H σ I _ fun x F1 H1 a O1 p I1 g1 ra => by
    obtain ⟨ds, w, sw, p⟩ := p
    cases sw with
    | fr =>
      cases ra with
      | @lst a vs _ h1 h2 =>
        refine ⟨a, rfl, .inl ⟨⟨vs, SqL.of (I1.fh _ _ h1)⟩, q [(.ref a, .list ds)] _ F1 H1 O1 _ _ p I1 g1 (fun p hp => ?_) (wk_list fun F H σ Γ O I gh => ?_)⟩⟩
        · rcases List.mem_singleton.mp hp with rfl
          exact .lst h1 h2
        · cases gh _ (List.mem_singleton_self _) with
          | lst g1 g2 => exact ⟨_, I.fh _ _ g1, g2⟩
    | nw =>
      obtain ⟨F2, I2, g2, k2⟩ := (Fz.nw (ds := ds)).go I1 ra
      cases k2 with
      | @lst a vs _ h1 h2 =>
        refine ⟨a, rfl, .inl ⟨⟨vs, SqL.of (I2.fh _ _ h1)⟩, q [(.ref a, .list ds)] _ F2 H1 O1 _ _ p I2 (g1.trans g2) (fun p hp => ?_) (wk_list fun F H σ Γ O I gh => ?_)⟩⟩
        · rcases List.mem_singleton.mp hp with rfl
          exact .lst h1 h2
        · cases gh _ (List.mem_singleton_self _) with
          | lst g1 g2 => exact ⟨_, I.fh _ _ g1, g2⟩
    | bo =>
      cases ra with
      | @lst a vs _ h1 h2 =>
        refine ⟨a, rfl, .inl ⟨⟨vs, SqL.of (I1.bh _ _ h1)⟩, q [] _ F1 H1 O1 _ _ p I1 g1 (fun p hp => by cases hp) (wk_list fun F H σ Γ O I gh => ⟨vs, I.bh _ _ h1, h2⟩)⟩⟩
    | bf l =>
      cases ra with
      | @lst a vs _ h1 h2 =>
        refine ⟨a, rfl, .inl ⟨⟨vs, SqL.of (I1.bh _ _ h1)⟩, q [] _ F1 H1 O1 _ _ p I1 g1 (fun p hp => by cases hp) (wk_list fun F H σ Γ O I gh => ⟨vs, I.bh _ _ h1, dasT I.tb _ _ l h2⟩)⟩⟩
    | tf =>
      cases ra with
      | @tup a vs _ h1 h2 =>
        refine ⟨a, rfl, .inr ⟨⟨vs, SqT.of (I1.fh _ _ h1)⟩, q [(.ref a, .tuple ds)] _ F1 H1 O1 _ _ p I1 g1 (fun p hp => ?_) (wk_tuple fun F H σ Γ O I gh => ?_)⟩⟩
        · rcases List.mem_singleton.mp hp with rfl
          exact .tup h1 h2
        · cases gh _ (List.mem_singleton_self _) with
          | tup g1 g2 => exact ⟨_, I.fh _ _ g1, g2⟩
    | tb =>
      cases ra with
      | @tup a vs _ h1 h2 =>
        refine ⟨a, rfl, .inr ⟨⟨vs, SqT.of (I1.bh _ _ h1)⟩, q [] _ F1 H1 O1 _ _ p I1 g1 (fun p hp => by cases hp) (wk_tuple fun F H σ Γ O I gh => ⟨vs, I.bh _ _ h1, h2⟩)⟩⟩
theorem wk_range {lo : Int} {n : Nat} : Wk c [] (Itr lo n) n fun i => .fr (.int (lo + i)) := fun F H σ Γ O I gh i => by
  refine ⟨fun hi => ⟨hi, fun x H' y => ?_⟩, fun hi => ?_⟩
  · obtain ⟨rfl, rfl⟩ := y
    exact ⟨F, I, fun _ _ => Gr.refl _ _ _ _, fun Hs => Da.int _⟩
  · show n ≤ i
    omega
theorem wi_rng1 {Φ : Nat → (Nat → Res) → OL → Prop} {ts : TA} (h : Wa c Γ O ts fun as O1 => ∃ a j, as = [a] ∧ Any O1 a (.int j) ∧ j ≤ 1000000 ∧ -1000000 ≤ j ∧ Φ j.toNat (fun i => .fr (.int (0 + (i : Int)))) O1) : Wi c Γ O (iRng1 ts) Φ := fun F H σ I R q =>
  h F H σ I _ fun xs F1 H1 as O1 p I1 g1 ra => by
    obtain ⟨a, j, rfl, aj, h1, h2, p⟩ := p
    obtain ⟨x, rfl, hx⟩ := ra.one
    cases aj.int I1 hx
    exact ⟨j, rfl, by omega, by omega, q [] _ F1 H1 O1 _ _ p I1 g1 (fun p hp => by cases hp) wk_range⟩
theorem wi_rng2 {Φ : Nat → (Nat → Res) → OL → Prop} {ts : TA} (h : Wa c Γ O ts fun as O1 => ∃ a b i j, as = [a, b] ∧ Any O1 a (.int i) ∧ Any O1 b (.int j) ∧ (-1000000 ≤ i ∧ i ≤ 1000000 ∧ -1000000 ≤ j ∧ j ≤ 1000000) ∧ Φ (j - i).toNat (fun k => .fr (.int (i + (k : Int)))) O1) : Wi c Γ O (iRng2 ts) Φ := fun F H σ I R q =>
  h F H σ I _ fun xs F1 H1 as O1 p I1 g1 ra => by
    obtain ⟨a, b, i, j, rfl, ai, aj, ⟨h1, h2, h3, h4⟩, p⟩ := p
    obtain ⟨x, y, rfl, hx, hy⟩ := ra.two
    cases ai.int I1 hx
    cases aj.int I1 hy
    exact ⟨i, j, rfl, ⟨by omega, by omega, by omega, by omega⟩, q [] _ F1 H1 O1 _ _ p I1 g1 (fun p hp => by cases hp) wk_range⟩
theorem wk_enum {p : Addr} {ds : List PyData} {g : List (V × PyData)} (hW : ∀ F H σ Γ O, Is c F H σ Γ O → (∀ p ∈ g, Da F p.1 p.2) → ∃ vs, H p = some (.lst vs) ∧ Das F vs ds) :
    Wk c g (Ite c.K p) ds.length fun i => .fr (.tuple [.int (i : Nat), ds.getD i .none]) := fun F H σ Γ O I gh i => by
  obtain ⟨vs, h1, h2⟩ := hW F H σ Γ O I gh
  have hl := das_len h2
  refine ⟨fun hi => ⟨⟨vs, vs[i], SqL.of h1, List.getElem?_eq_getElem (by omega)⟩, fun x H' y => ?_⟩, fun hi => ⟨vs, SqL.of h1, by omega⟩⟩
  obtain ⟨T, x', rfl, hT, rfl, y⟩ := y
  obtain ⟨d, e1, e2⟩ := das_get h2 (y vs (SqL.of h1))
  have e3 : ds.getD i .none = d := by rw [List.getD_eq_getElem?_getD, e1]; rfl
  obtain ⟨I2, _⟩ := I.newT (Hs := H) hT [.int (i : Nat), x']
  refine ⟨_, I2, fun Hs be => (I.newT (Hs := Hs) hT [.int (i : Nat), x']).2 be, fun Hs => ?_⟩
  dsimp only
  rw [e3]
  exact Da.tup upd_same (.cons (.int _) (.cons (daM (same_new (I.fh.free hT)) _ _ e2) .nil))
theorem wi_enum {Φ : Nat → (Nat → Res) → OL → Prop} {ts : TA} (h : Wa c Γ O ts fun as O1 => ∃ r ds, as = [r] ∧ SeqW r ds true ∧ (∀ es, r ≠ .fr (.tuple es)) ∧ Φ ds.length (fun i => .fr (.tuple [.int (i : Nat), ds.getD i .none])) O1) : Wi c Γ O (iEnum c.K ts) Φ := fun F H σ I R q =>
  h F H σ I _ fun xs F1 H1 as O1 p I1 g1 ra => by
    obtain ⟨r, ds, rfl, sw, hne, p⟩ := p
    obtain ⟨x, rfl, hx⟩ := ra.one
    cases sw with
    | fr =>
      cases hx with
      | @lst a vs _ h1 h2 =>
        refine ⟨a, vs, rfl, SqL.of (I1.fh _ _ h1), q [(.ref a, .list ds)] _ F1 H1 O1 _ _ p I1 g1 (fun p hp => ?_) (wk_enum fun F H σ Γ O I gh => ?_)⟩
        · rcases List.mem_singleton.mp hp with rfl
          exact .lst h1 h2
        · cases gh _ (List.mem_singleton_self _) with
          | lst g1 g2 => exact ⟨_, I.fh _ _ g1, g2⟩
    | nw =>
      obtain ⟨F2, I2, g2, k2⟩ := (Fz.nw (ds := ds)).go I1 hx
      cases k2 with
      | @lst a vs _ h1 h2 =>
        refine ⟨a, vs, rfl, SqL.of (I2.fh _ _ h1), q [(.ref a, .list ds)] _ F2 H1 O1 _ _ p I2 (g1.trans g2) (fun p hp => ?_) (wk_enum fun F H σ Γ O I gh => ?_)⟩
        · rcases List.mem_singleton.mp hp with rfl
          exact .lst h1 h2
        · cases gh _ (List.mem_singleton_self _) with
          | lst g1 g2 => exact ⟨_, I.fh _ _ g1, g2⟩
    | bf l =>
      cases hx with
      | @lst a vs _ h1 h2 =>
        exact ⟨a, vs, rfl, SqL.of (I1.bh _ _ h1), q [] _ F1 H1 O1 _ _ p I1 g1 (fun p hp => by cases hp) (wk_enum fun F H σ Γ O I gh => ⟨vs, I.bh _ _ h1, dasT I.tb _ _ l h2⟩)⟩
    | tf => exact absurd rfl (hne _)

/-! ### comprehensions -/
/-- a new list that nothing knows changes -/
theorem Is.updD (I : Is c F H σ Γ O) {p : Addr} {xs ys : List V} (h1 : H p = some (.lst xs)) (h2 : F p = none) (h3 : p ∉ O.map (·.1)) (h4 : c.H0 p = none) (h5 : c.B p = none) : Is c F (upd H p (.lst ys)) σ Γ O := by
  refine ⟨same_upd I.fh h2, same_upd I.bh h5, fun b o e t => ?_, I.f0, fun b o e m => ?_, fun b m z => I.mm b m ?_, I.nd, I.oF, I.oB, fun e he => (I.oH e he).mono (Same.refl _) (upd_ne fun q => h3 (by rw [← q]; exact List.mem_map_of_mem he)).symm, I.gh, I.bz, I.ln, I.sl⟩
  · by_cases hb : b = p
    · subst hb; rw [upd_same] at e; cases e; cases t
    · rw [upd_ne hb] at e; exact I.ft b o e t
  · rw [upd_ne (fun q => by rw [q, h4] at e; cases e)]
    exact I.h0 b o e m
  · by_cases hb : b = p
    · subst hb; rw [upd_same] at z; cases z
    · rw [upd_ne hb] at z; exact z
theorem Gr.updD {p : Addr} {xs ys : List V} (g : Gr Hs F H O F' H' O') (h0 : Hs p = none) : Gr Hs F H O F' (upd H' p (.lst ys)) O' :=
  ⟨g.ff, fun a o s e n => by rw [upd_ne (fun q => s (by rw [q]; exact h0))]; exact g.hh a o s e n, g.nf, g.kk, fun a z => by
    by_cases hb : a = p
    · subst hb; rw [upd_same] at z; cases z
    · rw [upd_ne hb] at z; exact g.dm a z⟩
/-- .. as the objects stand now -/
def WkO (c : Cn) (g : List (V × PyData)) (O : OL) (J : It) (n : Nat) (item : Nat → Res) : Prop :=
  ∀ F H σ Γ, Is c F H σ Γ O → (∀ p ∈ g, Da F p.1 p.2) → ∀ i, (i < n → J.go i H ∧ ∀ x H', J.yld i H x H' → ∃ F', Is c F' H' σ Γ O ∧ (∀ Hs, Be Hs H → Gr Hs F H O F' H' O) ∧ ∀ Hs, ResOk c Hs F' H' O x (item i)) ∧ (i = n → J.stop i H)
def WiO (c : Cn) (Γ : List Sl) (O : OL) (wi : TI) (Φ : Nat → (Nat → Res) → OL → Prop) : Prop :=
  ∀ F H σ, Is c F H σ Γ O → ∀ R : It → Hp → Prop, (∀ g J F' H' O' n item, Φ n item O' → Is c F' H' σ Γ O' → Gr H F H O F' H' O' → (∀ p ∈ g, Da F' p.1 p.2) → WkO c g O' J n item → R J H') → wi σ H R
theorem Wi.toO {wi : TI} {Φ : Nat → (Nat → Res) → OL → Prop} (h : Wi c Γ O wi Φ) : WiO c Γ O wi Φ := fun F H σ I R q => h F H σ I R fun g J F' H' O' n item p I' gr gd wk => q g J F' H' O' n item p I' gr gd fun F2 H2 σ2 Γ2 I2 gd2 => wk F2 H2 σ2 Γ2 O' I2 gd2
/-- the items of a name's own list -/
theorem wiO_own {Φ : Nat → (Nat → Res) → OL → Prop} {i : Nat} {a : Addr} {ds : List PyData} (hs : Γ[i]? = some (.pt a)) (hm : (a, Ob.l ds) ∈ O) (k : Φ ds.length (fun j => .fr (ds.getD j .none)) O) : WiO c Γ O (iSeq c.K (tVar i)) Φ := fun F H σ I R q => by
  have e : (σ[i]?).bind id = some (V.ref a) := I.sl i _ hs
  have e2 : σ[i]? = some (some (V.ref a)) := by
    cases hx : σ[i]? with
    | none => rw [hx] at e; cases e
    | some x => rw [hx] at e; exact congrArg some e
  obtain ⟨_, vs, h1, h2⟩ := I.oH _ hm
  refine ⟨_, e2, a, rfl, .inl ⟨⟨vs, SqL.of h1⟩, q [] _ F H O _ _ k I (Gr.refl _ _ _ _) (fun p hp => by cases hp) fun F2 H2 σ2 Γ2 I2 _ j => ?_⟩⟩
  obtain ⟨_, vs, h1, h2⟩ := I2.oH _ hm
  have hl := das_len h2
  refine ⟨fun hj => ⟨⟨vs, vs[j], SqL.of h1, List.getElem?_eq_getElem (by omega)⟩, fun x H' y => ?_⟩, fun hj => ⟨vs, SqL.of h1, by omega⟩⟩
  obtain ⟨rfl, y⟩ := y
  obtain ⟨d, e1, e2⟩ := das_get h2 (y vs (SqL.of h1))
  have e3 : ds.getD j .none = d := by rw [List.getD_eq_getElem?_getD, e1]; rfl
  exact ⟨F2, I2, fun _ _ => Gr.refl _ _ _ _, fun Hs => by rw [e3]; exact e2⟩
theorem we_lcG {wi : TI} {g : TG} {tt : TT} {vs : List Nat} (ix : List Nat) (h : WiO c Γ O wi fun n item O1 => n ≤ 1000000 ∧ ∃ I : Nat → List PyData → Prop, I 0 [] ∧
      (∀ i es, i < n → I i es → Wg c (wipeG Γ vs) O1 g ix (item i) fun Γ2 => Wt c Γ2 O1 tt fun b O2 => O2 = O1 ∧ if b = true then We c Γ2 O1 te fun r O3 => O3 = O1 ∧ ∃ d, Fz r d ∧ I (i + 1) (es ++ [d]) else I (i + 1) es) ∧
      ∀ es, I n es → Φ (.nw es) O1) (hix : ∀ j ∈ ix, j ∈ vs := by decide) : We c Γ O (tLc wi g tt te vs) Φ := fun F H σ Is0 Q q =>
  h F H σ Is0 _ fun gs J F1 H1 O1 n item p I1 g1 gd wk D hD => by
    obtain ⟨hn, I, i0, step, fin⟩ := p
    obtain ⟨J1, gJ⟩ := I1.newL (Hs := H) hD []
    have d0 := g1.be D hD
    have dF : F1 D = none := I1.fh.free hD
    have dB : c.B D = none := I1.bh.free hD
    have dk := I1.notKey hD
    have dH := I1.h0none hD
    refine ⟨fun i m H2 => m = n - i ∧ i ≤ n ∧ ∃ F2 es acc, Is c F2 H2 σ Γ O1 ∧ Gr H F H O F2 H2 O1 ∧ H2 D = some (.lst acc) ∧ F2 D = none ∧ Das F2 acc es ∧ (∀ p ∈ gs, Da F2 p.1 p.2) ∧ I i es ∧ es.length ≤ i,
      ⟨n, by omega, by omega, F1, [], [], J1, g1.trans gJ, upd_same, dF, .nil, gd, i0, Nat.le_refl _⟩, ?_⟩
    rintro i m H2 ⟨rfl, hi, F2, es, acc, I2, g2, hD2, dF2, hes, gh2, ih, hel⟩
    obtain ⟨w1, w2⟩ := wk F2 H2 σ Γ I2 gh2 i
    by_cases hlt : i < n
    · obtain ⟨go, y⟩ := w1 hlt
      refine .inr ⟨go, fun H3 => i + 1 ≤ n ∧ ∃ F3 es acc, Is c F3 H3 σ Γ O1 ∧ Gr H F H O F3 H3 O1 ∧ H3 D = some (.lst acc) ∧ F3 D = none ∧ Das F3 acc es ∧ (∀ p ∈ gs, Da F3 p.1 p.2) ∧ I (i + 1) es ∧ es.length ≤ i + 1,
        fun H3 ⟨a, b⟩ => ⟨n - (i + 1), by omega, rfl, a, b⟩, fun x H3 yl => ?_⟩
      obtain ⟨F3, I3, g3, r3⟩ := y x H3 yl
      have g23 := g3 H2 (Be.refl _)
      have nD2 : H2 D ≠ none := by rw [hD2]; exact fun z => nomatch z
      have hD3 := g23.hh D _ nD2 hD2 dk
      have dF3 := g23.nf D nD2 dk dF2
      refine step i es hlt ih H3 F3 H3 _ (I3.wipe vs) x (r3 H3) _ fun σ4 Γ4 p4 I4 l4 k4 => ⟨?_, ?_⟩
      · exact (wipe_eq (by rw [l4, wipe_length]) fun j hj => (k4 j fun m => hj (hix j m)).trans (wipe_out hj))
      · refine p4 F3 H3 σ4 I4 _ fun b F5 H5 O5 p5 I5 g5 => ?_
        obtain ⟨rfl, p5⟩ := p5
        have nD3 : H3 D ≠ none := by rw [hD3]; exact fun z => nomatch z
        have hD5 := g5.hh D _ nD3 hD3 dk
        have dF5 := g5.nf D nD3 dk dF3
        have g25 : Gr H F H O F5 H5 O5 := g2.trans ((g3 H g2.be).trans (g5.less (g2.trans (g3 H g2.be)).be))
        have s25 : Same F2 F5 := g23.ff.trans g5.ff
        cases b with
        | false =>
          exact ⟨by omega, F5, es, acc, I2.back I5 s25, g25, hD5, dF5, dasM s25 _ _ hes, fun p hp => daM s25 _ _ (gh2 p hp), p5, by omega⟩
        | true =>
          refine p5 F5 H5 σ4 I5 _ fun v F6 H6 r6 O6 p6 I6 g6 ro => ?_
          obtain ⟨rfl, d, fz, p6⟩ := p6
          obtain ⟨F7, I7, g7, k7⟩ := fz.go I6 ro
          have nD5 : H5 D ≠ none := by rw [hD5]; exact fun z => nomatch z
          have g57 := g6.trans g7
          have hD6 := g57.hh D _ nD5 hD5 dk
          have dF7 := g57.nf D nD5 dk dF5
          have s27 := s25.trans g57.ff
          have e1 := das_len hes
          refine ⟨acc, hD6, Nat.lt_of_lt_of_le (by omega : acc.length < 1000001) (by rw [sizeLine_eq]; decide), by omega, F7, es ++ [d], acc ++ [v], I2.back (I7.updD hD6 dF7 dk dH dB) s27, (g25.trans (g57.less g25.be)).updD (xs := acc) d0, upd_same, dF7, das_app (dasM s27 _ _ hes) (das_one k7), fun p hp => daM s27 _ _ (gh2 p hp), p6, by rw [List.length_append]; simp; omega⟩
    · have e : i = n := by omega
      subst e
      exact .inl ⟨w2 rfl, q _ F2 H2 _ O1 (fin es ih) I2 g2 ⟨D, acc, rfl, ⟨hD2, dF2, dk, dH, d0⟩, hes⟩⟩
theorem we_lc {wi : TI} {g : TG} {tt : TT} {vs : List Nat} (ix : List Nat) (h : Wi c Γ O wi fun n item O1 => n ≤ 1000000 ∧ ∃ I : Nat → List PyData → Prop, I 0 [] ∧
      (∀ i es, i < n → I i es → Wg c (wipeG Γ vs) O1 g ix (item i) fun Γ2 => Wt c Γ2 O1 tt fun b O2 => O2 = O1 ∧ if b = true then We c Γ2 O1 te fun r O3 => O3 = O1 ∧ ∃ d, Fz r d ∧ I (i + 1) (es ++ [d]) else I (i + 1) es) ∧
      ∀ es, I n es → Φ (.nw es) O1) (hix : ∀ j ∈ ix, j ∈ vs := by decide) : We c Γ O (tLc wi g tt te vs) Φ := we_lcG ix h.toO hix
end
end DL

/-! DL6: statements, loops, a def's promise by its body. -/
namespace DL
open PySem PySem.Spec PyProof.Rows L2

structure En where
  nx : List Sl → OL → Prop
  rt : Res → OL → Prop
  bk : List Sl → OL → Prop := fun _ _ => False
  ct : List Sl → OL → Prop := fun _ _ => False
def Ws (c : Cn) (Γ : List Sl) (O : OL) (t : TS) (E : En) : Prop :=
  ∀ F H σ (D : Ends), Is c F H σ Γ O → (∀ F' H' σ' Γ' O', E.nx Γ' O' → Is c F' H' σ' Γ' O' → D.nx σ' H') → (∀ Hs v F' H' σ' Γ' r O', E.rt r O' → Is c F' H' σ' Γ' O' → Be Hs H' → ResOk c Hs F' H' O' v r → D.rt v H') →
    (∀ F' H' σ' Γ' O', E.bk Γ' O' → Is c F' H' σ' Γ' O' → D.bk σ' H') → (∀ F' H' σ' Γ' O', E.ct Γ' O' → Is c F' H' σ' Γ' O' → D.ct σ' H') → t D σ H
/-- less may be known -/
inductive SLe : List Sl → List Sl → Prop
  | nil : SLe [] []
  | same {s : Sl} {a b : List Sl} : SLe a b → SLe (s :: a) (s :: b)
  | un {s : Sl} {a b : List Sl} : SLe a b → SLe (s :: a) (.un :: b)
theorem SLe.refl : ∀ Γ : List Sl, SLe Γ Γ
  | [] => .nil
  | _ :: Γ => .same (SLe.refl Γ)
theorem SLe.len : ∀ {a b : List Sl}, SLe a b → a.length = b.length
  | _, _, .nil => rfl
  | _, _, .same h => by simp [h.len]
  | _, _, .un h => by simp [h.len]
theorem SLe.get : ∀ {a b : List Sl} {i : Nat} {s : Sl}, SLe a b → b[i]? = some s → s = .un ∨ a[i]? = some s
  | _, _, _, _, .nil, e => by simp at e
  | _, _, 0, _, .same h, e => .inr (by simpa using e)
  | _, _, 0, _, .un h, e => .inl (by simp at e; exact e.symm)
  | _, _, i + 1, s, .same h, e => (SLe.get (i := i) (s := s) h (by simpa using e)).imp id (by simp)
  | _, _, i + 1, s, .un h, e => (SLe.get (i := i) (s := s) h (by simpa using e)).imp id (by simp)
section
variable {c : Cn} {Hs Hr F H F' H' F1 H1 F2 H2 : Hp} {σ σ' : L2.St} {Γ Γ' Γ2 : List Sl} {O O' O1 O2 : OL} {v : V} {r a b : Res} {E : En} {ta tb te : TE} {t u : TS} {tc : TT}
theorem Is.weak (I : Is c F H σ Γ O) (e : SLe Γ Γ2) (s : O2.Sublist O) : Is c F H σ Γ2 O2 :=
  ⟨I.fh, I.bh, I.ft, I.f0, I.h0, I.mm, I.nd.sublist (s.map _), fun x h => I.oF x (s.subset h), fun x h => I.oB x (s.subset h), fun x h => I.oH x (s.subset h), I.gh, I.bz, I.ln.trans e.len, fun i s' h => by
    rcases e.get h with rfl | h
    · trivial
    · exact I.sl i s' h⟩
/-- some state of J, or one of which more is known -/
def Up (J : List Sl → OL → Prop) : List Sl → OL → Prop := fun Γ O => ∃ Γ2 O2, J Γ2 O2 ∧ SLe Γ Γ2 ∧ O2.Sublist O
theorem Up.of {J : List Sl → OL → Prop} (h : J Γ O) : Up J Γ O := ⟨Γ, O, h, SLe.refl _, List.Sublist.refl _⟩
theorem Up.is {J : List Sl → OL → Prop} (h : Up J Γ O) (I : Is c F H σ Γ O) : ∃ Γ2 O2, J Γ2 O2 ∧ Is c F H σ Γ2 O2 := by
  obtain ⟨Γ2, O2, h, e, s⟩ := h
  exact ⟨Γ2, O2, h, I.weak e s⟩
theorem ws_weak (e : SLe Γ Γ2) (s : O2.Sublist O) (h : Ws c Γ2 O2 t E) : Ws c Γ O t E := fun F H σ D I n r b k => h F H σ D (I.weak e s) n r b k
theorem ws_seq (h : Ws c Γ O t { E with nx := fun Γ' O' => Ws c Γ' O' u E }) : Ws c Γ O (tSeq t u) E := fun F H σ D I n r b k =>
  h F H σ { D with nx := u D } I (fun F' H' σ' Γ' O' p I' => p F' H' σ' D I' n r b k) r b k
/-- a point where all ways meet -/
theorem ws_cut (J : List Sl → OL → Prop) (h : Ws c Γ O t { E with nx := Up J }) (k : ∀ Γ' O', J Γ' O' → Ws c Γ' O' u E) : Ws c Γ O (tSeq t u) E := fun F H σ D I n r b kc =>
  h F H σ { D with nx := u D } I (fun F' H' σ' Γ' O' p I' => by
    obtain ⟨Γ2, O2, p, I2⟩ := p.is I'
    exact k Γ2 O2 p F' H' σ' D I2 n r b kc) r b kc
theorem ws_next (h : E.nx Γ O) : Ws c Γ O tNext E := fun F H σ D I n r b k => n F H σ Γ O h I
theorem ws_break (h : E.bk Γ O) : Ws c Γ O tBreak E := fun F H σ D I n r b k => b F H σ Γ O h I
theorem ws_cont (h : E.ct Γ O) : Ws c Γ O tCont E := fun F H σ D I n r b k => k F H σ Γ O h I
theorem ws_ret (h : We c Γ O te fun r O1 => E.rt r O1) : Ws c Γ O (tRet te) E := fun F H σ D I n r b k =>
  h F H σ I _ fun v F1 H1 r1 O1 p I1 g1 ro => r H v F1 H1 σ Γ r1 O1 p I1 g1.be ro
theorem ws_retN (h : E.rt (.fr .none) O) : Ws c Γ O tRetN E := fun F H σ D I n r b k => r H _ F H σ Γ _ O h I (Be.refl _) Da.non
theorem ws_drop (h : We c Γ O te fun _ O1 => E.nx Γ O1) : Ws c Γ O (tDrop te) E := fun F H σ D I n r b k =>
  h F H σ I _ fun v F1 H1 r1 O1 p I1 g1 ro => n F1 H1 σ Γ O1 p I1
theorem ws_if (h : Wt c Γ O tc fun b O1 => if b = true then Ws c Γ O1 t E else Ws c Γ O1 u E) : Ws c Γ O (tIfS tc t u) E := fun F H σ D I n r b k =>
  h F H σ I _ fun z F1 H1 O1 p I1 g1 => by
    cases z with
    | true => exact p F1 H1 σ D I1 n r b k
    | false => exact p F1 H1 σ D I1 n r b k
/-- a new list is held by a name from now on -/
theorem Is.addO (I : Is c F H σ Γ O) {p : Addr} {vs : List V} {ds : List PyData} (h : Nw c Hs F H O p vs) (d : Das F vs ds) : Is c F H σ Γ (O ++ [(p, .l ds)]) := by
  obtain ⟨h1, h2, h3, h4, _⟩ := h
  have dB : c.B p = none := I.bz p h4
  have mem : ∀ e ∈ O ++ [(p, Ob.l ds)], e ∈ O ∨ e = (p, Ob.l ds) := fun e he => by simpa using he
  refine ⟨I.fh, I.bh, I.ft, I.f0, I.h0, I.mm, ?_, fun e he => ?_, fun e he => ?_, fun e he => ?_, I.gh, I.bz, I.ln, I.sl⟩
  · rw [List.map_append]
    refine List.nodup_append.mpr ⟨I.nd, by simp, fun x hx y hy e => ?_⟩
    have : y = p := by simpa using hy
    subst this
    subst e
    exact h3 hx
  · rcases mem e he with q | rfl
    · exact I.oF e q
    · exact h2
  · rcases mem e he with q | rfl
    · exact I.oB e q
    · exact dB
  · rcases mem e he with q | rfl
    · exact I.oH e q
    · exact ⟨h4, vs, h1, d⟩
/-- a result stored at slot i: a new list becomes data, or the name's own -/
def StO (Γ : List Sl) (O : OL) (i : Nat) (r : Res) (Ψ : List Sl → OL → Prop) : Prop :=
  match r with
  | .fr d => Ψ (Γ.set i (.fr d)) O
  | .bo d => Ψ (Γ.set i (.bo d)) O
  | .pt a => Ψ (Γ.set i (.pt a)) O
  | .sq ns => Ψ (Γ.set i (.sq ns)) O
  | .ty _ => False
  | .nw ds => Ψ (Γ.set i (.fr (.list ds))) O ∨ ∀ p, Ψ (Γ.set i (.pt p)) (O ++ [(p, .l ds)])
theorem StO.go {Ψ : List Sl → OL → Prop} {i : Nat} (h : StO Γ O i r Ψ) (I : Is c F H σ Γ O) (ro : ResOk c Hs F H O v r) : ∃ F' Γ' O', Ψ Γ' O' ∧ Is c F' H (σ.set i (some v)) Γ' O' := by
  cases r with
  | fr d => exact ⟨F, _, O, h, I.set (ResOk.sl (r := .fr d) ro rfl)⟩
  | bo d => exact ⟨F, _, O, h, I.set (ResOk.sl (r := .bo d) ro rfl)⟩
  | pt a => exact ⟨F, _, O, h, I.set (ResOk.sl (r := .pt a) ro rfl)⟩
  | sq ns => exact ⟨F, _, O, h, I.set (ResOk.sl (r := .sq ns) ro rfl)⟩
  | ty n => exact h.elim
  | nw ds =>
    rcases h with h | h
    · obtain ⟨F2, I2, g2, k2⟩ := (Fz.nw (ds := ds)).go I ro
      exact ⟨F2, _, O, h, I2.set ⟨v, rfl, k2⟩⟩
    · obtain ⟨p, vs, rfl, h1, h2⟩ := ro
      exact ⟨F, _, _, h p, (I.addO h1 h2).set rfl⟩
theorem ws_set {i : Nat} (h : We c Γ O te fun r O1 => StO Γ O1 i r E.nx) : Ws c Γ O (tAsg te (gName i)) E := fun F H σ D I n r b k =>
  h F H σ I _ fun v F1 H1 r1 O1 p I1 g1 ro => by
    obtain ⟨F2, Γ2, O2, p2, I2⟩ := p.go I1 ro
    exact n F2 H1 _ Γ2 O2 p2 I2
/-- a target of several names -/
theorem ws_tgt {g : TG} {ix : List Nat} (h : We c Γ O te fun r O1 => Wg c Γ O1 g ix r fun Γ2 => E.nx Γ2 O1) : Ws c Γ O (tAsg te g) E := fun F H σ D I n r b k =>
  h F H σ I _ fun v F1 H1 r1 O1 p I1 g1 ro => p H F1 H1 σ I1 v ro _ fun σ2 Γ2 p2 I2 _ _ => n F1 H1 σ2 Γ2 O1 p2 I2
theorem ws_aug {i : Nat} {s : Sl} {rx : Res} {ip : TIp} (hs : Γ[i]? = some s) (hr : s.res = some rx) (h : We c Γ O te fun r O1 => Wo c Γ O1 ip rx r fun z O2 => StO Γ O2 i z E.nx) : Ws c Γ O (tAug i te ip) E := fun F H σ D I n r b k => by
  have hx : ∃ x, σ[i]? = some (some x) ∧ ∀ F' H' O', Same F F' → ResOk c H F' H' O' x rx := by
    have z := I.sl i s hs
    have lift : ∀ v, (σ[i]?).bind id = some v → σ[i]? = some (some v) := fun v e => by
      cases hx : σ[i]? with
      | none => rw [hx] at e; cases e
      | some x => rw [hx] at e; exact congrArg some e
    cases s with
    | un => cases hr
    | fr d => cases hr; obtain ⟨v, e, h2⟩ := z; exact ⟨v, lift v e, fun F' H' O' e => daM e _ _ h2⟩
    | bo d => cases hr; obtain ⟨v, e, h2⟩ := z; exact ⟨v, lift v e, fun F' H' O' e => h2⟩
    | pt a => cases hr; exact ⟨.ref a, lift _ z, fun _ _ _ _ => rfl⟩
    | sq ns => cases hr; obtain ⟨a, e, h2⟩ := z; exact ⟨.ref a, lift _ e, fun _ _ _ _ => ⟨a, rfl, h2⟩⟩
    | ex a dd f d => cases hr; exact ⟨.ref a, lift _ z.1, fun _ _ _ _ => rfl⟩
    | tv vs => cases hr
  obtain ⟨x, e, hx⟩ := hx
  refine ⟨x, e, h F H σ I _ fun v F1 H1 r1 O1 p I1 g1 ro => p H F1 H1 σ I1 g1.be x v (hx F1 H1 O1 g1.ff) ro _ fun z F2 H2 r2 O2 p2 I2 g2 ro2 => ?_⟩
  obtain ⟨F3, Γ3, O3, p3, I3⟩ := p2.go I2 ro2
  exact n F3 H2 _ Γ3 O3 p3 I3
/-- o[i] = e, an own list -/
theorem ws_setItem {to ti : TE} (h : We c Γ O te fun r O1 => We c Γ O1 to fun a O2 => We c Γ O2 ti fun b O3 => ∃ p j ds i d, a = .pt p ∧ O3[j]? = some (p, Ob.l ds) ∧ Any O3 b (.int i) ∧ 0 ≤ i ∧ i < ds.length ∧ Fz r d ∧ E.nx Γ (O3.set j (p, .l (ds.set i.toNat d)))) :
    Ws c Γ O (tAsg te (gSub to ti rSetL)) E := fun F H σ D I n r b k =>
  h F H σ I _ fun v F1 H1 r1 O1 p I1 g1 ro => We.then I1 g1 p fun w F2 H2 r2 O2 p2 I2 g2 g12 ro2 => We.then I2 g2 p2 fun z F3 H3 r3 O3 p3 I3 g3 g23 ro3 => by
    obtain ⟨q, j, ds, i, d, rfl, hj, ai, h0, hlt, fz, p3⟩ := p3
    have e : w = .ref q := ro2
    subst e
    cases ai.int I3 ro3
    obtain ⟨F4, I4, g4, k4⟩ := fz.go I3 ((ro.gr g12).gr g23)
    obtain ⟨vs, h1, h2⟩ := I4.own hj
    have e1 := das_len h2
    obtain ⟨I5, g5⟩ := I4.setO (Hs := H) hj (das_set k4 i.toNat h2)
    refine ⟨q, vs, i, i.toNat, rfl, rfl, h1, ?_, n _ _ _ _ _ p3 I5⟩
    unfold ixN
    rw [if_pos h0, if_pos (by omega)]
end
end DL

/-! DL7: loops, a def's entry and exit, more of lists. -/
namespace DL
open PySem PySem.Spec PyProof.Rows L2

abbrev Cn.gh (c : Cn) (g : List (V × PyData)) : Cn := ⟨c.K, c.H0, c.B, c.M, g ++ c.G, c.A⟩
section
variable {c : Cn} {Hs Hr F H F' H' F1 H1 F2 H2 : Hp} {σ σ' : L2.St} {Γ Γ' Γ2 : List Sl} {O O' O1 O2 : OL} {v : V} {r a b : Res} {E : En} {ta tb te : TE} {t u : TS} {tc : TT} {Φ : Res → OL → Prop}
theorem Is.gh_on {g : List (V × PyData)} (I : Is c F H σ Γ O) (h : ∀ p ∈ g, Da F p.1 p.2) : Is (c.gh g) F H σ Γ O :=
  ⟨I.fh, I.bh, I.ft, I.f0, I.h0, I.mm, I.nd, I.oF, I.oB, fun e he => by
    have := I.oH e he
    obtain ⟨a, u⟩ := e
    cases u <;> exact this, fun p hp => (List.mem_append.mp hp).elim (h p) (I.gh p), I.bz, I.ln, fun i s e => by
    have := I.sl i s e
    cases s <;> exact this⟩
theorem Is.gh_off {g : List (V × PyData)} (I : Is (c.gh g) F H σ Γ O) : Is c F H σ Γ O ∧ ∀ p ∈ g, Da F p.1 p.2 :=
  ⟨⟨I.fh, I.bh, I.ft, I.f0, I.h0, I.mm, I.nd, I.oF, I.oB, fun e he => by
    have := I.oH e he
    obtain ⟨a, u⟩ := e
    cases u <;> exact this, fun p hp => I.gh p (List.mem_append_right _ hp), I.bz, I.ln, fun i s e => by
    have := I.sl i s e
    cases s <;> exact this⟩, fun p hp => I.gh p (List.mem_append_left _ hp)⟩
theorem ResOk.gh_on {g : List (V × PyData)} (h : ResOk c Hs F H O v r) : ResOk (c.gh g) Hs F H O v r := by cases r <;> exact h
theorem ResOk.gh_off {g : List (V × PyData)} (h : ResOk (c.gh g) Hs F H O v r) : ResOk c Hs F H O v r := by cases r <;> exact h
/-- for .. in ..: I by the turn -/
theorem ws_for {wi : TI} {g : TG} {tb : TS} (ix : List Nat) (h : Wi c Γ O wi fun n item O1 => ∃ I : Nat → List Sl → OL → Prop, Up (I 0) Γ O1 ∧
      (∀ gs i Γi Oi, i < n → I i Γi Oi → Wg (c.gh gs) Γi Oi g ix (item i) fun Γ' => Ws (c.gh gs) Γ' Oi tb { nx := Up (I (i + 1)), rt := E.rt, bk := E.nx, ct := Up (I (i + 1)) }) ∧ ∀ Γ' O', I n Γ' O' → E.nx Γ' O') :
    Ws c Γ O (tFor wi g tb) E := fun F H σ D Is0 nx rt bk ct =>
  h F H σ Is0 _ fun gs J F1 H1 O1 n item p I1 g1 gd wk => by
    obtain ⟨I, i0, step, fin⟩ := p
    obtain ⟨Γ0, O0, i0, I0⟩ := i0.is I1
    refine ⟨fun i m σ H => m = n - i ∧ i ≤ n ∧ ∃ F Γi Oi, I i Γi Oi ∧ Is (c.gh gs) F H σ Γi Oi, ⟨n, by omega, by omega, F1, Γ0, O0, i0, I0.gh_on gd⟩, ?_⟩
    rintro i m σ2 H2 ⟨rfl, hi, F2, Γi, Oi, ih, I2⟩
    obtain ⟨I2c, gh2⟩ := I2.gh_off
    obtain ⟨w1, w2⟩ := wk F2 H2 σ2 Γi Oi I2c gh2 i
    by_cases hlt : i < n
    · obtain ⟨go, y⟩ := w1 hlt
      refine .inr ⟨go, fun σ3 H3 => i + 1 ≤ n ∧ ∃ F Γ3 O3, I (i + 1) Γ3 O3 ∧ Is (c.gh gs) F H3 σ3 Γ3 O3, fun σ3 H3 ⟨a, b⟩ => ⟨n - (i + 1), by omega, rfl, a, b⟩, fun x H3 yl => ?_⟩
      obtain ⟨F3, I3, g3, r3⟩ := y x H3 yl
      have I3g := I3.gh_on fun p hp => daM (g3 H2 (Be.refl _)).ff _ _ (gh2 p hp)
      refine step gs i Γi Oi hlt ih H3 F3 H3 σ2 I3g x (r3 H3).gh_on _ fun σ4 Γ4 p4 I4 _ _ => p4 F3 H3 σ4 _ I4 (fun F5 H5 σ5 Γ5 O5 p5 I5 => ?_) (fun Hs v F5 H5 σ5 Γ5 r5 O5 p5 I5 be ro => rt Hs v F5 H5 σ5 Γ5 r5 O5 p5 I5.gh_off.1 be ro.gh_off) (fun F5 H5 σ5 Γ5 O5 p5 I5 => nx F5 H5 σ5 Γ5 O5 p5 I5.gh_off.1) fun F5 H5 σ5 Γ5 O5 p5 I5 => ?_
      · obtain ⟨Γ6, O6, p6, I6⟩ := p5.is I5
        exact ⟨by omega, F5, Γ6, O6, p6, I6⟩
      · obtain ⟨Γ6, O6, p6, I6⟩ := p5.is I5
        exact ⟨by omega, F5, Γ6, O6, p6, I6⟩
    · have e : i = n := by omega
      subst e
      exact .inl ⟨w2 rfl, nx F2 H2 σ2 Γi Oi (fin _ _ ih) I2c⟩
/-- while: I by a measure -/
theorem ws_while {tb : TS} (I : Nat → List Sl → OL → Prop) (h0 : ∃ m, Up (I m) Γ O)
    (h : ∀ m Γi Oi, I m Γi Oi → Wt c Γi Oi tc fun z O1 => if z = true then Ws c Γi O1 tb { nx := fun Γ' O' => ∃ m', m' < m ∧ Up (I m') Γ' O', rt := E.rt, bk := E.nx, ct := fun Γ' O' => ∃ m', m' < m ∧ Up (I m') Γ' O' } else E.nx Γi O1) : Ws c Γ O (tWhile tc tb) E := fun F H σ D Is0 nx rt bk ct => by
  obtain ⟨m0, i0⟩ := h0
  obtain ⟨Γ0, O0, i0, I0⟩ := i0.is Is0
  refine ⟨fun m σ H => ∃ F Γi Oi, I m Γi Oi ∧ Is c F H σ Γi Oi, ⟨m0, F, Γ0, O0, i0, I0⟩, ?_⟩
  rintro m σ1 H1 ⟨F1, Γi, Oi, ih, I1⟩
  refine h m Γi Oi ih F1 H1 σ1 I1 _ fun z F2 H2 O2 p2 I2 g2 => ?_
  cases z with
  | false => exact nx F2 H2 σ1 Γi O2 p2 I2
  | true =>
    refine ⟨fun σ' H' => ∃ m', m' < m ∧ ∃ F Γ3 O3, I m' Γ3 O3 ∧ Is c F H' σ' Γ3 O3, fun σ' H' h => h, p2 F2 H2 σ1 _ I2 (fun F3 H3 σ3 Γ3 O3 p3 I3 => ?_) rt nx fun F3 H3 σ3 Γ3 O3 p3 I3 => ?_⟩
    · obtain ⟨m', hm, p3⟩ := p3
      obtain ⟨Γ4, O4, p4, I4⟩ := p3.is I3
      exact ⟨m', hm, F3, Γ4, O4, p4, I4⟩
    · obtain ⟨m', hm, p3⟩ := p3
      obtain ⟨Γ4, O4, p4, I4⟩ := p3.is I3
      exact ⟨m', hm, F3, Γ4, O4, p4, I4⟩
/-- an own list becomes data -/
inductive FzS (a : Addr) (ds : List PyData) : List Sl → List Sl → Prop
  | nil : FzS a ds [] []
  | same {s : Sl} {x y : List Sl} : FzS a ds x y → FzS a ds (s :: x) (s :: y)
  | fr {x y : List Sl} : FzS a ds x y → FzS a ds (.pt a :: x) (.fr (.list ds) :: y)
theorem FzS.len {p : Addr} {ds : List PyData} : ∀ {x y : List Sl}, FzS p ds x y → x.length = y.length
  | _, _, .nil => rfl
  | _, _, .same h => by simp [h.len]
  | _, _, .fr h => by simp [h.len]
theorem FzS.get {p : Addr} {ds : List PyData} : ∀ {x y : List Sl} {i : Nat} {s : Sl}, FzS p ds x y → y[i]? = some s → x[i]? = some s ∨ (x[i]? = some (.pt p) ∧ s = .fr (.list ds))
  | _, _, _, _, .nil, e => by simp at e
  | _, _, 0, _, .same h, e => .inl (by simpa using e)
  | _, _, 0, _, .fr h, e => .inr ⟨rfl, by simp at e; exact e.symm⟩
  | _, _, i + 1, s, .same h, e => by simpa using FzS.get (i := i) (s := s) h (by simpa using e)
  | _, _, i + 1, s, .fr h, e => by simpa using FzS.get (i := i) (s := s) h (by simpa using e)
theorem ws_frz {j : Nat} {p : Addr} {ds : List PyData} (hj : O[j]? = some (p, .l ds)) (hf : FzS p ds Γ Γ2) (h : Ws c Γ2 (O.eraseIdx j) t E) : Ws c Γ O t E := fun F H σ D I nx rt bk ct => by
  have hm : (p, Ob.l ds) ∈ O := List.mem_of_getElem? hj
  obtain ⟨h0, vs, h1, h2⟩ := I.oH _ hm
  have hjl := (List.getElem?_eq_some_iff.mp hj).1
  have sub : (O.eraseIdx j).Sublist O := List.eraseIdx_sublist _ _
  have I1 : Is c F H σ Γ (O.eraseIdx j) := I.weak (SLe.refl _) sub
  have hk : p ∉ (O.eraseIdx j).map (·.1) := fun m => by
    obtain ⟨e, he, e1⟩ := List.mem_map.mp m
    obtain ⟨i, hi⟩ := List.getElem?_of_mem he
    have key : ∀ k, O[k]? = some e → k ≠ j → False := fun k hk hkj => by
      have e2 : (O.map (·.1))[k]? = some p := by rw [List.getElem?_map, hk]; exact congrArg some e1
      have e3 : (O.map (·.1))[j]? = some p := by rw [List.getElem?_map, hj]; rfl
      exact hkj ((List.getElem?_inj (by simpa using (List.getElem?_eq_some_iff.mp hk).1) I.nd).mp (e2.trans e3.symm))
    rw [List.getElem?_eraseIdx] at hi
    split at hi
    · exact key i hi (by omega)
    · exact key (i + 1) hi (by omega)
  obtain ⟨F2, I2, e2, k2, k2'⟩ := I1.see (ps := [p]) (fun q hq => by rcases List.mem_singleton.mp hq with rfl; exact h0) fun q hq => by rcases List.mem_singleton.mp hq with rfl; exact hk
  have hd : Da F2 (.ref p) (.list ds) := .lst (by rw [k2 p (List.mem_singleton_self _)]; exact h1) (dasM e2 _ _ h2)
  refine h F2 H σ D ⟨I2.fh, I2.bh, I2.ft, I2.f0, I2.h0, I2.mm, I2.nd, I2.oF, I2.oB, I2.oH, I2.gh, I2.bz, I2.ln.trans hf.len, fun i s e => ?_⟩ nx rt bk ct
  rcases hf.get e with q | ⟨q, rfl⟩
  · exact I2.sl i s q
  · exact ⟨.ref p, I2.sl i _ q, hd⟩

/-! ### o[i] op= e of an own list -/
theorem get_list {X : Cx} : PGet X (fun o i H Q => ∃ p xs k v, o = .ref p ∧ i = .int k ∧ SqL X.K H p xs ∧ 0 ≤ k ∧ xs[k.toNat]? = some v ∧ Q v H) := by
  intro pins s σ H o i ov iv Q I ro ri h
  obtain ⟨p, xs, k, v, rfl, rfl, hq, h0, he, q⟩ := h
  cases ro
  obtain ⟨t, rfl⟩ := ri
  obtain ⟨its, rv, pl, hz⟩ := I.list hq
  obtain ⟨w, ew, rw'⟩ := rv.get he
  have hl := rv.length
  have hn := line63
  have hi := (List.getElem?_eq_some_iff.mp he).1
  exact wpAny_getItem_list pl.isList h0 (by omega) (by simpa using ew) ⟨v, H, I, rw', q⟩
abbrev rGetL (K : PySem.W.Frag) : V → V → Hp → VK → Prop := fun o i H Q => ∃ p xs k v, o = .ref p ∧ i = .int k ∧ SqL K H p xs ∧ 0 ≤ k ∧ xs[k.toNat]? = some v ∧ Q v H
theorem ws_augItem {to ti : TE} {g : Int → Int → Int} (h : We c Γ O to fun a O1 => We c Γ O1 ti fun b O2 => ∃ p j ds i x, a = .pt p ∧ O2[j]? = some (p, Ob.l ds) ∧ Any O2 b (.int i) ∧ 0 ≤ i ∧ ds[i.toNat]? = some (.int x) ∧
      We c Γ O2 te fun r O3 => O3 = O2 ∧ ∃ y, Any O3 r (.int y) ∧ E.nx Γ (O2.set j (p, .l (ds.set i.toNat (.int (g x y)))))) :
    Ws c Γ O (tAugS to ti te (rGetL c.K) (ipI g) rSetL) E := fun F H σ D I n r b k =>
  h F H σ I _ fun v F1 H1 r1 O1 p I1 g1 ro => We.then I1 g1 p fun w F2 H2 r2 O2 p2 I2 g2 g12 ro2 => by
    obtain ⟨q, j, ds, i, x, rfl, hj, ai, h0, hx, p2⟩ := p2
    have e : v = .ref q := ro
    subst e
    cases ai.int I2 ro2
    obtain ⟨vs, h1, h2⟩ := I2.own hj
    obtain ⟨v, e1, hv⟩ := das_get' h2 hx
    cases hv
    refine ⟨q, vs, i, _, rfl, rfl, SqL.of h1, h0, e1, We.then I2 g2 p2 fun z F3 H3 r3 O3 p3 I3 g3 g23 ro3 => ?_⟩
    obtain ⟨rfl, y, ay, p3⟩ := p3
    cases ay.int I3 ro3
    obtain ⟨vs3, h13, h23⟩ := I3.own hj
    have e3 := das_len h23
    have hlt := (List.getElem?_eq_some_iff.mp hx).1
    obtain ⟨I5, g5⟩ := I3.setO (Hs := H) hj (das_set (Da.int (g x y)) i.toNat h23)
    refine ⟨x, y, rfl, rfl, q, vs3, i, i.toNat, rfl, rfl, h13, ?_, n _ _ _ _ _ p3 I5⟩
    unfold ixN
    rw [if_pos h0, if_pos (by omega)]

/-! ### sorted pairs -/
def prD (p : Int × Int) : PyData := .tuple [.int p.1, .int p.2]
def leP (a b : Int × Int) : Prop := a.1 < b.1 ∨ (a.1 = b.1 ∧ a.2 ≤ b.2)
def kOf (H : Hp) : V → Int × Int
  | .ref t => match H t with
    | some (.tup [.int i, .int j]) => (i, j)
    | _ => (0, 0)
  | _ => (0, 0)
theorem das_pr {F : Hp} : ∀ {ps : List (Int × Int)} {vs : List V}, Das F vs (ps.map prD) → vs.map (kOf F) = ps ∧ ∀ x ∈ vs, ∃ t, x = .ref t ∧ F t = some (.tup [.int (kOf F x).1, .int (kOf F x).2])
  | [], _, h => by cases h; exact ⟨rfl, fun x hx => by cases hx⟩
  | p :: ps, _, h => by
    cases h with
    | cons h1 h2 =>
      obtain ⟨e, k⟩ := das_pr h2
      cases h1 with
      | @tup a xs _ ha hd =>
        cases hd with
        | cons d1 d2 =>
          cases d2 with
          | cons d2 d3 =>
            cases d3
            cases d1
            cases d2
            have e1 : kOf F (.ref a) = p := by
              show (match F a with
                | some (.tup [.int i, .int j]) => (i, j)
                | _ => (0, 0)) = p
              rw [ha]
            refine ⟨by rw [List.map_cons, e1, e], fun x hx => ?_⟩
            rcases List.mem_cons.mp hx with rfl | hx
            · exact ⟨a, rfl, by rw [e1]; exact ha⟩
            · exact k x hx
theorem pr_das {F : Hp} : ∀ {vs : List V}, (∀ x ∈ vs, ∃ t, x = V.ref t ∧ F t = some (.tup [.int (kOf F x).1, .int (kOf F x).2])) → Das F vs ((vs.map (kOf F)).map prD)
  | [], _ => .nil
  | x :: vs, h => by
    obtain ⟨t, rfl, ht⟩ := h x List.mem_cons_self
    exact .cons (.tup ht (.cons (.int _) (.cons (.int _) .nil))) (pr_das fun y hy => h y (List.mem_cons_of_mem _ hy))
theorem wc_sortedP {ds : List PyData} (ps : List (Int × Int)) (ha : Seq O a ds true) (e : ds = ps.map prD) (k : ∀ ps' : List (Int × Int), ps'.Perm ps → ps'.Pairwise leP → Φ (.nw (ps'.map prD)) O) : Wc c Γ O (rSortedPO c.K) [a] Φ := fun Hs F H σ I be xs hxs Q q => by
  obtain ⟨x, rfl, hx⟩ := hxs.one
  subst e
  obtain ⟨p, vs, rfl, h1, h2⟩ := ha.da I hx
  have h2 : Das F vs (ps.map prD) := h2
  obtain ⟨e1, e2⟩ := das_pr h2
  refine ⟨p, vs, kOf F, rfl, SqL.of h1, fun x hx => ?_, fun ys l hs hb hl => ?_⟩
  · obtain ⟨t, e3, e4⟩ := e2 x hx
    exact ⟨t, e3, I.fh _ _ e4⟩
  · obtain ⟨I3, g3⟩ := I.newL (Hs := Hs) hl ys
    have pm : ys.Perm vs := hb.perm
    have hy : ∀ x ∈ ys, ∃ t, x = V.ref t ∧ F t = some (.tup [.int (kOf F x).1, .int (kOf F x).2]) := fun x hx => e2 x (pm.mem_iff.mp hx)
    have pw : (ys.map (kOf F)).Pairwise leP := by
      rw [List.pairwise_map]
      refine List.Pairwise.imp (fun {a b} hab => ?_) hs
      have := SrtO.lexB_no.mp hab
      show (kOf F a).1 < (kOf F b).1 ∨ _
      omega
    exact q _ _ _ _ O (k _ (by rw [← e1]; exact pm.map _) pw) I3 g3 (I.nw be hl (pr_das hy))

/-! ### isinstance -/
def tyD : PyData → String
  | .none => "NoneType"
  | .bool _ => "bool"
  | .int _ => "int"
  | .str _ => "str"
  | .list _ => "list"
  | .tuple _ => "tuple"
  | .dict _ => "dict"
def isD (n : String) (d : PyData) : Bool := (kitB (tyD d) n).getD false
theorem Da.tyX {K : PySem.W.Frag} {d : PyData} (h : Da H v d) : TyX K H v (.type (tyD d)) := by
  cases h with
  | non => exact .base .non
  | bl b => exact .base (.bl b)
  | int i => exact .base (.int i)
  | str x => exact .base (.str x)
  | lst h _ => exact .base (.lst h)
  | tup h _ => exact .base (.tup h)
theorem wc_isi {n : String} {d : PyData} {z : Bool} (ha : Any O a d) (hz : kitB (tyD d) n = some z) (k : Φ (.fr (.bool z)) O) : Wc c Γ O (rIsi c.K) [a, .ty n] Φ := fun Hs F H σ I be xs hxs Q q => by
  obtain ⟨x, y, rfl, hx, hy⟩ := hxs.two
  have e : y = .ty n := hy
  subst e
  exact ⟨x, .ty n, _, _, z, rfl, .ty n, (ha.da I hx).tyX, kit_ty hz, q _ F H _ O k I (Gr.refl _ _ _ _) (Da.bl _)⟩
theorem kit_some (d : PyData) (hd : ∀ kvs, d ≠ .dict kvs) : (∃ z, kitB (tyD d) "int" = some z ∧ z = (match d with | .int _ => true | .bool _ => true | _ => false)) ∧ (∃ z, kitB (tyD d) "bool" = some z ∧ z = (match d with | .bool _ => true | _ => false)) ∧
    (∃ z, kitB (tyD d) "list" = some z ∧ z = (match d with | .list _ => true | _ => false)) ∧ (∃ z, kitB (tyD d) "tuple" = some z ∧ z = (match d with | .tuple _ => true | _ => false)) ∧ (∃ z, kitB (tyD d) "str" = some z ∧ z = (match d with | .str _ => true | _ => false)) := by
  cases d with
  | dict kvs => exact absurd rfl (hd kvs)
  | none => exact ⟨⟨false, by decide +kernel, rfl⟩, ⟨false, by decide +kernel, rfl⟩, ⟨false, by decide +kernel, rfl⟩, ⟨false, by decide +kernel, rfl⟩, ⟨false, by decide +kernel, rfl⟩⟩
  | bool x => exact ⟨⟨true, (by decide +kernel : kitB "bool" "int" = some true), rfl⟩, ⟨true, (by decide +kernel : kitB "bool" "bool" = some true), rfl⟩, ⟨false, (by decide +kernel : kitB "bool" "list" = some false), rfl⟩, ⟨false, (by decide +kernel : kitB "bool" "tuple" = some false), rfl⟩, ⟨false, (by decide +kernel : kitB "bool" "str" = some false), rfl⟩⟩
  | int x => exact ⟨⟨true, (by decide +kernel : kitB "int" "int" = some true), rfl⟩, ⟨false, (by decide +kernel : kitB "int" "bool" = some false), rfl⟩, ⟨false, (by decide +kernel : kitB "int" "list" = some false), rfl⟩, ⟨false, (by decide +kernel : kitB "int" "tuple" = some false), rfl⟩, ⟨false, (by decide +kernel : kitB "int" "str" = some false), rfl⟩⟩
  | str x => exact ⟨⟨false, (by decide +kernel : kitB "str" "int" = some false), rfl⟩, ⟨false, (by decide +kernel : kitB "str" "bool" = some false), rfl⟩, ⟨false, (by decide +kernel : kitB "str" "list" = some false), rfl⟩, ⟨false, (by decide +kernel : kitB "str" "tuple" = some false), rfl⟩, ⟨true, (by decide +kernel : kitB "str" "str" = some true), rfl⟩⟩
  | list x => exact ⟨⟨false, (by decide +kernel : kitB "list" "int" = some false), rfl⟩, ⟨false, (by decide +kernel : kitB "list" "bool" = some false), rfl⟩, ⟨true, (by decide +kernel : kitB "list" "list" = some true), rfl⟩, ⟨false, (by decide +kernel : kitB "list" "tuple" = some false), rfl⟩, ⟨false, (by decide +kernel : kitB "list" "str" = some false), rfl⟩⟩
  | tuple x => exact ⟨⟨false, (by decide +kernel : kitB "tuple" "int" = some false), rfl⟩, ⟨false, (by decide +kernel : kitB "tuple" "bool" = some false), rfl⟩, ⟨false, (by decide +kernel : kitB "tuple" "list" = some false), rfl⟩, ⟨true, (by decide +kernel : kitB "tuple" "tuple" = some true), rfl⟩, ⟨false, (by decide +kernel : kitB "tuple" "str" = some false), rfl⟩⟩

/-! ### a def's entry and exit -/
inductive Fit : List PyData → List Sl → Prop
  | nil : Fit [] []
  | un {Γ : List Sl} : Fit [] Γ → Fit [] (.un :: Γ)
  | fr {d : PyData} {ds : List PyData} {Γ : List Sl} (h : lf d = true) : Fit ds Γ → Fit (d :: ds) (.fr d :: Γ)
  | bo {d : PyData} {ds : List PyData} {Γ : List Sl} : Fit ds Γ → Fit (d :: ds) (.bo d :: Γ)
inductive Ret (O : OL) : Res → Rt → Prop
  | fr {d : PyData} : Ret O (.fr d) (.d d)
  | bf {d : PyData} (h : lf d = true) : Ret O (.bo d) (.d d)
  | nw {ds : List PyData} : Ret O (.nw ds) (.l ds)
  | pt {a : Addr} {ds : List PyData} (h : (a, Ob.l ds) ∈ O) : Ret O (.pt a) (.l ds)
/-- what the caller wants, told of results -/
def RtW (Φ : Rt → Prop) : Res → OL → Prop := fun r O => ∃ rt, Ret O r rt ∧ Φ rt
theorem Fit.sl {K : PySem.W.Frag} {c : Cn} {F : Hp} (hT : Tups c.B F) : ∀ {ds : List PyData} {Γ : List Sl} {vs : List V}, Fit ds Γ → Das c.B vs ds → ∀ (i : Nat) (s : Sl), Γ[i]? = some s → SlOk c F (((vs.map some ++ List.replicate (Γ.length - ds.length) none)[i]?).bind id) s
  | _, _, _, .nil, .nil, i, s, e => by simp at e
  | _, _, _, .un f, .nil, 0, s, e => by simp at e; subst e; trivial
  | _, _, _, @Fit.un Γ f, .nil, i + 1, s, e => by
    have := Fit.sl (K := K) hT f .nil i s (by simpa using e)
    simp only [List.map_nil, List.nil_append, List.length_nil, Nat.sub_zero, List.length_cons] at this ⊢
    rw [List.replicate_succ, List.getElem?_cons_succ]
    exact this
  | _, _, _, .fr l f, .cons h hs, 0, s, e => by simp at e; subst e; exact ⟨_, by simp, daT hT _ _ l h⟩
  | _, _, _, .bo f, .cons h hs, 0, s, e => by simp at e; subst e; exact ⟨_, by simp, h⟩
  | _, _, _, .fr l f, .cons h hs, i + 1, s, e => by
    have := Fit.sl (K := K) hT f hs i s (by simpa using e)
    simpa using this
  | _, _, _, .bo f, .cons h hs, i + 1, s, e => by
    have := Fit.sl (K := K) hT f hs i s (by simpa using e)
    simpa using this
theorem Fit.len : ∀ {ds : List PyData} {Γ : List Sl}, Fit ds Γ → ds.length ≤ Γ.length
  | _, _, .nil => Nat.le_refl _
  | _, _, .un f => Nat.zero_le _
  | _, _, .fr _ f => Nat.succ_le_succ f.len
  | _, _, .bo f => Nat.succ_le_succ f.len
def tupsOf (H : Hp) : Hp := fun a => match H a with
  | some (.tup xs) => some (.tup xs)
  | _ => none
theorem tupsOf_some {H : Hp} {a : Addr} {o : HO} (h : tupsOf H a = some o) : H a = some o ∧ isT o = true := by
  unfold tupsOf at h
  split at h
  · rename_i xs e; cases h; exact ⟨e, rfl⟩
  · cases h
theorem tups_tupsOf (H : Hp) : Tups H (tupsOf H) := fun a o e t => by
  cases o with
  | tup xs => unfold tupsOf; rw [e]
  | _ => cases t
/-- the exit -/
theorem Is.exit {K : PySem.W.Frag} {M : List Addr} {rt : Rt} (I : Is ⟨K, H, c.B, M, [], noA⟩ F' H' σ Γ O) (ro : ResOk ⟨K, H, c.B, M, [], noA⟩ Hs F' H' O v r) (hr : Ret O r rt) (hM : ∀ m ∈ M, H m ≠ none) : Out H H' F' M ∧ RtOk H H' F' v rt := by
  refine ⟨⟨fun a o e m => I.h0 a o e m, I.fh, I.ft, fun a o e => (I.f0 a o e).imp id fun z => z.elim id fun z => (by cases z), fun a z => ?_⟩, ?_⟩
  · cases q : H a with
    | none => rfl
    | some o =>
      by_cases m : a ∈ M
      · exact absurd z (I.mm a m)
      · have := I.h0 a o q m
        rw [z] at this
        cases this
  · cases hr with
    | fr => exact ro
    | bf l => exact daT I.tb _ _ l ro
    | nw =>
      obtain ⟨p, vs, e, ⟨h1, h2, _, h4, _⟩, h5⟩ := ro
      exact ⟨p, vs, e, h4, h1, h2, h5⟩
    | pt m =>
      have e : v = .ref _ := ro
      obtain ⟨h0, vs, h1, h2⟩ := I.oH _ m
      exact ⟨_, vs, e, h0, h1, I.oF _ m, h2⟩
/-- the body of a def that changes nothing -/
theorem enterD {K : PySem.W.Frag} {T : List PyData → (Rt → Prop) → Prop} {vs : List V} {Q : VK} {X : XK} {N : List Str} {t : TS} (h : SpD T vs H Q X)
    (k : ∀ ds Φ (c : Cn), c = ⟨K, H, H, [], [], noA⟩ → T ds Φ → ∃ Γ, Fit ds Γ ∧ Γ.length = N.length ∧ Ws c Γ [] t { nx := fun _ O => RtW Φ (.fr .none) O, rt := RtW Φ }) : t { nx := fun _ H' => Q .non H', rt := Q } (start N vs) H := by
  obtain ⟨ds, Φ, hT, hd, q⟩ := h
  obtain ⟨Γ, fit, hl, hw⟩ := k ds Φ _ rfl hT
  have I : Is ⟨K, H, H, [], [], noA⟩ (tupsOf H) H (start N vs) Γ [] := by
    refine ⟨fun a o e => (tupsOf_some e).1, Same.refl _, tups_tupsOf H, fun a o e => .inr (.inl (tupsOf_some e).2), fun a o e _ => e, fun a m => (by cases m), List.nodup_nil, fun e m => (by cases m), fun e m => (by cases m), fun e m => (by cases m), fun e m => (by cases m), fun a e => e, ?_, fun i s e => ?_⟩
    · have := das_len hd
      have := fit.len
      unfold L2.start
      rw [List.length_append, List.length_map, List.length_replicate]
      omega
    · have := Fit.sl (K := K) (c := ⟨K, H, H, [], [], noA⟩) (tups_tupsOf H) fit hd i s e
      unfold L2.start
      rw [← hl, das_len hd]
      exact this
  refine hw _ H _ _ I (fun F' H' σ' Γ' O' p I' => ?_) (fun Hs v F' H' σ' Γ' r O' p I' be ro => ?_) (fun _ _ _ _ _ p => p.elim) fun _ _ _ _ _ p => p.elim
  · obtain ⟨rt, hr, p⟩ := p
    obtain ⟨o1, o2⟩ := Is.exit (c := ⟨K, H, H, [], [], noA⟩) (Hs := H') (v := .non) (r := .fr .none) I' Da.non hr fun m hm => by cases hm
    exact q _ rt H' F' p o1 o2
  · obtain ⟨rt, hr, p⟩ := p
    obtain ⟨o1, o2⟩ := Is.exit (c := ⟨K, H, H, [], [], noA⟩) I' ro hr fun m hm => by cases hm
    exact q _ rt H' F' p o1 o2
theorem SpD.len {T : List PyData → (Rt → Prop) → Prop} {n : Nat} (h : ∀ ds Φ, T ds Φ → ds.length = n) : ∀ vs H Q E, SpD T vs H Q E → vs.length = n := fun vs H Q E ⟨ds, Φ, hT, hd, _⟩ => by rw [das_len hd]; exact h ds Φ hT
/-- the body of a def that draws -/
theorem enterF {K : PySem.W.Frag} {T : List PyData → (Rt → Prop) → Prop} {vs : List V} {Q : VK} {X : XK} {N : List Str} {t : TS} (h : SpF K T vs H Q X)
    (k : ∀ ds Φ (c : Cn) a s ns, c = ⟨K, H, delH H a, [a], [], noA⟩ → SqL c.K c.B s (ns.map V.int) → T ds Φ → ∃ Γ, Fit ds Γ ∧ Γ.length + 1 = N.length ∧ Ws c (.pt a :: Γ) [(a, .fd s ns)] t { nx := fun _ O => RtW Φ (.fr .none) O ∧ (a, Ob.fd s ns) ∈ O, rt := fun r O => RtW Φ r O ∧ (a, Ob.fd s ns) ∈ O }) : t { nx := fun _ H' => Q .non H', rt := Q } (start N vs) H := by
  obtain ⟨a, s, ns, vs', ds, Φ, rfl, hf, hs, hT, hd, q⟩ := h
  obtain ⟨Γ, fit, hl, hw⟩ := k ds Φ _ a s ns rfl hs hT
  have hne : H a ≠ none := by obtain ⟨i, w, sd, e, _⟩ := hf; rw [e]; exact fun z => nomatch z
  have dl : ∀ b o, delH H a b = some o → H b = some o ∧ b ≠ a := fun b o e => by
    unfold delH at e
    split at e
    · cases e
    · rename_i n; exact ⟨e, n⟩
  have tB : Tups (delH H a) (tupsOf H) := fun b o e t => tups_tupsOf H b o (dl b o e).1 t
  have fa : tupsOf H a = none := by
    obtain ⟨i, w, sd, e, _⟩ := hf
    unfold tupsOf
    rw [e]
  have I : Is ⟨K, H, delH H a, [a], [], noA⟩ (tupsOf H) H (start N (.ref a :: vs')) (.pt a :: Γ) [(a, .fd s ns)] := by
    refine ⟨fun b o e => (tupsOf_some e).1, fun b o e => (dl b o e).1, tups_tupsOf H, fun b o e => .inr (.inl (tupsOf_some e).2), fun b o e _ => e, fun b m => (by rcases List.mem_singleton.mp m with rfl; exact hne), (by simp), fun e m => ?_, fun e m => ?_, fun e m => ?_, fun e m => (by cases m), fun b e => ?_, ?_, fun i s' e => ?_⟩
    · rcases List.mem_singleton.mp m with rfl; exact fa
    · rcases List.mem_singleton.mp m with rfl; show (if a = a then none else H a) = none; rw [if_pos rfl]
    · rcases List.mem_singleton.mp m with rfl
      exact ⟨.inr (List.mem_singleton_self _), hf, .inr hs⟩
    · show (if b = a then none else H b) = none
      split
      · rfl
      · exact e
    · have := das_len hd
      have := fit.len
      unfold L2.start
      rw [List.length_append, List.length_map, List.length_replicate, List.length_cons, List.length_cons]
      omega
    · cases i with
      | zero =>
        simp at e
        subst e
        unfold L2.start
        simp
        rfl
      | succ i =>
        have := Fit.sl (K := K) (c := ⟨K, H, delH H a, [a], [], noA⟩) (F := tupsOf H) tB fit hd i s' (by simpa using e)
        unfold L2.start
        rw [← hl, List.length_cons, das_len hd, Nat.add_sub_add_right, List.map_cons, List.cons_append, List.getElem?_cons_succ]
        exact this
  have fin : ∀ {F' H' σ' Γ' O'}, Is ⟨K, H, delH H a, [a], [], noA⟩ F' H' σ' Γ' O' → (a, Ob.fd s ns) ∈ O' → FeedAt H' a s ns := fun I' m => by
    obtain ⟨_, h1, _⟩ := I'.oH _ m
    exact h1
  refine hw _ H _ _ I (fun F' H' σ' Γ' O' p I' => ?_) (fun Hs v F' H' σ' Γ' r O' p I' be ro => ?_) (fun _ _ _ _ _ p => p.elim) fun _ _ _ _ _ p => p.elim
  · obtain ⟨⟨rt, hr, p⟩, m⟩ := p
    obtain ⟨o1, o2⟩ := Is.exit (c := ⟨K, H, delH H a, [a], [], noA⟩) (Hs := H') (v := .non) (r := .fr .none) I' Da.non hr fun m hm => by rcases List.mem_singleton.mp hm with rfl; exact hne
    exact q _ rt H' F' p o1 (fin I' m) o2
  · obtain ⟨⟨rt, hr, p⟩, m⟩ := p
    obtain ⟨o1, o2⟩ := Is.exit (c := ⟨K, H, delH H a, [a], [], noA⟩) I' ro hr fun m hm => by rcases List.mem_singleton.mp hm with rfl; exact hne
    exact q _ rt H' F' p o1 (fin I' m) o2
theorem SpF.len {K : PySem.W.Frag} {T : List PyData → (Rt → Prop) → Prop} {n : Nat} (h : ∀ ds Φ, T ds Φ → ds.length = n) : ∀ vs H Q E, SpF K T vs H Q E → vs.length = n + 1 := fun vs H Q E ⟨a, s, ns, vs', ds, Φ, e, _, _, hT, hd, _⟩ => by
  subst e
  rw [List.length_cons, das_len hd, h ds Φ hT]
end
end DL

/-! DL8: names of readings, typed walks, short tactics. -/
namespace DL
open PySem PySem.Spec PyProof.Rows L2

abbrev rSub : R2 := rI0 fun i j => .int (i - j)
abbrev rFdiv : R2 := rI CDivN fun i j => .int (i.fdiv j)
abbrev rMod : R2 := rI (fun _ j => j ≠ 0) fun i j => .int (i.fmod j)
abbrev rPow : R2 := rI CPow fun i j => .int (i ^ j.toNat)
abbrev rShl : R2 := rI CPow fun i j => .int (i * 2 ^ j.toNat)
abbrev rShr : R2 := rI (fun _ j => 0 ≤ j) fun i j => .int (i / 2 ^ j.toNat)
abbrev rBand : R2 := rI0 fun i j => .int (Builtin.bitAnd i j)
abbrev rBor : R2 := rI0 fun i j => .int (Builtin.bitOr i j)
abbrev rBxor : R2 := rI0 fun i j => .int (Builtin.bitXor i j)
abbrev rNeg : V → Hp → VK → Prop := rU fun i => .int (-i)
abbrev rInv : V → Hp → VK → Prop := rU fun i => .int (Builtin.bitNot i)
abbrev rIsB : R2 := fun x y H Q => ∃ a b, x = .bl a ∧ y = .bl b ∧ Q (.bl (decide (a = b))) H
theorem op_isB {X : Cx} : OpR X (compareOp .Is) rIsB := op_is_bl
abbrev rIsnB : R2 := fun x y H Q => ∃ a b, x = .bl a ∧ y = .bl b ∧ Q (.bl (!decide (a = b))) H
theorem op_isnB {X : Cx} : OpR X (compareOp .IsNot) rIsnB := op_isnot_bl
abbrev rTupA (K : PySem.W.Frag) : List V → Hp → VK → Prop := fun xs H Q => ∃ p ys, xs = [.ref p] ∧ ((SqL K H p ys ∧ ∀ l, H l = none → Q (.ref l) (upd H l (.tup ys))) ∨ (SqT K H p ys ∧ Q (.ref p) H))
abbrev rStr1 : List V → Hp → VK → Prop := fun xs H Q => ∃ i, xs = [.int i] ∧ i.natAbs.log2 < 1920 ∧ Q (.str (toString i)) H
section
variable {X : Cx}
theorem callr_or {f : Value} {r r' : List V → Hp → VK → Prop} (h : CallR X f r) (h' : CallR X f r') : CallR X f (fun xs H Q => r xs H Q ∨ r' xs H Q) := by
  intro pins s σ H xs us Q I r q
  rcases q with q | q
  · exact h pins s σ H xs us Q I r q
  · exact h' pins s σ H xs us Q I r q
def rSortedA (K : PySem.W.Frag) : List V → Hp → VK → Prop := fun xs H Q => rSortedI K xs H Q ∨ rSortedPO K xs H Q
theorem cr_sortedA : CallR X (.builtin "sorted") (rSortedA X.K) := callr_or cr_sortedI cr_sortedPO
/-- >= of tuples of ints -/
def rGeT (K : PySem.W.Frag) : R2 := fun x y H Q => ∃ (a b : Addr) (ns ms : List Int), x = .ref a ∧ y = .ref b ∧ SqT K H a (ns.map V.int) ∧ SqT K H b (ms.map V.int) ∧
  Q (.bl (Ob.lexAt (fun j => decide (ns.getD j 0 = ms.getD j 0)) (fun j => decide (ms.getD j 0 ≤ ns.getD j 0)) (decide (ns.length ≥ ms.length)) 0 (min ns.length ms.length))) H
theorem op_geT (hu : X.A.units < cLine) : OpR X (compareOp .GtE) (rGeT X.K) := by
  intro pins s σ H x y v u Q I rx ry h
  obtain ⟨a, b, ns, ms, rfl, rfl, ha, hb, q⟩ := h
  cases rx
  cases ry
  obtain ⟨its, r1, p1, _⟩ := I.tuple ha
  obtain ⟨its2, r2, p2, _⟩ := I.tuple hb
  have i1 : IntsAre its ns := Vals.ints r1
  have i2 : IntsAre its2 ms := Vals.ints r2
  have e1 : its.toArray.size = ns.length := by rw [List.size_toArray]; exact i1.length
  have e2 : its2.toArray.size = ms.length := by rw [List.size_toArray]; exact i2.length
  have at1 : ∀ j (h1 : j < its.toArray.size), ∃ t, its.toArray[j] = .int (ns.getD j 0) t := fun j h1 => PyProof.Rows.IntsAre.int_at i1 _ _ (by simp at h1; simp [h1])
  have at2 : ∀ j (h1 : j < its2.toArray.size), ∃ t, its2.toArray[j] = .int (ms.getD j 0) t := fun j h1 => PyProof.Rows.IntsAre.int_at i2 _ _ (by simp at h1; simp [h1])
  have R := Ob.RcOp.tuples_ge (A := X.A) (s := s) (e := fun j => decide (ns.getD j 0 = ms.getD j 0)) (r := fun j => decide (ms.getD j 0 ≤ ns.getD j 0)) p1 p2 hu (fun j h1 h2 => by
    obtain ⟨t, et⟩ := at1 j h1
    obtain ⟨t', et'⟩ := at2 j h2
    rw [et, et']
    have z : (ns.getD j 0 == ms.getD j 0) = decide (ns.getD j 0 = ms.getD j 0) := by
      by_cases q : ns.getD j 0 = ms.getD j 0
      · rw [decide_eq_true q]; exact beq_iff_eq.mpr q
      · rw [decide_eq_false q]; exact beq_eq_false_iff_ne.mpr q
    rw [← z]
    exact SeqAt.EqAt.int_int _ _ _ _) (fun j h1 h2 _ => by
    obtain ⟨t, et⟩ := at1 j h1
    obtain ⟨t', et'⟩ := at2 j h2
    rw [et, et']
    exact Ob.RcOp.ge_int _ _ _ _)
  rw [e1, e2] at R
  have z : wpAny (model X.prog X.w) X.A (compareOp .GtE (.ref a) (.ref b)) (EP X pins σ Q) X.xe s := R X.prog X.w X.xe (EP X pins σ Q) ⟨.bl _, H, I, rfl, q⟩
  exact z
def rGeA (K : PySem.W.Frag) : R2 := fun x y H Q => rGeI x y H Q ∨ rGeT K x y H Q
theorem op_geA (hu : X.A.units < cLine) : OpR X (compareOp .GtE) (rGeA X.K) := opr_or op_geI (op_geT hu)
/-- a module's whole number -/
theorem pe_gi {x : Str} {n : Int} {pos : Pos} (hg : Gl X x) (h : ∃ t, X.mg x = some (.int n t)) (hd : (x == ("__debug__" : Str)) = false := by decide) : PE X (.Name x pos) (tC (.int n)) := by
  obtain ⟨t, h⟩ := h
  exact pe_glob hg h ⟨t, rfl⟩ hd
end

section
variable {c : Cn} {Hs Hr F H F' H' F1 H1 F2 H2 : Hp} {σ σ' : L2.St} {Γ Γ' Γ2 : List Sl} {O O' O1 O2 : OL} {v : V} {r a b : Res} {E : En} {ta tb te : TE} {t u : TS} {tc : TT} {Φ : Res → OL → Prop}
theorem wo_geA {i j : Int} (ha : Any O a (.int i)) (hb : Any O b (.int j)) (k : Φ (.fr (.bool (decide (j ≤ i)))) O) : Wo c Γ O (rGeA c.K) a b Φ := wo_l (wo_ge ha hb k)
theorem wo_isB {i j : Bool} (ha : Any O a (.bool i)) (hb : Any O b (.bool j)) (k : Φ (.fr (.bool (decide (i = j)))) O) : Wo c Γ O rIsB a b Φ := fun Hs F H σ I be x y hx hy Q q => ⟨i, j, ha.bool I hx, hb.bool I hy, q _ F H _ O k I (Gr.refl _ _ _ _) (Da.bl _)⟩
theorem wo_isnB {i j : Bool} (ha : Any O a (.bool i)) (hb : Any O b (.bool j)) (k : Φ (.fr (.bool (!decide (i = j)))) O) : Wo c Γ O rIsnB a b Φ := fun Hs F H σ I be x y hx hy Q q => ⟨i, j, ha.bool I hx, hb.bool I hy, q _ F H _ O k I (Gr.refl _ _ _ _) (Da.bl _)⟩
theorem we_notT (h : We c Γ O te fun a O1 => ∃ d k, Any O1 a d ∧ Tru d k ∧ Φ (.fr (.bool (!k))) O1) : We c Γ O (tNotT c.K te) Φ := fun F H σ I Q q =>
  h F H σ I _ fun x F1 H1 a O1 p I1 g1 ra => by
    obtain ⟨d, k, ka, tr, p⟩ := p
    exact ⟨k, tr.ok (ka.da I1 ra), q _ F1 H1 _ O1 p I1 g1 (Da.bl _)⟩
theorem wc_l {r1 r2 : List V → Hp → VK → Prop} {as : List Res} (h : Wc c Γ O r1 as Φ) : Wc c Γ O (fun xs H Q => r1 xs H Q ∨ r2 xs H Q) as Φ := fun Hs F H σ I be xs hx Q q => .inl (h Hs F H σ I be xs hx Q q)
theorem wc_r {r1 r2 : List V → Hp → VK → Prop} {as : List Res} (h : Wc c Γ O r2 as Φ) : Wc c Γ O (fun xs H Q => r1 xs H Q ∨ r2 xs H Q) as Φ := fun Hs F H σ I be xs hx Q q => .inr (h Hs F H σ I be xs hx Q q)
theorem wc_sortI {ds : List PyData} (ns : List Int) (ha : Any O a (.list ds)) (e : ds = ns.map PyData.int) (k : ∀ ns' : List Int, ns'.Perm ns → ns'.Pairwise (· ≤ ·) → Φ (.nw (ns'.map PyData.int)) O) : Wc c Γ O (rSortedA c.K) [a] Φ := wc_l (wc_sortedI ns ha e k)
theorem wc_sortP {ds : List PyData} (ps : List (Int × Int)) (ha : Seq O a ds true) (e : ds = ps.map prD) (k : ∀ ps' : List (Int × Int), ps'.Perm ps → ps'.Pairwise leP → Φ (.nw (ps'.map prD)) O) : Wc c Γ O (rSortedA c.K) [a] Φ := wc_r (wc_sortedP ps ha e k)

/-! ### typed walks -/
def rngI (a b : Int) : List Int := (List.range (b - a).toNat).map fun (i : Nat) => a + (i : Int)
theorem rngI_len (a b : Int) : (rngI a b).length = (b - a).toNat := by simp [rngI]
theorem mem_rngI {a b x : Int} : x ∈ rngI a b ↔ a ≤ x ∧ x < b := by
  unfold rngI
  rw [List.mem_map]
  constructor
  · rintro ⟨i, hi, rfl⟩
    have := List.mem_range.mp hi
    omega
  · rintro ⟨h1, h2⟩
    exact ⟨(x - a).toNat, List.mem_range.mpr (by omega), by omega⟩
theorem rngI_get {a b : Int} {i : Nat} {x : Int} (h : (rngI a b)[i]? = some x) : x = a + i ∧ x < b := by
  unfold rngI at h
  rw [List.getElem?_map] at h
  obtain ⟨j, hj, rfl⟩ := Option.map_eq_some_iff.mp h
  obtain ⟨h1, h2⟩ := List.getElem?_eq_some_iff.mp hj
  simp at h1 h2
  omega
theorem rngI_succ {a b : Int} (h : a ≤ b) : rngI a (b + 1) = rngI a b ++ [b] := by
  unfold rngI
  have e : (b + 1 - a).toNat = (b - a).toNat + 1 := by omega
  rw [e, List.range_succ, List.map_append]
  simp
  omega
theorem rngI_nil {a b : Int} (h : b ≤ a) : rngI a b = [] := by
  unfold rngI
  rw [show (b - a).toNat = 0 by omega]
  rfl
theorem rngI_cons {a b : Int} (h : a < b) : rngI a b = a :: rngI (a + 1) b := by
  unfold rngI
  have e : (b - a).toNat = (b - (a + 1)).toNat + 1 := by omega
  rw [e, List.range_succ_eq_map, List.map_cons, List.map_map]
  refine congr (congrArg _ (by simp)) (List.map_congr_left fun i _ => ?_)
  simp
  omega
theorem rngI_split {a b x : Int} {pre post : List Int} (h : rngI a b = pre ++ x :: post) : pre = rngI a x ∧ a ≤ x ∧ x < b ∧ (pre.length : Int) = x - a ∧ post = rngI (x + 1) b := by
  have hx : (rngI a b)[pre.length]? = some x := by rw [h]; simp
  obtain ⟨e, hb⟩ := rngI_get hx
  have hl : (pre.length : Int) = x - a := by omega
  have hp : pre = (rngI a b).take pre.length := by rw [h]; simp
  have hq : post = (rngI a b).drop (pre.length + 1) := by
    rw [h]
    simp
  refine ⟨?_, by omega, hb, hl, ?_⟩
  · rw [hp]
    unfold rngI
    rw [← List.map_take, List.take_range]
    congr 2
    omega
  · rw [hq]
    apply List.ext_getElem?
    intro i
    rw [List.getElem?_drop]
    unfold rngI
    rw [List.getElem?_map, List.getElem?_map]
    by_cases hi : pre.length + 1 + i < (b - a).toNat
    · rw [List.getElem?_range hi, List.getElem?_range (by omega)]
      simp
      omega
    · rw [List.getElem?_eq_none (by simp; omega), List.getElem?_eq_none (by simp; omega)]
      rfl
/-- a walk over xs; it says what comes of an item -/
def Wx (c : Cn) (Γ : List Sl) (O : OL) (wi : TI) {α : Type} (Φ : List α → (α → Res) → OL → Prop) : Prop :=
  Wi c Γ O wi fun n item O1 => ∃ (xs : List α) (it : α → Res), n = xs.length ∧ (∀ i x, xs[i]? = some x → item i = it x) ∧ Φ xs it O1
theorem Wi.imp {wi : TI} {Φ Ψ : Nat → (Nat → Res) → OL → Prop} (h : Wi c Γ O wi Φ) (k : ∀ n item O', Φ n item O' → Ψ n item O') : Wi c Γ O wi Ψ := fun F H σ I R q => h F H σ I R fun g J F' H' O' n item p => q g J F' H' O' n item (k n item O' p)
theorem wx_seq {α : Type} {Φ : List α → (α → Res) → OL → Prop} {w : Bool} (enc : α → PyData) (h : We c Γ O te fun r O1 => ∃ xs, SeqW r (xs.map enc) w ∧ Φ xs (fun x => Res.of w (enc x)) O1) : Wx c Γ O (iSeq c.K te) Φ :=
  wi_seq (h.imp fun r O1 ⟨xs, sw, p⟩ => ⟨_, w, sw, xs, fun x => Res.of w (enc x), by rw [List.length_map], fun i x hx => (by
    dsimp only
    rw [List.getD_eq_getElem?_getD, List.getElem?_map, hx]
    rfl), p⟩)
theorem wx_rng1 {Φ : List Int → (Int → Res) → OL → Prop} {ts : TA} (h : Wa c Γ O ts fun as O1 => ∃ a j, as = [a] ∧ Any O1 a (.int j) ∧ (j ≤ 1000000 ∧ -1000000 ≤ j) ∧ Φ (rngI 0 j) (fun x => .fr (.int x)) O1) : Wx c Γ O (iRng1 ts) Φ :=
  wi_rng1 fun F H σ I Q q => h F H σ I Q fun vs F' H' rs O' ⟨a, j, e, aj, ⟨h1, h2⟩, p⟩ => q vs F' H' rs O' ⟨a, j, e, aj, h1, h2, rngI 0 j, fun x => .fr (.int x), by rw [rngI_len]; simp, fun i x hx => by rw [(rngI_get hx).1], p⟩
theorem wx_rng2 {Φ : List Int → (Int → Res) → OL → Prop} {ts : TA} (h : Wa c Γ O ts fun as O1 => ∃ a b i j, as = [a, b] ∧ Any O1 a (.int i) ∧ Any O1 b (.int j) ∧ (-1000000 ≤ i ∧ i ≤ 1000000 ∧ -1000000 ≤ j ∧ j ≤ 1000000) ∧ Φ (rngI i j) (fun x => .fr (.int x)) O1) : Wx c Γ O (iRng2 ts) Φ :=
  wi_rng2 fun F H σ I Q q => h F H σ I Q fun vs F' H' rs O' ⟨a, b, i, j, e, ai, aj, hb, p⟩ => q vs F' H' rs O' ⟨a, b, i, j, e, ai, aj, hb, rngI i j, fun x => .fr (.int x), by rw [rngI_len], fun i x hx => by rw [(rngI_get hx).1], p⟩
theorem wx_enum {α : Type} {Φ : List (Int × α) → (Int × α → Res) → OL → Prop} {ts : TA} (enc : α → PyData) (h : Wa c Γ O ts fun as O1 => ∃ r xs, as = [r] ∧ SeqW r (xs.map enc) true ∧ (∀ es, r ≠ .fr (.tuple es)) ∧ Φ ((rngI 0 xs.length).zip xs) (fun x => .fr (.tuple [.int x.1, enc x.2])) O1) : Wx c Γ O (iEnum c.K ts) Φ :=
  wi_enum fun F H σ I Q q => h F H σ I Q fun vs F' H' rs O' ⟨r, xs, e, sw, hn, p⟩ => q vs F' H' rs O' ⟨r, xs.map enc, e, sw, hn, _, _, by rw [List.length_map, List.length_zip, rngI_len]; simp, fun i x hx => (by
    rw [List.getElem?_zip_eq_some] at hx
    obtain ⟨h1, h2⟩ := hx
    obtain ⟨e1, _⟩ := rngI_get h1
    dsimp only
    rw [List.getD_eq_getElem?_getD, List.getElem?_map, h2, e1]
    simp), p⟩
/-- for: I by what has been walked -/
theorem ws_forx {α : Type} {wi : TI} {g : TG} {tb : TS} (ix : List Nat) (h : Wx c Γ O wi fun (xs : List α) it O1 => ∃ I : List α → List Sl → OL → Prop, Up (I []) Γ O1 ∧
      (∀ gs pre x post Γi Oi, xs = pre ++ x :: post → I pre Γi Oi → Wg (c.gh gs) Γi Oi g ix (it x) fun Γ' => Ws (c.gh gs) Γ' Oi tb { nx := Up (I (pre ++ [x])), rt := E.rt, bk := E.nx, ct := Up (I (pre ++ [x])) }) ∧ ∀ Γ' O', I xs Γ' O' → E.nx Γ' O') :
    Ws c Γ O (tFor wi g tb) E := by
  refine ws_for ix (h.imp fun n item O1 ⟨xs, it, hn, hi, I, i0, step, fin⟩ => ?_)
  subst hn
  refine ⟨fun i => I (xs.take i), by simpa using i0, fun gs i Γi Oi hlt ih => ?_, fun Γ' O' p => fin Γ' O' (by simpa using p)⟩
  have hx : xs[i]? = some xs[i] := List.getElem?_eq_getElem hlt
  have sp : xs = xs.take i ++ xs[i] :: xs.drop (i + 1) := by
    rw [List.getElem_cons_drop, List.take_append_drop]
  have z := step gs (xs.take i) xs[i] (xs.drop (i + 1)) Γi Oi sp ih
  rw [hi i _ hx]
  have e : xs.take i ++ [xs[i]] = xs.take (i + 1) := List.take_append_getElem hlt
  rw [e] at z
  exact z
/-- a comprehension by what has been made so far -/
theorem we_lcx {α : Type} {wi : TI} {g : TG} {tt : TT} {vs : List Nat} (ix : List Nat) (h : Wx c Γ O wi fun (xs : List α) it O1 => xs.length ≤ 1000000 ∧ ∃ I : List α → List PyData → Prop, I [] [] ∧
      (∀ pre x post es, xs = pre ++ x :: post → I pre es → Wg c (wipeG Γ vs) O1 g ix (it x) fun Γ2 => Wt c Γ2 O1 tt fun b O2 => O2 = O1 ∧ if b = true then We c Γ2 O1 te fun r O3 => O3 = O1 ∧ ∃ d, Fz r d ∧ I (pre ++ [x]) (es ++ [d]) else I (pre ++ [x]) es) ∧
      ∀ es, I xs es → Φ (.nw es) O1) (hix : ∀ j ∈ ix, j ∈ vs := by decide) : We c Γ O (tLc wi g tt te vs) Φ := by
  refine we_lc ix (Wi.imp h fun n item O1 ⟨xs, it, hn, hi, hl, I, i0, step, fin⟩ => ?_) hix
  subst hn
  refine ⟨hl, fun i => I (xs.take i), by simpa using i0, fun i es hlt ih => ?_, fun es p => fin es (by simpa using p)⟩
  have hx : xs[i]? = some xs[i] := List.getElem?_eq_getElem hlt
  have sp : xs = xs.take i ++ xs[i] :: xs.drop (i + 1) := by
    rw [List.getElem_cons_drop, List.take_append_drop]
  have z := step (xs.take i) xs[i] (xs.drop (i + 1)) es sp ih
  rw [hi i _ hx]
  have e : xs.take i ++ [xs[i]] = xs.take (i + 1) := List.take_append_getElem hlt
  rw [e] at z
  exact z
/-- a comprehension that maps -/
theorem we_lcm {α : Type} {wi : TI} {g : TG} {vs : List Nat} (ix : List Nat) (h : Wx c Γ O wi fun (xs : List α) it O1 => xs.length ≤ 1000000 ∧ ∃ f : α → PyData,
      (∀ x, x ∈ xs → Wg c (wipeG Γ vs) O1 g ix (it x) fun Γ2 => We c Γ2 O1 te fun r O3 => O3 = O1 ∧ Fz r (f x)) ∧ Φ (.nw (xs.map f)) O1) (hix : ∀ j ∈ ix, j ∈ vs := by decide) : We c Γ O (tLc wi g tYes te vs) Φ := by
  refine we_lcx ix (Wi.imp h fun n item O1 ⟨xs, it, hn, hi, hl, f, step, fin⟩ => ⟨xs, it, hn, hi, hl, fun pre es => es = pre.map f, rfl, fun pre x post es sp e => ?_, fun es e => by subst e; exact fin⟩) hix
  intro Hs F H σ I v rv Q q
  refine step x (by rw [sp]; simp) Hs F H σ I v rv Q fun σ' Γ' p => q σ' Γ' (wt_yes ⟨rfl, ?_⟩)
  rw [if_pos rfl]
  refine p.imp fun r O' ⟨e1, fz⟩ => ⟨e1, _, fz, ?_⟩
  show es ++ [f x] = (pre ++ [x]).map f
  rw [show es = pre.map f from e, List.map_append]
  rfl
/-- a comprehension that picks and maps -/
theorem we_lcf {α : Type} {wi : TI} {g : TG} {tt : TT} {vs : List Nat} (ix : List Nat) (h : Wx c Γ O wi fun (xs : List α) it O1 => xs.length ≤ 1000000 ∧ ∃ (p : α → Bool) (f : α → PyData),
      (∀ x, x ∈ xs → Wg c (wipeG Γ vs) O1 g ix (it x) fun Γ2 => Wt c Γ2 O1 tt fun b O2 => O2 = O1 ∧ b = p x ∧ (p x = true → We c Γ2 O1 te fun r O3 => O3 = O1 ∧ Fz r (f x))) ∧ Φ (.nw ((xs.filter p).map f)) O1) (hix : ∀ j ∈ ix, j ∈ vs := by decide) : We c Γ O (tLc wi g tt te vs) Φ := by
  refine we_lcx ix (Wi.imp h fun n item O1 ⟨xs, it, hn, hi, hl, p, f, step, fin⟩ => ⟨xs, it, hn, hi, hl, fun pre es => es = (pre.filter p).map f, rfl, fun pre x post es sp e => ?_, fun es e => by subst e; exact fin⟩) hix
  intro Hs F H σ I v rv Q q
  refine step x (by rw [sp]; simp) Hs F H σ I v rv Q fun σ' Γ' w => q σ' Γ' (w.imp fun b O' ⟨e1, e2, k⟩ => ⟨e1, ?_⟩)
  subst e2
  cases hp : p x with
  | true =>
    rw [if_pos rfl]
    refine (k hp).imp fun r O' ⟨e1, fz⟩ => ⟨e1, _, fz, ?_⟩
    show es ++ [f x] = ((pre ++ [x]).filter p).map f
    rw [show es = (pre.filter p).map f from e, List.filter_append, List.map_append]
    simp [hp]
  | false =>
    rw [if_neg Bool.false_ne_true]
    show es = ((pre ++ [x]).filter p).map f
    rw [show es = (pre.filter p).map f from e, List.filter_append]
    simp [hp]
end

/-! ### data that may be compared -/
def Shp (n : Nat) (d : PyData) : Prop := d.canLay0 = true ∧ d.depth ≤ n
theorem Shp.sh {n : Nat} {d : PyData} (h : Shp n d) (hn : n ≤ 64 := by decide) : SeqAt.shaped d = true := by
  show (d.canLay0 && decide (d.depth ≤ 64)) = true
  rw [h.1, decide_eq_true (Nat.le_trans h.2 hn)]
  rfl
theorem shp_none {n : Nat} : Shp n .none := ⟨by simp [PyData.canLay0], by simp [PyData.depth]⟩
theorem shp_int {n : Nat} (i : Int) : Shp n (.int i) := ⟨by simp [PyData.canLay0], by simp [PyData.depth]⟩
theorem shp_bool {n : Nat} (i : Bool) : Shp n (.bool i) := ⟨by simp [PyData.canLay0], by simp [PyData.depth]⟩
theorem shp_str {n : Nat} {s : Str} (h : PyData.strOk s = true) : Shp n (.str s) := ⟨by simp [PyData.canLay0, h], by simp [PyData.depth]⟩
theorem shp_all {n : Nat} : ∀ {ds : List PyData}, (∀ d ∈ ds, Shp n d) → PyData.canLayAll0 ds = true ∧ PyData.depthAll ds ≤ n
  | [], _ => ⟨by simp [PyData.canLayAll0], by simp [PyData.depthAll]⟩
  | d :: ds, h => by
    obtain ⟨h1, h2⟩ := h d List.mem_cons_self
    obtain ⟨h3, h4⟩ := shp_all fun x hx => h x (List.mem_cons_of_mem _ hx)
    exact ⟨by simp [PyData.canLayAll0, h1, h3], by simp only [PyData.depthAll]; omega⟩
theorem shp_list {n : Nat} {ds : List PyData} (h : ∀ d ∈ ds, Shp n d) : Shp (n + 1) (.list ds) := by
  obtain ⟨h1, h2⟩ := shp_all h
  exact ⟨by simp [PyData.canLay0, h1], by simp only [PyData.depth]; omega⟩
theorem shp_tuple {n : Nat} {ds : List PyData} (h : ∀ d ∈ ds, Shp n d) : Shp (n + 1) (.tuple ds) := by
  obtain ⟨h1, h2⟩ := shp_all h
  exact ⟨by simp [PyData.canLay0, h1], by simp only [PyData.depth]; omega⟩
theorem shp_map {α : Type} {n : Nat} {enc : α → PyData} (xs : List α) (h : ∀ x, Shp n (enc x)) : Shp (n + 1) (.list (xs.map enc)) := shp_list fun d hd => by
  obtain ⟨x, _, rfl⟩ := List.mem_map.mp hd
  exact h x
theorem shp_pr (p : Int × Int) : Shp 1 (prD p) := shp_tuple fun d hd => by
  rcases List.mem_cons.mp hd with rfl | hd
  · exact shp_int _
  · rcases List.mem_cons.mp hd with rfl | hd
    · exact shp_int _
    · cases hd
theorem shp_prs (ps : List (Int × Int)) : Shp 2 (.list (ps.map prD)) := shp_map ps shp_pr
theorem shp_ints (ns : List Int) : Shp 1 (.list (ns.map PyData.int)) := shp_map ns fun i => shp_int i

/-! ### data is equal just if what it tells is -/
class EncI {α : Type} [DecidableEq α] (enc : α → PyData) : Prop where
  eqv : ∀ x y, PyData.eqv (enc x) (enc y) = decide (x = y)
instance : EncI PyData.int := ⟨fun x y => by simp only [PyData.eqv]; rw [Bool.beq_eq_decide_eq]⟩
instance : EncI PyData.bool := ⟨fun x y => by simp only [PyData.eqv]; rw [Bool.beq_eq_decide_eq]⟩
instance : EncI prD := ⟨fun x y => by
  obtain ⟨a, b⟩ := x
  obtain ⟨a', b'⟩ := y
  simp only [prD, PyData.eqv, PyData.eqvAll, Bool.and_true]
  by_cases h1 : a = a' <;> by_cases h2 : b = b' <;> simp [h1, h2]⟩
theorem eqvAll_map {α : Type} [DecidableEq α] (enc : α → PyData) [EncI enc] : ∀ xs ys : List α, PyData.eqvAll (xs.map enc) (ys.map enc) = decide (xs = ys)
  | [], [] => by simp [PyData.eqvAll]
  | [], y :: ys => by simp [PyData.eqvAll]
  | x :: xs, [] => by simp [PyData.eqvAll]
  | x :: xs, y :: ys => by
    simp only [List.map_cons, PyData.eqvAll]
    rw [EncI.eqv, eqvAll_map enc xs ys]
    by_cases h1 : x = y <;> by_cases h2 : xs = ys <;> simp [h1, h2]
theorem eqv_list {α : Type} [DecidableEq α] (enc : α → PyData) [EncI enc] (xs ys : List α) : PyData.eqv (.list (xs.map enc)) (.list (ys.map enc)) = decide (xs = ys) := by
  simp only [PyData.eqv]
  exact eqvAll_map enc xs ys
instance {α : Type} [DecidableEq α] (enc : α → PyData) [EncI enc] : EncI (fun xs : List α => PyData.list (xs.map enc)) := ⟨fun xs ys => eqv_list enc xs ys⟩
theorem any_eqv {α : Type} [DecidableEq α] (enc : α → PyData) [EncI enc] (xs : List α) (x : α) : (xs.map enc).any (fun z => PyData.eqv z (enc x)) = decide (x ∈ xs) := by
  rw [List.any_map]
  by_cases h : x ∈ xs
  · rw [decide_eq_true h, List.any_eq_true]
    exact ⟨x, h, by simp [EncI.eqv]⟩
  · rw [decide_eq_false h, List.any_eq_false]
    intro y hy
    simp only [Function.comp, EncI.eqv, decide_eq_true_eq]
    intro e
    exact h (by rw [← e]; exact hy)

/-! ### short tactics -/
local macro_rules | `(tactic| walk_at "any") => `(tactic| first | exact Any.fr | exact Any.bo | exact Any.nw | exact Any.pt (by simp) | assumption)
end DL
namespace DL
open PySem PySem.Spec PyProof.Rows L2
section
variable {c : Cn} {Hs Hr F H F' H' F1 H1 F2 H2 : Hp} {σ σ' : L2.St} {Γ Γ' Γ2 : List Sl} {O O' O1 O2 : OL} {v : V} {r a b : Res} {E : En} {ta tb te : TE} {t u : TS} {tc : TT} {Φ : Res → OL → Prop}
theorem sto_fr {Ψ : List Sl → OL → Prop} {i : Nat} {d : PyData} (e : Γ.set i (.fr d) = Γ2) (k : Ψ Γ2 O) : StO Γ O i (.fr d) Ψ := by subst e; exact k
theorem sto_bo {Ψ : List Sl → OL → Prop} {i : Nat} {d : PyData} (e : Γ.set i (.bo d) = Γ2) (k : Ψ Γ2 O) : StO Γ O i (.bo d) Ψ := by subst e; exact k
theorem sto_pt {Ψ : List Sl → OL → Prop} {i : Nat} {p : Addr} (e : Γ.set i (.pt p) = Γ2) (k : Ψ Γ2 O) : StO Γ O i (.pt p) Ψ := by subst e; exact k
theorem sto_sq {Ψ : List Sl → OL → Prop} {i : Nat} {ns : List Int} (e : Γ.set i (.sq ns) = Γ2) (k : Ψ Γ2 O) : StO Γ O i (.sq ns) Ψ := by subst e; exact k
theorem sto_nw {Ψ : List Sl → OL → Prop} {i : Nat} {ds : List PyData} (e : Γ.set i (.fr (.list ds)) = Γ2) (k : Ψ Γ2 O) : StO Γ O i (.nw ds) Ψ := by subst e; exact .inl k
theorem sto_own {Ψ : List Sl → OL → Prop} {i : Nat} {ds : List PyData} {Γ2 : Addr → List Sl} {O2 : Addr → OL} (e : ∀ p, Γ.set i (.pt p) = Γ2 p) (e' : ∀ p, O ++ [(p, Ob.l ds)] = O2 p) (k : ∀ p, Ψ (Γ2 p) (O2 p)) : StO Γ O i (.nw ds) Ψ := .inr fun p => by rw [e, e']; exact k p
theorem wg_nm {Ψ : List Sl → Prop} {i : Nat} {s : Sl} (hs : r.sl = some s) (e : Γ.set i s = Γ2) (k : Ψ Γ2) : Wg c Γ O (gName i) [i] r Ψ := by subst e; exact wg_name hs k
theorem wo_eqI {i j : Int} (ha : Any O a (.int i)) (hb : Any O b (.int j)) (k : Φ (.fr (.bool (decide (i = j)))) O) : Wo c Γ O (rEqD c.K) a b Φ := wo_eq ha hb (shp_int (n := 0) i).sh (shp_int (n := 0) j).sh (by rw [EncI.eqv (enc := PyData.int)]; exact k)
theorem wo_neI {i j : Int} (ha : Any O a (.int i)) (hb : Any O b (.int j)) (k : Φ (.fr (.bool (!decide (i = j)))) O) : Wo c Γ O (rNeD c.K) a b Φ := wo_ne ha hb (shp_int (n := 0) i).sh (shp_int (n := 0) j).sh (by rw [EncI.eqv (enc := PyData.int)]; exact k)
theorem wo_eqP {p q : List (Int × Int)} (ha : Any O a (.list (p.map prD))) (hb : Any O b (.list (q.map prD))) (k : Φ (.fr (.bool (decide (p = q)))) O) : Wo c Γ O (rEqD c.K) a b Φ := wo_eq ha hb (shp_prs p).sh (shp_prs q).sh (by rw [eqv_list]; exact k)
theorem wo_neP {p q : List (Int × Int)} (ha : Any O a (.list (p.map prD))) (hb : Any O b (.list (q.map prD))) (k : Φ (.fr (.bool (!decide (p = q)))) O) : Wo c Γ O (rNeD c.K) a b Φ := wo_ne ha hb (shp_prs p).sh (shp_prs q).sh (by rw [eqv_list]; exact k)
theorem wo_eqL {p q : List Int} (ha : Any O a (.list (p.map .int))) (hb : Any O b (.list (q.map .int))) (k : Φ (.fr (.bool (decide (p = q)))) O) : Wo c Γ O (rEqD c.K) a b Φ := wo_eq ha hb (shp_ints p).sh (shp_ints q).sh (by rw [eqv_list]; exact k)
theorem wo_neL {p q : List Int} (ha : Any O a (.list (p.map .int))) (hb : Any O b (.list (q.map .int))) (k : Φ (.fr (.bool (!decide (p = q)))) O) : Wo c Γ O (rNeD c.K) a b Φ := wo_ne ha hb (shp_ints p).sh (shp_ints q).sh (by rw [eqv_list]; exact k)
theorem wo_inI {i : Int} {ns : List Int} (ha : Any O a (.int i)) (hb : Any O b (.list (ns.map .int))) (k : Φ (.fr (.bool (decide (i ∈ ns)))) O) : Wo c Γ O (rInA c.K) a b Φ := wo_in ha hb (shp_int (n := 0) i).sh (shp_ints ns).sh (by rw [any_eqv]; exact k)
theorem wo_niI {i : Int} {ns : List Int} (ha : Any O a (.int i)) (hb : Any O b (.list (ns.map .int))) (k : Φ (.fr (.bool (!decide (i ∈ ns)))) O) : Wo c Γ O (rNotInA c.K) a b Φ := wo_notin ha hb (shp_int (n := 0) i).sh (shp_ints ns).sh (by rw [any_eqv]; exact k)
theorem any_prs (ps : List (Int × Int)) (i j : Int) : (ps.map prD).any (fun z => PyData.eqv z (.tuple [.int i, .int j])) = decide ((i, j) ∈ ps) := by
  rw [show PyData.tuple [.int i, .int j] = prD (i, j) from rfl, any_eqv]
  exact decide_eq_decide.mpr Iff.rfl
theorem wo_inP {i j : Int} {ps : List (Int × Int)} (ha : Any O a (.tuple [.int i, .int j])) (hb : Any O b (.list (ps.map prD))) (k : Φ (.fr (.bool (decide ((i, j) ∈ ps)))) O) : Wo c Γ O (rInA c.K) a b Φ := wo_in ha hb (shp_pr (i, j)).sh (shp_prs ps).sh (by rw [any_prs]; exact k)
theorem wo_niP {i j : Int} {ps : List (Int × Int)} (ha : Any O a (.tuple [.int i, .int j])) (hb : Any O b (.list (ps.map prD))) (k : Φ (.fr (.bool (!decide ((i, j) ∈ ps)))) O) : Wo c Γ O (rNotInA c.K) a b Φ := wo_notin ha hb (shp_pr (i, j)).sh (shp_prs ps).sh (by rw [any_prs]; exact k)
theorem wo_in2 {i x y : Int} {w : Bool} (ha : Any O a (.int i)) (hb : Tup b [.int x, .int y] w) (k : Φ (.fr (.bool (decide (i = x ∨ i = y)))) O) : Wo c Γ O (rInA c.K) a b Φ := wo_inT [x, y] ha hb rfl (by
  have e : ([x, y].any fun z => z == i) = decide (i = x ∨ i = y) := by
    rw [Bool.eq_iff_iff]
    simp
    constructor <;> rintro (h | h) <;> simp [h]
  rw [e]; exact k)
theorem wo_ni2 {i x y : Int} {w : Bool} (ha : Any O a (.int i)) (hb : Tup b [.int x, .int y] w) (k : Φ (.fr (.bool (!decide (i = x ∨ i = y)))) O) : Wo c Γ O (rNotInA c.K) a b Φ := wo_notinT [x, y] ha hb rfl (by
  have e : ([x, y].any fun z => z == i) = decide (i = x ∨ i = y) := by
    rw [Bool.eq_iff_iff]
    simp
    constructor <;> rintro (h | h) <;> simp [h]
  rw [e]; exact k)
/-- an item of a list of pairs, of whole numbers -/
theorem wo_ixE {α : Type} {enc : α → PyData} {xs : List α} {w : Bool} {i : Int} {x : α} (ha : Seq O a (xs.map enc) w) (hb : Any O b (.int i)) (h0 : 0 ≤ i) (h : xs[i.toNat]? = some x) (k : Φ (Res.of w (enc x)) O) : Wo c Γ O (rIx c.K) a b Φ :=
  wo_ix ha hb (atI_of h0 (by rw [List.getElem?_map, h]; rfl)) k
theorem iteD {p : Prop} [Decidable p] {A B : Prop} (h1 : p → A) (h2 : ¬ p → B) : if decide p = true then A else B := by
  by_cases h : p
  · rw [decide_eq_true h]; exact h1 h
  · rw [decide_eq_false h]; exact h2 h
theorem iteN {p : Prop} [Decidable p] {A B : Prop} (h1 : ¬ p → A) (h2 : p → B) : if (!decide p) = true then A else B := by
  by_cases h : p
  · rw [decide_eq_true h]; exact h2 h
  · rw [decide_eq_false h]; exact h1 h
theorem lfs_map {α : Type} {enc : α → PyData} (h : ∀ x, lf (enc x) = true) : ∀ xs : List α, lfs (xs.map enc) = true
  | [] => rfl
  | x :: xs => by simp only [List.map_cons, lfs, h, lfs_map h xs]; rfl
theorem lf_pr (p : Int × Int) : lf (prD p) = true := rfl
theorem lfs_prs (ps : List (Int × Int)) : lfs (ps.map prD) = true := lfs_map lf_pr ps
theorem lfs_ints (ns : List Int) : lfs (ns.map PyData.int) = true := lfs_map (fun _ => rfl) ns
end
end DL

/-! DL9: a law's feed; double comprehensions; the law itself. -/
namespace DL
open PySem PySem.Spec PyProof.Rows L2

section
variable {c : Cn} {Hs Hr F H F' H' F1 H1 F2 H2 : Hp} {σ σ' : L2.St} {Γ Γ' Γ2 : List Sl} {O O' O1 O2 : OL} {v : V} {r a b : Res} {E : En} {ta tb te : TE} {t u : TS} {tc : TT} {Φ : Res → OL → Prop}
/-- the feed's numbers change -/
theorem Is.setFd (I : Is c F H σ Γ O) {j : Nat} {a s : Addr} {ns : List Int} {i w sd : Int} (hj : O[j]? = some (a, .fd s ns)) (hf : FeedI ns.length i w sd) :
    Is c F (upd H a (.lst [.ref s, .int i, .int w, .int sd])) σ Γ O := by
  have hm : (a, Ob.fd s ns) ∈ O := List.mem_of_getElem? hj
  obtain ⟨ha0, ⟨i0, w0, sd0, ha1, _⟩, hsq⟩ := I.oH _ hm
  have fa : F a = none := I.oF _ hm
  have ba : c.B a = none := I.oB _ hm
  refine ⟨same_upd I.fh fa, same_upd I.bh ba, fun b o e t => ?_, I.f0, fun b o e m => ?_, fun b m z => I.mm b m ?_, I.nd, I.oF, I.oB, fun e he => ?_, I.gh, I.bz, I.ln, I.sl⟩
  · by_cases hb : b = a
    · subst hb
      rw [upd_same] at e
      cases e
      cases t
    · rw [upd_ne hb] at e
      exact I.ft b o e t
  · by_cases hb : b = a
    · subst hb
      rcases ha0 with z | z
      · rw [z] at e; cases e
      · exact absurd z m
    · rw [upd_ne hb]
      exact I.h0 b o e m
  · by_cases hb : b = a
    · subst hb; rw [upd_same] at z; cases z
    · rw [upd_ne hb] at z; exact z
  · by_cases hb : e.1 = a
    · obtain ⟨k, u⟩ := e
      have hb : k = a := hb
      subst hb
      obtain ⟨i1, hi1⟩ := List.getElem?_of_mem he
      have e1 : (O.map (·.1))[i1]? = (O.map (·.1))[j]? := by rw [List.getElem?_map, List.getElem?_map, hi1, hj]; rfl
      have e3 := (List.getElem?_inj (by simpa using (List.getElem?_eq_some_iff.mp hi1).1) I.nd).mp e1
      subst e3
      rw [hi1] at hj
      cases hj
      exact ⟨ha0, ⟨i, w, sd, upd_same, hf⟩, hsq⟩
    · exact (I.oH e he).mono (Same.refl _) (upd_ne hb).symm
/-- a new feed: [list(script), 0, 0, 1] -/
def SpFeed (K : PySem.W.Frag) : Sp := fun vs H Q _ => ∃ (b : Addr) (ns : List Int), vs = [.ref b] ∧ SqL K H b (ns.map V.int) ∧ ∀ s a, H s = none → upd H s (.lst (ns.map V.int)) a = none →
  Q (.ref a) (upd (upd H s (.lst (ns.map V.int))) a (.lst [.ref s, .int 0, .int 0, .int 1]))
theorem we_feed {E : XK} {ts : TA} (h : Wa c Γ O ts fun as O1 => ∃ ns : List Int, as = [.sq ns] ∧ ∀ a s, Φ (.pt a) (O1 ++ [(a, .fd s ns)])) : We c Γ O (tCall (SpFeed c.K) [] E ts) Φ := fun F H σ I Q q =>
  h F H σ I _ fun xs F1 H1 as O1 p I1 g1 rs => by
    obtain ⟨ns, rfl, p⟩ := p
    obtain ⟨x, rfl, hx⟩ := rs.one
    obtain ⟨b, rfl, hb⟩ := hx
    refine ⟨b, ns, rfl, same_l I1.bh hb, fun s a hs ha => ?_⟩
    obtain ⟨I2, g2⟩ := I1.newL (Hs := H) hs (ns.map V.int)
    have nw : ResOk c H F1 (upd H1 s (.lst (ns.map V.int))) O1 (.ref s) (.nw (ns.map PyData.int)) := I1.nw g1.be hs (das_ints ns)
    obtain ⟨F3, I3, g3, k3⟩ := (Fz.nw (ds := ns.map PyData.int)).go I2 nw
    obtain ⟨I4, g4⟩ := I3.newL (Hs := H) ha [.ref s, .int 0, .int 0, .int 1]
    have fa : F3 a = none := I3.fh.free ha
    have ka : a ∉ O1.map (·.1) := I3.notKey ha
    have za : c.H0 a = none := I3.h0none ha
    have mem : ∀ e ∈ O1 ++ [(a, Ob.fd s ns)], e ∈ O1 ∨ e = (a, Ob.fd s ns) := fun e he => by simpa using he
    have hs' : H a = none := by
      have := g1.be a
      refine this ?_
      by_cases q : a = s
      · subst q; exact hs
      · rw [upd_ne q] at ha; exact ha
    have sq : SqL c.K F3 s (ns.map V.int) := by
      cases k3 with
      | lst e1 e2 =>
        cases das_int e2
        exact SqL.of e1
    refine q (.ref a) F3 _ (.pt a) (O1 ++ [(a, Ob.fd s ns)]) (p a s) ⟨I4.fh, I4.bh, I4.ft, I4.f0, I4.h0, I4.mm, ?_, fun e he => ?_, fun e he => ?_, fun e he => ?_, I4.gh, I4.bz, I4.ln, I4.sl⟩ ?_ rfl
    · rw [List.map_append]
      refine List.nodup_append.mpr ⟨I4.nd, by simp, fun x hx y hy e => ?_⟩
      have : y = a := by simpa using hy
      subst this
      subst e
      exact ka hx
    · rcases mem e he with q | rfl
      · exact I4.oF e q
      · exact fa
    · rcases mem e he with q | rfl
      · exact I4.oB e q
      · exact I4.bz _ za
    · rcases mem e he with q | rfl
      · exact I4.oH e q
      · exact ⟨.inl za, ⟨0, 0, 1, upd_same, ⟨Int.le_refl _, by omega, Int.le_refl _, by omega, by omega⟩⟩, .inl sq⟩
    · have g := (g1.trans g2).trans (g3.trans g4)
      refine ⟨g.ff, g.hh, g.nf, fun x m => ?_, g.dm⟩
      rw [List.map_append] at m
      rcases List.mem_append.mp m with z | z
      · exact g.kk x z
      · have : x = a := by simpa using z
        subst this
        exact .inr hs'
end
end DL

/-! DL10: values that leave the heap alone; one draw of a feed. -/
namespace DL
open PySem PySem.Spec PyProof.Rows L2

def PV (t : TE) (σ : L2.St) (H : Hp) (v : V) : Prop := ∀ Q : VK, Q v H → t σ H Q
def PB (t : TT) (σ : L2.St) (H : Hp) (b : Bool) : Prop := ∀ Q : Bool → Hp → Prop, Q b H → t σ H Q
section
variable {c : Cn} {F H : Hp} {σ : L2.St} {Γ : List Sl} {O : OL} {K : PySem.W.Frag} {ta tb : TE} {t u : TT} {i j k : Int} {v : V}
theorem pv_c : PV (tC v) σ H v := fun Q q => q
theorem pv_var {n : Nat} (h : σ[n]? = some (some v)) : PV (tVar n) σ H v := fun Q q => ⟨v, h, q⟩
theorem pv_ix {a : Addr} {xs : List V} (h1 : PV ta σ H (.ref a)) (h2 : PV tb σ H (.int k)) (hs : SqL K H a xs) (hk : atI xs k = some v) : PV (tOp (rIx K) ta tb) σ H v := fun Q q => h1 _ (h2 _ (.inl ⟨a, xs, k, v, rfl, rfl, hs, hk, q⟩))
theorem pv_add (h1 : PV ta σ H (.int i)) (h2 : PV tb σ H (.int j)) : PV (tOp rAddA ta tb) σ H (.int (i + j)) := fun Q q => h1 _ (h2 _ (.inl ⟨i, j, rfl, rfl, q⟩))
theorem pv_mul (h1 : PV ta σ H (.int i)) (h2 : PV tb σ H (.int j)) (hc : CMul i j) : PV (tOp rMulA ta tb) σ H (.int (i * j)) := fun Q q => h1 _ (h2 _ (.inl ⟨i, j, rfl, rfl, hc, q⟩))
theorem pv_mod (h1 : PV ta σ H (.int i)) (h2 : PV tb σ H (.int j)) (hj : 0 < j) : PV (tOp rMod ta tb) σ H (.int (i % j)) := fun Q q => h1 _ (h2 _ ⟨i, j, rfl, rfl, by omega, by
  show Q (.int (i.fmod j)) H
  rw [Int.fmod_eq_emod_of_nonneg _ (by omega : (0 : Int) ≤ j)]
  exact q⟩)
theorem pv_fdiv (h1 : PV ta σ H (.int i)) (h2 : PV tb σ H (.int j)) (hj : 0 < j ∧ j < 1073741824) : PV (tOp rFdiv ta tb) σ H (.int (i / j)) := fun Q q => h1 _ (h2 _ ⟨i, j, rfl, rfl, ⟨by omega, by omega⟩, by
  show Q (.int (i.fdiv j)) H
  rw [Int.fdiv_eq_ediv_of_nonneg _ (by omega : (0 : Int) ≤ j)]
  exact q⟩)
theorem pv_pow (h1 : PV ta σ H (.int i)) (h2 : PV tb σ H (.int j)) (hc : CPow i j) : PV (tOp rPow ta tb) σ H (.int (i ^ j.toNat)) := fun Q q => h1 _ (h2 _ ⟨i, j, rfl, rfl, hc, q⟩)
theorem pv_abs (h1 : PV ta σ H (.int i)) : PV (tCB rAbs (tCons ta tNil)) σ H (.int (if i < 0 then -i else i)) := fun Q q => h1 _ ⟨i, rfl, q⟩
theorem pv_int1 (h1 : PV ta σ H (.int i)) : PV (tCB rInt1 (tCons ta tNil)) σ H (.int i) := fun Q q => h1 _ (.inl ⟨i, rfl, q⟩)
theorem pv_len {a : Addr} {xs : List V} (h1 : PV ta σ H (.ref a)) (hs : SqL K H a xs) : PV (tCB (rLenA K) (tCons ta tNil)) σ H (.int xs.length) := fun Q q => h1 _ ⟨_, xs.length, rfl, .inl ⟨xs, hs, rfl⟩, q⟩
theorem pb_gt (h1 : PV ta σ H (.int i)) (h2 : PV tb σ H (.int j)) : PB (tTest (tOp rGtI ta tb)) σ H (decide (j < i)) := fun Q q => h1 _ (h2 _ ⟨i, j, rfl, rfl, _, rfl, q⟩)
theorem pb_ge (h1 : PV ta σ H (.int i)) (h2 : PV tb σ H (.int j)) : PB (tTest (tOp (rGeA K) ta tb)) σ H (decide (j ≤ i)) := fun Q q => h1 _ (h2 _ (.inl ⟨i, j, rfl, rfl, _, rfl, q⟩))
theorem pb_lt (h1 : PV ta σ H (.int i)) (h2 : PV tb σ H (.int j)) : PB (tTest (tOp (rLtA K) ta tb)) σ H (decide (i < j)) := fun Q q => h1 _ (h2 _ (.inl ⟨i, j, rfl, rfl, _, rfl, q⟩))
theorem pb_eq (h1 : PV ta σ H (.int i)) (h2 : PV tb σ H (.int j)) : PB (tTest (tOp (rEqD K) ta tb)) σ H (decide (i = j)) := fun Q q => h1 _ (h2 _ ⟨.int i, .int j, (Da.int i : Da H _ _).dp, (Da.int j : Da H _ _).dp, (shp_int (n := 0) i).sh, (shp_int (n := 0) j).sh, _, rfl, by rw [EncI.eqv (enc := PyData.int)]; exact q⟩)
theorem pb_and {b d : Bool} (h1 : PB t σ H b) (h2 : b = true → PB u σ H d) (hd : b = false → d = false) : PB (tAnd t u) σ H d := fun Q q => h1 _ (by
  cases b with
  | true => exact h2 rfl Q q
  | false => rw [hd rfl] at q; exact q)
end

/-! ### lists of things -/
def lsD {α : Type} (enc : α → PyData) (xs : List α) : PyData := .list (xs.map enc)
abbrev rowD : List Int → PyData := lsD PyData.int
abbrev tabD : List (List Int) → PyData := lsD rowD
instance encLs {α : Type} [DecidableEq α] (enc : α → PyData) [EncI enc] : EncI (lsD enc) := ⟨fun x y => eqv_list enc x y⟩
class ShpI {α : Type} (enc : α → PyData) (n : outParam Nat) : Prop where
  shp : ∀ x, Shp n (enc x)
instance shpI_int : ShpI PyData.int 0 := ⟨fun i => shp_int i⟩
instance shpI_bool : ShpI PyData.bool 0 := ⟨fun i => shp_bool i⟩
instance shpI_pr : ShpI prD 1 := ⟨shp_pr⟩
instance shpI_ls {α : Type} {n : Nat} (enc : α → PyData) [ShpI enc n] : ShpI (lsD enc) (n + 1) := ⟨fun xs => shp_map xs ShpI.shp⟩
class LfI {α : Type} (enc : α → PyData) : Prop where
  lf : ∀ x, lf (enc x) = true
instance lfI_int : LfI PyData.int := ⟨fun _ => rfl⟩
instance lfI_bool : LfI PyData.bool := ⟨fun _ => rfl⟩
instance lfI_pr : LfI prD := ⟨fun _ => rfl⟩
theorem lfs_enc {α : Type} {enc : α → PyData} [LfI enc] (xs : List α) : lfs (xs.map enc) = true := lfs_map LfI.lf xs
section
variable {c : Cn} {Γ : List Sl} {O : OL} {a b : Res} {Φ : Res → OL → Prop} {α : Type} [DecidableEq α] {n : Nat}
theorem wo_eqE (enc : α → PyData) [EncI enc] [ShpI enc n] {x y : α} (ha : Any O a (enc x)) (hb : Any O b (enc y)) (k : Φ (.fr (.bool (decide (x = y)))) O) (hn : n ≤ 64 := by decide) : Wo c Γ O (rEqD c.K) a b Φ :=
  wo_eq ha hb ((ShpI.shp x).sh hn) ((ShpI.shp y).sh hn) (by rw [EncI.eqv (enc := enc)]; exact k)
theorem wo_neE (enc : α → PyData) [EncI enc] [ShpI enc n] {x y : α} (ha : Any O a (enc x)) (hb : Any O b (enc y)) (k : Φ (.fr (.bool (!decide (x = y)))) O) (hn : n ≤ 64 := by decide) : Wo c Γ O (rNeD c.K) a b Φ :=
  wo_ne ha hb ((ShpI.shp x).sh hn) ((ShpI.shp y).sh hn) (by rw [EncI.eqv (enc := enc)]; exact k)
theorem wo_inE (enc : α → PyData) [EncI enc] [ShpI enc n] {x : α} {ys : List α} (ha : Any O a (enc x)) (hb : Any O b (.list (ys.map enc))) (k : Φ (.fr (.bool (decide (x ∈ ys)))) O) (hn : n + 1 ≤ 64 := by decide) : Wo c Γ O (rInA c.K) a b Φ :=
  wo_in ha hb ((ShpI.shp x).sh (by omega)) ((ShpI.shp (enc := lsD enc) ys).sh hn) (by rw [any_eqv]; exact k)
theorem wo_niE (enc : α → PyData) [EncI enc] [ShpI enc n] {x : α} {ys : List α} (ha : Any O a (enc x)) (hb : Any O b (.list (ys.map enc))) (k : Φ (.fr (.bool (!decide (x ∈ ys)))) O) (hn : n + 1 ≤ 64 := by decide) : Wo c Γ O (rNotInA c.K) a b Φ :=
  wo_notin ha hb ((ShpI.shp x).sh (by omega)) ((ShpI.shp (enc := lsD enc) ys).sh hn) (by rw [any_eqv]; exact k)
end

/-! ### double comprehensions -/
section
variable {c : Cn} {Hs Hr F H F' H' F1 H1 F2 H2 : Hp} {σ σ' : L2.St} {Γ Γ' : List Sl} {O O' O1 O2 : OL} {v : V} {r a b : Res} {Φ : Res → OL → Prop} {ta tb te : TE} {t u : TT}
theorem we_lc2 {wi wi1 : TI} {g g1 : TG} {tt tt1 : TT} {vs vs1 : List Nat} (ix ix1 : List Nat) (h : Wi c Γ O wi fun n item O1 => ∃ I : Nat → List PyData → Prop, I 0 [] ∧
      (∀ i es, i < n → I i es → Wg c (wipeG Γ vs) O1 g ix (item i) fun Γ2 => Wt c Γ2 O1 tt fun b O2 => O2 = O1 ∧ if b = true then Wi c Γ2 O1 wi1 fun n1 item1 O3 => O3 = O1 ∧ ∃ J : Nat → List PyData → Prop, J 0 es ∧
        (∀ j fs, j < n1 → J j fs → Wg c (wipeG Γ2 vs1) O1 g1 ix1 (item1 j) fun Γ3 => Wt c Γ3 O1 tt1 fun b O4 => O4 = O1 ∧ if b = true then fs.length < 1000000 ∧ We c Γ3 O1 te fun r O5 => O5 = O1 ∧ ∃ d, Fz r d ∧ J (j + 1) (fs ++ [d]) else J (j + 1) fs) ∧
        (∀ fs, J n1 fs → I (i + 1) fs) else I (i + 1) es) ∧
      ∀ es, I n es → Φ (.nw es) O1) (hix : ∀ j ∈ ix, j ∈ vs := by decide) (hix1 : ∀ j ∈ ix1, j ∈ vs1 := by decide) (hvs : ∀ j ∈ vs1, j ∈ vs := by decide) : We c Γ O (tLc2 wi g tt wi1 g1 tt1 te vs vs1) Φ := fun F H σ Is0 Q q =>
  h F H σ Is0 _ fun gs J F1 H1 O1 n item p I1 g1_ gd wk D hD => by
    obtain ⟨I, i0, step, fin⟩ := p
    obtain ⟨J1, gJ⟩ := I1.newL (Hs := H) hD []
    have d0 := g1_.be D hD
    have dF : F1 D = none := I1.fh.free hD
    have dB : c.B D = none := I1.bh.free hD
    have dk := I1.notKey hD
    have dH := I1.h0none hD
    -- the state: σ0 a store of Γ0
    let St : Hp → List (V × PyData) → List PyData → Prop := fun H2 gg es => ∃ F2 acc, Is c F2 H2 σ Γ O1 ∧ Gr H F H O F2 H2 O1 ∧ H2 D = some (.lst acc) ∧ F2 D = none ∧ Das F2 acc es ∧ ∀ p ∈ gg, Da F2 p.1 p.2
    refine ⟨fun i m H2 => m = n - i ∧ i ≤ n ∧ ∃ es, St H2 gs es ∧ I i es,
      ⟨n, by omega, by omega, [], ⟨F1, [], J1, g1_.trans gJ, upd_same, dF, .nil, gd⟩, i0⟩, ?_⟩
    rintro i m H2 ⟨rfl, hi, es, ⟨F2, acc, I2, g2, hD2, dF2, hes, gh2⟩, ih⟩
    obtain ⟨w1, w2⟩ := wk F2 H2 σ Γ O1 I2 gh2 i
    by_cases hlt : i < n
    · obtain ⟨go, y⟩ := w1 hlt
      refine .inr ⟨go, fun H3 => i + 1 ≤ n ∧ ∃ es, St H3 gs es ∧ I (i + 1) es, fun H3 ⟨a, b⟩ => ⟨n - (i + 1), by omega, rfl, a, b⟩, fun x H3 yl => ?_⟩
      obtain ⟨F3, I3, g3, r3⟩ := y x H3 yl
      have g23 := g3 H2 (Be.refl _)
      have nD2 : H2 D ≠ none := by rw [hD2]; exact fun z => nomatch z
      have hD3 := g23.hh D _ nD2 hD2 dk
      have dF3 := g23.nf D nD2 dk dF2
      refine step i es hlt ih H3 F3 H3 _ (I3.wipe vs) x (r3 H3) _ fun σ4 Γ4 p4 I4 l4 k4 => ⟨?_, ?_⟩
      · exact (wipe_eq (by rw [l4, wipe_length]) fun j hj => (k4 j fun m => hj (hix j m)).trans (wipe_out hj))
      · refine p4 F3 H3 σ4 I4 _ fun b F5 H5 O5 p5 I5 g5 => ?_
        obtain ⟨rfl, p5⟩ := p5
        have nD3 : H3 D ≠ none := by rw [hD3]; exact fun z => nomatch z
        have hD5 := g5.hh D _ nD3 hD3 dk
        have dF5 := g5.nf D nD3 dk dF3
        have g25 : Gr H F H O F5 H5 O5 := g2.trans ((g3 H g2.be).trans (g5.less (g2.trans (g3 H g2.be)).be))
        have s25 : Same F2 F5 := g23.ff.trans g5.ff
        cases b with
        | false =>
          exact ⟨by omega, es, ⟨F5, acc, I2.back I5 s25, g25, hD5, dF5, dasM s25 _ _ hes, fun p hp => daM s25 _ _ (gh2 p hp)⟩, p5⟩
        | true =>
          refine p5 F5 H5 σ4 I5 _ fun gs1 J1 F6 H6 O6 n1 item1 p6 I6 g6 gd1 wk1 => ?_
          obtain ⟨rfl, J, j0, step1, fin1⟩ := p6
          have nD5 : H5 D ≠ none := by rw [hD5]; exact fun z => nomatch z
          have hD6 := g6.hh D _ nD5 hD5 dk
          have dF6 := g6.nf D nD5 dk dF5
          have s26 := s25.trans g6.ff
          have g26 : Gr H F H O F6 H6 O6 := g25.trans (g6.less g25.be)
          refine ⟨fun j k H7 => k = n1 - j ∧ j ≤ n1 ∧ ∃ fs, J j fs ∧ ∃ F7 acc, Is c F7 H7 σ4 Γ4 O6 ∧ Same F6 F7 ∧ Gr H F H O F7 H7 O6 ∧ H7 D = some (.lst acc) ∧ F7 D = none ∧ Das F7 acc fs,
            ⟨n1, by omega, by omega, es, j0, F6, acc, I6, Same.refl _, g26, hD6, dF6, dasM s26 _ _ hes⟩, ?_⟩
          rintro j k H7 ⟨rfl, hj, fs, jh, F7, acc7, I7, s67, g7, hD7, dF7, hfs⟩
          have gd7 : ∀ p ∈ gs1, Da F7 p.1 p.2 := fun p hp => daM s67 _ _ (gd1 p hp)
          obtain ⟨v1, v2⟩ := wk1 F7 H7 σ4 Γ4 O6 I7 gd7 j
          by_cases hlt1 : j < n1
          · obtain ⟨go1, y1⟩ := v1 hlt1
            refine .inr ⟨go1, fun H8 => j + 1 ≤ n1 ∧ ∃ fs, J (j + 1) fs ∧ ∃ F7 acc, Is c F7 H8 σ4 Γ4 O6 ∧ Same F6 F7 ∧ Gr H F H O F7 H8 O6 ∧ H8 D = some (.lst acc) ∧ F7 D = none ∧ Das F7 acc fs, fun H8 ⟨a, b⟩ => ⟨n1 - (j + 1), by omega, rfl, a, b⟩, fun x1 H8 yl1 => ?_⟩
            obtain ⟨F8, I8, g8, r8⟩ := y1 x1 H8 yl1
            have g78 := g8 H7 (Be.refl _)
            have nD7 : H7 D ≠ none := by rw [hD7]; exact fun z => nomatch z
            have hD8 := g78.hh D _ nD7 hD7 dk
            have dF8 := g78.nf D nD7 dk dF7
            refine step1 j fs hlt1 jh H8 F8 H8 _ (I8.wipe vs1) x1 (r8 H8) _ fun σ9 Γ9 p9 I9 l9 k9 => ⟨?_, ?_⟩
            · exact (wipe_eq (by rw [l9, wipe_length]) fun j hj => (k9 j fun m => hj (hix1 j m)).trans (wipe_out hj))
            · refine p9 F8 H8 σ9 I9 _ fun b Fa Ha Oa pa Ia ga => ?_
              obtain ⟨rfl, pa⟩ := pa
              have nD8 : H8 D ≠ none := by rw [hD8]; exact fun z => nomatch z
              have hDa := ga.hh D _ nD8 hD8 dk
              have dFa := ga.nf D nD8 dk dF8
              have g7a : Gr H F H O Fa Ha Oa := g7.trans ((g8 H g7.be).trans (ga.less (g7.trans (g8 H g7.be)).be))
              have s7a : Same F7 Fa := g78.ff.trans ga.ff
              cases b with
              | false => exact ⟨by omega, fs, pa, Fa, acc7, I7.back Ia s7a, s67.trans s7a, g7a, hDa, dFa, dasM s7a _ _ hfs⟩
              | true =>
                obtain ⟨hlen, pa⟩ := pa
                refine pa Fa Ha σ9 Ia _ fun v Fb Hb rb Ob pb Ib gb ro => ?_
                obtain ⟨rfl, d, fz, pb⟩ := pb
                obtain ⟨Fc, Ic, gc, kc⟩ := fz.go Ib ro
                have nDa : Ha D ≠ none := by rw [hDa]; exact fun z => nomatch z
                have gac := gb.trans gc
                have hDb := gac.hh D _ nDa hDa dk
                have dFc := gac.nf D nDa dk dFa
                have s7c := s7a.trans gac.ff
                have e1 := das_len hfs
                exact ⟨acc7, hDb, Nat.lt_of_lt_of_le (by omega : acc7.length < 1000001) (by rw [sizeLine_eq]; decide), by omega, fs ++ [d], pb, Fc, acc7 ++ [v], I7.back (Ic.updD hDb dFc dk dH dB) s7c, s67.trans s7c, (g7a.trans (gac.less g7a.be)).updD (xs := acc7) d0, upd_same, dFc, das_app (dasM s7c _ _ hfs) (das_one kc)⟩
          · have e : j = n1 := by omega
            subst e
            exact .inl ⟨v2 rfl, by omega, fs, ⟨F7, acc7, I2.back I7 (s26.trans s67), g7, hD7, dF7, hfs, fun p hp => daM (s26.trans s67) _ _ (gh2 p hp)⟩, fin1 fs jh⟩
    · have e : i = n := by omega
      subst e
      exact .inl ⟨w2 rfl, q _ F2 H2 _ O1 (fin es ih) I2 g2 ⟨D, acc, rfl, ⟨hD2, dF2, dk, dH, d0⟩, hes⟩⟩
end
end DL

/-! DL11: typed double comprehensions; entry of a law; handed results that are changed. -/
namespace DL
open PySem PySem.Spec PyProof.Rows L2
section
variable {c : Cn} {Hs Hr F H F' H' F1 H1 F2 H2 : Hp} {σ σ' : L2.St} {Γ Γ' : List Sl} {O O' O1 O2 : OL} {v : V} {r a b : Res} {Φ : Res → OL → Prop} {ta tb te : TE} {t u : TT}
/-- a double comprehension that picks and maps; m bounds all -/
theorem we_lc2f {α β : Type} {wi wi1 : TI} {g g1 : TG} {tt tt1 : TT} {vs vs1 : List Nat} (ix ix1 : List Nat) (h : Wx c Γ O wi fun (xs : List α) it O1 => ∃ (m : Nat) (f : α → List PyData), (xs.length * m ≤ 1000000 ∧ ∀ x ∈ xs, (f x).length ≤ m) ∧
      (∀ x ∈ xs, Wg c (wipeG Γ vs) O1 g ix (it x) fun Γ2 => Wt c Γ2 O1 tt fun b O2 => O2 = O1 ∧ if b = true then Wx c Γ2 O1 wi1 fun (ys : List β) it1 O3 => O3 = O1 ∧ ∃ (p : β → Bool) (e : β → PyData), f x = (ys.filter p).map e ∧
        ∀ y ∈ ys, Wg c (wipeG Γ2 vs1) O1 g1 ix1 (it1 y) fun Γ3 => Wt c Γ3 O1 tt1 fun b O4 => O4 = O1 ∧ b = p y ∧ (p y = true → We c Γ3 O1 te fun r O5 => O5 = O1 ∧ Fz r (e y)) else f x = []) ∧
      Φ (.nw (xs.flatMap f)) O1) (hix : ∀ j ∈ ix, j ∈ vs := by decide) (hix1 : ∀ j ∈ ix1, j ∈ vs1 := by decide) (hvs : ∀ j ∈ vs1, j ∈ vs := by decide) : We c Γ O (tLc2 wi g tt wi1 g1 tt1 te vs vs1) Φ := by
  refine we_lc2 ix ix1 (Wi.imp h fun n item O1 ⟨xs, it, hn, hi, m, f, ⟨hb1, hb2⟩, step, fin⟩ => ?_) hix hix1 hvs
  subst hn
  refine ⟨fun i es => es = (xs.take i).flatMap f ∧ i ≤ xs.length, ⟨by simp, Nat.zero_le _⟩, fun i es hlt ⟨ih, hile⟩ => ?_, fun es p => ?_⟩
  · have hx : xs[i]? = some xs[i] := List.getElem?_eq_getElem hlt
    have hxm : xs[i] ∈ xs := List.getElem_mem hlt
    have z := step xs[i] hxm
    rw [hi i _ hx]
    have e : xs.take (i + 1) = xs.take i ++ [xs[i]] := (List.take_append_getElem hlt).symm
    have fl : ∀ k : Nat, k ≤ xs.length → ((xs.take k).flatMap f).length ≤ k * m := fun k => by
      induction k with
      | zero => intro _; simp
      | succ k ih =>
        intro hk
        rw [← List.take_append_getElem (by omega : k < xs.length), List.flatMap_append, List.length_append]
        have h1 := ih (by omega)
        have h2 := hb2 xs[k] (List.getElem_mem _)
        simp only [List.flatMap_cons, List.flatMap_nil, List.append_nil]
        have e3 : (k + 1) * m = k * m + m := Nat.succ_mul k m
        omega
    have fl2 := fl i (by omega)
    have mul : i * m + m ≤ xs.length * m := by
      have : (i + 1) * m ≤ xs.length * m := Nat.mul_le_mul_right _ (by omega)
      have e3 : (i + 1) * m = i * m + m := Nat.succ_mul i m
      omega
    intro Hs F H σ I v rv Q q
    refine z Hs F H σ I v rv Q fun σ' Γ' w => q σ' Γ' (w.imp fun b O' ⟨e1, k⟩ => ⟨e1, ?_⟩)
    cases b with
    | true =>
      rw [if_pos rfl] at k ⊢
      refine Wi.imp k fun n1 item1 O3 ⟨ys, it1, hn1, hi1, e3, p, en, hf, step1⟩ => ⟨e3, fun j fs => fs = es ++ ((ys.take j).filter p).map en, by simp, fun j fs hj1 hfs => ?_, fun fs hfs => ?_⟩
      · subst hn1
        have hy : ys[j]? = some ys[j] := List.getElem?_eq_getElem hj1
        have z1 := step1 ys[j] (List.getElem_mem hj1)
        rw [hi1 j _ hy]
        intro Hs F H σ I v rv Q q
        refine z1 Hs F H σ I v rv Q fun σ' Γ' w => q σ' Γ' (w.imp fun b O' ⟨e1, e2, k⟩ => ⟨e1, ?_⟩)
        have e5 : ((ys.take (j + 1)).filter p).map en = ((ys.take j).filter p).map en ++ (if p ys[j] = true then [en ys[j]] else []) := by
          rw [← List.take_append_getElem hj1, List.filter_append, List.map_append]
          congr 1
          cases hp : p ys[j] <;> simp [hp]
        subst e2
        cases hp : p ys[j] with
        | true =>
          rw [if_pos rfl]
          rw [hp, if_pos rfl] at e5
          refine ⟨?_, (k hp).imp fun r O' ⟨e1, fz⟩ => ⟨e1, _, fz, ?_⟩⟩
          · have h3 := hb2 xs[i] hxm
            rw [hf, List.length_map] at h3
            have h4 : ((ys.take (j + 1)).filter p).length ≤ (ys.filter p).length := ((List.take_sublist _ _).filter p).length_le
            have h5 := congrArg List.length e5
            rw [List.length_map, List.length_append, List.length_map] at h5
            rw [hfs, List.length_append, List.length_map, ih]
            simp at h5
            omega
          · show fs ++ [en ys[j]] = es ++ ((ys.take (j + 1)).filter p).map en
            rw [hfs, List.append_assoc, e5]
        | false =>
          rw [if_neg Bool.false_ne_true]
          rw [hp, if_neg Bool.false_ne_true, List.append_nil] at e5
          show fs = es ++ ((ys.take (j + 1)).filter p).map en
          rw [hfs, e5]
      · subst hn1
        refine ⟨?_, by omega⟩
        rw [hfs, e, List.flatMap_append, ih, List.take_length, ← hf]
        simp
    | false =>
      rw [if_neg Bool.false_ne_true] at k ⊢
      refine ⟨?_, by omega⟩
      rw [e, List.flatMap_append, ih]
      simp [k]
  · obtain ⟨p, _⟩ := p
    rw [List.take_length] at p
    subst p
    exact fin
end

/-! ### the law -/
def spLaw (K : PySem.W.Frag) : Sp := fun vs H Q _ => ∃ (a : Addr) (ns : List Int), vs = [.ref a] ∧ SqL K H a (ns.map V.int) ∧ ∀ H', Q (.bl true) H'
theorem enterL {K : PySem.W.Frag} {vs : List V} {H : Hp} {Q : VK} {X : XK} {N : List Str} {t : TS} (h : spLaw K vs H Q X)
    (k : ∀ ns (c : Cn), c = ⟨K, H, H, [], [], noA⟩ → ∃ n, n + 1 = N.length ∧ Ws c (.sq ns :: List.replicate n .un) [] t { nx := fun _ _ => False, rt := fun r O => Any O r (.bool true) }) : t { nx := fun _ H' => Q .non H', rt := Q } (start N vs) H := by
  obtain ⟨a, ns, rfl, hs, q⟩ := h
  obtain ⟨n, hl, hw⟩ := k ns _ rfl
  have I : Is ⟨K, H, H, [], [], noA⟩ (tupsOf H) H (start N [.ref a]) (.sq ns :: List.replicate n .un) [] := by
    refine ⟨fun a o e => (tupsOf_some e).1, Same.refl _, tups_tupsOf H, fun a o e => .inr (.inl (tupsOf_some e).2), fun a o e _ => e, fun a m => (by cases m), List.nodup_nil, fun e m => (by cases m), fun e m => (by cases m), fun e m => (by cases m), fun e m => (by cases m), fun a e => e, ?_, fun i s e => ?_⟩
    · unfold L2.start
      simp
      omega
    · cases i with
      | zero =>
        simp at e
        subst e
        exact ⟨a, by unfold L2.start; simp, hs⟩
      | succ i =>
        have e' : (List.replicate n Sl.un)[i]? = some s := by simpa using e
        have := List.eq_of_mem_replicate (List.mem_of_getElem? e')
        subst this
        trivial
  refine hw _ H _ _ I (fun F' H' σ' Γ' O' p I' => p.elim) (fun Hs v F' H' σ' Γ' r O' p I' be ro => ?_) (fun _ _ _ _ _ p => p.elim) fun _ _ _ _ _ p => p.elim
  rw [p.bool I' ro]
  exact q H'
/-! ### of lists -/
theorem map_eraseIdx {α β : Type} (f : α → β) : ∀ (xs : List α) (i : Nat), (xs.eraseIdx i).map f = (xs.map f).eraseIdx i
  | [], _ => rfl
  | _ :: _, 0 => rfl
  | x :: xs, i + 1 => by simp [List.eraseIdx_cons_succ, map_eraseIdx f xs i]
theorem perm_erase {α : Type} {y : α} : ∀ {xs : List α} {i : Nat}, xs[i]? = some y → (y :: xs.eraseIdx i).Perm xs
  | [], _, h => by simp at h
  | x :: xs, 0, h => by
    simp at h
    subst h
    exact List.Perm.refl _
  | x :: xs, i + 1, h => by
    rw [List.eraseIdx_cons_succ]
    exact (List.Perm.swap x y _).trans ((perm_erase (by simpa using h)).cons x)
/-! ### a pair's two names -/
theorem wg_pr {c : Cn} {Γ Γ2 : List Sl} {O : OL} {Ψ : List Sl → Prop} {i j : Nat} {p : Int × Int} {w : Bool} {r : Res} {s1 s2 : Sl} (hr : Tup r [.int p.1, .int p.2] w) (h1 : (Res.of w (.int p.1)).sl = some s1) (h2 : (Res.of w (.int p.2)).sl = some s2) (e : (Γ.set i s1).set j s2 = Γ2) (k : Ψ Γ2) : Wg c Γ O (gTup c.K 2 (gCons (gName i) (gCons (gName j) gNil))) [i, j] r Ψ := by
  subst e
  refine wg_tup (ix := [i, j]) hr rfl ?_
  exact wgs_cons (ix := [i]) (is := [j]) (wg_name h1 (wgs_cons (ix := [j]) (is := []) (wg_name h2 (wgs_nil k))))
theorem wg_prB {c : Cn} {Γ Γ2 : List Sl} {O : OL} {Ψ : List Sl → Prop} {i j : Nat} {p : Int × Int} (e : (Γ.set i (.bo (.int p.1))).set j (.bo (.int p.2)) = Γ2) (k : Ψ Γ2) : Wg c Γ O (gTup c.K 2 (gCons (gName i) (gCons (gName j) gNil))) [i, j] (.bo (prD p)) Ψ := wg_pr Tup.bo rfl rfl e k
theorem wg_prF {c : Cn} {Γ Γ2 : List Sl} {O : OL} {Ψ : List Sl → Prop} {i j : Nat} {p : Int × Int} (e : (Γ.set i (.fr (.int p.1))).set j (.fr (.int p.2)) = Γ2) (k : Ψ Γ2) : Wg c Γ O (gTup c.K 2 (gCons (gName i) (gCons (gName j) gNil))) [i, j] (.fr (prD p)) Ψ := wg_pr Tup.fr rfl rfl e k
theorem wo_ip {c : Cn} {Γ : List Sl} {O : OL} {a b : Res} {Φ : Res → OL → Prop} {g : Int → Int → Int} {i j : Int} (ha : Any O a (.int i)) (hb : Any O b (.int j)) (k : Φ (.fr (.int (g i j))) O) : Wo c Γ O (ipI g) a b Φ :=
  fun Hs F H σ I be x y hx hy Q q => ⟨i, j, ha.int I hx, hb.int I hy, q _ F H _ O k I (Gr.refl _ _ _ _) (Da.int _)⟩
theorem cutD_to {ds : List PyData} {m : Int} (h : 0 ≤ m) : cutD ds none (some m) = ds.take m.toNat := by
  obtain ⟨k, rfl⟩ := Int.eq_ofNat_of_zero_le h
  show (ds.drop 0).take (HT.sIx ds.length ds.length (some (k : Int)) - 0) = _
  rw [HT.sIx_nat, List.drop_zero, Nat.sub_zero, Int.toNat_natCast]
  by_cases hk : k ≤ ds.length
  · rw [Nat.min_eq_left hk]
  · rw [Nat.min_eq_right (by omega), List.take_length, List.take_of_length_le (by omega)]
theorem cutD_from {ds : List PyData} {m : Int} (h : 0 ≤ m) : cutD ds (some m) none = ds.drop m.toNat := by
  obtain ⟨k, rfl⟩ := Int.eq_ofNat_of_zero_le h
  show (ds.drop (HT.sIx ds.length 0 (some (k : Int)))).take (ds.length - HT.sIx ds.length 0 (some (k : Int))) = _
  rw [HT.sIx_nat, Int.toNat_natCast]
  by_cases hk : k ≤ ds.length
  · rw [Nat.min_eq_left hk, List.take_of_length_le (by rw [List.length_drop]; omega)]
  · rw [Nat.min_eq_right (by omega), List.drop_of_length_le (by omega), List.drop_of_length_le (by omega)]
    simp
section
variable {c : Cn} {Γ : List Sl} {O : OL} {ta tb : TE} {t u : TT} {p q : Bool}
theorem wt_and2 {Φ : Bool → OL → Prop} (h1 : Wt c Γ O t fun b O' => O' = O ∧ b = p) (h2 : p = true → Wt c Γ O u fun b O' => O' = O ∧ b = q) (k : Φ (p && q) O) : Wt c Γ O (tAnd t u) Φ :=
  wt_and (h1.imp fun b O' ⟨e1, e2⟩ => by
    subst e1 e2
    cases b with
    | false => rw [if_neg Bool.false_ne_true]; exact k
    | true => rw [if_pos rfl]; exact (h2 rfl).imp fun d O2 ⟨e3, e4⟩ => by subst e3 e4; simpa using k)
theorem wt_or2 {Φ : Bool → OL → Prop} (h1 : Wt c Γ O t fun b O' => O' = O ∧ b = p) (h2 : p = false → Wt c Γ O u fun b O' => O' = O ∧ b = q) (k : Φ (p || q) O) : Wt c Γ O (tOr t u) Φ :=
  wt_or (h1.imp fun b O' ⟨e1, e2⟩ => by
    subst e1 e2
    cases b with
    | true => rw [if_pos rfl]; exact k
    | false => rw [if_neg Bool.false_ne_true]; exact (h2 rfl).imp fun d O2 ⟨e3, e4⟩ => by subst e3 e4; simpa using k)
theorem we_and2 {Φ : Res → OL → Prop} (h1 : We c Γ O ta fun r O' => O' = O ∧ r = .fr (.bool p)) (h2 : p = true → We c Γ O tb fun r O' => O' = O ∧ r = .fr (.bool q)) (k : Φ (.fr (.bool (p && q))) O) : We c Γ O (tAndV ta tb) Φ :=
  we_and (h1.imp fun b O' ⟨e1, e2⟩ => by
    subst e1 e2
    refine ⟨p, Any.fr, ?_⟩
    cases p with
    | false => rw [if_neg Bool.false_ne_true]; exact k
    | true => rw [if_pos rfl]; exact (h2 rfl).imp fun d O2 ⟨e3, e4⟩ => by subst e3 e4; simpa using k)
theorem we_or2 {Φ : Res → OL → Prop} (h1 : We c Γ O ta fun r O' => O' = O ∧ r = .fr (.bool p)) (h2 : p = false → We c Γ O tb fun r O' => O' = O ∧ r = .fr (.bool q)) (k : Φ (.fr (.bool (p || q))) O) : We c Γ O (tOrV ta tb) Φ :=
  we_or (h1.imp fun b O' ⟨e1, e2⟩ => by
    subst e1 e2
    refine ⟨p, Any.fr, ?_⟩
    cases p with
    | true => rw [if_pos rfl]; exact k
    | false => rw [if_neg Bool.false_ne_true]; exact (h2 rfl).imp fun d O2 ⟨e3, e4⟩ => by subst e3 e4; simpa using k)
end
end DL

/-! DL12: plain lists of whole numbers and of pairs, with no program in sight. -/
namespace DL
open PySem PySem.Spec PyProof.Rows L2

/-! ### sums -/
def Sm {α : Type} (xs : List α) (f : α → Int) : Int := (xs.map f).sum
section
variable {α β : Type}
@[simp] theorem sm_nil (f : α → Int) : Sm [] f = 0 := rfl
@[simp] theorem sm_cons (x : α) (xs : List α) (f : α → Int) : Sm (x :: xs) f = f x + Sm xs f := by simp [Sm]
theorem sm_app (xs ys : List α) (f : α → Int) : Sm (xs ++ ys) f = Sm xs f + Sm ys f := by
  induction xs with
  | nil => simp
  | cons x xs ih => simp [ih]; omega
theorem sm_add (xs : List α) (f g : α → Int) : Sm xs (fun x => f x + g x) = Sm xs f + Sm xs g := by
  induction xs with
  | nil => simp
  | cons x xs ih => simp [ih]; omega
theorem sm_mul (xs : List α) (k : Int) (f : α → Int) : Sm xs (fun x => k * f x) = k * Sm xs f := by
  induction xs with
  | nil => simp
  | cons x xs ih => simp [ih, Int.mul_add]
theorem sm_mulr (xs : List α) (k : Int) (f : α → Int) : Sm xs (fun x => f x * k) = Sm xs f * k := by
  induction xs with
  | nil => simp
  | cons x xs ih => simp [ih, Int.add_mul]
theorem sm_congr {xs : List α} {f g : α → Int} (h : ∀ x ∈ xs, f x = g x) : Sm xs f = Sm xs g := by
  induction xs with
  | nil => rfl
  | cons x xs ih => simp [h x List.mem_cons_self, ih fun y hy => h y (List.mem_cons_of_mem _ hy)]
theorem sm_zero {xs : List α} {f : α → Int} (h : ∀ x ∈ xs, f x = 0) : Sm xs f = 0 := by
  rw [sm_congr h]
  induction xs with
  | nil => rfl
  | cons x xs ih => simp [ih fun y hy => h y (List.mem_cons_of_mem _ hy)]
theorem sm_swap (xs : List α) (ys : List β) (f : α → β → Int) : Sm xs (fun x => Sm ys (f x)) = Sm ys fun y => Sm xs fun x => f x y := by
  induction xs with
  | nil => simp; exact (sm_zero fun _ _ => rfl).symm
  | cons x xs ih => simp [ih, sm_add]
theorem sm_flat (xs : List α) (f : α → List β) (g : β → Int) : Sm (xs.flatMap f) g = Sm xs fun x => Sm (f x) g := by
  induction xs with
  | nil => rfl
  | cons x xs ih => simp [List.flatMap_cons, sm_app, ih]
theorem sm_map (xs : List α) (f : α → β) (g : β → Int) : Sm (xs.map f) g = Sm xs fun x => g (f x) := by
  induction xs with
  | nil => rfl
  | cons x xs ih => simp [ih]
theorem sm_filter (xs : List α) (p : α → Bool) (g : α → Int) : Sm (xs.filter p) g = Sm xs fun x => if p x = true then g x else 0 := by
  induction xs with
  | nil => rfl
  | cons x xs ih =>
    cases h : p x <;> simp [List.filter_cons, h, ih]
theorem sm_perm {xs ys : List α} (h : xs.Perm ys) (f : α → Int) : Sm xs f = Sm ys f := by
  induction h with
  | nil => rfl
  | cons x _ ih => simp [ih]
  | swap x y l => simp; omega
  | trans _ _ a b => exact a.trans b
/-- one term of the sum -/
theorem sm_one [DecidableEq α] {xs : List α} (nd : xs.Nodup) {k : α} (hk : k ∈ xs) (f : α → Int) : Sm xs (fun x => if x = k then f x else 0) = f k := by
  induction xs with
  | nil => cases hk
  | cons x xs ih =>
    rw [List.nodup_cons] at nd
    rw [sm_cons]
    rcases List.mem_cons.mp hk with rfl | hk
    · rw [if_pos rfl, sm_zero fun y hy => if_neg fun e => nd.1 (by rw [← e]; exact hy)]
      omega
    · rw [if_neg (fun e => nd.1 (by rw [e]; exact hk)), ih nd.2 hk]
      omega
theorem sm_one' [DecidableEq α] {xs : List α} (nd : xs.Nodup) (k : α) (f : α → Int) [Decidable (k ∈ xs)] : Sm xs (fun x => if x = k then f x else 0) = if k ∈ xs then f k else 0 := by
  by_cases h : k ∈ xs
  · rw [if_pos h, sm_one nd h]
  · rw [if_neg h, sm_zero fun x hx => if_neg fun e => h (by rw [← e]; exact hx)]
theorem sm_nonneg {xs : List α} {f : α → Int} (h : ∀ x ∈ xs, 0 ≤ f x) : 0 ≤ Sm xs f := by
  induction xs with
  | nil => exact Int.le_refl _
  | cons x xs ih =>
    have h1 := h x List.mem_cons_self
    have h2 := ih fun y hy => h y (List.mem_cons_of_mem _ hy)
    rw [sm_cons]
    omega
theorem sm_bd {xs : List α} {f : α → Int} {b : Int} (h : ∀ x ∈ xs, -b ≤ f x ∧ f x ≤ b) : -(xs.length * b) ≤ Sm xs f ∧ Sm xs f ≤ xs.length * b := by
  induction xs with
  | nil => simp
  | cons x xs ih =>
    have h1 := h x List.mem_cons_self
    have h2 := ih fun y hy => h y (List.mem_cons_of_mem _ hy)
    rw [sm_cons, List.length_cons]
    have e : ((xs.length + 1 : Nat) : Int) * b = xs.length * b + b := by
      rw [Int.natCast_add, Int.add_mul]; omega
    rw [e]
    omega
end

/-! ### ranges and pairs -/
theorem rngI_nodup (a b : Int) : (rngI a b).Nodup := by
  unfold rngI
  rw [List.nodup_iff_pairwise_ne, List.pairwise_map]
  refine List.Pairwise.imp ?_ (List.nodup_iff_pairwise_ne.mp (List.nodup_range (n := (b - a).toNat)))
  intro x y h e
  omega
theorem rngI_sorted (a b : Int) : (rngI a b).Pairwise (· < ·) := by
  unfold rngI
  rw [List.pairwise_map]
  refine List.Pairwise.imp ?_ (List.pairwise_lt_range (n := (b - a).toNat))
  intro x y h
  omega
theorem rngI_app {a b c : Int} (h1 : a ≤ b) (h2 : b ≤ c) : rngI a c = rngI a b ++ rngI b c := by
  obtain ⟨k, hk⟩ := Int.eq_ofNat_of_zero_le (show 0 ≤ c - b by omega)
  have e : c = b + k := by omega
  subst e
  clear h2 hk
  induction k with
  | zero => rw [show b + ((0 : Nat) : Int) = b by omega, rngI_nil (Int.le_refl b), List.append_nil]
  | succ k ih => rw [show b + ((k + 1 : Nat) : Int) = (b + (k : Int)) + 1 by omega, rngI_succ (by omega), rngI_succ (by omega), ih, List.append_assoc]
def getI (xs : List Int) (i : Int) : Int := xs.getD i.toNat 0
theorem getI_some {xs : List Int} {i : Int} (h0 : 0 ≤ i) (h1 : i < xs.length) : xs[i.toNat]? = some (getI xs i) := by
  unfold getI
  rw [List.getD_eq_getElem?_getD, List.getElem?_eq_getElem (by omega)]
  rfl
theorem getI_mem {xs : List Int} {i : Int} (h0 : 0 ≤ i) (h1 : i < xs.length) : getI xs i ∈ xs := List.mem_of_getElem? (getI_some h0 h1)
def getP (xs : List (Int × Int)) (i : Int) : Int × Int := xs.getD i.toNat (0, 0)
theorem getP_some {xs : List (Int × Int)} {i : Int} (h0 : 0 ≤ i) (h1 : i < xs.length) : xs[i.toNat]? = some (getP xs i) := by
  unfold getP
  rw [List.getD_eq_getElem?_getD, List.getElem?_eq_getElem (by omega)]
  rfl
theorem getP_mem {xs : List (Int × Int)} {i : Int} (h0 : 0 ≤ i) (h1 : i < xs.length) : getP xs i ∈ xs := List.mem_of_getElem? (getP_some h0 h1)
/-- the pairs of places below n whose lesser place is below i, ascending -/
def prsTo (n i : Int) : List (Int × Int) := (rngI 0 i).flatMap fun a => (rngI (a + 1) n).map fun b => (a, b)
def prs (n : Int) : List (Int × Int) := prsTo n n
theorem prsTo_succ {n i : Int} (h : 0 ≤ i) : prsTo n (i + 1) = prsTo n i ++ (rngI (i + 1) n).map fun b => (i, b) := by
  unfold prsTo
  rw [rngI_succ h, List.flatMap_append]
  simp
theorem mem_prsTo {n i : Int} {p : Int × Int} : p ∈ prsTo n i ↔ 0 ≤ p.1 ∧ p.1 < i ∧ p.1 < p.2 ∧ p.2 < n := by
  obtain ⟨a, b⟩ := p
  unfold prsTo
  rw [List.mem_flatMap]
  constructor
  · rintro ⟨x, hx, h⟩
    obtain ⟨y, hy, e⟩ := List.mem_map.mp h
    cases e
    have := mem_rngI.mp hx
    have := mem_rngI.mp hy
    simp only
    omega
  · rintro ⟨h1, h2, h3, h4⟩
    exact ⟨a, mem_rngI.mpr ⟨h1, h2⟩, List.mem_map.mpr ⟨b, mem_rngI.mpr ⟨by simp only at h3; omega, h4⟩, rfl⟩⟩
theorem mem_prs {n : Int} {p : Int × Int} : p ∈ prs n ↔ 0 ≤ p.1 ∧ p.1 < p.2 ∧ p.2 < n := by
  unfold prs
  rw [mem_prsTo]
  constructor
  · rintro ⟨h1, h2, h3, h4⟩; exact ⟨h1, h3, h4⟩
  · rintro ⟨h1, h3, h4⟩; exact ⟨h1, by omega, h3, h4⟩
theorem len_flat_le {α β : Type} {f : α → List β} {m : Nat} : ∀ xs : List α, (∀ x ∈ xs, (f x).length ≤ m) → (xs.flatMap f).length ≤ xs.length * m
  | [], _ => by simp
  | x :: xs, h => by
    rw [List.flatMap_cons, List.length_append, List.length_cons, Nat.succ_mul]
    have h1 := h x List.mem_cons_self
    have h2 := len_flat_le xs fun y hy => h y (List.mem_cons_of_mem _ hy)
    omega
theorem prsTo_len {n i : Int} (hi : i ≤ n) (h0 : 0 ≤ i) (hn : n ≤ 700) : (prsTo n i).length ≤ 490000 := by
  have h := len_flat_le (f := fun a => (rngI (a + 1) n).map fun b => (a, b)) (m := 700) (rngI 0 i) fun x hx => by
    have := mem_rngI.mp hx
    rw [List.length_map, rngI_len]
    omega
  rw [rngI_len] at h
  unfold prsTo
  have e : (i - 0).toNat ≤ 700 := by omega
  have : (i - 0).toNat * 700 ≤ 700 * 700 := Nat.mul_le_mul_right _ e
  omega
def ltP (a b : Int × Int) : Prop := a.1 < b.1 ∨ (a.1 = b.1 ∧ a.2 < b.2)
theorem ltP_irr (a : Int × Int) : ¬ ltP a a := by unfold ltP; omega
theorem ltP_trans {a b c : Int × Int} (h : ltP a b) (h' : ltP b c) : ltP a c := by unfold ltP at *; omega
/-- strictly ascending -/
def Asc (ts : List (Int × Int)) : Prop := ts.Pairwise ltP
theorem Asc.nodup {ts : List (Int × Int)} (h : Asc ts) : ts.Nodup := List.nodup_iff_pairwise_ne.mpr (h.imp fun {a b} hab e => by subst e; exact ltP_irr _ hab)
theorem asc_of {ts : List (Int × Int)} (h : ts.Pairwise leP) (nd : ts.Nodup) : Asc ts := by
  refine List.Pairwise.imp₂ (fun a b h1 h2 => ?_) h (List.nodup_iff_pairwise_ne.mp nd)
  unfold leP at h1
  unfold ltP
  have : a.1 ≠ b.1 ∨ a.2 ≠ b.2 := by
    by_cases e : a.1 = b.1
    · exact .inr fun e' => h2 (Prod.ext e e')
    · exact .inl e
  omega
/-- a web: ascending ties below n -/
structure Web (n : Int) (ts : List (Int × Int)) : Prop where
  asc : Asc ts
  ok : ∀ p ∈ ts, 0 ≤ p.1 ∧ p.1 < p.2 ∧ p.2 < n
theorem Web.sub {n : Int} {ts us : List (Int × Int)} (w : Web n ts) (h : us.Sublist ts) : Web n us := ⟨w.asc.sublist h, fun p hp => w.ok p (h.subset hp)⟩
/-- rows of pairs, the first ascending -/
theorem asc_rows {f : Int → List Int} (hf : ∀ a, (f a).Pairwise (· < ·)) (b e : Int) : Asc ((rngI b e).flatMap fun a => (f a).map fun x => (a, x)) := by
  unfold Asc
  rw [List.pairwise_flatMap]
  refine ⟨fun a _ => ?_, (rngI_sorted b e).imp fun {x y} h p hp q hq => ?_⟩
  · rw [List.pairwise_map]
    exact (hf a).imp fun {x y} h => .inr ⟨rfl, h⟩
  · obtain ⟨u, _, rfl⟩ := List.mem_map.mp hp
    obtain ⟨v, _, rfl⟩ := List.mem_map.mp hq
    exact .inl h
theorem web_prs (n : Int) : Web n (prs n) := ⟨asc_rows (f := fun a => rngI (a + 1) n) (fun a => rngI_sorted _ _) 0 n, fun p hp => mem_prs.mp hp⟩
/-- pairs named anew, sorted -/
def tieI (i j : Int) : Int × Int := (min i j, max i j)
theorem tieI_comm (i j : Int) : tieI i j = tieI j i := by unfold tieI; rw [Int.min_comm, Int.max_comm]
theorem tieI_lt {i j : Int} (h : i < j) : tieI i j = (i, j) := by unfold tieI; rw [Int.min_eq_left (by omega), Int.max_eq_right (by omega)]
theorem tieI_gt {i j : Int} (h : j < i) : tieI i j = (j, i) := by rw [tieI_comm, tieI_lt h]
theorem tieI_inj {a b c d : Int} (h : tieI a b = tieI c d) : (a = c ∧ b = d) ∨ (a = d ∧ b = c) := by
  unfold tieI at h
  have h1 := congrArg Prod.fst h
  have h2 := congrArg Prod.snd h
  simp only at h1 h2
  omega
def renP (nm : List Int) (p : Int × Int) : Int × Int := tieI (getI nm p.1) (getI nm p.2)
theorem perm_names {n : Int} {nm : List Int} (h : nm.Perm (rngI 0 n)) : nm.length = n.toNat ∧ nm.Nodup ∧ ∀ x ∈ nm, 0 ≤ x ∧ x < n := by
  refine ⟨by rw [h.length_eq, rngI_len]; congr 1; omega, h.nodup_iff.mpr (rngI_nodup _ _), fun x hx => mem_rngI.mp (h.mem_iff.mp hx)⟩
theorem names_inj {n : Int} {nm : List Int} (h : nm.Perm (rngI 0 n)) {i j : Int} (hi : 0 ≤ i ∧ i < n) (hj : 0 ≤ j ∧ j < n) (e : getI nm i = getI nm j) : i = j := by
  obtain ⟨h1, h2, _⟩ := perm_names h
  have e1 := getI_some (xs := nm) hi.1 (by omega)
  have e2 := getI_some (xs := nm) hj.1 (by omega)
  have := (List.getElem?_inj (show i.toNat < nm.length by omega) h2).mp (e1.trans (by rw [e]; exact e2.symm))
  omega
theorem names_bd {n : Int} {nm : List Int} (h : nm.Perm (rngI 0 n)) {i : Int} (hi : 0 ≤ i ∧ i < n) : 0 ≤ getI nm i ∧ getI nm i < n := by
  obtain ⟨h1, h2, h3⟩ := perm_names h
  exact h3 _ (getI_mem hi.1 (by omega))
theorem web_ren {n : Int} {nm : List Int} {ts us : List (Int × Int)} (hn : nm.Perm (rngI 0 n)) (nd : ts.Nodup) (ok : ∀ p ∈ ts, 0 ≤ p.1 ∧ p.1 < p.2 ∧ p.2 < n) (hp : us.Perm (ts.map (renP nm))) (hs : us.Pairwise leP) : Web n us := by
  have nd' : (ts.map (renP nm)).Nodup := by
    rw [List.nodup_iff_pairwise_ne, List.pairwise_map]
    refine List.Pairwise.imp_of_mem (fun {a b} ha hb hab e => hab ?_) (List.nodup_iff_pairwise_ne.mp nd)
    have h1 := ok a ha
    have h2 := ok b hb
    rcases tieI_inj e with ⟨x, y⟩ | ⟨x, y⟩
    · exact Prod.ext (names_inj hn (by omega) (by omega) x) (names_inj hn (by omega) (by omega) y)
    · have e1 := names_inj hn (by omega) (by omega) x
      have e2 := names_inj hn (by omega) (by omega) y
      omega
  refine ⟨asc_of hs (hp.nodup_iff.mpr nd'), fun p hp' => ?_⟩
  obtain ⟨q, hq, rfl⟩ := List.mem_map.mp (hp.mem_iff.mp hp')
  have h1 := ok q hq
  have b1 := names_bd hn (i := q.1) (by omega)
  have b2 := names_bd hn (i := q.2) (by omega)
  have ne : getI nm q.1 ≠ getI nm q.2 := fun e => by
    have := names_inj hn (by omega) (by omega) e
    omega
  unfold renP tieI
  simp only
  omega
/-! ### wide products -/
theorem log2_lt {i : Int} {a : Nat} (h : i.natAbs < 2 ^ a) (ha : 0 < a) : i.natAbs.log2 < a := by
  by_cases z : i.natAbs = 0
  · rw [z]; simpa using ha
  · exact (Nat.log2_lt z).mpr h
theorem cmulW {i j : Int} (a b : Nat) (hi : i.natAbs < 2 ^ a) (hj : j.natAbs < 2 ^ b) (h : 0 < a ∧ 0 < b ∧ a + b ≤ 1000000) : CMulW i j := by
  unfold CMulW
  have := log2_lt hi h.1
  have := log2_lt hj h.2.1
  omega
/-- bounds of a number -/
def Bd (x : Int) : Prop := -1267650600228229401496703205376 ≤ x ∧ x ≤ 1267650600228229401496703205376
theorem Bd.nat {x : Int} (h : Bd x) : x.natAbs < 2 ^ 101 := by
  have e : (2 : Nat) ^ 101 = 2535301200456458802993406410752 := by decide +kernel
  unfold Bd at h
  omega
theorem mulB {k x y : Int} (hk : -4 ≤ k ∧ k ≤ 4) (hx : Bd x) (hy : Bd y) : CMul k x ∧ CMulW (k * x) y := by
  refine ⟨by unfold CMul; omega, cmulW 104 101 ?_ hy.nat (by omega)⟩
  rw [Int.natAbs_mul]
  have h1 : k.natAbs ≤ 4 := by omega
  have h2 := hx.nat
  have e2 : (2 : Nat) ^ 104 = 8 * 2 ^ 101 := by decide +kernel
  have := Nat.mul_le_mul h1 (Nat.le_of_lt h2)
  omega
theorem rng_get {n : Int} {α : Type} {f : Int → α} {i : Int} (h0 : 0 ≤ i) (h1 : i < n) : ((rngI 0 n).map f)[i.toNat]? = some (f i) := by
  rw [List.getElem?_map]
  have : (rngI 0 n)[i.toNat]? = some i := by
    unfold rngI
    rw [List.getElem?_map, List.getElem?_range (by omega)]
    simp
    omega
  rw [this]
  rfl
/-! ### a number or None -/
def opD : Option Int → PyData
  | none => .none
  | some i => .int i
instance encOp : EncI opD := ⟨fun x y => by
  cases x with
  | none => cases y <;> simp [opD, PyData.eqv]
  | some i =>
    cases y with
    | none => simp [opD, PyData.eqv]
    | some j => simp only [opD, PyData.eqv]; rw [Bool.beq_eq_decide_eq]; exact decide_eq_decide.mpr (by simp)⟩
instance shpI_op : ShpI opD 0 := ⟨fun x => by cases x; exact shp_none; exact shp_int _⟩
instance lfI_op : LfI opD := ⟨fun x => by cases x <;> rfl⟩
theorem lfs_op (xs : List (Option Int)) : lfs (xs.map opD) = true := lfs_enc xs
/-- a table by places, changed at one -/
def upF {α : Type} (g : Int → α) (i : Int) (v : α) : Int → α := fun j => if j = i then v else g j
theorem tab_set {α : Type} {n i : Int} {g : Int → α} {v : α} (hi : 0 ≤ i) : ((rngI 0 n).map g).set i.toNat v = (rngI 0 n).map (upF g i v) := by
  refine List.ext_getElem? fun k => ?_
  by_cases hk : (k : Int) < n
  · have e1 := rng_get (f := upF g i v) (i := (k : Int)) (by omega) hk
    rw [Int.toNat_natCast] at e1
    rw [e1]
    by_cases h : k = i.toNat
    · subst h
      have hl : i.toNat < ((rngI 0 n).map g).length := by rw [List.length_map, rngI_len]; omega
      rw [List.getElem?_set_self hl]
      unfold upF
      rw [if_pos (by omega)]
    · rw [List.getElem?_set_ne (by omega)]
      have e2 := rng_get (f := g) (i := (k : Int)) (by omega) hk
      rw [Int.toNat_natCast] at e2
      rw [e2]
      unfold upF
      rw [if_neg (by omega)]
  · rw [List.getElem?_eq_none (by rw [List.length_set, List.length_map, rngI_len]; omega), List.getElem?_eq_none (by rw [List.length_map, rngI_len]; omega)]
theorem rep_map {α : Type} (n : Int) (v : α) : List.replicate n.toNat v = (rngI 0 n).map fun _ => v := by
  rw [List.map_const', rngI_len]
  congr 1
  omega
theorem rep_flat {α : Type} (n : Nat) (v : α) : (List.replicate n [v]).flatten = List.replicate n v := by
  induction n with
  | zero => rfl
  | succ n ih => simp [List.replicate_succ, ih]
end DL

/-! DL13: what was told is changed: the lists of the data may change, and the data is forgotten. -/
namespace DL
open PySem PySem.Spec PyProof.Rows L2
mutual
theorem Da.det {H : Hp} : ∀ (d : PyData) {v : V} {e : PyData}, Da H v d → Da H v e → d = e
  | .none, _, _, h, h' => by cases h; cases h'; rfl
  | .bool b, _, _, h, h' => by cases h; cases h'; rfl
  | .int i, _, _, h, h' => by cases h; cases h'; rfl
  | .str x, _, _, h, h' => by cases h; cases h'; rfl
  | .list ds, _, _, h, h' => by
    cases h with
    | lst h1 h2 =>
      cases h' with
      | lst g1 g2 =>
        rw [h1] at g1
        cases g1
        rw [Das.det ds h2 g2]
      | tup g1 g2 => rw [h1] at g1; cases g1
  | .tuple ds, _, _, h, h' => by
    cases h with
    | tup h1 h2 =>
      cases h' with
      | tup g1 g2 =>
        rw [h1] at g1
        cases g1
        rw [Das.det ds h2 g2]
      | lst g1 g2 => rw [h1] at g1; cases g1
  | .dict _, _, _, h, _ => by cases h
theorem Das.det {H : Hp} : ∀ (ds : List PyData) {vs : List V} {es : List PyData}, Das H vs ds → Das H vs es → ds = es
  | [], _, _, h, h' => by cases h; cases h'; rfl
  | d :: ds, _, _, h, h' => by
    cases h with
    | cons h1 h2 =>
      cases h' with
      | cons g1 g2 => rw [Da.det d h1 g1, Das.det ds h2 g2]
end
/-- only lists that F knows have changed -/
structure Mut (F H H' : Hp) : Prop where
  out : ∀ a, (∀ xs, F a ≠ some (.lst xs)) → H' a = H a
  dm : ∀ a, H' a = none → H a = none
  nt : ∀ a xs o, F a = some (.lst xs) → H' a = some o → isT o = false
def scr1 : Sl → Sl
  | .fr d => if lf d = true then .fr d else .un
  | .ex a _ _ _ => .pt a
  | s => s
def scr (Γ : List Sl) : List Sl := Γ.map scr1
def scrO1 : Ob → Ob
  | .l es => if lfs es = true then .l es else .lw es.length
  | u => u
def scrO (O : OL) : OL := O.map fun e => (e.1, scrO1 e.2)
/-- a feed's script is not of this def -/
def FdB (c : Cn) (O : OL) : Prop := ∀ e ∈ O, ∀ s ns, e.2 = .fd s ns → SqL c.K c.B s (ns.map V.int)
theorem fdB_nil {c : Cn} : FdB c [] := fun e he => by cases he
theorem fdB_l {c : Cn} {a : Addr} {es : List PyData} {O : OL} (h : FdB c O) : FdB c ((a, .l es) :: O) := fun e he s ns q => by
  rcases List.mem_cons.mp he with rfl | he
  · cases q
  · exact h e he s ns q
theorem fdB_w {c : Cn} {a : Addr} {k : Nat} {O : OL} (h : FdB c O) : FdB c ((a, .lw k) :: O) := fun e he s ns q => by
  rcases List.mem_cons.mp he with rfl | he
  · cases q
  · exact h e he s ns q
theorem fdB_f {c : Cn} {a s : Addr} {ns : List Int} {O : OL} (hB : SqL c.K c.B s (ns.map V.int)) (h : FdB c O) : FdB c ((a, .fd s ns) :: O) := fun e he s' ns' q => by
  rcases List.mem_cons.mp he with rfl | he
  · cases q; exact hB
  · exact h e he s' ns' q
section
variable {c : Cn} {Hs F H F' H' : Hp} {σ σ' : L2.St} {Γ Γ2 : List Sl} {O : OL} {E : En}
theorem Is.scrap (I : Is c F H σ Γ O) (hG : c.G = []) (hA : c.A = noA) (hO : FdB c O) (m : Mut F H H') : Is c (tupsOf F) H' σ (scr Γ) (scrO O) := by
  have keys : (scrO O).map (·.1) = O.map (·.1) := by unfold scrO; rw [List.map_map]; rfl
  have memO : ∀ e ∈ scrO O, ∃ u, (e.1, u) ∈ O ∧ e.2 = scrO1 u := fun e he => by
    obtain ⟨q, hq, rfl⟩ := List.mem_map.mp he
    exact ⟨q.2, hq, rfl⟩
  have key : ∀ a o, c.B a = some o → ∀ xs, F a ≠ some (.lst xs) := fun a o e xs q => by
    rcases I.f0 a _ q with z | z | z
    · rw [I.bz a z] at e; cases e
    · cases z
    · rw [hA] at z; cases z
  have keyH : ∀ a o, c.H0 a = some o → ∀ xs, F a ≠ some (.lst xs) := fun a o e xs q => by
    rcases I.f0 a _ q with z | z | z
    · rw [z] at e; cases e
    · cases z
    · rw [hA] at z; cases z
  have tt : ∀ a o, tupsOf F a = some o → F a = some o ∧ isT o = true := fun a o e => tupsOf_some e
  have nl : ∀ a o, F a = some o → isT o = true → ∀ xs, F a ≠ some (.lst xs) := fun a o e t xs q => by
    rw [e] at q; cases q; cases t
  have tF : Tups F (tupsOf F) := tups_tupsOf F
  refine ⟨fun a o e => ?_, fun a o e => ?_, fun a o e t => ?_, fun a o e => .inr (.inl (tt a o e).2), fun a o e h => ?_, fun a h z => I.mm a h (m.dm a z), by rw [keys]; exact I.nd, fun e he => ?_, fun e he => (by obtain ⟨u, hu, _⟩ := memO e he; exact I.oB (e.1, u) hu), fun e he => ?_, fun p hp => (by rw [hG] at hp; cases hp), I.bz, ?_, fun i s e => ?_⟩
  · obtain ⟨h1, h2⟩ := tt a o e
    rw [m.out a (nl a o h1 h2)]
    exact I.fh a o h1
  · rw [m.out a (key a o e)]
    exact I.bh a o e
  · cases q : F a with
    | none =>
      rw [m.out a (fun xs z => by rw [q] at z; cases z)] at e
      have := I.ft a o e t
      rw [q] at this
      cases this
    | some u =>
      cases u with
      | lst xs =>
        have := m.nt a xs o q e
        rw [t] at this
        cases this
      | _ =>
        rw [m.out a (fun xs z => by rw [q] at z; cases z)] at e
        have := I.ft a o e t
        exact tF a o this t
  · rw [m.out a (keyH a o e)]
    exact I.h0 a o e h
  · obtain ⟨u, hu, _⟩ := memO e he
    cases q : tupsOf F e.1 with
    | none => rfl
    | some o => have := (tt _ _ q).1; rw [I.oF (e.1, u) hu] at this; cases this
  · obtain ⟨u, hu, e2⟩ := memO e he
    obtain ⟨a, u'⟩ := e
    have e2 : u' = scrO1 u := e2
    subst e2
    have fa : F a = none := I.oF _ hu
    have ha : H' a = H a := m.out a (fun xs z => by rw [fa] at z; cases z)
    have ok := I.oH _ hu
    cases u with
    | l es =>
      obtain ⟨h0, vs, h1, h2⟩ := ok
      show ObOk c (tupsOf F) H' a (if lfs es = true then Ob.l es else Ob.lw es.length)
      by_cases hl : lfs es = true
      · rw [if_pos hl]
        exact ⟨h0, vs, ha.trans h1, dasT tF _ _ hl h2⟩
      · rw [if_neg hl]
        exact ⟨h0, vs, ha.trans h1, Nat.le_of_eq (das_len h2)⟩
    | fd s ns =>
      obtain ⟨h0, ⟨i, w, sd, h1, h2⟩, _⟩ := ok
      exact ⟨h0, ⟨i, w, sd, ha.trans h1, h2⟩, .inr (hO _ hu s ns rfl)⟩
    | lw k =>
      obtain ⟨h0, vs, h1, h2⟩ := ok
      exact ⟨h0, vs, ha.trans h1, h2⟩
  · rw [I.ln]; simp [scr]
  · unfold scr at e
    rw [List.getElem?_map] at e
    cases q : Γ[i]? with
    | none => rw [q] at e; cases e
    | some s0 =>
      rw [q] at e
      cases e
      have := I.sl i s0 q
      cases s0 with
      | un => trivial
      | fr d =>
        obtain ⟨v, h1, h2⟩ := this
        show SlOk c (tupsOf F) _ (if lf d = true then Sl.fr d else Sl.un)
        by_cases hd : lf d = true
        · rw [if_pos hd]; exact ⟨v, h1, daT tF _ _ hd h2⟩
        · rw [if_neg hd]; trivial
      | bo d => exact this
      | pt a => exact this
      | sq ns => exact this
      | ex a dd f d => exact this.1
      | tv vs =>
        obtain ⟨t, h1, h2⟩ := this
        exact ⟨t, h1, tups_tupsOf F t _ h2 rfl⟩
theorem sle_set : ∀ (Γ : List Sl) (l : Nat), SLe Γ (Γ.set l .un)
  | [], _ => .nil
  | s :: Γ, 0 => .un (SLe.refl Γ)
  | s :: Γ, l + 1 => .same (sle_set Γ l)
/-- for line in o: line.append(k), o's lists -/
theorem ws_appEach {t l : Nat} {k : Int} {ds : List PyData} {O2 : OL} (hG : c.G = []) (hA : c.A = noA) (hO : FdB c O) (hs : Γ[t]? = some (.fr (.list ds))) (hd : ∀ d ∈ ds, ∃ es, d = .list es ∧ es.length ≤ 1000) (hl : ds.length ≤ 1000) (hlg : l < Γ.length)
    (e2 : (scr Γ).set l .un = Γ2) (e3 : scrO O = O2) (h : E.nx Γ2 O2) : Ws c Γ O (tFor (iSeq c.K (tVar t)) (gName l) (tDrop (tBM c.K "list" rAppend (tVar l) (tCons (tC (.int k)) tNil)))) E := fun F H σ D I nx rt bk ct => by
  subst e2 e3
  obtain ⟨v, e0, hv⟩ := I.sl t _ hs
  have e1 : σ[t]? = some (some v) := by
    cases q : σ[t]? with
    | none => rw [q] at e0; cases e0
    | some u => rw [q] at e0; exact congrArg some e0
  cases hv with
  | @lst tp vs _ h1 h2 =>
    have hlen := das_len h2
    have htp : H tp = some (.lst vs) := I.fh _ _ h1
    refine ⟨.ref tp, e1, tp, rfl, .inl ⟨⟨vs, SqL.of htp⟩, ?_⟩⟩
    -- a row
    have row : ∀ (i : Nat) (x : V), vs[i]? = some x → ∃ a xs, x = .ref a ∧ F a = some (.lst xs) ∧ xs.length ≤ 1000 ∧ a ≠ tp := fun i x hx => by
      obtain ⟨d, g1, g2⟩ := das_get h2 hx
      have hm := List.mem_of_getElem? g1
      obtain ⟨es, rfl, hle⟩ := hd d hm
      cases g2 with
      | @lst a xs _ k1 k2 =>
        refine ⟨a, xs, rfl, k1, by rw [das_len k2]; exact hle, fun e => ?_⟩
        subst e
        rw [k1] at h1
        cases h1
        have := Das.det _ h2 k2
        subst this
        have := List.sizeOf_lt_of_mem hm
        simp at this
        omega
    let W : Nat → Hp → Prop := fun i H2 => H2 tp = some (.lst vs) ∧ (∀ a, (∀ xs, F a ≠ some (.lst xs)) → H2 a = H a) ∧ (∀ a, H2 a = none → H a = none) ∧ ∀ a xs, F a = some (.lst xs) → ∃ zs, H2 a = some (.lst zs) ∧ zs.length ≤ xs.length + i
    refine ⟨fun i m σ2 H2 => m = vs.length - i ∧ i ≤ vs.length ∧ (∃ u, σ2 = σ.set l (some u) ∨ σ2 = σ) ∧ W i H2, ⟨_, rfl, Nat.zero_le _, ⟨.non, .inr rfl⟩, htp, fun _ _ => rfl, fun _ z => z, fun a xs e => ⟨xs, I.fh _ _ e, Nat.le_refl _⟩⟩, ?_⟩
    rintro i m σ2 H2 ⟨rfl, hi, ⟨u, hu⟩, w1, w2, w3, w4⟩
    by_cases hlt : i < vs.length
    · refine .inr ⟨⟨vs, vs[i], SqL.of w1, List.getElem?_eq_getElem hlt⟩, fun σ3 H3 => i + 1 ≤ vs.length ∧ (∃ u, σ3 = σ.set l (some u) ∨ σ3 = σ) ∧ W (i + 1) H3, fun σ3 H3 ⟨a, b⟩ => ⟨vs.length - (i + 1), by omega, rfl, a, b⟩, fun x H3 y => ?_⟩
      obtain ⟨rfl, y⟩ := y
      have hx := y vs (SqL.of w1)
      obtain ⟨a, xs, rfl, k1, k2, k3⟩ := row i x hx
      obtain ⟨zs, z1, z2⟩ := w4 a xs k1
      have hll : l < σ.length := by rw [I.ln]; exact hlg
      show tDrop (tBM c.K "list" rAppend (tVar l) (tCons (tC (.int k)) tNil)) _ (σ2.set l (some (.ref a))) H3
      have hset : (σ2.set l (some (.ref a))) = σ.set l (some (.ref a)) := by
        rcases hu with rfl | rfl
        · rw [List.set_set]
        · rfl
      rw [hset]
      refine ⟨.ref a, by rw [List.getElem?_set_self hll], ?_, a, zs, .int k, rfl, rfl, z1, ?_, ?_⟩
      · exact .inl ⟨rfl, zs, SqL.of z1⟩
      · exact Nat.lt_of_lt_of_le (by omega : zs.length < 1000000) (by rw [sizeLine_eq]; decide)
      · refine ⟨by omega, ⟨_, .inl rfl⟩, ?_, fun b hb => ?_, fun b hb => ?_, fun b ys hb => ?_⟩
        · rw [upd_ne (Ne.symm k3)]; exact w1
        · rw [upd_ne (fun q => hb xs (by rw [q]; exact k1))]; exact w2 b hb
        · by_cases q : b = a
          · subst q; rw [upd_same] at hb; cases hb
          · rw [upd_ne q] at hb; exact w3 b hb
        · by_cases q : b = a
          · subst q
            rw [k1] at hb
            cases hb
            exact ⟨_, upd_same, by rw [List.length_append]; simp; omega⟩
          · obtain ⟨zs', q1, q2⟩ := w4 b ys hb
            exact ⟨zs', by rw [upd_ne q]; exact q1, by omega⟩
    · refine .inl ⟨⟨vs, SqL.of w1, by omega⟩, ?_⟩
      have J := I.scrap hG hA hO ⟨w2, w3, fun a xs o e q => by
        obtain ⟨zs, z1, _⟩ := w4 a xs e
        rw [z1] at q
        cases q
        rfl⟩
      refine nx (tupsOf F) H2 _ _ _ h ?_
      rcases hu with rfl | rfl
      · exact J.set trivial
      · exact J.weak (sle_set _ _) (List.Sublist.refl _)
/-- one list that F knows has changed -/
theorem Mut.one {a : Addr} {xs ys : List V} (fh : Same F H) (h : F a = some (.lst xs)) : Mut F H (upd H a (.lst ys)) := by
  refine ⟨fun b hb => upd_ne fun q => hb xs (by rw [q]; exact h), fun b z => ?_, fun b zs o e q => ?_⟩
  · by_cases hb : b = a
    · subst hb; rw [upd_same] at z; cases z
    · rw [upd_ne hb] at z; exact z
  · by_cases hb : b = a
    · subst hb; rw [upd_same] at q; cases q; rfl
    · rw [upd_ne hb, fh b _ e] at q
      cases q
      rfl
/-- o.append(x), o of the data -/
theorem ws_appF {to : TE} {ts : TA} (hG : c.G = []) (hA : c.A = noA) (h : We c Γ O to fun a O1 => ∃ es, a = .fr (.list es) ∧ es.length < 1000000 ∧ Wa c Γ O1 ts fun as O2 => ∃ b, as = [b] ∧ FdB c O2 ∧ E.nx (scr Γ) (scrO O2)) : Ws c Γ O (tDrop (tBM c.K "list" rAppend to ts)) E := fun F H σ D I nx rt bk ct =>
  h F H σ I _ fun x F1 H1 a O1 p I1 g1 ra => by
    obtain ⟨es, rfl, hl, p⟩ := p
    cases ra with
    | @lst a vs _ h1 h2 =>
      have e1 := das_len h2
      refine ⟨.inl ⟨rfl, vs, SqL.of (I1.fh _ _ h1)⟩, p F1 H1 σ I1 _ fun xs F2 H2 as O2 p2 I2 g2 rs => ?_⟩
      obtain ⟨b, rfl, hB, p2⟩ := p2
      obtain ⟨y, rfl, hy⟩ := rs.one
      have h3 := g2.ff a _ h1
      exact ⟨a, vs, y, rfl, rfl, I2.fh _ _ h3, Nat.lt_of_lt_of_le (by omega : vs.length < 1000000) (by rw [sizeLine_eq]; decide), nx _ _ _ _ _ p2 (I2.scrap hG hA hB (Mut.one I2.fh h3))⟩
/-- o[i] = x, o of the data -/
theorem ws_setF {te to ti : TE} (hG : c.G = []) (hA : c.A = noA) (h : We c Γ O te fun r O1 => We c Γ O1 to fun a O2 => We c Γ O2 ti fun b O3 => ∃ es i, a = .fr (.list es) ∧ Any O3 b (.int i) ∧ 0 ≤ i ∧ i < es.length ∧ FdB c O3 ∧ E.nx (scr Γ) (scrO O3)) :
    Ws c Γ O (tAsg te (gSub to ti rSetL)) E := fun F H σ D I n r b k =>
  h F H σ I _ fun v F1 H1 r1 O1 p I1 g1 ro => We.then I1 g1 p fun w F2 H2 r2 O2 p2 I2 g2 g12 ro2 => We.then I2 g2 p2 fun z F3 H3 r3 O3 p3 I3 g3 g23 ro3 => by
    obtain ⟨es, i, rfl, ai, h0, hlt, hB, p3⟩ := p3
    cases ai.int I3 ro3
    cases ro2 with
    | @lst a vs _ h1 h2 =>
      have e1 := das_len h2
      have h3 := g23.ff a _ h1
      refine ⟨a, vs, i, i.toNat, rfl, rfl, I3.fh _ _ h3, ?_, n _ _ _ _ _ p3 (I3.scrap hG hA hB (Mut.one I3.fh h3))⟩
      unfold ixN
      rw [if_pos h0, if_pos (by omega)]
/-- an own list of which only the length is known -/
theorem we_bmW {to : TE} {ts : TA} {m : V → List V → Hp → VK → Prop} {Φ : Res → OL → Prop} (h : We c Γ O to fun a O1 => (∃ p k, a = .pt p ∧ (p, Ob.lw k) ∈ O1) ∧ Wa c Γ O1 ts fun as O2 => Wm c Γ O2 m a as Φ) : We c Γ O (tBM c.K "list" m to ts) Φ := fun F H σ I Q q =>
  h F H σ I _ fun x F1 H1 a O1 p I1 g1 ra => by
    obtain ⟨⟨p0, k, rfl, hm⟩, p⟩ := p
    refine ⟨?_, p F1 H1 σ I1 _ fun xs F2 H2 as O2 p2 I2 g2 rs => p2 H F2 H2 σ I2 (g1.then g2).be x xs (ra.gr g2) (rs.less g1.be) Q fun v F3 H3 r3 O3 p3 I3 g3 r4 => q v F3 H3 r3 O3 p3 I3 ((g1.then g2).trans g3) r4⟩
    have e : x = .ref p0 := ra
    subst e
    obtain ⟨_, vs, h1, _⟩ := I1.oH _ hm
    exact .inl ⟨rfl, vs, SqL.of h1⟩
theorem Is.setW (I : Is c F H σ Γ O) {j k : Nat} {a : Addr} {vs' : List V} (hj : O[j]? = some (a, .lw k)) (hl : vs'.length ≤ k + 1) :
    Is c F (upd H a (.lst vs')) σ Γ (O.set j (a, .lw (k + 1))) ∧ Gr Hs F H O F (upd H a (.lst vs')) (O.set j (a, .lw (k + 1))) := by
  have hm : (a, Ob.lw k) ∈ O := List.mem_of_getElem? hj
  obtain ⟨ha0, vs, ha1, ha2⟩ := I.oH _ hm
  have fa : F a = none := I.oF _ hm
  have ba : c.B a = none := I.oB _ hm
  have hjl := (List.getElem?_eq_some_iff.mp hj).1
  have keys : (O.set j (a, Ob.lw (k + 1))).map (·.1) = O.map (·.1) := by
    rw [List.map_set]
    apply List.ext_getElem?
    intro i
    by_cases hi : j = i
    · subst hi
      rw [List.getElem?_set_self (by simpa using hjl), List.getElem?_map, hj]
      rfl
    · rw [List.getElem?_set_ne hi]
  have nda := I.nd
  have other : ∀ e ∈ O.set j (a, Ob.lw (k + 1)), e = (a, Ob.lw (k + 1)) ∨ (e ∈ O ∧ e.1 ≠ a) := fun e he => by
    obtain ⟨i, hi⟩ := List.getElem?_of_mem he
    by_cases hij : j = i
    · subst hij
      rw [List.getElem?_set_self hjl] at hi
      cases hi
      exact .inl rfl
    · rw [List.getElem?_set_ne hij] at hi
      refine .inr ⟨List.mem_of_getElem? hi, fun q => hij ?_⟩
      have e1 : (O.map (·.1))[i]? = some a := by rw [List.getElem?_map, hi]; simp [q]
      have e2 : (O.map (·.1))[j]? = some a := by rw [List.getElem?_map, hj]; rfl
      exact (List.getElem?_inj (by simpa using hjl) nda).mp (e2.trans e1.symm)
  refine ⟨⟨same_upd I.fh fa, same_upd I.bh ba, fun b o e t => ?_, I.f0, fun b o e m => ?_, fun b m z => I.mm b m ?_, by rw [keys]; exact nda, fun e he => ?_, fun e he => ?_, fun e he => ?_, I.gh, I.bz, I.ln, I.sl⟩,
    Same.refl _, fun b o _ e n => ?_, fun _ _ _ f => f, fun b m => by rw [keys] at m; exact .inl m, fun b z => ?_⟩
  · by_cases hb : b = a
    · subst hb
      rw [upd_same] at e
      cases e
      cases t
    · rw [upd_ne hb] at e
      exact I.ft b o e t
  · rw [upd_ne (fun q => by rw [q] at e; rw [ha0] at e; cases e)]
    exact I.h0 b o e m
  · by_cases hb : b = a
    · subst hb; rw [upd_same] at z; cases z
    · rw [upd_ne hb] at z; exact z
  · rcases other e he with rfl | ⟨h1, _⟩
    · exact fa
    · exact I.oF e h1
  · rcases other e he with rfl | ⟨h1, _⟩
    · exact ba
    · exact I.oB e h1
  · rcases other e he with rfl | ⟨h1, h2⟩
    · exact ⟨ha0, vs', upd_same, hl⟩
    · exact (I.oH e h1).mono (Same.refl _) (upd_ne h2).symm
  · rw [upd_ne (fun q => n (by rw [q]; exact List.mem_map_of_mem hm))]
    exact e
  · by_cases hb : b = a
    · subst hb; rw [upd_same] at z; cases z
    · rw [upd_ne hb] at z; exact z
theorem wm_appendW {p : Addr} {j k : Nat} {b : Res} {Φ : Res → OL → Prop} (hj : O[j]? = some (p, .lw k)) (hl : k < 1000000) (kk : Φ (.fr .none) (O.set j (p, .lw (k + 1)))) : Wm c Γ O rAppend (.pt p) [b] Φ :=
  fun Hs F H σ I be x xs hx hys Q q => by
    have e : x = .ref p := hx
    subst e
    obtain ⟨y, rfl, hy⟩ := hys.one
    obtain ⟨_, vs, h1, h2⟩ := I.oH _ (List.mem_of_getElem? hj)
    obtain ⟨I3, g3⟩ := I.setW (Hs := Hs) (vs' := vs ++ [y]) hj (by rw [List.length_append]; simp; omega)
    exact ⟨p, vs, y, rfl, rfl, h1, Nat.lt_of_lt_of_le (by omega : vs.length < 1000000) (by rw [sizeLine_eq]; decide), q _ _ _ _ _ kk I3 g3 Da.non⟩
end
end DL

/-! DL14: defs that raise, try: own errors with one field. -/
namespace DL
open PySem PySem.Spec PyProof.Rows L2

/-! ### the readings -/
/-- what the clause wishes: the error is of one of the classes xs, which it catches -/
def wTry (K : PySem.W.Frag) (xs : List Str) (i : Nat) (ts : Addr → Value → Option Addr → TS) (D : Ends) : WX := fun cls d σ H => (∃ x ∈ xs, cls = .ref (He.ga K x)) ∧
  ∀ a, H a = none → ts a cls d { nx := fun σ' H' => D.nx (σ'.set i none) H', rt := D.rt, bk := fun σ' H' => D.bk (σ'.set i none) H', ct := fun σ' H' => D.ct (σ'.set i none) H' } (σ.set i (some (.ref a))) H
def tTryX (K : PySem.W.Frag) (xs : List Str) (i : Nat) (tb : WX → TS) (ts : Addr → Value → Option Addr → TS) : TS := fun D σ H => tb (wTry K xs i ts D) D σ H
/-- isinstance(e, T), e the error that the suite holds; tab: the answer by its class -/
def rIsX (K : PySem.W.Frag) (a : Addr) (cls : Value) (d : Option Addr) (T : Str) (tab : List (Str × Bool)) : List V → Hp → VK → Prop := fun xs H Q => xs = [.ref a, .ref (He.ga K T)] ∧ (∃ (dd : Addr) (fs : List (Str × V)), d = some dd ∧ H dd = some (.xd fs)) ∧
  ∃ q ∈ tab, cls = .ref (He.ga K q.1) ∧ Q (.bl q.2) H

def clsBody : Stmt → List Stmt
  | .ClassDef (body := b) .. => b
  | _ => []

/-! ### facts of a class, from the heap's part -/
def clsB (K : PySem.W.Frag) (C : Addr) : Bool := match K.lookup C with
  | some ⟨.type t, _, .cls cd, sl⟩ => (match cd.mro, sl.toList with
    | .ref C' :: bm, [_, _, _, _, some (.builtin n), _] => decide (t = "type") && (decide (C' = C) && (decide (n = "ValueError.__new__") && (!cd.hasDel && (cd.hasDict && PySem.HandSPX.refsVE bm))))
    | _, _ => false)
  | _ => false
theorem clsB_ok {K : PySem.W.Frag} {C : Addr} (h : clsB K C = true) : ∃ nm q N bs bm sn sub ab col dd k0 k1 k2 k3 k5, K.lookup C = some (excClassObj nm q C N bs bm true sn sub ab col dd k0 k1 k2 k3 k5 "ValueError.__new__") ∧ PySem.HandSPX.refsVE bm = true := by
  unfold clsB at h
  split at h
  · rename_i t dd cd sl ho
    split at h
    · rename_i C' bm k0 k1 k2 k3 n k5 hm hs
      obtain ⟨h0, h⟩ := He.ba h
      obtain ⟨h1, h⟩ := He.ba h
      obtain ⟨h2, h⟩ := He.ba h
      obtain ⟨h3, h⟩ := He.ba h
      obtain ⟨h4, h5⟩ := He.ba h
      have h0 := of_decide_eq_true h0
      have h1 := of_decide_eq_true h1
      have h2 := of_decide_eq_true h2
      subst h0 h1 h2
      obtain ⟨nm, bs, mro, ns, qn, hd, sn, sub, ab, col, del⟩ := cd
      dsimp only at hm h3 h4
      have h3 : del = false := by simpa using h3
      subst hm h3 h4
      have hsl : sl = #[k0, k1, k2, k3, some (.builtin "ValueError.__new__"), k5] := by
        obtain ⟨l⟩ := sl
        simp only at hs
        rw [hs]
      subst hsl
      exact ⟨nm, qn, ns, bs, bm, sn, sub, ab, col, dd, k0, k1, k2, k3, k5, ho, h5⟩
    · cases h
  · cases h
def ecB (K : PySem.W.Frag) (D : Addr) : Bool :=
  He.eqO (PySem.W.findIn K (.ref D) "__class__") (some (some (.builtin "object.__class__"))) && (He.eqO (PySem.W.specialIn K (.builtin "object.__class__") "__get__") (some (some (.builtin "getset_descriptor.__get__"))) &&
    (decide (PySem.W.takesIn K (.builtin "object.__class__") = some true) && decide (PySem.W.mroIn K D (.type "object") = some true)))
/-- all that is asked of the class x, whose errors have the field f -/
def exB (K : PySem.W.Frag) (x f : Str) : Bool :=
  clsB K (He.ga K x) && (He.eqO (PySem.W.findIn K (.ref (He.ga K x)) "__setattr__") (some (some (.builtin "object.__setattr__"))) && (decide (PySem.W.subIn K (.ref (He.ga K x)) (.type "BaseException") = some true) && (decide (PySem.W.typeIn K (.ref (He.ga K x)) = some (.type "type")) &&
  (PySem.W.keepIn K (.ref (He.ga K x)) && (He.eqO (PySem.W.findIn K (.ref (He.ga K x)) "__init__") (some (some (.ref (He.ma K (He.ga K x) "__init__")))) && (decide (PySem.W.typeIn K (.ref (He.ma K (He.ga K x) "__init__")) = some (.type "function")) &&
  (He.eqO (PySem.W.findIn K (.ref (He.ga K x)) f) (some none) && (xfB K (He.ga K x) && ecB K (He.ga K x)))))))))
structure ExK (K : PySem.W.Frag) (x f : Str) : Prop where
  oex : OexC K (He.ga K x)
  iC : PySem.W.findIn K (.ref (He.ga K x)) "__init__" = some (some (.ref (He.ma K (He.ga K x) "__init__")))
  tI : PySem.W.typeIn K (.ref (He.ma K (He.ga K x) "__init__")) = some (.type "function")
  no : PySem.W.findIn K (.ref (He.ga K x)) f = some none
  xf : XfC K (He.ga K x)
  ec : ExcC K (He.ga K x)
theorem exB_ok {K : PySem.W.Frag} {x f : Str} (h : exB K x f = true) : ExK K x f := by
  obtain ⟨h1, h⟩ := He.ba h
  obtain ⟨h2, h⟩ := He.ba h
  obtain ⟨h3, h⟩ := He.ba h
  obtain ⟨h4, h⟩ := He.ba h
  obtain ⟨h5, h⟩ := He.ba h
  obtain ⟨h6, h⟩ := He.ba h
  obtain ⟨h7, h⟩ := He.ba h
  obtain ⟨h8, h⟩ := He.ba h
  obtain ⟨h9, h⟩ := He.ba h
  obtain ⟨g1, h⟩ := He.ba h
  obtain ⟨g2, h⟩ := He.ba h
  obtain ⟨g3, g4⟩ := He.ba h
  have xf := xfB_ok h9
  exact ⟨⟨clsB_ok h1, He.eqO_ok h2, of_decide_eq_true h3, of_decide_eq_true h4, h5⟩, He.eqO_ok h6, of_decide_eq_true h7, He.eqO_ok h8, xf,
    ⟨xf.ga, xf.gg, xf.exC, xf.hdC, He.eqO_ok g1, He.eqO_ok g2, of_decide_eq_true g3, of_decide_eq_true g4⟩⟩
def exmB (K : PySem.W.Frag) (x t : Str) : Bool := decide (PySem.W.exmOne K (.ref (He.ga K x)) (.ref (He.ga K t)) = some true)
def kitB2 (K : PySem.W.Frag) (x t : Str) (b : Bool) : Bool := decide (PySem.W.kitOne K (.ref (He.ga K x)) (.ref (He.ga K t)) = some b)
/-! ### the Hook: with one Bool more -/
abbrev AlB : Type := He.AlD × Bool
def obsB (n : Nat) (fa : List He.Fa) (fn : List He.DefD) (ex : PySem.W.Frag → Bool) (g : Addr → Option Obj) : AlB := (He.obsD fa fn (He.frG g (He.asD g n)), ex (He.frG g (He.asD g n)))
structure SaysB (fa : List He.Fa) (fn : List He.DefD) (ex : PySem.W.Frag → Bool) (K : PySem.W.Frag) : Prop where
  d : He.SaysD fa fn K
  ex : ex K = true
def hookB (n : Nat) (fa : List He.Fa) (fn : List He.DefD) (ex : PySem.W.Frag → Bool) : PySem.W.Hook where
  α := AlB
  obs := fun s => obsB n fa fn ex s.heap.get?
  val := fun _ => (He.valD fn, true)
  says := fun _ h => ∃ K : PySem.W.Frag, K.In h ∧ SaysB fa fn ex K
  of := fun _ _ e => ⟨_, He.frG_in, ⟨congrArg (fun z : AlB => z.1) e, congrArg (fun z : AlB => z.2) e⟩⟩
  keeps := fun _ _ _ ⟨K, hK, c⟩ k => ⟨K, PySem.W.Frag.In.keeps hK k, c⟩
theorem obsB_eq {n : Nat} {fa : List He.Fa} {fn : List He.DefD} {ex : PySem.W.Frag → Bool} {g : Addr → Option Obj} {s : Shared} (h : ∀ a, g a = s.heap.get? a) : obsB n fa fn ex g = (hookB n fa fn ex).obs s := by
  have e : g = s.heap.get? := funext h
  rw [e] <;> rfl

/-! ### the derivations -/
/-- what a class's own __init__ keeps: self.f = e -/
def spInit (K : PySem.W.Frag) (x f : Str) : Sp := fun vs H Q _ => ∃ (a : Addr) (v : V), vs = [.ref a, v] ∧ H a = some (exo a (He.ga K x) none) ∧ ∀ dx, H dx = none → dx ≠ a → Q .non (upd (upd H dx (exd dx [(f, v)])) a (exo a (He.ga K x) (some dx)))
theorem pure_init {K : PySem.W.Frag} {x f : Str} (E : ExK K x f) {n1 n2 : Str} {vs : List V} {H : Hp} {Q : VK} {X : XK} (h : spInit K x f vs H Q X) : tOst K f (tVar 0) (tVar 1) { nx := fun _ H' => Q .non H', rt := Q } (start [n1, n2] vs) H := by
  obtain ⟨a, v, rfl, ha, q⟩ := h
  exact ⟨v, rfl, .ref a, rfl, a, _, rfl, E.oex, E.no, .inl ⟨ha, fun dx h1 h2 => q dx h1 h2⟩⟩
/-- raise x(e) -/
def tRaiseX (K : PySem.W.Frag) (x f : Str) (W : WX) (ta : TA) : TS := fun _ σ H => tMkO (He.ga K x) (spInit K x f) [] ta σ H fun cls d H' => W cls d σ H'
/-- a class that makes errors of one field -/
structure MkX (P : Program) (w : World) (K : PySem.W.Frag) (mg : Str → Option Value) (base : Heap) (k : Nat) (x f : Str) : Prop where
  ex : ExK K x f
  gl : mg x = some (.ref (He.ga K x))
  fn : ∃ (fd : FuncData) (ps : List Str), FnOk P w K mg base CX0 k (He.ma K (He.ga K x) "__init__") fd ps (spInit K x f) ∧ Binds K fd ps []
/-- a def that may raise -/
structure CalX (P : Program) (w : World) (K : PySem.W.Frag) (mg : Str → Option Value) (base : Heap) (k : Nat) (x : Str) (sp : Sp) : Prop where
  ex : ∃ (f : Addr) (fd : FuncData) (ps : List Str), FnOk P w K mg base (L2.CX P w) k f fd ps sp ∧ mg x = some (.ref f) ∧ PySem.W.keepIn K (.ref f) = true ∧ Binds K fd ps []
section
variable {X : Cx} {W : WX} {a e : Expr} {es : List Expr} {ta : TA} {te : TE} {p pos pos2 : Pos} {k j : Nat} {x f T : Str} {sp : Sp}
theorem ps_raiseX (hc : X.calm = true) (M : MkX X.prog X.w X.K X.mg X.base k x f) (hr : Room j X.A) (hk : k + 1 ≤ j) (tk : Takes X W) (hg : Gl X x) (ha : PA X (a :: es) ta)
    (hdb : (x == ("__debug__" : Str)) = false := by decide) (he : starEach (a :: es) X.env = (false, eval a X.env) :: starEach es X.env := by rfl) (hpl : (backTo pos (starEach es X.env)).any (·.1) = false := by rfl) :
    PS X (.Raise (some (.Call (.Name x p) (a :: es) [] pos)) none pos2) (tRaiseX X.K x f W ta) := by
  obtain ⟨E, gl, fd, ps, F, hb⟩ := M
  exact ps_raise hc tk (pmk_oex (ds := []) (dvs := []) E.oex E.iC E.tI F (hr.mono hk) hb .nil C8.pass0 hg gl ha hdb he hpl)
theorem pe_cx (c : CalX X.prog X.w X.K X.mg X.base k x sp) (hr : Room j X.A) (hk : k ≤ j) (hg : Gl X x) (tk : Takes X W) (ha : PA X (e :: es) ta)
    (hdb : (x == ("__debug__" : Str)) = false := by decide) (he : starEach (e :: es) X.env = (false, eval e X.env) :: starEach es X.env := by rfl) (hpl : (backTo pos (starEach es X.env)).any (·.1) = false := by rfl) :
    PE X (.Call (.Name x p) (e :: es) [] pos) (tCallS sp (WE W) ta) := by
  obtain ⟨f, fd, ps, F, hm, kp, b⟩ := c.ex
  exact pe_callS F (hr.mono hk) hg hm kp b (fun σ => passAt tk σ) ha hdb he hpl
theorem call_isX {a : Addr} {oe : Obj} {cls : Value} {d : Option Addr} {pn : List (Addr × Obj)} {tab : List (Str × Bool)} (hT : ∀ q ∈ tab, ExcC X.K (He.ga X.K q.1) ∧ PySem.W.kitOne X.K (.ref (He.ga X.K q.1)) (.ref (He.ga X.K T)) = some q.2)
    (hz : Zc cls d oe) (hf : ∃ vs, oe.data = .fields vs) : CallR (X.suite a ((a, oe) :: pn)) (.builtin "isinstance") (rIsX X.K a cls d T tab) := by
  intro pins s σ H xs us Q I r h
  obtain ⟨rfl, ⟨dd, fs, rfl, ea⟩, q, hq, rfl, hQ⟩ := h
  obtain ⟨E, ek⟩ := hT q hq
  cases r with
  | cons r1 r2 =>
    cases r2 with
    | cons r2 r3 =>
      cases r3
      cases r1
      cases r2
      obtain ⟨hget, _⟩ := I.pin (a, oe) (List.mem_append_left _ List.mem_cons_self)
      obtain ⟨vs, hv⟩ := hf
      have hx : ObjOk X.prog X.w H s.heap dd (.xd fs) := I.hok dd _ ea
      obtain ⟨mA, hns, _⟩ := hx
      obtain ⟨od, ho, _⟩ := lookIn_ns hns
      have J : PySem.W.InstAt s.heap a oe (He.ga X.K q.1) (some od) := ⟨hget, hz.1, by unfold PySem.W.notCls; rw [hv] <;> rfl, by rw [hz.2]; exact ho⟩
      have hcl : (PySem.W.clsIn X.K (He.ga X.K q.1)).isSome = true := by
        obtain ⟨cd, hc, _⟩ := PySem.W.any_some E.hd
        rw [hc]
        rfl
      exact PySem.W.kia_one (PySem.W.kitx_exc hcl E.hg E.hk E.hs E.ha E.hn E.ht E.hm) I.kIn J ek (fun z => nomatch z) fun tk => ⟨.bl q.2, H, I.kept (t' := tk) fun _ _ z => z, rfl, hQ⟩
theorem ps_tryX {xs : List Str} {i : Nat} {n : Str} {body suite : List Stmt} {b₀ : Stmt} {np pos' : Pos} {tb : WX → TS} {ts : Addr → Value → Option Addr → TS}
    (he : ∀ y ∈ xs, PySem.W.exmOne X.K (.ref (He.ga X.K y)) (.ref (He.ga X.K T)) = some true) (gT : X.mg T = some (.ref (He.ga X.K T)))
    (hs : X.stack = X.env :: X.outer) (hf : X.env.frame = some X.env.locals) (hN : X.N.Nodup) (hi : X.N[i]? = some n) (hln : X.env.kindOf n = some .local) (hg : Gl X T) (hdb : (T == ("__debug__" : Str)) = false)
    (hb : ∀ (W : WX) (pn : List (Addr × Obj)) (xe : Value → Shared → Prop), Takes (X.tr pn xe) W → PassesOwn (model X.prog X.w) X.A X.env xe → PSs (X.tr pn xe) body (tb W))
    (hsu : ∀ (a : Addr) (oe : Obj) (cls : Value) (d : Option Addr) (pn : List (Addr × Obj)), Zc cls d oe → (∃ vs, oe.data = .fields vs) → PSs (X.suite a ((a, oe) :: pn)) (b₀ :: suite) (ts a cls d)) :
    PS X (.Try body [.ExceptHandler (some (.Name T np)) (some n) (b₀ :: suite) pos'] [] [] pos) (tTryX X.K xs i tb ts) := by
  have z := ps_try_as (c := .ref (He.ga X.K T)) (i := i) (np := np) (pos := pos) (pos' := pos') (Wout := fun _ _ _ _ => False) (ts := ts)
    (tb := fun W D σ H => (∀ cls d σ H, wTry X.K xs i ts D cls d σ H → W cls d σ H) ∧ tb (wTry X.K xs i ts D) D σ H) hs hf hN hi hln ⟨hg, hdb, .inl gT⟩ takes0
    (fun W pn xe tk po => ⟨fun pins s σ H D I h => (hb (wTry X.K xs i ts D) pn xe (tk.imp h.1) po).run pins s σ H D I h.2⟩) hsu
  refine ⟨fun pins s σ H D I h => z.run pins s σ H D I ⟨fun cls d σ H hw => ?_, h⟩⟩
  obtain ⟨⟨y, hy, rfl⟩, k⟩ := hw
  exact ⟨true, he y hy, fun _ => k, fun q => nomatch q⟩
end

/-! ### the rules -/
/-- an error: its class, its field, what it holds -/
structure Er where
  cls : Str
  f : Str
  d : PyData
/-- how a def ends -/
inductive Oc where
  | ok (r : Rt)
  | er (e : Er)
def ErOk (F : Hp) (d : Option Addr) (e : Er) : Prop := ∃ dd v, d = some dd ∧ F dd = some (.xd [(e.f, v)]) ∧ Da F v e.d
/-- W takes the error e at such a state -/
def WxAt (c : Cn) (W : WX) (Γ : List Sl) (O : OL) (e : Er) : Prop := ∀ F H σ, Is c F H σ Γ O → ∀ d, ErOk F d e → W (.ref (He.ga c.K e.cls)) d σ H
/-- a def that may raise -/
def SpX (K : PySem.W.Frag) (T : List PyData → (Oc → Prop) → Prop) : Sp := fun vs H Q E => ∃ ds Φ, T ds Φ ∧ Das H vs ds ∧ (∀ v r H' F', Φ (.ok r) → Out H H' F' [] → RtOk H H' F' v r → Q v H') ∧
  ∀ e d H' F', Φ (.er e) → Out H H' F' [] → ErOk F' d e → E (.ref (He.ga K e.cls)) d H'
/-- what is wanted behind a call -/
def OcK (c : Cn) (W : WX) (Γ : List Sl) (Φ : Res → OL → Prop) (O : OL) : Oc → Prop
  | .ok r => Φ r.res O
  | .er e => WxAt c W Γ O e
section
variable {c : Cn} {Hs Hr F H F' H' F1 H1 F2 H2 : Hp} {σ σ' : L2.St} {Γ Γ' Γ2 : List Sl} {O O' O1 O2 : OL} {v : V} {r a b : Res} {E : En} {ta tb te : TE} {t u : TS} {tc : TT} {Φ : Res → OL → Prop} {W : WX}
/-- a new frozen object, seen -/
theorem Is.newX (I : Is c F H σ Γ O) {p : Addr} (hp : H p = none) (o : HO) : Is c (upd F p o) (upd H p o) σ Γ O := by
  have fp : F p = none := I.fh.free hp
  refine I.grow (same_new fp) (fun a o e => same_new hp a o e) (fun a o e => ?_) (fun a o e t => ?_) (fun a o e => ?_) (fun e he => ?_)
  · by_cases ha : a = p
    · subst ha
      rw [upd_same] at e ⊢
      exact e
    · rw [upd_ne ha] at e ⊢
      exact I.fh a o e
  · by_cases ha : a = p
    · subst ha
      rw [upd_same] at e ⊢
      exact e
    · rw [upd_ne ha] at e ⊢
      exact I.ft a o e t
  · by_cases ha : a = p
    · subst ha
      exact .inl (I.h0none hp)
    · rw [upd_ne ha] at e
      exact I.f0 a o e
  · have hk : e.1 ≠ p := fun q => I.notKey hp (by rw [← q]; exact List.mem_map_of_mem he)
    rw [upd_ne hk]
    exact I.oF e he
theorem ws_raise {x f : Str} {ts : TA} (h : Wa c Γ O ts fun as O1 => ∃ r d, as = [r] ∧ Fz r d ∧ WxAt c W Γ O1 ⟨x, f, d⟩) : Ws c Γ O (tRaiseX c.K x f W ts) E := fun F H σ D I n r b k =>
  h F H σ I _ fun xs F1 H1 as O1 p I1 g1 rs => by
    obtain ⟨r, d, rfl, fz, w⟩ := p
    obtain ⟨v, rfl, ro⟩ := rs.one
    obtain ⟨F2, I2, g2, k2⟩ := fz.go I1 ro
    refine ⟨by show 1 ≤ 1000; omega, fun a ha => ⟨a, v, by rfl, upd_same, fun dx h1 h2 => ⟨rfl, dx, [(f, v)], upd_same, by rw [upd_ne h2]; exact upd_same, by rw [upd_ne h2] at h1; exact h1, ?_⟩⟩⟩
    have hd : H1 dx = none := by rw [upd_ne h2] at h1; exact h1
    have e : upd (del (upd (upd (upd H1 a (exo a (He.ga c.K x) none)) dx (exd dx [(f, v)])) a (exo a (He.ga c.K x) (some dx))) a) dx (.xd [(f, v)]) = upd H1 dx (.xd [(f, v)]) := by
      funext b
      by_cases hb : b = dx
      · subst hb
        rw [upd_same, upd_same]
      · rw [upd_ne hb, upd_ne hb]
        by_cases hba : b = a
        · subst hba
          rw [del_same]
          exact ha.symm
        · rw [del_ne hba, upd_ne hba, upd_ne hb, upd_ne hba]
    rw [e]
    exact w _ _ _ (I2.newX hd _) _ ⟨dx, v, rfl, upd_same, daM (same_new (I2.fh.free hd)) _ _ k2⟩
/-- f(..), a def that may raise -/
theorem we_callX {T : List PyData → (Oc → Prop) → Prop} {ts : TA} (h : Wa c Γ O ts fun as O1 => ∃ ds, Anys O1 as ds ∧ T ds (OcK c W Γ Φ O1)) : We c Γ O (tCallS (SpX c.K T) (WE W) ts) Φ := fun F H σ I Q q =>
  h F H σ I _ fun xs F1 H1 as O1 p I1 g1 rs => by
    obtain ⟨ds, an, p⟩ := p
    refine ⟨ds, _, p, an.das I1 rs, fun v rt H' F' hp out ok => ?_, fun e d H' F' hp out ok => ?_⟩
    · obtain ⟨F2, I2, g2, e2, n2⟩ := I1.out g1.be out fun m hm => by cases hm
      exact q v F2 H' rt.res O1 hp I2 (g1.trans g2) (I1.ret (M' := []) g1.be I2 e2 n2 ok)
    · obtain ⟨F2, I2, g2, e2, n2⟩ := I1.out g1.be out fun m hm => by cases hm
      obtain ⟨dd, v, e1, h1, h2⟩ := ok
      exact hp F2 H' σ I2 d ⟨dd, v, e1, e2 _ _ h1, daM e2 _ _ h2⟩
theorem ws_try {xs : List Str} {i : Nat} {tb : WX → TS} {ts : Addr → Value → Option Addr → TS} (X : Er → List Sl → OL → Prop) (hb : ∀ W, (∀ Γ' O' e, X e Γ' O' → WxAt c W Γ' O' e) → Ws c Γ O (tb W) E)
    (hs : ∀ Γ' O' e, X e Γ' O' → e.cls ∈ xs ∧ ∀ a dd, Ws c (Γ'.set i (.ex a dd e.f e.d)) O' (ts a (.ref (He.ga c.K e.cls)) (some dd)) { nx := fun Γ2 O2 => E.nx (Γ2.set i .un) O2, rt := E.rt, bk := fun Γ2 O2 => E.bk (Γ2.set i .un) O2, ct := fun Γ2 O2 => E.ct (Γ2.set i .un) O2 }) :
    Ws c Γ O (tTryX c.K xs i tb ts) E := fun F H σ D I n r b k =>
  hb _ (fun Γ' O' e hX F' H' σ' I' d hd => by
    obtain ⟨hx, hw⟩ := hs Γ' O' e hX
    obtain ⟨dd, v, rfl, h1, h2⟩ := hd
    refine ⟨⟨e.cls, hx, rfl⟩, fun a ha => hw a dd F' H' _ _ (I'.set ⟨rfl, v, h1, h2⟩) (fun F2 H2 σ2 Γ2 O2 p I2 => ?_) r (fun F2 H2 σ2 Γ2 O2 p I2 => ?_) fun F2 H2 σ2 Γ2 O2 p I2 => ?_⟩
    · exact n F2 H2 _ _ O2 p (I2.wipe [i])
    · exact b F2 H2 _ _ O2 p (I2.wipe [i])
    · exact k F2 H2 _ _ O2 p (I2.wipe [i])) F H σ D I n r b k
theorem we_isX {i : Nat} {a dd : Addr} {f n T : Str} {d : PyData} {z : Bool} {tab : List (Str × Bool)} (h : Γ[i]? = some (.ex a dd f d)) (hq : (n, z) ∈ tab) (k : Φ (.fr (.bool z)) O) :
    We c Γ O (tCB (rIsX c.K a (.ref (He.ga c.K n)) (some dd) T tab) (tCons (tVar i) (tCons (tC (.ref (He.ga c.K T))) tNil))) Φ := fun F H σ I Q q => by
  obtain ⟨e, v, h1, _⟩ := I.sl i _ h
  have e2 : σ[i]? = some (some (V.ref a)) := by
    cases hx : σ[i]? with
    | none => rw [hx] at e; cases e
    | some x => rw [hx] at e; exact congrArg some e
  exact ⟨_, e2, rfl, ⟨dd, _, rfl, I.fh _ _ h1⟩, (n, z), hq, rfl, q _ F H _ O k I (Gr.refl _ _ _ _) (Da.bl z)⟩
theorem we_xf {i : Nat} {a dd C : Addr} {f : Str} {d : PyData} (h : Γ[i]? = some (.ex a dd f d)) (k : Φ (.fr d) O) : We c Γ O (tXf a (.ref C) (some dd) C f (tVar i)) Φ := fun F H σ I Q q => by
  obtain ⟨e, v, h1, h2⟩ := I.sl i _ h
  have e2 : σ[i]? = some (some (V.ref a)) := by
    cases hx : σ[i]? with
    | none => rw [hx] at e; cases e
    | some x => rw [hx] at e; exact congrArg some e
  refine ⟨_, e2, rfl, rfl, dd, _, v, rfl, I.fh _ _ h1, ?_, q v F H _ O k I (Gr.refl _ _ _ _) h2⟩
  show List.lookup f ((f, v) :: []) = some v
  rw [List.lookup_cons, beq_self_eq_true]
/-- the body of a def that may raise -/
theorem enterX {K : PySem.W.Frag} {T : List PyData → (Oc → Prop) → Prop} {vs : List V} {Q : VK} {X : XK} {N : List Str} {t : WX → TS} (h : SpX K T vs H Q X)
    (k : ∀ ds Φ (c : Cn) (W : WX), c = ⟨K, H, H, [], [], noA⟩ → T ds Φ → (∀ Γ O e, Φ (.er e) → WxAt c W Γ O e) → ∃ Γ, Fit ds Γ ∧ Γ.length = N.length ∧ Ws c Γ [] (t W) { nx := fun _ O => RtW (fun r => Φ (.ok r)) (.fr .none) O, rt := RtW fun r => Φ (.ok r) }) :
    t (fun cls d _ H' => X cls d H') { nx := fun _ H' => Q .non H', rt := Q } (start N vs) H := by
  obtain ⟨ds, Φ, hT, hd, q, qx⟩ := h
  refine enterD (K := K) (T := fun ds Ψ => T ds Φ ∧ Ψ = fun r => Φ (.ok r)) (Q := Q) (X := X) (H := H) (vs := vs) ⟨ds, fun r => Φ (.ok r), ⟨hT, rfl⟩, hd, q⟩ fun ds Ψ c hc hT => ?_
  obtain ⟨hT, rfl⟩ := hT
  refine k ds Φ c _ hc hT fun Γ O e he F' H' σ I d ok => ?_
  subst hc
  obtain ⟨o1, _⟩ := Is.exit (c := ⟨K, H, H, [], [], noA⟩) (Hs := H') (v := .non) (r := .fr .none) (rt := .d .none) I Da.non Ret.fr fun m hm => by cases hm
  exact qx e d H' F' he o1 ok
theorem SpX.len {K : PySem.W.Frag} {T : List PyData → (Oc → Prop) → Prop} {n : Nat} (h : ∀ ds Φ, T ds Φ → ds.length = n) : ∀ vs H Q E, SpX K T vs H Q E → vs.length = n := fun vs H Q E ⟨ds, Φ, hT, hd, _⟩ => by rw [das_len hd]; exact h ds Φ hT
end
end DL

/-! DL15: plain: pairs sorted. -/
namespace DL
open PySem PySem.Spec PyProof.Rows L2
def leB (a b : Int × Int) : Bool := decide (a.1 < b.1) || (decide (a.1 = b.1) && decide (a.2 ≤ b.2))
theorem leB_iff {a b : Int × Int} : leB a b = true ↔ leP a b := by
  unfold leB leP
  simp
def srt (ts : List (Int × Int)) : List (Int × Int) := ts.mergeSort leB
theorem srt_perm (ts : List (Int × Int)) : (srt ts).Perm ts := List.mergeSort_perm ts leB
theorem srt_sorted (ts : List (Int × Int)) : (srt ts).Pairwise leP := by
  have h : (srt ts).Pairwise fun a b => leB a b = true := List.pairwise_mergeSort (fun a b c h1 h2 => by
    rw [leB_iff] at *
    unfold leP at *
    omega) (fun a b => by
    unfold leB
    simp
    omega) ts
  exact h.imp fun {a b} h => leB_iff.mp h
theorem srt_of {us ts : List (Int × Int)} (h : us.Perm ts) (s : us.Pairwise leP) : us = srt ts :=
  List.Perm.eq_of_pairwise (le := leP) (fun a b _ _ h1 h2 => by
    unfold leP at *
    exact Prod.ext (by omega) (by omega)) s (srt_sorted ts) (h.trans (srt_perm ts).symm)
theorem srt_congr {us ts : List (Int × Int)} (h : us.Perm ts) : srt us = srt ts := srt_of ((srt_perm us).trans h) (srt_sorted us)
theorem srt_id {ts : List (Int × Int)} (h : Asc ts) : srt ts = ts := (srt_of (List.Perm.refl ts) (h.imp fun {a b} q => by unfold ltP at q; unfold leP; omega)).symm
theorem srt_len (ts : List (Int × Int)) : (srt ts).length = ts.length := (srt_perm ts).length_eq
theorem mem_srt {ts : List (Int × Int)} {p : Int × Int} : p ∈ srt ts ↔ p ∈ ts := (srt_perm ts).mem_iff
theorem asc_srt {ts : List (Int × Int)} (nd : ts.Nodup) : Asc (srt ts) := asc_of (srt_sorted ts) ((srt_perm ts).nodup_iff.mpr nd)
section
variable {c : Cn} {Γ : List Sl} {O : OL} {a : Res} {Φ : Res → OL → Prop}
theorem wc_sortS {ds : List PyData} (ps : List (Int × Int)) (ha : Seq O a ds true) (e : ds = ps.map prD) (k : Φ (.nw ((srt ps).map prD)) O) : Wc c Γ O (rSortedA c.K) [a] Φ :=
  wc_sortP ps ha e fun us h1 h2 => by
    rw [srt_of h1 h2]
    exact k
end
/-- two lists with all of both are sorted alike -/
theorem srt_ext {us ts : List (Int × Int)} (n1 : us.Nodup) (n2 : ts.Nodup) (h : ∀ p, p ∈ us ↔ p ∈ ts) : srt us = srt ts := srt_congr ((List.perm_ext_iff_of_nodup n1 n2).mpr h)
/-- ascending lists with the same items are the same -/
theorem asc_ext {us ts : List (Int × Int)} (a1 : Asc us) (a2 : Asc ts) (h : ∀ p, p ∈ us ↔ p ∈ ts) : us = ts := by
  rw [← srt_id a1, ← srt_id a2]
  exact srt_ext a1.nodup a2.nodup h
/-! ### data with no dict is equal to itself -/
mutual
def noD : PyData → Bool
  | .none => true
  | .bool _ => true
  | .int _ => true
  | .str _ => true
  | .list xs => noDs xs
  | .tuple xs => noDs xs
  | .dict _ => false
def noDs : List PyData → Bool
  | [] => true
  | x :: xs => noD x && noDs xs
end
mutual
theorem eqv_refl : ∀ d : PyData, noD d = true → PyData.eqv d d = true
  | .none, _ => by simp [PyData.eqv]
  | .bool b, _ => by simp [PyData.eqv]
  | .int i, _ => by simp [PyData.eqv]
  | .str x, _ => by simp [PyData.eqv]
  | .list ds, h => by
    simp only [PyData.eqv]
    exact eqvAll_refl ds (by simpa [noD] using h)
  | .tuple ds, h => by
    simp only [PyData.eqv]
    exact eqvAll_refl ds (by simpa [noD] using h)
  | .dict _, h => by simp [noD] at h
theorem eqvAll_refl : ∀ ds : List PyData, noDs ds = true → PyData.eqvAll ds ds = true
  | [], _ => by simp [PyData.eqvAll]
  | d :: ds, h => by
    have h : noD d = true ∧ noDs ds = true := by simpa [noDs] using h
    simp [PyData.eqvAll, eqv_refl d h.1, eqvAll_refl ds h.2]
end
theorem noDs_of {ds : List PyData} (h : ∀ d ∈ ds, noD d = true) : noDs ds = true := by
  induction ds with
  | nil => simp [noDs]
  | cons d ds ih => simp [noDs, h d List.mem_cons_self, ih fun x hx => h x (List.mem_cons_of_mem _ hx)]
theorem noD_ls {α : Type} {enc : α → PyData} (h : ∀ x, noD (enc x) = true) (xs : List α) : noD (.list (xs.map enc)) = true := by
  simp only [noD]
  exact noDs_of fun d hd => by
    obtain ⟨x, _, rfl⟩ := List.mem_map.mp hd
    exact h x
theorem noD_pr (p : Int × Int) : noD (prD p) = true := by simp [prD, noD, noDs]
theorem noD_prs (ps : List (Int × Int)) : noD (.list (ps.map prD)) = true := noD_ls noD_pr ps
theorem noD_ints (ps : List Int) : noD (.list (ps.map PyData.int)) = true := noD_ls (fun _ => by simp [noD]) ps
theorem noD_t2 {a b : PyData} (h1 : noD a = true) (h2 : noD b = true) : noD (.tuple [a, b]) = true := by simp [noD, noDs, h1, h2]
theorem shp_t2 {n : Nat} {a b : PyData} (h1 : Shp n a) (h2 : Shp n b) : Shp (n + 1) (.tuple [a, b]) := shp_tuple fun d hd => by
  rcases List.mem_cons.mp hd with rfl | hd
  · exact h1
  · rcases List.mem_cons.mp hd with rfl | hd
    · exact h2
    · cases hd
theorem Shp.mono {n m : Nat} {d : PyData} (h : Shp n d) (e : n ≤ m) : Shp m d := ⟨h.1, Nat.le_trans h.2 e⟩
section
variable {c : Cn} {Γ Γ2 : List Sl} {O O2 : OL} {a b : Res} {Φ : Res → OL → Prop} {n : Nat} {E : En} {t : TS}
theorem wo_neR {d : PyData} (ha : Any O a d) (hb : Any O b d) (hs : Shp n d) (hr : noD d = true) (k : Φ (.fr (.bool false)) O) (hn : n ≤ 64 := by decide) : Wo c Γ O (rNeD c.K) a b Φ :=
  wo_ne ha hb (hs.sh hn) (hs.sh hn) (by rw [eqv_refl d hr]; exact k)
theorem wo_eqR {d : PyData} (ha : Any O a d) (hb : Any O b d) (hs : Shp n d) (hr : noD d = true) (k : Φ (.fr (.bool true)) O) (hn : n ≤ 64 := by decide) : Wo c Γ O (rEqD c.K) a b Φ :=
  wo_eq ha hb (hs.sh hn) (hs.sh hn) (by rw [eqv_refl d hr]; exact k)
/-- a name's own list becomes data -/
theorem ws_freeze {a : Addr} {ds : List PyData} (k i : Nat) (hk : O[k]? = some (a, Ob.l ds)) (hi : Γ[i]? = some (.pt a)) (e1 : Γ.set i (.fr (.list ds)) = Γ2) (e2 : O.eraseIdx k = O2) (h : Ws c Γ2 O2 t E) : Ws c Γ O t E := fun F H σ D I n r b kc => by
  subst e1 e2
  have hm : (a, Ob.l ds) ∈ O := List.mem_of_getElem? hk
  obtain ⟨h0, vs, h1, h2⟩ := I.oH _ hm
  have hn : a ∉ (O.eraseIdx k).map (·.1) := fun m => by
    have hlk := (List.getElem?_eq_some_iff.mp hk).1
    have nd := I.nd
    rw [map_eraseIdx] at m
    have e : O.map (·.1) = (O.map (·.1)).take k ++ a :: (O.map (·.1)).drop (k + 1) := by
      conv => lhs; rw [← List.take_append_drop k (O.map (·.1))]
      congr 1
      rw [List.drop_eq_getElem_cons (by simpa using hlk)]
      congr 1
      rw [List.getElem_map]
      have := (List.getElem?_eq_some_iff.mp hk).2
      rw [this]
    rw [List.eraseIdx_eq_take_drop_succ] at m
    rw [e] at nd
    have nd := List.nodup_append.mp nd
    rcases List.mem_append.mp m with q | q
    · exact nd.2.2 _ q _ List.mem_cons_self rfl
    · exact (List.nodup_cons.mp nd.2.1).1 q
  have I1 := I.weak (SLe.refl Γ) (List.eraseIdx_sublist O k)
  obtain ⟨F', I2, sf, k1, k2⟩ := I1.see (ps := [a]) (fun p hp => by rw [List.mem_singleton.mp hp]; exact h0) fun p hp => by rw [List.mem_singleton.mp hp]; exact hn
  have hx := I.sl i _ hi
  have e2 : σ[i]? = some (some (V.ref a)) := by
    have e : (σ[i]?).bind id = some (V.ref a) := hx
    cases hx : σ[i]? with
    | none => rw [hx] at e; cases e
    | some x => rw [hx] at e; exact congrArg some e
  have hl := (List.getElem?_eq_some_iff.mp e2).1
  have es : σ.set i (some (V.ref a)) = σ := by
    apply List.ext_getElem?
    intro j
    by_cases hj : i = j
    · subst hj
      rw [List.getElem?_set_self hl, e2]
    · rw [List.getElem?_set_ne hj]
  have I3 := I2.set (i := i) (v := .ref a) (s := .fr (.list ds)) ⟨_, rfl, .lst (by rw [k1 a (List.mem_singleton_self _)]; exact h1) (dasM sf _ _ h2)⟩
  rw [es] at I3
  exact h F' H σ D I3 n r b kc
end
section
variable {c : Cn} {Γ Γ2 : List Sl} {O : OL} {r : Res}
theorem wgs_nm {Ψ : List Sl → Prop} {i : Nat} {s : Sl} {gs : TGs} {is : List Nat} {rs : List Res} (hs : r.sl = some s) (e : Γ.set i s = Γ2) (h : Wgs c Γ2 O gs is rs Ψ) : Wgs c Γ O (gCons (gName i) gs) (i :: is) (r :: rs) Ψ :=
  wgs_cons (ix := [i]) (wg_name hs (by rw [e]; exact h))
theorem wgs_end {Ψ : List Sl → Prop} {rs : List Res} (hr : rs = []) (k : Ψ Γ) : Wgs c Γ O gNil [] rs Ψ := by
  subst hr
  exact wgs_nil k
end
section
variable {c : Cn} {Γ Γ2 : List Sl} {O O2 : OL} {E : En} {t : TS} {ts : TA}
/-- n = (i, a new list): the list is the name's own -/
theorem ws_tupO {i : Nat} (h : Wa c Γ O ts fun as O1 => ∃ (j : Int) (ds : List PyData), as = [.fr (.int j), .nw ds] ∧ ∀ p, E.nx (Γ.set i (.tv [.int j, .ref p])) (O1 ++ [(p, .l ds)])) : Ws c Γ O (tAsg (tTup ts) (gName i)) E := fun F H σ D I n r b k =>
  h F H σ I _ fun xs F1 H1 as O1 p I1 g1 rs => by
    obtain ⟨j, ds, rfl, p⟩ := p
    obtain ⟨x, y, rfl, hx, hy⟩ := rs.two
    have hx : Da F1 x (.int j) := hx
    cases hx
    obtain ⟨q, vs, rfl, hn, hd⟩ := hy
    refine ⟨Nat.le_trans (by decide : 2 ≤ 1000) (by rw [sizeLine_eq]; decide), fun a ha => ?_⟩
    have I2 := I1.addO hn hd
    obtain ⟨I3, _⟩ := I2.newT (Hs := H) ha [.int j, .ref q]
    exact n _ _ _ _ _ (p q) (I3.set (i := i) ⟨a, rfl, upd_same⟩)
/-- .. it becomes data -/
theorem ws_tupF {p : Addr} {j : Int} {ds : List PyData} (k i : Nat) (hk : O[k]? = some (p, Ob.l ds)) (hi : Γ[i]? = some (.tv [.int j, .ref p])) (e1 : Γ.set i (.fr (.tuple [.int j, .list ds])) = Γ2) (e2 : O.eraseIdx k = O2) (h : Ws c Γ2 O2 t E) : Ws c Γ O t E := fun F H σ D I n r b kc => by
  subst e1 e2
  have hm : (p, Ob.l ds) ∈ O := List.mem_of_getElem? hk
  obtain ⟨h0, vs, h1, h2⟩ := I.oH _ hm
  have hn : p ∉ (O.eraseIdx k).map (·.1) := fun m => by
    have hlk := (List.getElem?_eq_some_iff.mp hk).1
    have nd := I.nd
    rw [map_eraseIdx] at m
    have e : O.map (·.1) = (O.map (·.1)).take k ++ p :: (O.map (·.1)).drop (k + 1) := by
      conv => lhs; rw [← List.take_append_drop k (O.map (·.1))]
      congr 1
      rw [List.drop_eq_getElem_cons (by simpa using hlk)]
      congr 1
      rw [List.getElem_map]
      have := (List.getElem?_eq_some_iff.mp hk).2
      rw [this]
    rw [List.eraseIdx_eq_take_drop_succ] at m
    rw [e] at nd
    have nd := List.nodup_append.mp nd
    rcases List.mem_append.mp m with q | q
    · exact nd.2.2 _ q _ List.mem_cons_self rfl
    · exact (List.nodup_cons.mp nd.2.1).1 q
  have I1 := I.weak (SLe.refl Γ) (List.eraseIdx_sublist O k)
  obtain ⟨F', I2, sf, k1, k2⟩ := I1.see (ps := [p]) (fun q hq => by rw [List.mem_singleton.mp hq]; exact h0) fun q hq => by rw [List.mem_singleton.mp hq]; exact hn
  obtain ⟨t0, hx, ht⟩ := I.sl i _ hi
  have e2 : σ[i]? = some (some (V.ref t0)) := by
    cases hy : σ[i]? with
    | none => rw [hy] at hx; cases hx
    | some x => rw [hy] at hx; exact congrArg some hx
  have hl := (List.getElem?_eq_some_iff.mp e2).1
  have es : σ.set i (some (V.ref t0)) = σ := by
    apply List.ext_getElem?
    intro m
    by_cases hm : i = m
    · subst hm
      rw [List.getElem?_set_self hl, e2]
    · rw [List.getElem?_set_ne hm]
  have I3 := I2.set (i := i) (v := .ref t0) (s := .fr (.tuple [.int j, .list ds])) ⟨_, rfl, .tup (sf _ _ ht) (.cons (.int j) (.cons (.lst (by rw [k1 p (List.mem_singleton_self _)]; exact h1) (dasM sf _ _ h2)) .nil))⟩
  rw [es] at I3
  exact h F' H σ D I3 n r b kc
end
end DL

/-! DL16: plain: ties that meet, pairs moved, ascending lists within others. -/
namespace DL
open PySem PySem.Spec PyProof.Rows L2
def meet (p q : Int × Int) : Bool := decide (p.1 = q.1 ∨ p.1 = q.2) || decide (p.2 = q.1 ∨ p.2 = q.2)
def jnsRow (ps : List (Int × Int)) (i : Int) : List Int := (rngI (i + 1) ps.length).filter fun j => meet (getP ps i) (getP ps j)
def jnsTo (ps : List (Int × Int)) (i : Int) : List (Int × Int) := (rngI 0 i).flatMap fun a => (jnsRow ps a).map fun b => (a, b)
def jns (ps : List (Int × Int)) : List (Int × Int) := jnsTo ps ps.length
theorem jnsTo_succ {ps : List (Int × Int)} {i : Int} (h : 0 ≤ i) : jnsTo ps (i + 1) = jnsTo ps i ++ (jnsRow ps i).map fun b => (i, b) := by
  unfold jnsTo
  rw [rngI_succ h, List.flatMap_append]
  simp
theorem mem_jns {ps : List (Int × Int)} {p : Int × Int} : p ∈ jns ps ↔ 0 ≤ p.1 ∧ p.1 < p.2 ∧ p.2 < ps.length ∧ meet (getP ps p.1) (getP ps p.2) = true := by
  obtain ⟨a, b⟩ := p
  unfold jns jnsTo
  rw [List.mem_flatMap]
  constructor
  · rintro ⟨x, hx, h⟩
    obtain ⟨y, hy, e⟩ := List.mem_map.mp h
    cases e
    have h1 := mem_rngI.mp hx
    obtain ⟨h2, h3⟩ := List.mem_filter.mp hy
    have h2 := mem_rngI.mp h2
    exact ⟨h1.1, by simp only; omega, h2.2, h3⟩
  · rintro ⟨h1, h2, h3, h4⟩
    simp only at h1 h2 h3 h4
    exact ⟨a, mem_rngI.mpr ⟨h1, by omega⟩, List.mem_map.mpr ⟨b, List.mem_filter.mpr ⟨mem_rngI.mpr ⟨by omega, h3⟩, h4⟩, rfl⟩⟩
theorem web_jns (ps : List (Int × Int)) : Web ps.length (jns ps) := ⟨asc_rows (f := jnsRow ps) (fun a => (rngI_sorted _ _).sublist List.filter_sublist) 0 _, fun p hp => by
  obtain ⟨h1, h2, h3, _⟩ := mem_jns.mp hp
  exact ⟨h1, h2, h3⟩⟩
theorem jnsTo_len {ps : List (Int × Int)} {i : Int} (h0 : 0 ≤ i) (hi : i ≤ ps.length) (hn : ps.length ≤ 700) : (jnsTo ps i).length ≤ 490000 := by
  have h := len_flat_le (f := fun a => (jnsRow ps a).map fun b => (a, b)) (m := 700) (rngI 0 i) fun x hx => by
    have := mem_rngI.mp hx
    rw [List.length_map]
    refine Nat.le_trans (List.length_filter_le _ _) ?_
    rw [rngI_len]
    omega
  rw [rngI_len] at h
  unfold jnsTo
  have e : (i - 0).toNat ≤ 700 := by omega
  have : (i - 0).toNat * 700 ≤ 700 * 700 := Nat.mul_le_mul_right _ e
  omega
def movP (k : Int) (ts : List (Int × Int)) : List (Int × Int) := ts.map fun p => (k + p.1, k + p.2)
theorem mem_mov {n : Int} {us : List (Int × Int)} {p : Int × Int} : p ∈ movP n us ↔ (p.1 - n, p.2 - n) ∈ us := by
  unfold movP
  rw [List.mem_map]
  constructor
  · rintro ⟨q, hq, rfl⟩
    have e : ((n + q.1 - n, n + q.2 - n) : Int × Int) = q := Prod.ext (by simp only; omega) (by simp only; omega)
    simp only
    rw [e]
    exact hq
  · intro h
    exact ⟨_, h, Prod.ext (by simp only; omega) (by simp only; omega)⟩
theorem mov_nodup {n : Int} {us : List (Int × Int)} (h : us.Nodup) : (movP n us).Nodup := by
  unfold movP
  refine List.Pairwise.map _ (fun a b hab e => hab ?_) h
  have e1 := congrArg Prod.fst e
  have e2 := congrArg Prod.snd e
  simp only at e1 e2
  exact Prod.ext (by omega) (by omega)
theorem sub_len {n : Int} {ts : List (Int × Int)} (nd : ts.Nodup) (ok : ∀ p ∈ ts, 0 ≤ p.1 ∧ p.1 < p.2 ∧ p.2 < n) : ts.length ≤ (prs n).length :=
  List.Nodup.length_le_of_subset nd fun p hp => mem_prs.mpr (ok p hp)
theorem prs_len7 {n : Int} (h0 : 0 ≤ n) (h : n ≤ 7) : (prs n).length ≤ 21 := by
  have h : n = 0 ∨ n = 1 ∨ n = 2 ∨ n = 3 ∨ n = 4 ∨ n = 5 ∨ n = 6 ∨ n = 7 := by omega
  rcases h with rfl | rfl | rfl | rfl | rfl | rfl | rfl | rfl <;> decide +kernel

/-- an ascending list all of whose items another one has stands within it -/
theorem asc_sub : ∀ {us vs : List (Int × Int)}, Asc us → Asc vs → (∀ p ∈ us, p ∈ vs) → us.Sublist vs
  | [], _, _, _, _ => List.nil_sublist _
  | u :: us, [], _, _, h => by cases h u List.mem_cons_self
  | u :: us, v :: vs, a1, a2, h => by
    have b1 := List.pairwise_cons.mp a1
    have b2 := List.pairwise_cons.mp a2
    rcases List.mem_cons.mp (h u List.mem_cons_self) with rfl | hu
    · refine List.Sublist.cons₂ _ (asc_sub b1.2 b2.2 fun p hp => ?_)
      rcases List.mem_cons.mp (h p (List.mem_cons_of_mem _ hp)) with rfl | q
      · exact absurd (b1.1 _ hp) (ltP_irr _)
      · exact q
    · refine List.Sublist.cons _ (asc_sub a1 b2.2 fun p hp => ?_)
      rcases List.mem_cons.mp (h p hp) with rfl | q
      · rcases List.mem_cons.mp hp with rfl | hp
        · exact hu
        · exact absurd (ltP_trans (b1.1 _ hp) (b2.1 _ hu)) (ltP_irr _)
      · exact q
/-- all lists within a list -/
def subs {α : Type} : List α → List (List α)
  | [] => [[]]
  | x :: xs => subs xs ++ (subs xs).map (x :: ·)
theorem mem_subs {α : Type} {us vs : List α} (h : us.Sublist vs) : us ∈ subs vs := by
  induction h with
  | slnil => exact List.mem_singleton_self _
  | cons x _ ih => exact List.mem_append_left _ ih
  | cons_cons x _ ih => exact List.mem_append_right _ (List.mem_map.mpr ⟨_, ih, rfl⟩)
theorem Web.subs {n : Int} {ts : List (Int × Int)} (w : Web n ts) : ts ∈ DL.subs (prs n) := mem_subs (asc_sub w.asc (web_prs n).asc fun p hp => mem_prs.mpr (w.ok p hp))
theorem Web.len {n : Int} {ts : List (Int × Int)} (w : Web n ts) : ts.length ≤ (prs n).length := sub_len w.asc.nodup w.ok
def pwB : List (Int × Int) → Bool
  | [] => true
  | x :: xs => xs.all (leB x) && pwB xs
theorem pwB_ok : ∀ {xs : List (Int × Int)}, pwB xs = true → xs.Pairwise leP
  | [], _ => List.Pairwise.nil
  | x :: xs, h => by
    have h : xs.all (leB x) = true ∧ pwB xs = true := by simpa [pwB] using h
    exact List.pairwise_cons.mpr ⟨fun y hy => leB_iff.mp (List.all_eq_true.mp h.1 y hy), pwB_ok h.2⟩
theorem srt_dec {us ts : List (Int × Int)} (h : (us.isPerm ts && pwB us) = true) : srt ts = us := by
  have h : us.isPerm ts = true ∧ pwB us = true := by simpa using h
  exact (srt_of (List.isPerm_iff.mp h.1) (pwB_ok h.2)).symm
end DL

/-! DL17: l.count(x), l.index(x) of data. -/
namespace DL
open PySem PySem.Spec PyProof.Rows L2
def isInt : PyData → Bool
  | .int _ => true
  | _ => false
def noDict : PyData → Bool
  | .dict _ => false
  | _ => true
/-- l.count(x): how many are equal to it -/
def rCountD (K : PySem.W.Frag) : V → List V → Hp → VK → Prop := fun x xs H Q => ∃ (l : Addr) (y : V) (e : PyData) (ds : List PyData), x = .ref l ∧ xs = [y] ∧ Dp K H (.ref l) (.list ds) ∧ Dp K H y e ∧ SeqAt.shaped (.list ds) = true ∧ SeqAt.shaped e = true ∧ Q (.int ((ds.countP fun z => PyData.eqv z e : Nat) : Int)) H
section
variable {X : Cx}
theorem mt_countD (hu : X.A.units + 65 < cLine) : MtR X "list.count" (rCountD X.K) := by
  intro pins s σ H x xs v us Q I rx rxs h
  obtain ⟨l, y, e, ds, rfl, rfl, hl, hy, lay, layE, q⟩ := h
  cases rx
  obtain ⟨w, rfl, rw1⟩ := rxs.one
  obtain ⟨es, re⟩ := Dp.reads I e y w hy rw1
  have can : PyData.canLayAll0 ds = true := SeqAt.canLay_of_shaped lay
  have room : X.A.units + 1 + min (PyData.depthAll ds) e.depth < cLine := room_in_shaped layE hu
  cases hl with
  | lst hs ha =>
    obtain ⟨vals, rv, ⟨⟨oc, od, odt, osl⟩, k, at_, ec, ed, edt⟩, _⟩ := I.list hs
    simp only at ec edt
    subst ec edt
    obtain ⟨rs, ra⟩ := Dp.readsAll I ds _ vals ha rv
    have em : vals.map (SeqAt.readOf s.heap) = ds := SeqAt.readsAll_map ds vals rs can ra
    refine call_meets PySem.F.slot_list_count ⟨_, at_, rfl⟩ PySem.F.entry_list_count (PySem.F.args_list_count_2 _ _)
      (SeqAt.list_countAt l vals.toArray k od osl w fun u => PyData.eqv (SeqAt.readOf s.heap u) e) ⟨at_, SeqAt.items_eqAt (vs := vals.toArray) (show ReadsAll s.heap vals.toArray.toList ds rs from ra) re can (SeqAt.canLay_of_shaped layE) room, ?_⟩
    have ek : vals.toArray.toList.countP (fun u => PyData.eqv (SeqAt.readOf s.heap u) e) = ds.countP fun z => PyData.eqv z e := by
      rw [← em, List.countP_map]
      rfl
    rw [ek]
    exact ⟨.int _, H, I.tok _, ⟨s.toks, rfl⟩, q⟩
end
section
variable {c : Cn} {Γ : List Sl} {O : OL} {a b : Res} {Φ : Res → OL → Prop} {α : Type} [DecidableEq α] {n : Nat}
/-- how often x stands in ys; where first -/
def cntA (x : α) (ys : List α) : Nat := ys.countP fun z => decide (z = x)
def idxA (x : α) (ys : List α) : Nat := ys.findIdx fun z => decide (z = x)
theorem cntA_one : ∀ {ys : List α} {x : α}, ys.Nodup → x ∈ ys → cntA x ys = 1
  | y :: ys, x, nd, h => by
    have nd := List.nodup_cons.mp nd
    have no : ∀ x : α, x ∉ ys → cntA x ys = 0 := fun x hx => List.countP_eq_zero.mpr fun z hz e => hx (by rw [← of_decide_eq_true e]; exact hz)
    unfold cntA
    rw [List.countP_cons]
    by_cases e : y = x
    · subst e
      have := no y nd.1
      unfold cntA at this
      rw [this, decide_eq_true rfl]
      rfl
    · have hx : x ∈ ys := (List.mem_cons.mp h).resolve_left (fun q => e q.symm)
      have := cntA_one nd.2 hx
      unfold cntA at this
      rw [this, decide_eq_false e]
      rfl
theorem idxA_get {ys : List α} {x : α} (h : x ∈ ys) : ys[idxA x ys]? = some x := by
  have hl : idxA x ys < ys.length := List.findIdx_lt_length_of_exists ⟨x, h, decide_eq_true rfl⟩
  rw [List.getElem?_eq_getElem hl]
  exact congrArg some (of_decide_eq_true (List.findIdx_getElem (p := fun z => decide (z = x)) (w := hl)))
theorem wm_count (enc : α → PyData) [EncI enc] [ShpI enc n] {x : α} {ys : List α} (ha : Any O a (.list (ys.map enc))) (hb : Any O b (enc x)) (k : Φ (.fr (.int (cntA x ys : Nat))) O) (hn : n + 1 ≤ 64 := by decide) : Wm c Γ O (rCountD c.K) a [b] Φ :=
  fun Hs F H σ I be x' xs hx hxs Q q => by
    obtain ⟨y, rfl, hy⟩ := hxs.one
    have d1 := ha.da I hx
    have d2 := hb.da I hy
    cases d1 with
    | lst h1 h2 =>
      refine ⟨_, y, enc x, ys.map enc, rfl, rfl, Da.dp _ _ (.lst h1 h2), Da.dp _ _ d2, (ShpI.shp (enc := lsD enc) ys).sh hn, (ShpI.shp x).sh (by omega), ?_⟩
      have e : (ys.map enc).countP (fun z => PyData.eqv z (enc x)) = cntA x ys := by
        rw [List.countP_map]
        unfold cntA
        congr 1
        funext z
        simp [Function.comp, EncI.eqv]
      rw [e]
      exact q _ F H _ O k I (Gr.refl _ _ _ _) (Da.int _)
theorem wm_index (enc : α → PyData) [EncI enc] [ShpI enc n] {x : α} {ys : List α} (ha : Any O a (.list (ys.map enc))) (hb : Any O b (enc x)) (hx : x ∈ ys) (k : Φ (.fr (.int (idxA x ys : Nat))) O) (hn : n + 1 ≤ 64 := by decide) : Wm c Γ O (rIndexD c.K) a [b] Φ :=
  fun Hs F H σ I be x' xs hx' hxs Q q => by
    obtain ⟨y, rfl, hy⟩ := hxs.one
    have d1 := ha.da I hx'
    have d2 := hb.da I hy
    cases d1 with
    | lst h1 h2 =>
      have hj : idxA x ys < ys.length := List.findIdx_lt_length_of_exists ⟨x, hx, decide_eq_true rfl⟩
      refine ⟨_, y, enc x, ys.map enc, idxA x ys, enc x, rfl, rfl, Da.dp _ _ (.lst h1 h2), Da.dp _ _ d2, (ShpI.shp (enc := lsD enc) ys).sh hn, (ShpI.shp x).sh (by omega), ?_, by rw [EncI.eqv]; simp, fun m z' hm hz => ?_, q _ F H _ O k I (Gr.refl _ _ _ _) (Da.int _)⟩
      · rw [List.getElem?_map, idxA_get hx]
        rfl
      · rw [List.getElem?_map] at hz
        have hml : m < ys.length := by omega
        rw [List.getElem?_eq_getElem hml] at hz
        cases Option.some.inj hz
        rw [EncI.eqv]
        exact decide_eq_false fun e => by
          have z := List.not_of_lt_findIdx (p := fun z => decide (z = x)) (xs := ys) (i := m) hm
          simp [e] at z
end
end DL

/-! DL18: a < b < c < d. -/
namespace DL
open PySem PySem.Spec PyProof.Rows L2
def tChain3 (r1 r2 r3 : R2) (ta tb tc td : TE) : TE := fun σ H Q => ta σ H fun x H1 => tb σ H1 fun y H2 => r1 x y H2 fun z H3 => ∃ k, z = .bl k ∧
  (if k = true then tc σ H3 fun w H4 => r2 y w H4 fun z2 H5 => ∃ k2, z2 = .bl k2 ∧ (if k2 = true then td σ H5 fun g H6 => r3 w g H6 Q else Q (.bl false) H5) else Q (.bl false) H3)
section
variable {X : Cx} {o1 o2 o3 : CmpOp} {r1 r2 r3 : R2} {e1 e2 e3 e4 : Expr} {ta tb tc td : TE} {pos : Pos}
theorem pe_chain3 (h1 : OpR X (compareOp o1) r1) (h2 : OpR X (compareOp o2) r2) (h3 : OpR X (compareOp o3) r3) (ha : PE X e1 ta) (hb : PE X e2 tb) (hc : PE X e3 tc) (hd : PE X e4 td)
    (hm : lastMarks [o1, o2, o3] [e2, e3, e4] = false := by with_unfolding_all rfl) : PE X (.Compare e1 [o1, o2, o3] [e2, e3, e4] pos) (tChain3 r1 r2 r3 ta tb tc td) := by
  refine ⟨fun pins s0 σ H0 Q I0 hw => ?_⟩
  refine Compare_chain (thn (ha.run pins s0 σ H0 _ I0 hw) fun v1 s1 ⟨x, H1, I1, q1, p1⟩ => chain_link (thn (hb.run pins s1 σ H1 _ I1 p1) fun v2 s2 ⟨y, H2, I2, q2, p2⟩ =>
    thn (h1 pins s2 σ H2 x y v1 v2 _ I2 q1 q2 p2) fun d s3 ⟨z, H3, I3, q3, k, ek, p3⟩ => ?_)) hm
  subst ek
  cases q3
  refine wpAny_truthy_bool ?_
  cases k with
  | false => exact ite_ff ⟨.bl false, H3, I3, rfl, p3⟩
  | true =>
    refine ite_tt (chain_link (thn (hc.run pins s3 σ H3 _ I3 p3) fun v4 s4 ⟨w, H4, I4, q4, p4⟩ => thn (h2 pins s4 σ H4 y w v2 v4 _ I4 q2 q4 p4) fun d2 s5 ⟨z2, H5, I5, q5, k2, ek2, p5⟩ => ?_))
    subst ek2
    cases q5
    refine wpAny_truthy_bool ?_
    cases k2 with
    | false => exact ite_ff ⟨.bl false, H5, I5, rfl, p5⟩
    | true => exact ite_tt (chain_last (thn (hd.run pins s5 σ H5 _ I5 p5) fun v6 s6 ⟨g, H6, I6, q6, p6⟩ => h3 pins s6 σ H6 w g v4 v6 Q I6 q4 q6 p6))
end
section
variable {c : Cn} {Γ : List Sl} {O : OL} {ta tb tc td : TE} {Φ : Res → OL → Prop}
theorem we_chain3 {r1 r2 r3 : R2} (h : We c Γ O ta fun a O1 => We c Γ O1 tb fun b O2 => Wo c Γ O2 r1 a b fun z O3 => ∃ k, Any O3 z (.bool k) ∧ if k = true then ∃ bd, Any O2 b bd ∧ lf bd = true ∧ We c Γ O3 tc fun e O4 => Wo c Γ O4 r2 (.fr bd) e fun z2 O5 => ∃ k2, Any O5 z2 (.bool k2) ∧
      (if k2 = true then ∃ ed, Any O4 e ed ∧ lf ed = true ∧ We c Γ O5 td fun g O6 => Wo c Γ O6 r3 (.fr ed) g Φ else Φ (.fr (.bool false)) O5) else Φ (.fr (.bool false)) O3) :
    We c Γ O (tChain3 r1 r2 r3 ta tb tc td) Φ := fun F H σ I Q q =>
  h F H σ I _ fun x F1 H1 a O1 p I1 g1 ra => p.then I1 g1 fun y F2 H2 b O2 p2 I2 g2 g12 rb => p2 H F2 H2 σ I2 g2.be x y (ra.gr g12) rb _ fun z F3 H3 r3 O3 p3 I3 g3 r4 => by
    obtain ⟨k, ka, p3⟩ := p3
    refine ⟨k, ka.bool I3 r4, ?_⟩
    cases k with
    | false => exact q _ F3 H3 _ O3 p3 I3 (g2.trans g3) (Da.bl false)
    | true =>
      obtain ⟨bd, kb, kl, p3⟩ := p3
      have y3 : Da F3 y bd := daM g3.ff _ _ (daT I2.ft _ _ kl (kb.da I2 rb))
      exact We.then I3 (g2.trans g3) p3 fun w F4 H4 e O4 p4 I4 g4 g34 re => p4 H F4 H4 σ I4 g4.be y w (daM g34.ff _ _ y3) re _ fun z2 F5 H5 r5 O5 p5 I5 g5 r6 => by
        obtain ⟨k2, ka2, p5⟩ := p5
        refine ⟨k2, ka2.bool I5 r6, ?_⟩
        cases k2 with
        | false => exact q _ F5 H5 _ O5 p5 I5 (g4.trans g5) (Da.bl false)
        | true =>
          obtain ⟨ed, ke, kl2, p5⟩ := p5
          have w5 : Da F5 w ed := daM g5.ff _ _ (daT I4.ft _ _ kl2 (ke.da I4 re))
          exact We.then I5 (g4.trans g5) p5 fun g F6 H6 u O6 p6 I6 g6 g56 rg => p6 H F6 H6 σ I6 g6.be w g (daM g56.ff _ _ w5) rg Q fun v F7 H7 r7 O7 p7 I7 g7 r8 => q v F7 H7 r7 O7 p7 I7 (g6.trans g7) r8
/-- of whole numbers -/
theorem we_ch3 {ra rb rc : R2} {i j k l : Int} {A B C : Prop} [Decidable A] [Decidable B] [Decidable C] (h1 : We c Γ O ta fun a O' => O' = O ∧ a = .fr (.int i)) (h2 : We c Γ O tb fun b O' => O' = O ∧ b = .fr (.int j)) (h3 : We c Γ O tc fun b O' => O' = O ∧ b = .fr (.int k)) (h4 : We c Γ O td fun b O' => O' = O ∧ b = .fr (.int l))
    (o1 : ∀ Ψ : Res → OL → Prop, Ψ (.fr (.bool (decide A))) O → Wo c Γ O ra (.fr (.int i)) (.fr (.int j)) Ψ) (o2 : ∀ Ψ : Res → OL → Prop, Ψ (.fr (.bool (decide B))) O → Wo c Γ O rb (.fr (.int j)) (.fr (.int k)) Ψ) (o3 : ∀ Ψ : Res → OL → Prop, Ψ (.fr (.bool (decide C))) O → Wo c Γ O rc (.fr (.int k)) (.fr (.int l)) Ψ)
    (z : Φ (.fr (.bool (decide (A ∧ B ∧ C)))) O) : We c Γ O (tChain3 ra rb rc ta tb tc td) Φ :=
  we_chain3 (h1.imp fun a O1 ⟨e1, e2⟩ => by
    subst e1 e2
    refine h2.imp fun b O2 ⟨e1, e2⟩ => ?_
    subst e1 e2
    refine o1 _ ⟨_, Any.fr, ?_⟩
    by_cases hA : A
    · rw [decide_eq_true hA, if_pos rfl]
      refine ⟨.int j, Any.fr, rfl, h3.imp fun e O3 ⟨e1, e2⟩ => ?_⟩
      subst e1 e2
      refine o2 _ ⟨_, Any.fr, ?_⟩
      by_cases hB : B
      · rw [decide_eq_true hB, if_pos rfl]
        refine ⟨.int k, Any.fr, rfl, h4.imp fun g O4 ⟨e1, e2⟩ => ?_⟩
        subst e1 e2
        refine o3 _ ?_
        rw [show decide (A ∧ B ∧ C) = decide C by simp [hA, hB]] at z
        exact z
      · rw [decide_eq_false hB, if_neg (by decide)]
        rw [show decide (A ∧ B ∧ C) = false by simp [hB]] at z
        exact z
    · rw [decide_eq_false hA, if_neg (by decide)]
      rw [show decide (A ∧ B ∧ C) = false by simp [hA]] at z
      exact z)
end
end DL

/-! DL19: plain: ties that meet, counted; names changed. -/
namespace DL
open PySem PySem.Spec PyProof.Rows L2
theorem snoc_ind {α : Type} {P : List α → Prop} (h0 : P []) (hs : ∀ xs x, P xs → P (xs ++ [x])) (xs : List α) : P xs := by
  rw [← List.reverse_reverse xs]
  induction xs.reverse with
  | nil => exact h0
  | cons x ys ih => rw [List.reverse_cons]; exact hs _ _ ih
theorem len_flat {α β : Type} (f : α → List β) (xs : List α) : ((xs.flatMap f).length : Int) = Sm xs fun x => ((f x).length : Int) := by
  induction xs with
  | nil => rfl
  | cons x xs ih => rw [List.flatMap_cons, List.length_append, sm_cons, ← ih]; omega
theorem getP_app {xs : List (Int × Int)} {p : Int × Int} {i : Int} (h0 : 0 ≤ i) (h : i < xs.length) : getP (xs ++ [p]) i = getP xs i := by
  unfold getP
  rw [List.getD_eq_getElem?_getD, List.getD_eq_getElem?_getD, List.getElem?_append_left (by omega)]
theorem getP_last {xs : List (Int × Int)} {p : Int × Int} : getP (xs ++ [p]) xs.length = p := by
  unfold getP
  rw [List.getD_eq_getElem?_getD]
  have e : ((xs.length : Int)).toNat = xs.length := by omega
  rw [e, List.getElem?_append_right (Nat.le_refl _)]
  simp
theorem map_getP (xs : List (Int × Int)) : (rngI 0 xs.length).map (getP xs) = xs := by
  apply List.ext_getElem?
  intro k
  by_cases h : k < xs.length
  · have h1 := rng_get (n := xs.length) (f := getP xs) (i := (k : Int)) (by omega) (by omega)
    have h2 := getP_some (xs := xs) (i := (k : Int)) (by omega) (by omega)
    have e : ((k : Int)).toNat = k := by omega
    rw [e] at h1 h2
    rw [h1, h2]
  · rw [List.getElem?_eq_none (by rw [List.length_map, rngI_len]; omega), List.getElem?_eq_none (by omega)]
def meetI (q p : Int × Int) : Int := if meet q p = true then 1 else 0
theorem jns_snoc (ts : List (Int × Int)) (p : Int × Int) : ((jns (ts ++ [p])).length : Int) = (jns ts).length + Sm ts fun q => meetI q p := by
  have hl : ((ts ++ [p]).length : Int) = ts.length + 1 := by rw [List.length_append]; simp
  unfold jns jnsTo
  rw [len_flat, len_flat, hl, rngI_app (b := ts.length) (by omega) (by omega), sm_app]
  have e1 : Sm (rngI ts.length (ts.length + 1)) (fun x => ((((jnsRow (ts ++ [p]) x).map fun b => (x, b)).length : Nat) : Int)) = 0 := sm_zero fun x hx => by
    have hx := mem_rngI.mp hx
    unfold jnsRow
    rw [hl, List.length_map]
    have : rngI (x + 1) ((ts.length : Int) + 1) = [] := List.eq_nil_of_length_eq_zero (by rw [rngI_len]; omega)
    rw [this]
    rfl
  rw [e1, Int.add_zero]
  have e2 : Sm (rngI 0 ts.length) (fun x => ((((jnsRow (ts ++ [p]) x).map fun b => (x, b)).length : Nat) : Int)) = Sm (rngI 0 ts.length) fun x => ((((jnsRow ts x).map fun b => (x, b)).length : Nat) : Int) + meetI (getP ts x) p := sm_congr fun x hx => by
    have hx := mem_rngI.mp hx
    unfold jnsRow
    rw [hl, List.length_map, List.length_map, rngI_app (b := ts.length) (by omega) (by omega), List.filter_append, List.length_append]
    have e3 : (rngI (x + 1) ts.length).filter (fun j => meet (getP (ts ++ [p]) x) (getP (ts ++ [p]) j)) = (rngI (x + 1) ts.length).filter fun j => meet (getP ts x) (getP ts j) := List.filter_congr fun j hj => by
      have hj := mem_rngI.mp hj
      rw [getP_app hx.1 hx.2, getP_app (by omega) hj.2]
    have e4 : rngI (ts.length : Int) (ts.length + 1) = [(ts.length : Int)] := by
      unfold rngI
      have : ((ts.length : Int) + 1 - ts.length).toNat = 1 := by omega
      rw [this]
      simp
    rw [e3, e4, List.filter_cons, List.filter_nil, getP_app hx.1 hx.2, getP_last]
    unfold meetI
    by_cases h : meet (getP ts x) p = true
    · rw [if_pos h, if_pos h]; simp
    · rw [if_neg h, if_neg h]; simp
  rw [e2, sm_add]
  congr 1
  conv => rhs; rw [← map_getP ts]
  rw [sm_map]
/-- the place v is one of the two -/
def hs (p : Int × Int) (v : Int) : Prop := v = p.1 ∨ v = p.2
theorem meet_iff {p q : Int × Int} : meet p q = true ↔ ∃ v, hs p v ∧ hs q v := by
  unfold meet hs
  rw [Bool.or_eq_true, decide_eq_true_eq, decide_eq_true_eq]
  constructor
  · rintro (h | h)
    · exact ⟨p.1, .inl rfl, h⟩
    · exact ⟨p.2, .inr rfl, h⟩
  · rintro ⟨v, rfl | rfl, h⟩
    · exact .inl h
    · exact .inr h
theorem meet_comm (p q : Int × Int) : meet p q = meet q p := by
  rw [Bool.eq_iff_iff, meet_iff, meet_iff]
  exact ⟨fun ⟨v, a, b⟩ => ⟨v, b, a⟩, fun ⟨v, a, b⟩ => ⟨v, b, a⟩⟩
def incI (p : Int × Int) (v : Int) : Int := (if p.1 = v then 1 else 0) + (if p.2 = v then 1 else 0)
/-- what two ties have in common, summed over the places -/
theorem com_sum {n : Int} {p q : Int × Int} (hp : 0 ≤ p.1 ∧ p.1 < p.2 ∧ p.2 < n) (hq : 0 ≤ q.1 ∧ q.1 < q.2 ∧ q.2 < n) (ne : p ≠ q) : Sm (rngI 0 n) (fun v => incI q v * incI p v) = meetI q p := by
  have e : ∀ v, incI q v * incI p v = (if v = q.1 then incI p v else 0) + (if v = q.2 then incI p v else 0) := fun v => by
    unfold incI
    rw [Int.add_mul]
    congr 1
    · by_cases h : q.1 = v
      · rw [if_pos h, if_pos h.symm, Int.one_mul]
      · rw [if_neg h, if_neg (Ne.symm h), Int.zero_mul]
    · by_cases h : q.2 = v
      · rw [if_pos h, if_pos h.symm, Int.one_mul]
      · rw [if_neg h, if_neg (Ne.symm h), Int.zero_mul]
  rw [sm_congr fun v _ => e v, sm_add, sm_one (rngI_nodup _ _) (mem_rngI.mpr (by omega)) (incI p), sm_one (rngI_nodup _ _) (mem_rngI.mpr (by omega)) (incI p)]
  have ne : ¬ (p.1 = q.1 ∧ p.2 = q.2) := fun h => ne (Prod.ext h.1 h.2)
  unfold incI meetI meet
  simp only [Bool.or_eq_true, decide_eq_true_eq]
  repeat' split
  all_goals omega
theorem inc_sum {n : Int} {p : Int × Int} (hp : 0 ≤ p.1 ∧ p.1 < p.2 ∧ p.2 < n) : Sm (rngI 0 n) (incI p) = 2 ∧ ∀ v, incI p v * incI p v = incI p v := by
  constructor
  · have e : ∀ v, incI p v = (if v = p.1 then 1 else 0) + (if v = p.2 then 1 else 0) := fun v => by
      unfold incI
      congr 1
      · by_cases h : p.1 = v
        · rw [if_pos h, if_pos h.symm]
        · rw [if_neg h, if_neg (Ne.symm h)]
      · by_cases h : p.2 = v
        · rw [if_pos h, if_pos h.symm]
        · rw [if_neg h, if_neg (Ne.symm h)]
    rw [sm_congr fun v _ => e v, sm_add, sm_one (rngI_nodup _ _) (mem_rngI.mpr (by omega)) fun _ => 1, sm_one (rngI_nodup _ _) (mem_rngI.mpr (by omega)) fun _ => 1]
    rfl
  · intro v
    unfold incI
    by_cases h1 : p.1 = v
    · rw [if_pos h1, if_neg (by omega)]; rfl
    · rw [if_neg h1]
      split <;> rfl
/-! names changed -/
theorem hs_tie {a b v : Int} : hs (tieI a b) v ↔ v = a ∨ v = b := by
  unfold hs tieI
  simp only
  omega
theorem hs_ren {nm : List Int} {p : Int × Int} {v : Int} : hs (renP nm p) v ↔ ∃ u, hs p u ∧ v = getI nm u := by
  unfold renP
  rw [hs_tie]
  constructor
  · rintro (h | h)
    · exact ⟨p.1, .inl rfl, h⟩
    · exact ⟨p.2, .inr rfl, h⟩
  · rintro ⟨u, rfl | rfl, h⟩
    · exact .inl h
    · exact .inr h
theorem meet_ren {n : Int} {nm : List Int} (hn : nm.Perm (rngI 0 n)) {p q : Int × Int} (hp : 0 ≤ p.1 ∧ p.1 < p.2 ∧ p.2 < n) (hq : 0 ≤ q.1 ∧ q.1 < q.2 ∧ q.2 < n) : meet (renP nm p) (renP nm q) = meet p q := by
  have bd : ∀ {p : Int × Int}, (0 ≤ p.1 ∧ p.1 < p.2 ∧ p.2 < n) → ∀ u, hs p u → 0 ≤ u ∧ u < n := fun {p} h u hu => by unfold hs at hu; omega
  rw [Bool.eq_iff_iff, meet_iff, meet_iff]
  constructor
  · rintro ⟨v, h1, h2⟩
    obtain ⟨u, hu, e1⟩ := hs_ren.mp h1
    obtain ⟨t, ht, e2⟩ := hs_ren.mp h2
    have := names_inj hn (bd hp u hu) (bd hq t ht) (by rw [← e1, ← e2])
    subst this
    exact ⟨u, hu, ht⟩
  · rintro ⟨u, h1, h2⟩
    exact ⟨getI nm u, hs_ren.mpr ⟨u, h1, rfl⟩, hs_ren.mpr ⟨u, h2, rfl⟩⟩
theorem ren_inj {n : Int} {nm : List Int} (hn : nm.Perm (rngI 0 n)) {p q : Int × Int} (hp : 0 ≤ p.1 ∧ p.1 < p.2 ∧ p.2 < n) (hq : 0 ≤ q.1 ∧ q.1 < q.2 ∧ q.2 < n) (e : renP nm p = renP nm q) : p = q := by
  unfold renP at e
  rcases tieI_inj e with ⟨e1, e2⟩ | ⟨e1, e2⟩
  · exact Prod.ext (names_inj hn (by omega) (by omega) e1) (names_inj hn (by omega) (by omega) e2)
  · have h1 := names_inj hn (by omega) (by omega) e1
    have h2 := names_inj hn (by omega) (by omega) e2
    omega
def agn (nm : List Int) (ts : List (Int × Int)) : List (Int × Int) := srt (ts.map (renP nm))
def odr (nm : List Int) (ts : List (Int × Int)) : List Int := ts.map fun p => ((idxA (renP nm p) (agn nm ts) : Nat) : Int)
theorem agn_mem {nm : List Int} {ts : List (Int × Int)} {p : Int × Int} (h : p ∈ ts) : renP nm p ∈ agn nm ts := mem_srt.mpr (List.mem_map.mpr ⟨p, h, rfl⟩)
theorem odr_get {nm : List Int} {ts : List (Int × Int)} {i : Int} (h0 : 0 ≤ i) (h1 : i < ts.length) : (0 ≤ getI (odr nm ts) i ∧ getI (odr nm ts) i < ts.length) ∧ getP (agn nm ts) (getI (odr nm ts) i) = renP nm (getP ts i) := by
  have hm := agn_mem (nm := nm) (getP_mem h0 h1)
  have hi := idxA_get hm
  have e : getI (odr nm ts) i = ((idxA (renP nm (getP ts i)) (agn nm ts) : Nat) : Int) := by
    have h2 := getI_some (xs := odr nm ts) h0 (by unfold odr; rw [List.length_map]; exact h1)
    unfold odr at h2
    rw [List.getElem?_map, getP_some h0 h1] at h2
    exact (Option.some.inj h2).symm
  have hl := (List.getElem?_eq_some_iff.mp hi).1
  have hal : (agn nm ts).length = ts.length := by unfold agn; rw [srt_len, List.length_map]
  rw [e]
  refine ⟨by omega, ?_⟩
  have h3 := getP_some (xs := agn nm ts) (i := ((idxA (renP nm (getP ts i)) (agn nm ts) : Nat) : Int)) (by omega) (by omega)
  rw [Int.toNat_natCast, hi] at h3
  exact (Option.some.inj h3).symm
theorem getP_inj {xs : List (Int × Int)} (nd : xs.Nodup) {i j : Int} (hi : 0 ≤ i ∧ i < xs.length) (hj : 0 ≤ j ∧ j < xs.length) (e : getP xs i = getP xs j) : i = j := by
  have h1 := getP_some hi.1 hi.2
  have h2 := getP_some hj.1 hj.2
  rw [e, ← h2] at h1
  have := (List.getElem?_inj (by omega) nd).mp h1
  omega
theorem ren_jns {n : Int} {nm : List Int} {ts : List (Int × Int)} (hn : nm.Perm (rngI 0 n)) (w : Web n ts) : jns (agn nm ts) = srt ((jns ts).map (renP (odr nm ts))) := by
  have hal : (agn nm ts).length = ts.length := by unfold agn; rw [srt_len, List.length_map]
  have wa : Web n (agn nm ts) := web_ren hn w.asc.nodup w.ok (srt_perm _) (srt_sorted _)
  have okg : ∀ {i : Int}, 0 ≤ i → i < ts.length → 0 ≤ (getP ts i).1 ∧ (getP ts i).1 < (getP ts i).2 ∧ (getP ts i).2 < n := fun h0 h1 => w.ok _ (getP_mem h0 h1)
  have oinj : ∀ {i j : Int}, 0 ≤ i → i < ts.length → 0 ≤ j → j < ts.length → getI (odr nm ts) i = getI (odr nm ts) j → i = j := fun {i j} a b c d e => by
    have h1 := (odr_get (nm := nm) a b).2
    have h2 := (odr_get (nm := nm) c d).2
    rw [e] at h1
    exact getP_inj w.asc.nodup ⟨a, b⟩ ⟨c, d⟩ (ren_inj hn (okg a b) (okg c d) (h1.symm.trans h2))
  have nd : ((jns ts).map (renP (odr nm ts))).Nodup := by
    refine List.pairwise_map.mpr ((web_jns ts).asc.nodup.imp_of_mem fun {p q} hp hq ne e => ne ?_)
    have h1 := (web_jns ts).ok p hp
    have h2 := (web_jns ts).ok q hq
    rcases tieI_inj e with ⟨e1, e2⟩ | ⟨e1, e2⟩
    · exact Prod.ext (oinj (by omega) (by omega) (by omega) (by omega) e1) (oinj (by omega) (by omega) (by omega) (by omega) e2)
    · have := oinj (by omega) (by omega) (by omega) (by omega) e1
      have := oinj (by omega) (by omega) (by omega) (by omega) e2
      omega
  refine asc_ext (web_jns _).asc (asc_srt nd) fun p => ?_
  rw [mem_srt, List.mem_map, mem_jns]
  have find : ∀ {x : Int}, 0 ≤ x → x < ts.length → ∃ i : Int, 0 ≤ i ∧ i < ts.length ∧ getI (odr nm ts) i = x ∧ getP (agn nm ts) x = renP nm (getP ts i) := fun {x} a b => by
    have hm := getP_mem (xs := agn nm ts) a (by omega)
    obtain ⟨q, hq, e⟩ := List.mem_map.mp (mem_srt.mp hm)
    obtain ⟨k, hk⟩ := List.getElem?_of_mem hq
    have hkl := (List.getElem?_eq_some_iff.mp hk).1
    have eq : getP ts (k : Int) = q := by
      have := getP_some (xs := ts) (i := (k : Int)) (by omega) (by omega)
      rw [Int.toNat_natCast, hk] at this
      exact (Option.some.inj this).symm
    have ho := odr_get (nm := nm) (ts := ts) (i := (k : Int)) (by omega) (by omega)
    refine ⟨k, by omega, by omega, ?_, by rw [eq, e]⟩
    exact getP_inj wa.asc.nodup ⟨ho.1.1, by omega⟩ ⟨a, by omega⟩ (by rw [ho.2, eq, e])
  constructor
  · rintro ⟨h1, h2, h3, h4⟩
    obtain ⟨i, i0, i1, ei, gi⟩ := find h1 (by omega)
    obtain ⟨j, j0, j1, ej, gj⟩ := find (x := p.2) (by omega) (by omega)
    rw [gi, gj, meet_ren hn (okg i0 i1) (okg j0 j1)] at h4
    have hne : i ≠ j := fun e => by subst e; omega
    by_cases hij : i < j
    · refine ⟨(i, j), mem_jns.mpr ⟨i0, hij, j1, h4⟩, ?_⟩
      show tieI (getI (odr nm ts) i) (getI (odr nm ts) j) = p
      rw [ei, ej, tieI_lt h2]
    · refine ⟨(j, i), mem_jns.mpr ⟨j0, by simp only; omega, i1, by rw [meet_comm]; exact h4⟩, ?_⟩
      show tieI (getI (odr nm ts) j) (getI (odr nm ts) i) = p
      rw [ei, ej, tieI_gt h2]
  · rintro ⟨q, hq, rfl⟩
    obtain ⟨h1, h2, h3, h4⟩ := mem_jns.mp hq
    have o1 := odr_get (nm := nm) (ts := ts) (i := q.1) h1 (by omega)
    have o2 := odr_get (nm := nm) (ts := ts) (i := q.2) (by omega) h3
    have hne : getI (odr nm ts) q.1 ≠ getI (odr nm ts) q.2 := fun e => by
      have := oinj h1 (by omega) (by omega) h3 e
      omega
    have hm := meet_ren hn (okg h1 (by omega)) (okg (i := q.2) (by omega) h3)
    show 0 ≤ (tieI _ _).1 ∧ (tieI _ _).1 < (tieI _ _).2 ∧ (tieI _ _).2 < _ ∧ meet (getP _ (tieI _ _).1) (getP _ (tieI _ _).2) = true
    by_cases hlt : getI (odr nm ts) q.1 < getI (odr nm ts) q.2
    · rw [tieI_lt hlt]
      simp only
      rw [o1.2, o2.2, hm]
      exact ⟨o1.1.1, hlt, by omega, h4⟩
    · rw [tieI_gt (by omega)]
      simp only
      rw [o1.2, o2.2, meet_comm, hm]
      exact ⟨o2.1.1, by omega, by omega, h4⟩
end DL

/-! DL20: tests a < b < c < d; >= of pairs; l[::-1]. -/
namespace DL
open PySem PySem.Spec PyProof.Rows L2
section
variable {X : Cx} {o1 o2 o3 : CmpOp} {r1 r2 r3 : R2} {e1 e2 e3 e4 : Expr} {ta tb tc td : TE} {pos : Pos}
theorem pt_chain3 (h1 : OpR X (compareOp o1) r1) (h2 : OpR X (compareOp o2) r2) (h3 : OpR X (compareOp o3) r3) (ha : PE X e1 ta) (hb : PE X e2 tb) (hc : PE X e3 tc) (hd : PE X e4 td)
    (hm : lastMarks [o1, o2, o3] [e2, e3, e4] = false := by with_unfolding_all rfl) : PT X (.Compare e1 [o1, o2, o3] [e2, e3, e4] pos) (tTest (tChain3 r1 r2 r3 ta tb tc td)) := by
  refine ⟨fun pins s0 σ H0 Q I0 hw => ?_⟩
  refine isTrue_chain (thn (ha.run pins s0 σ H0 _ I0 hw) fun v1 s1 ⟨x, H1, I1, q1, p1⟩ => test_link (thn (hb.run pins s1 σ H1 _ I1 p1) fun v2 s2 ⟨y, H2, I2, q2, p2⟩ =>
    thn (h1 pins s2 σ H2 x y v1 v2 _ I2 q1 q2 p2) fun d s3 ⟨z, H3, I3, q3, k, ek, p3⟩ => ?_)) hm
  subst ek
  cases q3
  refine wpAny_truthy_bool ?_
  cases k with
  | false =>
    obtain ⟨k', e', p'⟩ := p3
    cases e'
    exact ite_ff ⟨H3, I3, p'⟩
  | true =>
    refine ite_tt (test_link (thn (hc.run pins s3 σ H3 _ I3 p3) fun v4 s4 ⟨w, H4, I4, q4, p4⟩ => thn (h2 pins s4 σ H4 y w v2 v4 _ I4 q2 q4 p4) fun d2 s5 ⟨z2, H5, I5, q5, k2, ek2, p5⟩ => ?_))
    subst ek2
    cases q5
    refine wpAny_truthy_bool ?_
    cases k2 with
    | false =>
      obtain ⟨k', e', p'⟩ := p5
      cases e'
      exact ite_ff ⟨H5, I5, p'⟩
    | true =>
      refine ite_tt (test_last (thn (hd.run pins s5 σ H5 _ I5 p5) fun v6 s6 ⟨g, H6, I6, q6, p6⟩ => thn (h3 pins s6 σ H6 w g v4 v6 _ I6 q4 q6 p6) fun d3 s7 ⟨z3, H7, I7, q7, k3, ek3, p7⟩ => ?_))
      subst ek3
      cases q7
      exact wpAny_truthy_bool ⟨H7, I7, p7⟩
end
section
variable {c : Cn} {Γ : List Sl} {O : OL} {a b : Res} {ta tb tc : TE} {Φ : Res → OL → Prop}
theorem wo_geP {p q : Int × Int} {u w : Bool} (ha : Tup a [.int p.1, .int p.2] u) (hb : Tup b [.int q.1, .int q.2] w) (k : Φ (.fr (.bool (leB q p))) O) : Wo c Γ O (rGeA c.K) a b Φ :=
  wo_r fun Hs F H σ I be x y hx hy Q qq => by
    obtain ⟨a1, vs, rfl, g1, g2⟩ := ha.da I hx
    obtain ⟨a2, ws, rfl, g3, g4⟩ := hb.da I hy
    have e1 : vs = [p.1, p.2].map V.int := das_int (ns := [p.1, p.2]) g2
    have e2 : ws = [q.1, q.2].map V.int := das_int (ns := [q.1, q.2]) g4
    subst e1 e2
    refine ⟨a1, a2, [p.1, p.2], [q.1, q.2], rfl, rfl, SqT.of g1, SqT.of g3, ?_⟩
    have e : Ob.lexAt (fun j => decide (([p.1, p.2] : List Int).getD j 0 = ([q.1, q.2] : List Int).getD j 0)) (fun j => decide (([q.1, q.2] : List Int).getD j 0 ≤ ([p.1, p.2] : List Int).getD j 0)) (decide (([p.1, p.2] : List Int).length ≥ ([q.1, q.2] : List Int).length)) 0 (min ([p.1, p.2] : List Int).length ([q.1, q.2] : List Int).length) = leB q p := by
      show Ob.lexAt _ _ _ 0 2 = _
      unfold leB
      simp only [Ob.lexAt, List.getD_cons_zero, List.getD_cons_succ]
      by_cases h1 : p.1 = q.1
      · by_cases h2 : p.2 = q.2
        · simp [h1, h2]
        · simp [h1, h2]
      · have h2 : ¬ q.1 = p.1 := fun e => h1 e.symm
        rw [decide_eq_false h1, decide_eq_false h2, if_neg (by decide), Bool.false_and, Bool.or_false, decide_eq_decide]
        omega
    rw [e]
    exact qq _ F H _ O k I (Gr.refl _ _ _ _) (Da.bl _)
theorem we_revL (h : We c Γ O ta fun a O1 => ∃ ds, Seq O1 a ds true ∧ Φ (.nw ds.reverse) O1) : We c Γ O (tRevL c.K ta) Φ := fun F H σ I Q q =>
  h F H σ I _ fun x F1 H1 a O1 p I1 g1 ra => by
    obtain ⟨ds, hs, p⟩ := p
    obtain ⟨l, vs, rfl, h1, h2⟩ := hs.da I1 ra
    refine ⟨l, vs, rfl, SqL.of h1, fun n hn => ?_⟩
    obtain ⟨I2, g2⟩ := I1.newL (Hs := H) hn vs.reverse
    exact q _ _ _ _ O1 p I2 (g1.trans g2) ⟨n, _, rfl, ⟨upd_same, I1.fh.free hn, I1.notKey hn, I1.h0none hn, g1.be n hn⟩, das_rev h2⟩
/-- of whole numbers -/
theorem we_ch2 {ra rb : R2} {i j k : Int} {A B : Prop} [Decidable A] [Decidable B] (h1 : We c Γ O ta fun a O' => O' = O ∧ a = .fr (.int i)) (h2 : We c Γ O tb fun b O' => O' = O ∧ b = .fr (.int j)) (h3 : We c Γ O tc fun b O' => O' = O ∧ b = .fr (.int k))
    (o1 : ∀ Ψ : Res → OL → Prop, Ψ (.fr (.bool (decide A))) O → Wo c Γ O ra (.fr (.int i)) (.fr (.int j)) Ψ) (o2 : ∀ Ψ : Res → OL → Prop, Ψ (.fr (.bool (decide B))) O → Wo c Γ O rb (.fr (.int j)) (.fr (.int k)) Ψ)
    (z : Φ (.fr (.bool (decide (A ∧ B)))) O) : We c Γ O (tChain ra rb ta tb tc) Φ :=
  we_chain (h1.imp fun a O1 ⟨e1, e2⟩ => by
    subst e1 e2
    refine h2.imp fun b O2 ⟨e1, e2⟩ => ?_
    subst e1 e2
    refine o1 _ ⟨_, Any.fr, ?_⟩
    by_cases hA : A
    · rw [decide_eq_true hA, if_pos rfl]
      refine ⟨.int j, Any.fr, rfl, h3.imp fun e O3 ⟨e1, e2⟩ => ?_⟩
      subst e1 e2
      refine o2 _ ?_
      rw [show decide (A ∧ B) = decide B by simp [hA]] at z
      exact z
    · rw [decide_eq_false hA, if_neg (by decide)]
      rw [show decide (A ∧ B) = false by simp [hA]] at z
      exact z)
end
end DL

/-! DL21: plain: the parts of a web. -/
namespace DL
open PySem PySem.Spec PyProof.Rows L2
open Classical in
/-- the places that are reached from p -/
inductive Rch (ts : List (Int × Int)) (p : Int) : Int → Prop
  | refl : Rch ts p p
  | step {u v : Int} : Rch ts p u → ((u, v) ∈ ts ∨ (v, u) ∈ ts) → Rch ts p v
theorem Rch.trans {ts : List (Int × Int)} {p q : Int} (h : Rch ts p q) : ∀ {r : Int}, Rch ts q r → Rch ts p r
  | _, .refl => h
  | _, .step a b => .step (Rch.trans h a) b
theorem Rch.symm {ts : List (Int × Int)} {p : Int} : ∀ {q : Int}, Rch ts p q → Rch ts q p
  | _, .refl => .refl
  | _, .step a b => Rch.trans (.step .refl b.symm) (Rch.symm a)
/-- each tie joins places of 0 .. n - 1 -/
def InW (n : Int) (ts : List (Int × Int)) : Prop := ∀ p ∈ ts, (0 ≤ p.1 ∧ p.1 < n) ∧ 0 ≤ p.2 ∧ p.2 < n
theorem Web.inw {n : Int} {ts : List (Int × Int)} (w : Web n ts) : InW n ts := fun p hp => by have := w.ok p hp; omega
theorem Rch.bd {n : Int} {ts : List (Int × Int)} (w : InW n ts) {p : Int} (hp : 0 ≤ p ∧ p < n) : ∀ {q : Int}, Rch ts p q → 0 ≤ q ∧ q < n
  | _, .refl => hp
  | _, .step _ (.inl h) => (w _ h).2
  | _, .step _ (.inr h) => (w _ h).1
open Classical in
noncomputable def prt (n : Int) (ts : List (Int × Int)) (p : Int) : List Int := (rngI 0 n).filter fun q => decide (Rch ts p q)
theorem mem_prt {n : Int} {ts : List (Int × Int)} (w : InW n ts) {p : Int} (hp : 0 ≤ p ∧ p < n) {q : Int} : q ∈ prt n ts p ↔ Rch ts p q := by
  unfold prt
  rw [List.mem_filter, mem_rngI]
  simp only [decide_eq_true_eq]
  exact ⟨fun h => h.2, fun h => ⟨h.bd w hp, h⟩⟩
theorem prt_sorted (n : Int) (ts : List (Int × Int)) (p : Int) : (prt n ts p).Pairwise (· < ·) := (rngI_sorted 0 n).sublist List.filter_sublist
theorem prt_len (n : Int) (ts : List (Int × Int)) (p : Int) : (prt n ts p).length ≤ n.toNat := by
  refine Nat.le_trans (List.length_filter_le _ _) ?_
  rw [rngI_len]
  omega
theorem nodup_of_lt {xs : List Int} (h : xs.Pairwise (· < ·)) : xs.Nodup := h.imp fun {a b} q => by omega
/-- a row sorted is the ascending list of the same numbers -/
theorem sortI_eq {us row xs : List Int} (h : us.Perm row) (s : us.Pairwise (· ≤ ·)) (nd : row.Nodup) (sx : xs.Pairwise (· < ·)) (e : ∀ x, x ∈ row ↔ x ∈ xs) : us = xs :=
  List.Perm.eq_of_pairwise (le := fun a b => a ≤ b) (fun a b _ _ h1 h2 => by omega) s (sx.imp fun {a b} q => by omega) (h.trans ((List.perm_ext_iff_of_nodup nd (nodup_of_lt sx)).mpr e))
/-- a row that has all that its places are joined to is the part -/
structure RowI (n : Int) (ts : List (Int × Int)) (p : Int) (row : List Int) : Prop where
  nd : row.Nodup
  st : p ∈ row
  re : ∀ x ∈ row, Rch ts p x
def Clo (ts : List (Int × Int)) (row : List Int) (k : Nat) : Prop := ∀ (i : Nat) (u : Int), i < k → row[i]? = some u → ∀ v, ((u, v) ∈ ts ∨ (v, u) ∈ ts) → v ∈ row
theorem RowI.len {n : Int} {ts : List (Int × Int)} {p : Int} {row : List Int} (w : InW n ts) (hp : 0 ≤ p ∧ p < n) (r : RowI n ts p row) : (row.length : Int) ≤ n := by
  have h := List.Nodup.length_le_of_subset r.nd (l₂ := rngI 0 n) fun x hx => mem_rngI.mpr ((r.re x hx).bd w hp)
  rw [rngI_len] at h
  omega
theorem RowI.all {n : Int} {ts : List (Int × Int)} {p : Int} {row : List Int} (w : InW n ts) (hp : 0 ≤ p ∧ p < n) (r : RowI n ts p row) {k : Nat} (hk : row.length ≤ k) (c : Clo ts row k) : ∀ x, x ∈ row ↔ x ∈ prt n ts p := fun x => by
  rw [mem_prt w hp]
  refine ⟨r.re x, fun h => ?_⟩
  induction h with
  | refl => exact r.st
  | step a b ih =>
    obtain ⟨i, hi⟩ := List.getElem?_of_mem ih
    have hl := (List.getElem?_eq_some_iff.mp hi).1
    exact c i _ (by omega) hi _ b
theorem RowI.one {n : Int} {ts : List (Int × Int)} {p : Int} : RowI n ts p [p] := ⟨List.pairwise_singleton _ _, List.mem_singleton_self _, fun x hx => by rw [List.mem_singleton.mp hx]; exact .refl⟩
theorem RowI.add {n : Int} {ts : List (Int × Int)} {p : Int} {row : List Int} (r : RowI n ts p row) {v : Int} (hv : v ∉ row) (h : Rch ts p v) : RowI n ts p (row ++ [v]) :=
  ⟨List.nodup_append.mpr ⟨r.nd, List.pairwise_singleton _ _, fun x hx y hy e => hv (by rw [← List.mem_singleton.mp hy, ← e]; exact hx)⟩, List.mem_append_left _ r.st, fun x hx => by
    rcases List.mem_append.mp hx with q | q
    · exact r.re x q
    · rw [List.mem_singleton.mp q]; exact h⟩
theorem Clo.grow {ts : List (Int × Int)} {row more : List Int} {k : Nat} (hk : k ≤ row.length) (c : Clo ts row k) : Clo ts (row ++ more) k := fun i u hi hu v hv => by
  rw [List.getElem?_append_left (by omega)] at hu
  exact List.mem_append_left _ (c i u hi hu v hv)
open Classical in
/-- no lesser place is in its part -/
noncomputable def fst (ts : List (Int × Int)) (v : Int) : Bool := decide (∀ u, 0 ≤ u → u < v → ¬ Rch ts u v)
theorem fst_iff {ts : List (Int × Int)} {v : Int} : fst ts v = true ↔ ∀ u, 0 ≤ u → u < v → ¬ Rch ts u v := by
  classical
  unfold fst
  rw [decide_eq_true_eq]
noncomputable def prtsTo (n : Int) (ts : List (Int × Int)) (i : Int) : List (List Int) := ((rngI 0 i).filter (fst ts)).map (prt n ts)
noncomputable def prts (n : Int) (ts : List (Int × Int)) : List (List Int) := prtsTo n ts n
theorem prtsTo_succ {n i : Int} {ts : List (Int × Int)} (h : 0 ≤ i) : prtsTo n ts (i + 1) = prtsTo n ts i ++ if fst ts i = true then [prt n ts i] else [] := by
  unfold prtsTo
  rw [rngI_succ h, List.filter_append, List.map_append]
  congr 1
  by_cases e : fst ts i = true
  · rw [if_pos e]; simp [e]
  · rw [if_neg e]; simp [e]
/-- the least place of a part -/
theorem least {n : Int} {ts : List (Int × Int)} (w : InW n ts) {v : Int} (h0 : 0 ≤ v) (h1 : v < n) : ∃ u, 0 ≤ u ∧ u ≤ v ∧ fst ts u = true ∧ Rch ts u v := by
  have key : ∀ k : Nat, ∀ v : Int, v.toNat ≤ k → 0 ≤ v → ∃ u, 0 ≤ u ∧ u ≤ v ∧ fst ts u = true ∧ Rch ts u v := fun k => by
    induction k with
    | zero =>
      intro v hk h0
      exact ⟨v, h0, Int.le_refl _, fst_iff.mpr fun u a b => by omega, .refl⟩
    | succ k ih =>
      intro v hk h0
      by_cases e : fst ts v = true
      · exact ⟨v, h0, Int.le_refl _, e, .refl⟩
      · have : ¬ ∀ u, 0 ≤ u → u < v → ¬ Rch ts u v := fun h => e (fst_iff.mpr h)
        have : ∃ u, 0 ≤ u ∧ u < v ∧ Rch ts u v := Classical.byContradiction fun h => this fun u a b c => h ⟨u, a, b, c⟩
        obtain ⟨u, a, b, c⟩ := this
        obtain ⟨x, x0, x1, x2, x3⟩ := ih u (by omega) a
        exact ⟨x, x0, by omega, x2, x3.trans c⟩
  exact key v.toNat v (Nat.le_refl _) h0
/-- a place stands in a part made before, if it is not the first of its own -/
theorem in_prts {n : Int} {ts : List (Int × Int)} (w : InW n ts) {v : Int} (h0 : 0 ≤ v) (h1 : v < n) : (prtsTo n ts v).any (fun q => decide (v ∈ q)) = !fst ts v := by
  rw [Bool.eq_iff_iff, List.any_eq_true]
  constructor
  · rintro ⟨q, hq, hv⟩
    obtain ⟨u, hu, rfl⟩ := List.mem_map.mp hq
    obtain ⟨hu, hf⟩ := List.mem_filter.mp hu
    have hu := mem_rngI.mp hu
    have hr := (mem_prt w ⟨hu.1, by omega⟩).mp (of_decide_eq_true hv)
    rw [Bool.not_eq_true', Bool.eq_false_iff]
    exact fun h => fst_iff.mp h u hu.1 hu.2 hr
  · intro h
    rw [Bool.not_eq_true'] at h
    obtain ⟨u, u0, u1, u2, u3⟩ := least w h0 h1
    have hne : u ≠ v := fun e => by subst e; rw [h] at u2; cases u2
    exact ⟨prt n ts u, List.mem_map.mpr ⟨u, List.mem_filter.mpr ⟨mem_rngI.mpr ⟨u0, by omega⟩, u2⟩, rfl⟩, decide_eq_true ((mem_prt w ⟨u0, by omega⟩).mpr u3)⟩
theorem prtsTo_len (n : Int) (ts : List (Int × Int)) (i : Int) : (prtsTo n ts i).length ≤ i.toNat := by
  unfold prtsTo
  rw [List.length_map]
  refine Nat.le_trans (List.length_filter_le _ _) ?_
  rw [rngI_len]
  omega
end DL

/-! DL22: comprehensions over a name's own list. -/
namespace DL
open PySem PySem.Spec PyProof.Rows L2
section
variable {c : Cn} {Γ : List Sl} {O : OL} {te : TE} {Φ : Res → OL → Prop}
/-- [e for x in o if t], o a name's own list -/
theorem we_lcfO {α : Type} {g : TG} {tt : TT} {vs : List Nat} {i : Nat} {a : Addr} (enc : α → PyData) {xs : List α} (ix : List Nat) (hs : Γ[i]? = some (.pt a)) (hm : (a, Ob.l (xs.map enc)) ∈ O) (hl : xs.length ≤ 1000000) (p : α → Bool) (f : α → PyData)
    (step : ∀ x, x ∈ xs → Wg c (wipeG Γ vs) O g ix (.fr (enc x)) fun Γ2 => Wt c Γ2 O tt fun b O2 => O2 = O ∧ b = p x ∧ (p x = true → We c Γ2 O te fun r O3 => O3 = O ∧ Fz r (f x)))
    (fin : Φ (.nw ((xs.filter p).map f)) O) (hix : ∀ j ∈ ix, j ∈ vs := by decide) : We c Γ O (tLc (iSeq c.K (tVar i)) g tt te vs) Φ := by
  refine we_lcG ix (wiO_own hs hm ⟨by rw [List.length_map]; exact hl, fun k es => es = ((xs.take k).filter p).map f, rfl, fun k es hk e => ?_, fun es e => ?_⟩) hix
  · rw [List.length_map] at hk
    have hx : xs[k]? = some xs[k] := List.getElem?_eq_getElem hk
    have e1 : (xs.map enc).getD k .none = enc xs[k] := by rw [List.getD_eq_getElem?_getD, List.getElem?_map, hx]; rfl
    dsimp only
    rw [e1]
    have e2 : xs.take (k + 1) = xs.take k ++ [xs[k]] := (List.take_append_getElem hk).symm
    intro Hs F H σ I v rv Q q
    refine step xs[k] (List.getElem_mem hk) Hs F H σ I v rv Q fun σ' Γ' w => q σ' Γ' (w.imp fun b O' ⟨h1, h2, h3⟩ => ⟨h1, ?_⟩)
    subst h1
    subst h2
    cases hp : p xs[k] with
    | true =>
      rw [if_pos rfl]
      refine (h3 hp).imp fun r O' ⟨h4, fz⟩ => ⟨h4, _, fz, ?_⟩
      rw [e2, e, List.filter_append, List.map_append]
      simp [hp]
    | false =>
      rw [if_neg Bool.false_ne_true, e2, e, List.filter_append]
      simp [hp]
  · rw [List.length_map, List.take_length] at e
    subst e
    exact fin
theorem we_lcmO {α : Type} {g : TG} {vs : List Nat} {i : Nat} {a : Addr} (enc : α → PyData) {xs : List α} (ix : List Nat) (hs : Γ[i]? = some (.pt a)) (hm : (a, Ob.l (xs.map enc)) ∈ O) (hl : xs.length ≤ 1000000) (f : α → PyData)
    (step : ∀ x, x ∈ xs → Wg c (wipeG Γ vs) O g ix (.fr (enc x)) fun Γ2 => We c Γ2 O te fun r O3 => O3 = O ∧ Fz r (f x))
    (fin : Φ (.nw (xs.map f)) O) (hix : ∀ j ∈ ix, j ∈ vs := by decide) : We c Γ O (tLc (iSeq c.K (tVar i)) g tYes te vs) Φ :=
  we_lcfO enc ix hs hm hl (fun _ => true) f (fun x hx => by
    intro Hs F H σ I v rv Q q
    exact step x hx Hs F H σ I v rv Q fun σ' Γ' w => q σ' Γ' (wt_yes ⟨rfl, rfl, fun _ => w⟩)) (by rw [List.filter_eq_self.mpr fun _ _ => rfl]; exact fin) hix
end
end DL

/-! DL23: defs whose results may hold what came in. -/
namespace DL
open PySem PySem.Spec PyProof.Rows L2
/-- a def that changes nothing -/
def SpDA (T : List PyData → (Rt → Prop) → Prop) : Sp := fun vs H Q _ => ∃ ds Φ A, T ds Φ ∧ Das A vs ds ∧ Same A H ∧ Tups H A ∧ ∀ v r H' F', Φ r → OutA H H' F' [] A → RtOk H H' F' v r → Q v H'
/-- a def whose first argument is the feed -/
def SpFA (K : PySem.W.Frag) (T : List PyData → (Rt → Prop) → Prop) : Sp := fun vs H Q _ => ∃ a s ns vs' ds Φ A, vs = .ref a :: vs' ∧ FeedAt H a s ns ∧ SqL K (delH H a) s (ns.map V.int) ∧ T ds Φ ∧ Das A vs' ds ∧ Same A H ∧ Tups H A ∧ A a = none ∧
  ∀ v r H' F', Φ r → OutA H H' F' [a] A → FeedAt H' a s ns → RtOk H H' F' v r → Q v H'
/-- arguments that stand -/
inductive Frs : List Res → List PyData → Prop
  | nil : Frs [] []
  | fr {rs : List Res} {d : PyData} {ds : List PyData} : Frs rs ds → Frs (.fr d :: rs) (d :: ds)
  | bf {rs : List Res} {d : PyData} {ds : List PyData} (h : lf d = true) : Frs rs ds → Frs (.bo d :: rs) (d :: ds)
inductive FitA : List PyData → List Sl → Prop
  | nil : FitA [] []
  | un {Γ : List Sl} : FitA [] Γ → FitA [] (.un :: Γ)
  | fr {d : PyData} {ds : List PyData} {Γ : List Sl} : FitA ds Γ → FitA (d :: ds) (.fr d :: Γ)
section
variable {c : Cn} {Hs F H F' H' : Hp} {σ : L2.St} {Γ : List Sl} {O : OL} {Φ : Res → OL → Prop}
theorem Frs.das (I : Is c F H σ Γ O) : ∀ {rs : List Res} {ds : List PyData} {vs : List V}, Frs rs ds → ResOks c Hs F H O vs rs → Das F vs ds
  | _, _, _, .nil, .nil => .nil
  | _, _, _, .fr a, .cons h hs => .cons h (Frs.das I a hs)
  | _, _, _, .bf l a, .cons h hs => .cons (daT I.tb _ _ l h) (Frs.das I a hs)
theorem we_callA {T : List PyData → (Rt → Prop) → Prop} {E : XK} {ts : TA} (h : Wa c Γ O ts fun as O1 => ∃ ds, Frs as ds ∧ T ds fun rt => Φ rt.res O1) : We c Γ O (tCall (SpDA T) [] E ts) Φ := fun F H σ I Q q =>
  h F H σ I _ fun xs F1 H1 as O1 p I1 g1 rs => by
    obtain ⟨ds, an, p⟩ := p
    refine ⟨ds, _, F1, p, by rw [List.append_nil]; exact an.das I1 rs, I1.fh, I1.ft, fun v rt H' F' hp out ok => ?_⟩
    obtain ⟨F2, I2, g2, e2, n2⟩ := I1.outA (Same.refl _) g1.be out fun m hm => by cases hm
    exact q v F2 H' rt.res O1 hp I2 (g1.trans g2) (I1.ret (M' := []) g1.be I2 e2 n2 ok)
theorem we_callFA {T : List PyData → (Rt → Prop) → Prop} {E : XK} {ts : TA} (h : Wa c Γ O ts fun as O1 => ∃ p s ns as' ds, as = .pt p :: as' ∧ (p, Ob.fd s ns) ∈ O1 ∧ Frs as' ds ∧ T ds fun rt => Φ rt.res O1) : We c Γ O (tCall (SpFA c.K T) [] E ts) Φ := fun F H σ I Q q =>
  h F H σ I _ fun xs F1 H1 as O1 p I1 g1 rs => by
    obtain ⟨p, s, ns, as', ds, rfl, hp, an, hT⟩ := p
    cases rs with
    | @cons x xs' _ _ hx hxs =>
      have e : x = .ref p := hx
      subst e
      obtain ⟨_, hf, hs⟩ := I1.oH _ hp
      have hs' : SqL c.K (delH H1 p) s (ns.map V.int) := by
        rcases hs with z | z
        · exact same_l (delH_same I1.fh (I1.oF _ hp)) z
        · exact same_l (delH_same I1.bh (I1.oB _ hp)) z
      refine ⟨p, s, ns, xs', ds, _, F1, by rw [List.append_nil], hf, hs', hT, an.das I1 hxs, I1.fh, I1.ft, I1.oF _ hp, fun v rt H' F' hp' out fe ok => ?_⟩
      obtain ⟨F2, I2, g2, e2, n2⟩ := I1.outA (Same.refl _) g1.be out fun m hm => by
        rcases List.mem_singleton.mp hm with rfl
        exact ⟨s, ns, hp, fe⟩
      exact q v F2 H' rt.res O1 hp' I2 (g1.trans g2) (I1.ret (M' := []) g1.be I2 e2 n2 ok)
theorem FitA.sl : ∀ {ds : List PyData} {Γ : List Sl} {vs : List V}, FitA ds Γ → Das F vs ds → ∀ (i : Nat) (s : Sl), Γ[i]? = some s → SlOk c F (((vs.map some ++ List.replicate (Γ.length - ds.length) none)[i]?).bind id) s
  | _, _, _, .nil, .nil, i, s, e => by simp at e
  | _, _, _, .un f, .nil, 0, s, e => by simp at e; subst e; trivial
  | _, _, _, @FitA.un Γ f, .nil, i + 1, s, e => by
    have := FitA.sl f .nil i s (by simpa using e)
    simp only [List.map_nil, List.nil_append, List.length_nil, Nat.sub_zero, List.length_cons] at this ⊢
    rw [List.replicate_succ, List.getElem?_cons_succ]
    exact this
  | _, _, _, .fr f, .cons h hs, 0, s, e => by simp at e; subst e; exact ⟨_, by simp, h⟩
  | _, _, _, .fr f, .cons h hs, i + 1, s, e => by
    have := FitA.sl f hs i s (by simpa using e)
    simpa using this
theorem FitA.len : ∀ {ds : List PyData} {Γ : List Sl}, FitA ds Γ → ds.length ≤ Γ.length
  | _, _, .nil => Nat.le_refl _
  | _, _, .un f => Nat.zero_le _
  | _, _, .fr f => Nat.succ_le_succ f.len
/-- the exit -/
theorem Is.exitA {K : PySem.W.Frag} {M : List Addr} {A B : Hp} {rt : Rt} {v : V} {r : Res} (I : Is ⟨K, H, B, M, [], A⟩ F' H' σ Γ O) (ro : ResOk ⟨K, H, B, M, [], A⟩ Hs F' H' O v r) (hr : Ret O r rt) (hM : ∀ m ∈ M, H m ≠ none) : OutA H H' F' M A ∧ RtOk H H' F' v rt := by
  refine ⟨⟨fun a o e m => I.h0 a o e m, I.fh, I.ft, I.f0, fun a z => ?_⟩, ?_⟩
  · cases q : H a with
    | none => rfl
    | some o =>
      by_cases m : a ∈ M
      · exact absurd z (I.mm a m)
      · have e := I.h0 a o q m
        rw [z] at e
        cases e
  · cases hr with
    | fr => exact ro
    | bf l => exact daT I.tb _ _ l ro
    | nw =>
      obtain ⟨p, vs, e, ⟨h1, h2, _, h4, _⟩, h5⟩ := ro
      exact ⟨p, vs, e, h4, h1, h2, h5⟩
    | pt m =>
      have e : v = .ref _ := ro
      obtain ⟨h0, vs, h1, h2⟩ := I.oH _ m
      exact ⟨_, vs, e, h0, h1, I.oF _ m, h2⟩
def orH (A B : Hp) : Hp := fun a => match A a with
  | some o => some o
  | none => B a
theorem orH_l {A B : Hp} {a : Addr} {o : HO} (h : A a = some o) : orH A B a = some o := by unfold orH; rw [h]
theorem orH_r {A B : Hp} {a : Addr} (h : A a = none) : orH A B a = B a := by unfold orH; rw [h]
/-- the body of such a def -/
theorem enterDA {K : PySem.W.Frag} {T : List PyData → (Rt → Prop) → Prop} {vs : List V} {Q : VK} {X : XK} {N : List Str} {t : TS} (h : SpDA T vs H Q X)
    (k : ∀ ds Φ (c : Cn) A, c = ⟨K, H, H, [], [], A⟩ → T ds Φ → ∃ Γ, FitA ds Γ ∧ Γ.length = N.length ∧ Ws c Γ [] t { nx := fun _ O => RtW Φ (.fr .none) O, rt := RtW Φ }) : t { nx := fun _ H' => Q .non H', rt := Q } (start N vs) H := by
  obtain ⟨ds, Φ, A, hT, hd, sA, tA, q⟩ := h
  obtain ⟨Γ, fit, hl, hw⟩ := k ds Φ _ A rfl hT
  have sF : Same (orH A (tupsOf H)) H := fun a o e => by
    cases z : A a with
    | some u => rw [orH_l z] at e; cases e; exact sA a _ z
    | none => rw [orH_r z] at e; exact (tupsOf_some e).1
  have sAF : Same A (orH A (tupsOf H)) := fun a o e => orH_l e
  have I : Is ⟨K, H, H, [], [], A⟩ (orH A (tupsOf H)) H (start N vs) Γ [] := by
    refine ⟨sF, Same.refl _, fun a o e t => sAF a o (tA a o e t), fun a o e => ?_, fun a o e _ => e, fun a m => (by cases m), List.nodup_nil, fun e m => (by cases m), fun e m => (by cases m), fun e m => (by cases m), fun e m => (by cases m), fun a e => e, ?_, fun i s e => ?_⟩
    · cases z : A a with
      | some u => rw [orH_l z] at e; cases e; exact .inr (.inr z)
      | none => rw [orH_r z] at e; exact .inr (.inl (tupsOf_some e).2)
    · have := das_len hd
      have := fit.len
      unfold L2.start
      rw [List.length_append, List.length_map, List.length_replicate]
      omega
    · have := FitA.sl (c := ⟨K, H, H, [], [], A⟩) fit (dasM sAF _ _ hd) i s e
      unfold L2.start
      rw [← hl, das_len hd]
      exact this
  refine hw _ H _ _ I (fun F' H' σ' Γ' O' p I' => ?_) (fun Hs v F' H' σ' Γ' r O' p I' be ro => ?_) (fun _ _ _ _ _ p => p.elim) fun _ _ _ _ _ p => p.elim
  · obtain ⟨rt, hr, p⟩ := p
    obtain ⟨o1, o2⟩ := Is.exitA (Hs := H') (v := .non) (r := .fr .none) I' Da.non hr fun m hm => by cases hm
    exact q _ rt H' F' p o1 o2
  · obtain ⟨rt, hr, p⟩ := p
    obtain ⟨o1, o2⟩ := Is.exitA I' ro hr fun m hm => by cases hm
    exact q _ rt H' F' p o1 o2
theorem SpDA.len {T : List PyData → (Rt → Prop) → Prop} {n : Nat} (h : ∀ ds Φ, T ds Φ → ds.length = n) : ∀ vs H Q E, SpDA T vs H Q E → vs.length = n := fun vs H Q E ⟨ds, Φ, A, hT, hd, _⟩ => by rw [das_len hd]; exact h ds Φ hT
theorem enterFA {K : PySem.W.Frag} {T : List PyData → (Rt → Prop) → Prop} {vs : List V} {Q : VK} {X : XK} {N : List Str} {t : TS} (h : SpFA K T vs H Q X)
    (k : ∀ ds Φ (c : Cn) A a s ns, c = ⟨K, H, delH H a, [a], [], A⟩ → SqL K c.B s (ns.map V.int) → T ds Φ → ∃ Γ, FitA ds Γ ∧ Γ.length + 1 = N.length ∧ Ws c (.pt a :: Γ) [(a, .fd s ns)] t { nx := fun _ O => RtW Φ (.fr .none) O ∧ (a, Ob.fd s ns) ∈ O, rt := fun r O => RtW Φ r O ∧ (a, Ob.fd s ns) ∈ O }) : t { nx := fun _ H' => Q .non H', rt := Q } (start N vs) H := by
  obtain ⟨a, s, ns, vs', ds, Φ, A, rfl, hf, hs, hT, hd, sA, tA, aN, q⟩ := h
  obtain ⟨Γ, fit, hl, hw⟩ := k ds Φ _ A a s ns rfl hs hT
  have hne : H a ≠ none := by obtain ⟨i, w, sd, e, _⟩ := hf; rw [e]; exact fun z => nomatch z
  have dl : ∀ b o, delH H a b = some o → H b = some o ∧ b ≠ a := fun b o e => by
    unfold delH at e
    split at e
    · cases e
    · rename_i n; exact ⟨e, n⟩
  have sF : Same (orH A (tupsOf H)) H := fun a o e => by
    cases z : A a with
    | some u => rw [orH_l z] at e; cases e; exact sA a _ z
    | none => rw [orH_r z] at e; exact (tupsOf_some e).1
  have sAF : Same A (orH A (tupsOf H)) := fun a o e => orH_l e
  have fa : orH A (tupsOf H) a = none := by
    rw [orH_r aN]
    obtain ⟨i, w, sd, e, _⟩ := hf
    unfold tupsOf
    rw [e]
  have I : Is ⟨K, H, delH H a, [a], [], A⟩ (orH A (tupsOf H)) H (start N (.ref a :: vs')) (.pt a :: Γ) [(a, .fd s ns)] := by
    refine ⟨sF, fun b o e => (dl b o e).1, fun a o e t => sAF a o (tA a o e t), fun a o e => ?_, fun b o e _ => e, fun b m => (by rcases List.mem_singleton.mp m with rfl; exact hne), (by simp), fun e m => ?_, fun e m => ?_, fun e m => ?_, fun e m => (by cases m), fun b e => ?_, ?_, fun i s' e => ?_⟩
    · cases z : A a with
      | some u => rw [orH_l z] at e; cases e; exact .inr (.inr z)
      | none => rw [orH_r z] at e; exact .inr (.inl (tupsOf_some e).2)
    · rcases List.mem_singleton.mp m with rfl; exact fa
    · rcases List.mem_singleton.mp m with rfl; show (if a = a then none else H a) = none; rw [if_pos rfl]
    · rcases List.mem_singleton.mp m with rfl
      exact ⟨.inr (List.mem_singleton_self _), hf, .inr hs⟩
    · show (if b = a then none else H b) = none
      split
      · rfl
      · exact e
    · have := das_len hd
      have := fit.len
      unfold L2.start
      rw [List.length_append, List.length_map, List.length_replicate, List.length_cons, List.length_cons]
      omega
    · cases i with
      | zero =>
        simp at e
        subst e
        unfold L2.start
        simp
        rfl
      | succ i =>
        have := FitA.sl (c := ⟨K, H, delH H a, [a], [], A⟩) fit (dasM sAF _ _ hd) i s' (by simpa using e)
        unfold L2.start
        rw [← hl, List.length_cons, das_len hd, Nat.add_sub_add_right, List.map_cons, List.cons_append, List.getElem?_cons_succ]
        exact this
  have fin : ∀ {F' H' σ' Γ' O'}, Is ⟨K, H, delH H a, [a], [], A⟩ F' H' σ' Γ' O' → (a, Ob.fd s ns) ∈ O' → FeedAt H' a s ns := fun I' m => by
    obtain ⟨_, h1, _⟩ := I'.oH _ m
    exact h1
  refine hw _ H _ _ I (fun F' H' σ' Γ' O' p I' => ?_) (fun Hs v F' H' σ' Γ' r O' p I' be ro => ?_) (fun _ _ _ _ _ p => p.elim) fun _ _ _ _ _ p => p.elim
  · obtain ⟨⟨rt, hr, p⟩, m⟩ := p
    obtain ⟨o1, o2⟩ := Is.exitA (Hs := H') (v := .non) (r := .fr .none) I' Da.non hr fun m hm => by rcases List.mem_singleton.mp hm with rfl; exact hne
    exact q _ rt H' F' p o1 (fin I' m) o2
  · obtain ⟨⟨rt, hr, p⟩, m⟩ := p
    obtain ⟨o1, o2⟩ := Is.exitA I' ro hr fun m hm => by rcases List.mem_singleton.mp hm with rfl; exact hne
    exact q _ rt H' F' p o1 (fin I' m) o2
theorem SpFA.len {K : PySem.W.Frag} {T : List PyData → (Rt → Prop) → Prop} {n : Nat} (h : ∀ ds Φ, T ds Φ → ds.length = n) : ∀ vs H Q E, SpFA K T vs H Q E → vs.length = n + 1 := fun vs H Q E ⟨a, s, ns, vs', ds, Φ, A, e, _, _, hT, hd, _⟩ => by
  subst e
  rw [List.length_cons, das_len hd, h ds Φ hT]
end
end DL

/-! DL24: pairs compared, data of all kinds looked at. -/
namespace DL
open PySem PySem.Spec PyProof.Rows L2
section
variable {c : Cn} {Γ : List Sl} {O : OL} {a b : Res} {ta tb tc : TE} {Φ : Res → OL → Prop}
instance (a b : Int × Int) : Decidable (ltP a b) := inferInstanceAs (Decidable (_ ∨ _))
theorem wo_ltP {p q : Int × Int} {u w : Bool} (ha : Tup a [.int p.1, .int p.2] u) (hb : Tup b [.int q.1, .int q.2] w) (k : Φ (.fr (.bool (decide (ltP p q)))) O) : Wo c Γ O (rLtA c.K) a b Φ :=
  wo_r fun Hs F H σ I be x y hx hy Q qq => by
    obtain ⟨a1, vs, rfl, g1, g2⟩ := ha.da I hx
    obtain ⟨a2, ws, rfl, g3, g4⟩ := hb.da I hy
    have e1 : vs = [p.1, p.2].map V.int := das_int (ns := [p.1, p.2]) g2
    have e2 : ws = [q.1, q.2].map V.int := das_int (ns := [q.1, q.2]) g4
    subst e1 e2
    refine ⟨a1, a2, [p.1, p.2], [q.1, q.2], rfl, rfl, SqT.of g1, SqT.of g3, ?_⟩
    have e : HT.lexLt [p.1, p.2] [q.1, q.2] = decide (ltP p q) := by
      simp only [HT.lexLt]
      unfold ltP
      by_cases h1 : p.1 = q.1
      · rw [if_pos h1]
        by_cases h2 : p.2 = q.2
        · simp [h1, h2]
        · simp [h1, h2]
      · rw [if_neg h1]
        simp [h1]
    rw [e]
    exact qq _ F H _ O k I (Gr.refl _ _ _ _) (Da.bl _)
theorem wc_str1 {i : Int} (ha : Any O a (.int i)) (h : i.natAbs.log2 < 1920) (k : Φ (.fr (.str (toString i))) O) : Wc c Γ O rStr1 [a] Φ := fun Hs F H σ I be xs hxs Q q => by
  obtain ⟨x, rfl, hx⟩ := hxs.one
  cases ha.int I hx
  exact ⟨i, rfl, h, q _ F H _ O k I (Gr.refl _ _ _ _) (Da.str _)⟩
theorem wc_tupL {ds : List PyData} (ha : Seq O a ds true) (k : Φ (.fr (.tuple ds)) O) : Wc c Γ O (rTupA c.K) [a] Φ := fun Hs F H σ I be xs hxs Q q => by
  obtain ⟨x, rfl, hx⟩ := hxs.one
  obtain ⟨p, vs, rfl, h1, h2⟩ := ha.da I hx
  refine ⟨p, vs, rfl, .inl ⟨SqL.of h1, fun l hl => ?_⟩⟩
  obtain ⟨I2, g2⟩ := I.newT (Hs := Hs) hl vs
  have fp := I.fh.free hl
  exact q _ _ _ _ O k I2 (g2 be) (Da.tup upd_same (dasM (same_new fp) _ _ h2))
end
/-! ### data judged -/
def pairOf : PyData → Option (Int × Int)
  | .tuple [.int a, .int b] => some (a, b)
  | _ => none
theorem pairOf_prD (p : Int × Int) : pairOf (prD p) = some p := rfl
theorem pairOf_some {d : PyData} {p : Int × Int} (h : pairOf d = some p) : d = prD p := by
  unfold pairOf at h
  split at h
  · cases h; rfl
  · cases h
theorem pairs_of : ∀ {xs : List PyData}, (∀ x ∈ xs, (pairOf x).isSome = true) → xs = (xs.filterMap pairOf).map prD
  | [], _ => rfl
  | x :: xs, h => by
    cases e : pairOf x with
    | none => have := h x List.mem_cons_self; rw [e] at this; cases this
    | some p =>
      rw [List.filterMap_cons_some e, List.map_cons, ← pairOf_some e, ← pairs_of fun y hy => h y (List.mem_cons_of_mem _ hy)]
def tiesOf : PyData → Option (List (Int × Int))
  | .list xs => if xs.all (fun x => (pairOf x).isSome) = true then some (xs.filterMap pairOf) else none
  | _ => none
theorem filterMap_prs (ts : List (Int × Int)) : (ts.map prD).filterMap pairOf = ts := by
  induction ts with
  | nil => rfl
  | cons p ts ih => rw [List.map_cons, List.filterMap_cons_some (pairOf_prD p), ih]
theorem tiesOf_prs (ts : List (Int × Int)) : tiesOf (.list (ts.map prD)) = some ts := by
  unfold tiesOf
  simp only
  rw [if_pos (by rw [List.all_eq_true]; intro x hx; obtain ⟨p, _, rfl⟩ := List.mem_map.mp hx; rfl), filterMap_prs]
theorem tiesOf_some {d : PyData} {ts : List (Int × Int)} (h : tiesOf d = some ts) : d = .list (ts.map prD) := by
  unfold tiesOf at h
  split at h
  · split at h
    · rename_i xs hh
      cases h
      congr 1
      exact pairs_of (List.all_eq_true.mp hh)
    · cases h
  · cases h
end DL

/-! DL25: a def called in an except suite, where an error is held. -/
namespace DL
open PySem PySem.Spec PyProof.Rows L2
/-- the def's run while an error is held -/
def RunH (P : Program) (w : World) (K : PySem.W.Frag) (mg : Str → Option Value) (base : Heap) (k : Nat) (f : Addr) (fd : FuncData) (ps : List Str) (sp : Sp) : Prop :=
  ∀ (A : Around) (a : Addr) (outer : List Env) (s : Shared) (H : Hp) (args : Args) (us : List Value) (vs : List V) (Q : VK) (E : XK), Room k A → Env0 P w K mg base (A.mark (some (.ref a))) outer s H → BindsTo s fd args (ps.zip us) → Vals vs us → sp vs H Q E →
    codeAny (model P w) (A.mark (some (.ref a))) (.call (.ref f) args) (CR CX0 outer P w H s Q E) s
structure CalH (P : Program) (w : World) (K : PySem.W.Frag) (mg : Str → Option Value) (base : Heap) (k : Nat) (x : Str) (sp : Sp) : Prop where
  ex : ∃ (f : Addr) (fd : FuncData) (ps : List Str), (∀ vs H Q E, sp vs H Q E → vs.length = ps.length) ∧ RunH P w K mg base k f fd ps sp ∧ mg x = some (.ref f) ∧ PySem.W.keepIn K (.ref f) = true ∧ Binds K fd ps []
section
variable {P : Program} {w : World} {K : PySem.W.Frag} {mg : Str → Option Value} {base : Heap} {x qual : Str} {params : Arguments} {body : List Stmt} {scope : Scope} {dvs : List V} {kws : List (Str × V)} {f : Addr} {fd : FuncData}
theorem inv_marked {X : Cx} {σ : L2.St} {H : Hp} {s : Shared} (I : Inv X [] σ H s) (hp : X.pn = []) (a : Addr) : Inv (X.suite a []) [] σ H s :=
  ⟨I.ok.suite _ _, I.os, I.bare, I.base, I.loc, I.cell, I.free, I.freeC, fun p hp => absurd hp (by simp), I.hok, I.len⟩
theorem okH {N ps : List Str} {k : Nat} {sp : Sp} (F : FunD K x qual params body scope dvs kws f fd) (S : FnScope N ps scope) (len : ∀ vs H Q E, sp vs H Q E → vs.length = ps.length)
    (hbody : ∀ (cdv : Value) (A : Around) (a : Addr) (outer : List Env) (s : Shared) (H : Hp) (vs : List V) (Q : VK) (E : XK), Room k (A.deeper (envOfC qual scope s.heap.objs.size f cdv)) → sp vs H Q E →
      ∃ t, PSs ((cxOf CX0 P w K mg base N qual scope f cdv A outer s H E).suite a []) body t ∧ t { nx := fun _ H' => Q .non H', rt := Q } (start N vs) H) : RunH P w K mg base (k + 1) f fd ps sp := by
  obtain ⟨oc, od, dV, kV, doc, pm, an, cdv, ct, osl, rfl, lk, hcd, _, _⟩ := F.ex
  intro A a outer s H args us vs Q E hr e0 hb r hsp
  have hl := len _ _ _ _ hsp
  have KX : K.In s.heap := e0.mod.kin.keeps fun b o e => (e0.bs b o e).1
  have lim : s.heap.NoLimit := e0.mod.nolimit.keeps fun b o e => (e0.bs b o e).1
  have hkind : ∀ y ∈ ps.zip us, scope.names.lookup y.1 = some .local ∨ (scope.names.lookup y.1 = some .cell ∧ ((cellsFrom (s.heap.objs.size + 1) scope.names []).lookup y.1).isSome = true) := fun ⟨n, v⟩ hy => by
    rcases S.par n (List.of_mem_zip hy).1 with q | q
    · exact .inl q
    · exact .inr ⟨q, PySem.W.cellsFrom_some _ _ _ (.inl q)⟩
  refine codeAny_call_function (show A.depth < recursionLimit from hr.depth) (KX _ _ lk) rfl S.co S.gen rfl (PySem.W.codeRec_of KX hcd) (hb _ _ _ _ ?_)
  refine wpAny_newFunctionEnv_cells S.kind hkind fun env he s1 y => ?_
  subst he
  refine ⟨lim.keeps y.toInCall.keep, codeAny_func ?_⟩
  obtain ⟨t, ht, hq⟩ := hbody cdv A a outer s H vs Q E (hr.deeper _) hsp
  have I0 : Inv (cxOf CX0 P w K mg base N qual scope f cdv A outer s H E) [] (start N vs) H s1 := inv_start S hr.hd ⟨e0.frames, e0.mod, e0.bs, e0.bsz, e0.funs, e0.frf, e0.hok, e0.bare⟩ hl r y
  have I := inv_marked I0 rfl a
  refine wpAny_mono (ht.run [] s1 (start N vs) H _ I hq) (fun fl s' hs => ?_) fun e s' hs => hs.elim
  have fin : ∀ {σ' : L2.St} {H' : Hp} {v : V} {u : Value}, Inv ((cxOf CX0 P w K mg base N qual scope f cdv A outer s H E).suite a []) [] σ' H' s' → RelV v u → Q v H' → CE outer P w H s Q u s' :=
    fun {σ' H' v u} J rv q => ⟨v, H', J.os, J.bare, J.base, J.hok, rv, q⟩
  cases fl with
  | ret u =>
    obtain ⟨v, σ', H', J, rv, q⟩ := hs
    exact fin J rv q
  | next =>
    obtain ⟨σ', H', J, q⟩ := hs
    exact fin (v := V.non) (u := Value.none) J rfl q
  | brk =>
    obtain ⟨_, _, _, q⟩ := hs
    exact False.elim q
  | cont =>
    obtain ⟨_, _, _, q⟩ := hs
    exact False.elim q
end
section
variable {X : Cx} {j k : Nat} {x : Str} {sp : Sp} {p pos : Pos} {e : Expr} {es : List Expr} {t : TA}
theorem pe_cH {a : Addr} {pn : List (Addr × Obj)} (c : CalH X.prog X.w X.K X.mg X.base k x sp) (hr : Room j X.A) (hk : k ≤ j) (hg : Gl (X.suite a pn) x) (ha : PA (X.suite a pn) (e :: es) t)
    (hdb : (x == ("__debug__" : Str)) = false := by decide) (he : starEach (e :: es) X.env = (false, eval e X.env) :: starEach es X.env := by rfl) (hpl : (backTo pos (starEach es X.env)).any (·.1) = false := by rfl) :
    PE (X.suite a pn) (.Call (.Name x p) (e :: es) [] pos) (tCall sp [] E0 t) := by
  obtain ⟨f, fd, ps, len, run, hm, kp, b⟩ := c.ex
  refine ⟨fun pins s σ H Q I h => ?_⟩
  refine wpAny_Call_Name_kw (ld_glob I hg hm ?_ hdb)
  refine PySem.W.callWith_K (h₀ := X.base) I.ok.mod.kin kp (thn (ha.run pos pins s σ H _ I h) fun us s1 ⟨vs, H1, I1, r, q⟩ => ⟨I1.kIn, ?_⟩) he hpl
  have r2 : Vals (vs ++ []) (us ++ []) := r.append .nil
  have hl : (us ++ []).length = ps.length := by rw [← r2.length]; exact len _ _ _ _ q
  refine wpAny_call (codeAny_mono (run X.A a X.stack s1 H1 ⟨us, []⟩ (us ++ []) (vs ++ []) Q E0 (hr.mono hk) I1.env0 (b s1 us I1.kIn hl) r2 q) fun r s' hq => ?_)
  cases r with
  | error e => exact hq.elim
  | ok fl =>
    cases fl with
    | ret u => exact I1.after hq
    | next => exact False.elim hq
    | brk => exact False.elim hq
    | cont => exact False.elim hq
end
end DL

/-! DL26: papers of ties: data of any kind, judged. -/
namespace DL
open PySem PySem.Spec PyProof.Rows L2
section
variable {c : Cn} {Γ : List Sl} {O : OL} {ta tb tc td : TE} {Φ : Res → OL → Prop}
/-- i ≤ j < k < l -/
theorem we_span {i j k l : Int} (h1 : We c Γ O ta fun a O' => O' = O ∧ Any O a (.int i)) (h2 : We c Γ O tb fun a O' => O' = O ∧ Any O a (.int j)) (h3 : We c Γ O tc fun a O' => O' = O ∧ Any O a (.int k)) (h4 : We c Γ O td fun a O' => O' = O ∧ Any O a (.int l))
    (z : Φ (.fr (.bool (decide (i ≤ j ∧ j < k ∧ k < l)))) O) : We c Γ O (tChain3 rLeI (rLtA c.K) (rLtA c.K) ta tb tc td) Φ :=
  we_chain3 (h1.imp fun a O1 ⟨e1, ha⟩ => by
    subst e1
    refine h2.imp fun b O2 ⟨e, hb⟩ => ?_
    subst e
    refine wo_le ha hb ⟨_, Any.fr, ?_⟩
    by_cases A : i ≤ j
    · rw [decide_eq_true A, if_pos rfl]
      refine ⟨_, hb, rfl, h3.imp fun e O3 ⟨e1, hc⟩ => ?_⟩
      subst e1
      refine wo_lt Any.fr hc ⟨_, Any.fr, ?_⟩
      by_cases B : j < k
      · rw [decide_eq_true B, if_pos rfl]
        refine ⟨_, hc, rfl, h4.imp fun g O4 ⟨e1, hd⟩ => ?_⟩
        subst e1
        refine wo_lt Any.fr hd ?_
        rw [show decide (i ≤ j ∧ j < k ∧ k < l) = decide (k < l) by simp [A, B]] at z
        exact z
      · rw [decide_eq_false B, if_neg (by decide)]
        rw [show decide (i ≤ j ∧ j < k ∧ k < l) = false by simp [B]] at z
        exact z
    · rw [decide_eq_false A, if_neg (by decide)]
      rw [show decide (i ≤ j ∧ j < k ∧ k < l) = false by simp [A]] at z
      exact z)
end
/-! ### the class of papers -/
def ndw : PyData → Bool
  | .dict _ => false
  | .tuple ds => ds.all noDict
  | .list ds => ds.all noDict
  | _ => true
theorem ndw_nd {d : PyData} (h : ndw d = true) : noDict d = true := by cases d <;> first | rfl | cases h
def PpE (x : PyData) : Prop := ndw x = true ∧ ∀ xs, x = .tuple xs → xs.length ≤ 1000
def Pp (d : PyData) : Prop := noDict d = true ∧ ∀ xs, d = .list xs → xs.length ≤ 1000 ∧ ∀ x ∈ xs, PpE x
theorem ppE_pr (p : Int × Int) : PpE (prD p) := ⟨rfl, fun xs e => by cases e; exact (by decide : 2 ≤ 1000)⟩
theorem pp_list {xs : List PyData} (hl : xs.length ≤ 1000) (h : ∀ x ∈ xs, PpE x) : Pp (.list xs) := ⟨rfl, fun ys e => by cases e; exact ⟨hl, h⟩⟩
theorem pp_prs {ts : List (Int × Int)} (hl : ts.length ≤ 1000) : Pp (.list (ts.map prD)) := pp_list (by rw [List.length_map]; exact hl) fun x hx => by
  obtain ⟨p, _, rfl⟩ := List.mem_map.mp hx
  exact ppE_pr p
def isTie (n : Int) (d : PyData) : Bool := match pairOf d with
  | some p => decide (0 ≤ p.1 ∧ p.1 < p.2 ∧ p.2 < n)
  | none => false
/-- in how many of the pairs k stands -/
def cdeg (ts : List (Int × Int)) (k : Int) : Int := ((ts.filter fun p => decide (k = p.1 ∨ k = p.2)).length : Int)
def degs (n : Int) (ts : List (Int × Int)) : List Int := (rngI 0 n).map (cdeg ts)
/-- places, pairs ascending -/
def TieR (n : Int) (ts : List (Int × Int)) : Prop := ∀ p ∈ ts, 0 ≤ p.1 ∧ p.1 < p.2 ∧ p.2 < n
instance (n : Int) (ts : List (Int × Int)) : Decidable (TieR n ts) := inferInstanceAs (Decidable (∀ p ∈ ts, _))
instance (ts : List (Int × Int)) : Decidable (Asc ts) := inferInstanceAs (Decidable (ts.Pairwise ltP))
def shD (ns : List Int) (d : PyData) : Bool := match tiesOf d with
  | some ts => decide (TieR ns.length ts) && (decide (Asc ts) && decide (degs ns.length ts = ns))
  | none => false
theorem isTie_pr (n : Int) (p : Int × Int) : isTie n (prD p) = decide (0 ≤ p.1 ∧ p.1 < p.2 ∧ p.2 < n) := rfl
theorem isTie_some {n : Int} {d : PyData} (h : isTie n d = true) : (pairOf d).isSome = true := by
  unfold isTie at h
  cases e : pairOf d with
  | none => rw [e] at h; cases h
  | some p => rfl
/-- all are ties: the paper's pairs -/
theorem all_ties {n : Int} {xs : List PyData} (h : xs.all (isTie n) = true) : ∃ ts : List (Int × Int), xs = ts.map prD ∧ TieR n ts := by
  have h := List.all_eq_true.mp h
  have e := pairs_of fun x hx => isTie_some (h x hx)
  refine ⟨_, e, fun p hp => ?_⟩
  have := h (prD p) (by rw [e]; exact List.mem_map_of_mem hp)
  rw [isTie_pr] at this
  exact of_decide_eq_true this
theorem shD_prs (ns : List Int) (ts : List (Int × Int)) : shD ns (.list (ts.map prD)) = (decide (TieR ns.length ts) && (decide (Asc ts) && decide (degs ns.length ts = ns))) := by
  unfold shD
  rw [tiesOf_prs]
theorem shD_not {ns : List Int} {xs : List PyData} (h : xs.all (isTie ns.length) = false) : shD ns (.list xs) = false := by
  unfold shD
  cases e : tiesOf (.list xs) with
  | none => rfl
  | some ts =>
    have e := tiesOf_some e
    cases e
    have : decide (TieR ns.length ts) = false := decide_eq_false fun r => by
      rw [List.all_map] at h
      have : ts.all (isTie ns.length ∘ prD) = true := List.all_eq_true.mpr fun p hp => by
        show isTie _ (prD p) = true
        rw [isTie_pr]
        exact decide_eq_true (r p hp)
      rw [this] at h; cases h
    simp [this]
/-- two next ones each -/
theorem asc_iff {ts : List (Int × Int)} : Asc ts ↔ ∀ (i : Nat) (p q : Int × Int), ts[i]? = some p → ts[i + 1]? = some q → ltP p q := by
  induction ts with
  | nil => exact ⟨fun _ i p q h => by simp at h, fun _ => List.Pairwise.nil⟩
  | cons a ts ih =>
    constructor
    · intro h i p q hp hq
      have h' := List.pairwise_cons.mp h
      cases i with
      | zero =>
        cases hp
        exact h'.1 q (List.mem_of_getElem? hq)
      | succ i => exact ih.mp h'.2 i p q hp hq
    · intro h
      have t : Asc ts := ih.mpr fun i p q hp hq => h (i + 1) p q hp hq
      refine List.pairwise_cons.mpr ⟨fun q hq => ?_, t⟩
      cases ts with
      | nil => cases hq
      | cons b ts =>
        have ab := h 0 a b rfl rfl
        rcases List.mem_cons.mp hq with rfl | hq
        · exact ab
        · exact ltP_trans ab ((List.pairwise_cons.mp t).1 q hq)
theorem dg_cdeg {ts : List (Int × Int)} (h : ∀ p ∈ ts, p.1 ≠ p.2) (v : Int) : Sm ts (fun p => (if p.1 = v then (1 : Int) else 0) + (if p.2 = v then 1 else 0)) = cdeg ts v := by
  unfold cdeg
  induction ts with
  | nil => rfl
  | cons p ts ih =>
    have ih := ih fun q hq => h q (List.mem_cons_of_mem _ hq)
    have hp := h p List.mem_cons_self
    have e : Sm (p :: ts) (fun p => (if p.1 = v then (1 : Int) else 0) + (if p.2 = v then 1 else 0)) = ((if p.1 = v then (1 : Int) else 0) + (if p.2 = v then 1 else 0)) + Sm ts (fun p => (if p.1 = v then (1 : Int) else 0) + (if p.2 = v then 1 else 0)) := by
      unfold Sm
      rw [List.map_cons, List.sum_cons]
    rw [e, ih, List.filter_cons]
    by_cases h1 : p.1 = v
    · have h2 : p.2 ≠ v := fun e => hp (h1.trans e.symm)
      rw [if_pos h1, if_neg h2, if_pos (decide_eq_true (Or.inl h1.symm)), List.length_cons]
      omega
    · by_cases h2 : p.2 = v
      · rw [if_neg h1, if_pos h2, if_pos (decide_eq_true (Or.inr h2.symm)), List.length_cons]
        omega
      · rw [if_neg h1, if_neg h2, if_neg (by rw [decide_eq_true_eq]; rintro (e | e); exact h1 e.symm; exact h2 e.symm)]
        omega
end DL

/-! DL27: o[i] = e, any index. -/
namespace DL
open PySem PySem.Spec PyProof.Rows L2
section
variable {c : Cn} {Γ : List Sl} {O : OL} {te : TE} {E : En}
theorem ws_setItemK {to ti : TE} (h : We c Γ O te fun r O1 => We c Γ O1 to fun a O2 => We c Γ O2 ti fun b O3 => ∃ p j ds i k d, a = .pt p ∧ O3[j]? = some (p, Ob.l ds) ∧ Any O3 b (.int i) ∧ ixN ds.length i = some k ∧ Fz r d ∧ E.nx Γ (O3.set j (p, .l (ds.set k d)))) :
    Ws c Γ O (tAsg te (gSub to ti rSetL)) E := fun F H σ D I n r b k =>
  h F H σ I _ fun v F1 H1 r1 O1 p I1 g1 ro => We.then I1 g1 p fun w F2 H2 r2 O2 p2 I2 g2 g12 ro2 => We.then I2 g2 p2 fun z F3 H3 r3 O3 p3 I3 g3 g23 ro3 => by
    obtain ⟨q, j, ds, i, m, d, rfl, hj, ai, hm, fz, p3⟩ := p3
    have e : w = .ref q := ro2
    subst e
    cases ai.int I3 ro3
    obtain ⟨F4, I4, g4, k4⟩ := fz.go I3 ((ro.gr g12).gr g23)
    obtain ⟨vs, h1, h2⟩ := I4.own hj
    have e1 := das_len h2
    obtain ⟨I5, g5⟩ := I4.setO (Hs := H) hj (das_set k4 m h2)
    exact ⟨q, vs, i, m, rfl, rfl, h1, by rw [e1]; exact hm, n _ _ _ _ _ p3 I5⟩
end
theorem ixN_pos {n : Nat} {i : Int} (h0 : 0 ≤ i) (h1 : i < n) : ixN n i = some i.toNat := by
  unfold ixN
  rw [if_pos h0, if_pos (by omega)]
theorem ixN_neg {n : Nat} {i : Int} (h0 : i < 0) (h1 : -(n : Int) ≤ i) : ixN n i = some (i + n).toNat := by
  unfold ixN
  rw [if_neg (by omega), if_pos (by omega)]
end DL

/-! DL28: plain: trees, as the steps between their places. -/
namespace DL
open PySem PySem.Spec PyProof.Rows L2
def RN (n x : Int) : Prop := 0 ≤ x ∧ x < n
/-- d tells the steps of a tree -/
structure TM (n : Int) (ts : List (Int × Int)) (d : Int → Int → Int) : Prop where
  bd : ∀ x y, RN n x → RN n y → 0 ≤ d x y ∧ d x y < n
  zero : ∀ x y, RN n x → RN n y → (d x y = 0 ↔ x = y)
  sym : ∀ x y, RN n x → RN n y → d x y = d y x
  four : ∀ x y u v, RN n x → RN n y → RN n u → RN n v → d x y + d u v ≤ d x u + d y v ∨ d x y + d u v ≤ d x v + d y u
  par : ∀ x y z, RN n x → RN n y → RN n z → (d x y + d y z + d z x) % 2 = 0
  stp : ∀ x y, RN n x → RN n y → x ≠ y → ∃ z, RN n z ∧ d x z = 1 ∧ d z y = d x y - 1
  adj : ∀ x y, RN n x → RN n y → (d x y = 1 ↔ tieI x y ∈ ts)
section
variable {n : Int} {ts : List (Int × Int)} {d : Int → Int → Int}
theorem TM.tri (T : TM n ts d) {x y z : Int} (hx : RN n x) (hy : RN n y) (hz : RN n z) : d x y ≤ d x z + d z y := by
  have h := T.four x y z z hx hy hz hz
  have h0 := (T.zero z z hz hz).mpr rfl
  have h1 := T.sym y z hy hz
  omega
theorem TM.self (T : TM n ts d) {x : Int} (hx : RN n x) : d x x = 0 := (T.zero x x hx hx).mpr rfl
theorem TM.pos (T : TM n ts d) {x y : Int} (hx : RN n x) (hy : RN n y) (h : x ≠ y) : 0 < d x y := by
  have h1 := (T.bd x y hx hy).1
  have h2 : d x y ≠ 0 := fun e => h ((T.zero x y hx hy).mp e)
  omega
/-- of two joined places one is nearer by one -/
theorem TM.near (T : TM n ts d) {x y z : Int} (hx : RN n x) (hy : RN n y) (hz : RN n z) (h : d y z = 1) : d x z = d x y - 1 ∨ d x z = d x y + 1 := by
  have h1 := T.tri hx hz hy
  have h2 := T.tri hx hy hz
  have h3 := T.par x y z hx hy hz
  have h4 := T.sym y z hy hz
  have h5 := T.sym z x hz hx
  omega
/-- only one is nearer -/
theorem TM.one (T : TM n ts d) {x y z w : Int} (hx : RN n x) (hy : RN n y) (hz : RN n z) (hw : RN n w) (h1 : d y z = 1) (h2 : d y w = 1) (h3 : d x z = d x y - 1) (h4 : d x w = d x y - 1) : z = w := by
  have h := T.four x y z w hx hy hz hw
  have h5 := (T.bd z w hz hw).1
  exact (T.zero z w hz hw).mp (by omega)
theorem TM.start : TM 1 [] (fun _ _ => 0) where
  bd := fun x y _ _ => by omega
  zero := fun x y hx hy => by unfold RN at hx hy; exact ⟨fun _ => by omega, fun _ => rfl⟩
  sym := fun _ _ _ _ => rfl
  four := fun _ _ _ _ _ _ _ _ => by omega
  par := fun _ _ _ _ _ _ => by omega
  stp := fun x y hx hy h => by unfold RN at hx hy; omega
  adj := fun x y _ _ => by simp
/-- a place more, tied to p -/
def leafD (n p : Int) (d : Int → Int → Int) (x y : Int) : Int := if x = y then 0 else d (if x = n then p else x) (if y = n then p else y) + (if x = n then 1 else 0) + (if y = n then 1 else 0)
theorem TM.leaf (T : TM n ts d) {p : Int} (hp : RN n p) (ok : ∀ q ∈ ts, 0 ≤ q.1 ∧ q.1 < q.2 ∧ q.2 < n) {us : List (Int × Int)} (hu : ∀ q, q ∈ us ↔ q ∈ ts ∨ q = (p, n)) : TM (n + 1) us (leafD n p d) := by
  have fr : ∀ x, RN (n + 1) x → RN n (if x = n then p else x) := fun x hx => by
    unfold RN at *
    split <;> omega
  have low : ∀ x, RN (n + 1) x → x ≠ n → RN n x := fun x hx h => by unfold RN at *; omega
  have pp := T.self hp
  have wb : ∀ x, 0 ≤ (if x = n then (1 : Int) else 0) ∧ (if x = n then (1 : Int) else 0) ≤ 1 := fun x => by split <;> omega
  have eq : ∀ x y, x ≠ y → leafD n p d x y = d (if x = n then p else x) (if y = n then p else y) + (if x = n then 1 else 0) + (if y = n then 1 else 0) := fun x y h => by
    unfold leafD
    rw [if_neg h]
  have eq0 : ∀ x, leafD n p d x x = 0 := fun x => by
    unfold leafD
    rw [if_pos rfl]
  have le : ∀ x y, RN (n + 1) x → RN (n + 1) y → 0 ≤ leafD n p d x y ∧ leafD n p d x y ≤ d (if x = n then p else x) (if y = n then p else y) + (if x = n then 1 else 0) + (if y = n then 1 else 0) := fun x y hx hy => by
    have h1 := T.bd _ _ (fr x hx) (fr y hy)
    have h2 := wb x
    have h3 := wb y
    by_cases h : x = y
    · subst h; rw [eq0]; omega
    · rw [eq x y h]; omega
  have sy : ∀ x y, RN (n + 1) x → RN (n + 1) y → leafD n p d x y = leafD n p d y x := fun x y hx hy => by
    by_cases h : x = y
    · subst h; rfl
    · rw [eq x y h, eq y x (Ne.symm h), T.sym _ _ (fr x hx) (fr y hy)]; omega
  have lowD : ∀ x y, x ≠ n → y ≠ n → RN n x → leafD n p d x y = d x y := fun x y h1 h2 hx => by
    by_cases h : x = y
    · subst h; rw [eq0, T.self hx]
    · rw [eq x y h, if_neg h1, if_neg h2, if_neg h1, if_neg h2]; omega
  have topD : ∀ y, y ≠ n → leafD n p d n y = d p y + 1 := fun y h => by
    rw [eq n y (Ne.symm h), if_pos rfl, if_pos rfl, if_neg h, if_neg h]; omega
  refine ⟨fun x y hx hy => ?_, fun x y hx hy => ?_, sy, fun x y u v hx hy hu hv => ?_, fun x y z hx hy hz => ?_, fun x y hx hy h => ?_, fun x y hx hy => ?_⟩
  · by_cases e : x = y
    · subst e; rw [eq0]; unfold RN at hx; omega
    · have h2 := le x y hx hy
      have h1 := T.bd _ _ (fr x hx) (fr y hy)
      by_cases e1 : x = n
      · rw [e1, topD y (fun z => e (e1.trans z.symm))]
        have := T.bd p y hp (low y hy fun z => e (e1.trans z.symm))
        omega
      · by_cases e2 : y = n
        · rw [sy x y hx hy, e2, topD x e1]
          have := T.bd p x hp (low x hx e1)
          omega
        · rw [lowD x y e1 e2 (low x hx e1)]
          have := T.bd x y (low x hx e1) (low y hy e2)
          omega
  · by_cases e : x = y
    · subst e; exact ⟨fun _ => rfl, fun _ => eq0 x⟩
    · refine ⟨fun h => ?_, fun h => absurd h e⟩
      by_cases e1 : x = n
      · have h3 : y ≠ n := fun z => e (e1.trans z.symm)
        rw [e1, topD y h3] at h
        have := (T.bd p y hp (low y hy h3)).1
        omega
      · by_cases e2 : y = n
        · rw [sy x y hx hy, e2, topD x e1] at h
          have := (T.bd p x hp (low x hx e1)).1
          omega
        · rw [lowD x y e1 e2 (low x hx e1)] at h
          exact (T.zero x y (low x hx e1) (low y hy e2)).mp h
  · have F := T.four _ _ _ _ (fr x hx) (fr y hy) (fr u hu) (fr v hv)
    by_cases e1 : x = u
    · subst e1; have := sy x y hx hy; rw [this]; right; omega
    by_cases e2 : x = v
    · subst e2; have h1 := sy x y hx hy; have h2 := sy x u hx hu; left; omega
    by_cases e3 : y = u
    · subst e3; left; omega
    by_cases e4 : y = v
    · subst e4; have h1 := sy y u hy hu; right; omega
    have l1 := (le x y hx hy).2
    have l2 := (le u v hu hv).2
    rw [eq x u e1, eq y v e4, eq x v e2, eq y u e3]
    omega
  · by_cases e1 : x = y
    · subst e1; rw [eq0, sy z x hz hx]; omega
    by_cases e2 : y = z
    · subst e2; rw [eq0, sy x y hx hy]; omega
    by_cases e3 : z = x
    · subst e3; rw [eq0, sy z y hz hy]; omega
    have P := T.par _ _ _ (fr x hx) (fr y hy) (fr z hz)
    rw [eq x y e1, eq y z e2, eq z x e3]
    omega
  · by_cases e1 : x = n
    · have h3 : y ≠ n := fun z => h (e1.trans z.symm)
      refine ⟨p, by unfold RN at *; omega, ?_, ?_⟩
      · rw [e1, topD p (by unfold RN at hp; omega), T.self hp]; omega
      · rw [e1, topD y h3, lowD p y (by unfold RN at hp; omega) h3 hp]; omega
    · have hx' := low x hx e1
      by_cases e2 : y = n
      · by_cases e3 : x = p
        · refine ⟨n, by unfold RN at *; omega, ?_, ?_⟩
          · rw [sy x n hx (by unfold RN at *; omega), topD x e1, e3, T.self hp]; omega
          · rw [e2, eq0, sy x n hx (by unfold RN at *; omega), topD x e1, e3, T.self hp]; omega
        · obtain ⟨z, hz, z1, z2⟩ := T.stp x p hx' hp e3
          have zn : z ≠ n := by unfold RN at hz; omega
          have hz' : RN (n + 1) z := by unfold RN at *; omega
          refine ⟨z, hz', ?_, ?_⟩
          · rw [lowD x z e1 zn hx', z1]
          · rw [e2, sy z n hz' (by unfold RN at *; omega), topD z zn, sy x n hx (by unfold RN at *; omega), topD x e1, T.sym p z hp hz, T.sym p x hp hx', z2]; omega
      · obtain ⟨z, hz, z1, z2⟩ := T.stp x y hx' (low y hy e2) h
        have zn : z ≠ n := by unfold RN at hz; omega
        refine ⟨z, by unfold RN at *; omega, ?_, ?_⟩
        · rw [lowD x z e1 zn hx', z1]
        · rw [lowD z y zn e2 hz, lowD x y e1 e2 hx', z2]
  · rw [hu]
    have none : ∀ a b : Int, tieI n a ∉ ts ∧ (RN n a → b = n → (tieI a b = (p, n) ↔ a = p)) := fun a b => ⟨fun m => by
        have := ok _ m
        unfold tieI at this
        simp only at this
        omega, fun ha hb => by
        subst hb
        unfold RN at ha
        rw [tieI_lt ha.2]
        constructor
        · intro e; exact congrArg Prod.fst e
        · intro e; rw [e]⟩
    by_cases e : x = y
    · subst e
      rw [eq0]
      refine ⟨fun z => by omega, fun z => ?_⟩
      rcases z with z | z
      · have := ok _ z; unfold tieI at this; simp only at this; omega
      · have h1 := congrArg Prod.fst z
        have h2 := congrArg Prod.snd z
        unfold tieI at h1 h2
        unfold RN at hp
        simp only at h1 h2
        omega
    · by_cases e1 : x = n
      · have h3 : y ≠ n := fun z => e (e1.trans z.symm)
        have hy' := low y hy h3
        rw [e1, topD y h3, tieI_comm, ((none y n).2 hy' rfl)]
        refine ⟨fun z => .inr ((T.zero p y hp hy').mp (by omega)).symm, fun z => ?_⟩
        rcases z with z | z
        · rw [tieI_comm] at z; exact absurd z (none y 0).1
        · rw [z, T.self hp]; omega
      · have hx' := low x hx e1
        by_cases e2 : y = n
        · rw [sy x y hx hy, e2, topD x e1, ((none x n).2 hx' rfl)]
          refine ⟨fun z => .inr ((T.zero p x hp hx').mp (by omega)).symm, fun z => ?_⟩
          rcases z with z | z
          · rw [tieI_comm] at z; exact absurd z (none x 0).1
          · rw [z, T.self hp]; omega
        · rw [lowD x y e1 e2 hx', T.adj x y hx' (low y hy e2)]
          refine ⟨.inl, fun z => ?_⟩
          rcases z with z | z
          · exact z
          · have h2 := congrArg Prod.snd z
            unfold tieI at h2
            simp only at h2
            unfold RN at hx'
            have := low y hy e2
            unfold RN at this
            omega
end
end DL

/-! DL29: plain: the middle of a tree. -/
namespace DL
open PySem PySem.Spec PyProof.Rows L2
/-! ### the greatest of a list -/
def mxL : List Int → Int
  | [] => 0
  | x :: xs => max x (mxL xs)
theorem mxL_nn : ∀ xs : List Int, 0 ≤ mxL xs
  | [] => Int.le_refl 0
  | x :: xs => by
    have := mxL_nn xs
    show 0 ≤ max x (mxL xs)
    omega
theorem le_mxL : ∀ {xs : List Int} {x : Int}, x ∈ xs → x ≤ mxL xs
  | y :: xs, x, h => by
    show x ≤ max y (mxL xs)
    rcases List.mem_cons.mp h with rfl | h
    · omega
    · have := le_mxL h
      omega
theorem mxL_mem : ∀ {xs : List Int}, xs ≠ [] → (∀ x ∈ xs, 0 ≤ x) → mxL xs ∈ xs
  | [x], _, h => by
    have := h x List.mem_cons_self
    have e : mxL [x] = x := by
      show max x 0 = x
      omega
    rw [e]; exact List.mem_cons_self
  | x :: y :: xs, _, h => by
    have ih := mxL_mem (xs := y :: xs) (by simp) fun z hz => h z (List.mem_cons_of_mem _ hz)
    show max x (mxL (y :: xs)) ∈ _
    by_cases e : mxL (y :: xs) ≤ x
    · rw [show max x (mxL (y :: xs)) = x by omega]; exact List.mem_cons_self
    · rw [show max x (mxL (y :: xs)) = mxL (y :: xs) by omega]; exact List.mem_cons_of_mem _ ih
theorem mxL_eq {xs : List Int} {m : Int} (h : m ∈ xs) (hm : ∀ y ∈ xs, y ≤ m) (nn : ∀ x ∈ xs, 0 ≤ x) : m = mxL xs := by
  have h1 := le_mxL h
  have h2 := hm _ (mxL_mem (fun e => by rw [e] at h; cases h) nn)
  omega
/-- the greatest number of steps from x to places of xs -/
def ec (d : Int → Int → Int) (xs : List Int) (x : Int) : Int := mxL (xs.map (d x))
section
variable {n : Int} {ts : List (Int × Int)} {d : Int → Int → Int} {S S' : List Int}
theorem ec_ge {x y : Int} (h : y ∈ S) : d x y ≤ ec d S x := le_mxL (List.mem_map_of_mem h)
theorem ec_at (T : TM n ts d) (hS : ∀ x ∈ S, RN n x) {x : Int} (hx : RN n x) (ne : S ≠ []) : ∃ y ∈ S, d x y = ec d S x := by
  have := mxL_mem (xs := S.map (d x)) (by simpa using ne) fun v hv => by
    obtain ⟨y, hy, rfl⟩ := List.mem_map.mp hv
    exact (T.bd x y hx (hS y hy)).1
  obtain ⟨y, hy, e⟩ := List.mem_map.mp this
  exact ⟨y, hy, e⟩
/-- two joined places within -/
def Two (d : Int → Int → Int) (S : List Int) (x : Int) : Prop := ∃ z1 ∈ S, ∃ z2 ∈ S, z1 ≠ z2 ∧ d x z1 = 1 ∧ d x z2 = 1
/-- what is left: the middle stands in it -/
structure Pr (n : Int) (d : Int → Int → Int) (S : List Int) : Prop where
  rng : ∀ x ∈ S, RN n x
  nd : S.Nodup
  ne : S ≠ []
  clo : ∀ x ∈ S, ∀ y ∈ S, ∀ m, RN n m → d x m + d m y = d x y → m ∈ S
  ex : ∃ t, ∀ x ∈ S, ec d S x + t = ec d (rngI 0 n) x
  out : ∀ x, RN n x → x ∉ S → ∃ y ∈ S, ec d (rngI 0 n) y < ec d (rngI 0 n) x
theorem Pr.start (h : 0 < n) : Pr n d (rngI 0 n) where
  rng := fun x hx => mem_rngI.mp hx
  nd := nodup_of_lt (rngI_sorted 0 n)
  ne := fun e => by
    have := congrArg List.length e
    rw [rngI_len] at this
    simp at this
    omega
  clo := fun x _ y _ m hm _ => mem_rngI.mpr hm
  ex := ⟨0, fun x _ => by omega⟩
  out := fun x hx h => absurd (mem_rngI.mpr hx) h
/-- a step from x towards y stays within -/
theorem Pr.stp (P : Pr n d S) (T : TM n ts d) {x y : Int} (hx : x ∈ S) (hy : y ∈ S) (h : x ≠ y) : ∃ z ∈ S, d x z = 1 ∧ d z y = d x y - 1 := by
  obtain ⟨z, hz, h1, h2⟩ := T.stp x y (P.rng x hx) (P.rng y hy) h
  exact ⟨z, P.clo x hx y hy z hz (by omega), h1, h2⟩
/-- the farthest ones have one joined place only -/
theorem Pr.far (P : Pr n d S) (T : TM n ts d) {x y : Int} (hx : x ∈ S) (hy : y ∈ S) (h : x ≠ y) (e : d x y = ec d S x) : ¬ Two d S y := by
  rintro ⟨z1, h1, z2, h2, hne, e1, e2⟩
  have rx := P.rng x hx
  have ry := P.rng y hy
  have r1 := P.rng z1 h1
  have r2 := P.rng z2 h2
  have l1 := ec_ge (d := d) (x := x) h1
  have l2 := ec_ge (d := d) (x := x) h2
  have n1 := T.near rx ry r1 e1
  have n2 := T.near rx ry r2 e2
  exact hne (T.one rx ry r1 r2 e1 e2 (by omega) (by omega))
/-- beside a place with one joined place stands one that is nearer to the middle -/
theorem Pr.leaf (P : Pr n d S) (T : TM n ts d) (hl : 2 < S.length) {x : Int} (hx : x ∈ S) (h : ¬ Two d S x) : ∃ z ∈ S, Two d S z ∧ ec d S z < ec d S x := by
  have rx := P.rng x hx
  obtain ⟨u, hu, hne⟩ : ∃ u ∈ S, x ≠ u := by
    refine Classical.byContradiction fun hh => ?_
    have : ∀ u ∈ S, u ∈ [x] := fun u hu => by
      refine List.mem_singleton.mpr (Classical.byContradiction fun e => hh ⟨u, hu, fun e' => e e'.symm⟩)
    have := P.nd.length_le_of_subset this
    simp at this
    omega
  obtain ⟨z, hz, z1, z2⟩ := P.stp T hx hu hne
  have rz := P.rng z hz
  have xz : x ≠ z := fun e => by rw [e, T.self rz] at z1; omega
  -- every way from x goes through z
  have thru : ∀ w ∈ S, w ≠ x → d z w = d x w - 1 := fun w hw hwx => by
    obtain ⟨y, hy, y1, y2⟩ := P.stp T hx hw (Ne.symm hwx)
    have : y = z := Classical.byContradiction fun e => h ⟨y, hy, z, hz, e, y1, z1⟩
    rw [this] at y2
    exact y2
  obtain ⟨w, hw, wx, wz⟩ : ∃ w ∈ S, w ≠ x ∧ w ≠ z := by
    refine Classical.byContradiction fun hh => ?_
    have : ∀ u ∈ S, u ∈ [x, z] := fun u hu => by
      by_cases e : u = x
      · rw [e]; simp
      · by_cases e2 : u = z
        · rw [e2]; simp
        · exact absurd ⟨u, hu, e, e2⟩ hh
    have := P.nd.length_le_of_subset this
    simp at this
    omega
  have rw' := P.rng w hw
  have w1 := thru w hw wx
  obtain ⟨v, hv, v1, v2⟩ := P.stp T hz hw (Ne.symm wz)
  have rv := P.rng v hv
  have hzw := T.pos rz rw' (Ne.symm wz)
  refine ⟨z, hz, ⟨x, hx, v, hv, fun e => ?_, by rw [T.sym z x rz rx]; exact z1, v1⟩, ?_⟩
  · rw [← e] at v2; omega
  · obtain ⟨y, hy, e⟩ := ec_at T P.rng rz P.ne
    have g := ec_ge (d := d) (x := x) hw
    by_cases hyx : y = x
    · rw [hyx, T.sym z x rz rx, z1] at e
      omega
    · have := thru y hy hyx
      have g2 := ec_ge (d := d) (x := x) hy
      omega
theorem Pr.step (P : Pr n d S) (T : TM n ts d) (hl : 2 < S.length) (nd : S'.Nodup) (h : ∀ x, x ∈ S' ↔ x ∈ S ∧ Two d S x) : Pr n d S' ∧ ∃ x ∈ S, x ∉ S' := by
  have inS : ∀ x ∈ S', x ∈ S := fun x hx => ((h x).mp hx).1
  have some_ : ∀ x, RN n x → x ∉ S' → x ∈ S → ∃ y ∈ S', ec d S y < ec d S x := fun x rx hx xs => by
    obtain ⟨z, hz, tz, lz⟩ := P.leaf T hl xs fun t => hx ((h x).mpr ⟨xs, t⟩)
    exact ⟨z, (h z).mpr ⟨hz, tz⟩, lz⟩
  obtain ⟨x0, hx0⟩ : ∃ x, x ∈ S := List.exists_mem_of_ne_nil _ P.ne
  obtain ⟨y0, hy0, e0⟩ := ec_at T P.rng (P.rng x0 hx0) P.ne
  have ne0 : x0 ≠ y0 := fun e => by
    -- all would be x0
    rw [← e, T.self (P.rng x0 hx0)] at e0
    have : ∀ u ∈ S, u ∈ [x0] := fun u hu => by
      have g := ec_ge (d := d) (x := x0) hu
      have b := (T.bd x0 u (P.rng x0 hx0) (P.rng u hu)).1
      exact List.mem_singleton.mpr ((T.zero x0 u (P.rng x0 hx0) (P.rng u hu)).mp (by omega)).symm
    have := P.nd.length_le_of_subset this
    simp at this
    omega
  have out0 : y0 ∉ S' := fun m => P.far T hx0 hy0 ne0 e0 ((h y0).mp m).2
  obtain ⟨t, ht⟩ := P.ex
  have ecs : ∀ x ∈ S', ec d S' x + 1 = ec d S x := fun x hx => by
    have xs := inS x hx
    have rx := P.rng x xs
    obtain ⟨y, hy, e⟩ := ec_at T P.rng rx P.ne
    obtain ⟨z1, hz1, _, _, _, k1, _⟩ := ((h x).mp hx).2
    have pos := ec_ge (d := d) (x := x) hz1
    have xy : x ≠ y := fun e' => by rw [← e', T.self rx] at e; omega
    have ry := P.rng y hy
    have up : ∀ w ∈ S', d x w ≤ ec d S x - 1 := fun w hw => by
      have ws := inS w hw
      have g := ec_ge (d := d) (x := x) ws
      by_cases e2 : d x w = ec d S x
      · have xw : x ≠ w := fun e' => by rw [← e', T.self rx] at e2; omega
        exact absurd ((h w).mp hw).2 (P.far T xs ws xw e2)
      · omega
    obtain ⟨z, hz, q1, q2⟩ := P.stp T hy xs (Ne.symm xy)
    have rz := P.rng z hz
    have sx := T.sym y x ry rx
    have sz := T.sym z x rz rx
    have sy := T.sym y z ry rz
    have zin : z ∈ S' := by
      by_cases e3 : z = x
      · rw [e3]; exact hx
      · obtain ⟨v, hv, v1, v2⟩ := P.stp T hz xs e3
        refine (h z).mpr ⟨hz, y, hy, v, hv, fun e4 => ?_, by omega, v1⟩
        rw [← e4] at v2; omega
    have g2 := ec_ge (d := d) (x := x) zin
    obtain ⟨w, hw, e5⟩ := ec_at (S := S') T (fun u hu => P.rng u (inS u hu)) rx (fun e => by rw [e] at zin; cases zin)
    have := up w hw
    omega
  refine ⟨⟨fun x hx => P.rng x (inS x hx), nd, fun e => ?_, fun x hx y hy m hm hb => ?_, ⟨t + 1, fun x hx => ?_⟩, fun x rx hx => ?_⟩, y0, hy0, out0⟩
  · obtain ⟨z, hz, _⟩ := some_ y0 (P.rng y0 hy0) out0 hy0
    rw [e] at hz; cases hz
  · have xs := inS x hx
    have ys := inS y hy
    have ms := P.clo x xs y ys m hm hb
    by_cases e1 : m = x
    · rw [e1]; exact hx
    by_cases e2 : m = y
    · rw [e2]; exact hy
    obtain ⟨a, ha, a1, a2⟩ := P.stp T ms xs e1
    obtain ⟨b, hb', b1, b2⟩ := P.stp T ms ys e2
    refine (h m).mpr ⟨ms, a, ha, b, hb', fun e => ?_, a1, b1⟩
    rw [← e] at b2
    have g := T.tri (P.rng x xs) (P.rng y ys) (P.rng a ha)
    have s1 := T.sym a x (P.rng a ha) (P.rng x xs)
    have s2 := T.sym m x hm (P.rng x xs)
    omega
  · have := ecs x hx
    have := ht x (inS x hx)
    omega
  · by_cases xs : x ∈ S
    · obtain ⟨y, hy, l⟩ := some_ x rx hx xs
      have h1 := ht x xs
      have h2 := ht y (inS y hy)
      exact ⟨y, hy, by omega⟩
    · obtain ⟨y, hy, l⟩ := P.out x rx xs
      by_cases ys : y ∈ S'
      · exact ⟨y, ys, l⟩
      · obtain ⟨z, hz, l2⟩ := some_ y (P.rng y hy) ys hy
        have h1 := ht y hy
        have h2 := ht z (inS z hz)
        exact ⟨z, hz, by omega⟩
/-- at the end just the middle is left -/
theorem Pr.fin (P : Pr n d S) (T : TM n ts d) (hl : S.length ≤ 2) {x : Int} (hx : RN n x) : x ∈ S ↔ ∀ y, RN n y → ec d (rngI 0 n) x ≤ ec d (rngI 0 n) y := by
  obtain ⟨t, ht⟩ := P.ex
  have same : ∀ a ∈ S, ∀ b ∈ S, ec d S a = ec d S b := fun a ha b hb => by
    by_cases e : a = b
    · rw [e]
    have only : ∀ u ∈ S, u = a ∨ u = b := fun u hu => by
      refine Classical.byContradiction fun hh => ?_
      have hh := not_or.mp hh
      have : [u, a, b].Nodup := by simp [hh.1, hh.2, e]
      have := this.length_le_of_subset (l₂ := S) fun v hv => by
        rcases List.mem_cons.mp hv with rfl | hv
        · exact hu
        · rcases List.mem_cons.mp hv with rfl | hv
          · exact ha
          · rw [List.mem_singleton.mp hv]; exact hb
      simp at this
      omega
    have ra := P.rng a ha
    have rb := P.rng b hb
    have key : ∀ u v, u ∈ S → v ∈ S → u ≠ v → (∀ w ∈ S, w = u ∨ w = v) → ec d S u = d u v := fun u v hu hv huv on => by
      obtain ⟨y, hy, e2⟩ := ec_at T P.rng (P.rng u hu) P.ne
      have g := ec_ge (d := d) (x := u) hv
      rcases on y hy with rfl | rfl
      · rw [T.self (P.rng y hy)] at e2
        have := T.pos (P.rng y hu) (P.rng v hv) huv
        omega
      · exact e2.symm
    rw [key a b ha hb e only, key b a hb ha (Ne.symm e) fun w hw => (only w hw).symm, T.sym a b ra rb]
  constructor
  · intro hxs y hy
    by_cases ys : y ∈ S
    · have h1 := ht x hxs
      have h2 := ht y ys
      have h3 := same x hxs y ys
      omega
    · obtain ⟨z, hz, l⟩ := P.out y hy ys
      have h1 := ht x hxs
      have h2 := ht z hz
      have h3 := same x hxs z hz
      omega
  · intro hh
    refine Classical.byContradiction fun xs => ?_
    obtain ⟨z, hz, l⟩ := P.out x hx xs
    have := hh z (P.rng z hz)
    omega
end
end DL

/-! DL30: plain: where the middle of a tree stands. -/
namespace DL
open PySem PySem.Spec PyProof.Rows L2
section
variable {n : Int} {ts : List (Int × Int)} {d : Int → Int → Int}
/-- a place from which the farthest one is as near as can be -/
def Mid (n : Int) (d : Int → Int → Int) (c : Int) : Prop := RN n c ∧ ∀ y, RN n y → ec d (rngI 0 n) c ≤ ec d (rngI 0 n) y
/-- a longest way -/
structure Dm (n : Int) (d : Int → Int → Int) (D P Q : Int) : Prop where
  p : RN n P
  q : RN n Q
  e : d P Q = D
  le : ∀ x y, RN n x → RN n y → d x y ≤ D
theorem rng_ne (h : 0 < n) : rngI 0 n ≠ [] := fun e => by
  have := congrArg List.length e
  rw [rngI_len] at this
  simp at this
  omega
theorem rng_rn {x : Int} (h : x ∈ rngI 0 n) : RN n x := mem_rngI.mp h
theorem TM.ecc (T : TM n ts d) {D P Q : Int} (m : Dm n d D P Q) {x : Int} (hx : RN n x) : ec d (rngI 0 n) x = max (d x P) (d x Q) := by
  have g1 := ec_ge (d := d) (x := x) (mem_rngI.mpr m.p)
  have g2 := ec_ge (d := d) (x := x) (mem_rngI.mpr m.q)
  obtain ⟨y, hy, e⟩ := ec_at T (fun x h => rng_rn h) hx (rng_ne (n := n) (by unfold RN at hx; omega))
  have ry := rng_rn hy
  have f := T.four x y P Q hx ry m.p m.q
  have l1 := m.le y Q ry m.q
  have l2 := m.le y P ry m.p
  have l3 := m.e
  omega
theorem TM.walk (T : TM n ts d) {x y : Int} (hx : RN n x) (hy : RN n y) : ∀ k : Nat, (k : Int) ≤ d x y → ∃ m, RN n m ∧ d x m = k ∧ d m y = d x y - k
  | 0, _ => ⟨x, hx, by rw [T.self hx]; rfl, by omega⟩
  | k + 1, h => by
    obtain ⟨m, hm, h1, h2⟩ := T.walk hx hy k (by omega)
    have ne : m ≠ y := fun e => by rw [e, T.self hy] at h2; omega
    obtain ⟨z, hz, z1, z2⟩ := T.stp m y hm hy ne
    refine ⟨z, hz, ?_, by omega⟩
    have t1 := T.tri hx hz hm
    have t2 := T.tri hx hy hz
    omega
theorem TM.midAt (T : TM n ts d) {D P Q : Int} (m : Dm n d D P Q) {c : Int} : Mid n d c ↔ RN n c ∧ max (d c P) (d c Q) = (D + 1) / 2 := by
  have b := (T.bd P Q m.p m.q).1
  have e := m.e
  have low : ∀ x, RN n x → (D + 1) / 2 ≤ ec d (rngI 0 n) x := fun x hx => by
    rw [T.ecc m hx]
    have t := T.tri m.p m.q hx
    have s := T.sym P x m.p hx
    omega
  constructor
  · rintro ⟨hc, h⟩
    refine ⟨hc, ?_⟩
    obtain ⟨x, hx, x1, x2⟩ := T.walk m.p m.q (D / 2).toNat (by omega)
    have h1 := h x hx
    have s := T.sym P x m.p hx
    have h2 := low c hc
    rw [T.ecc m hx] at h1
    rw [T.ecc m hc] at h1 h2
    omega
  · rintro ⟨hc, h⟩
    refine ⟨hc, fun y hy => ?_⟩
    rw [T.ecc m hc, h]
    exact low y hy
theorem TM.midOn (T : TM n ts d) {D P Q : Int} (m : Dm n d D P Q) {c : Int} (h : Mid n d c) : d P c + d c Q = D ∧ d P c - d c Q ≤ 1 ∧ d c Q - d P c ≤ 1 := by
  obtain ⟨hc, h⟩ := (T.midAt m).mp h
  have t := T.tri m.p m.q hc
  have s := T.sym P c m.p hc
  have s2 := T.sym Q c m.q hc
  have p := T.par P Q c m.p m.q hc
  have e := m.e
  omega
/-- the middle: one place, or two joined ones -/
theorem TM.mids (T : TM n ts d) {D P Q : Int} (m : Dm n d D P Q) : (D % 2 = 0 ∧ ∃ c, Mid n d c ∧ d c P = D / 2 ∧ d c Q = D / 2 ∧ ∀ x, Mid n d x → x = c) ∨
    (D % 2 = 1 ∧ ∃ a b, Mid n d a ∧ Mid n d b ∧ a ≠ b ∧ d a b = 1 ∧ d a P = (D + 1) / 2 - 1 ∧ d a Q = (D + 1) / 2 ∧ d b P = (D + 1) / 2 ∧ d b Q = (D + 1) / 2 - 1 ∧ ∀ x, Mid n d x → x = a ∨ x = b) := by
  have bb := (T.bd P Q m.p m.q).1
  have e := m.e
  have uniq : ∀ x y, RN n x → RN n y → d x P = d y P → d x Q = d y Q → d x P + d x Q = D → x = y := fun x y hx hy h1 h2 h3 => by
    have f := T.four x y P Q hx hy m.p m.q
    have b := (T.bd x y hx hy).1
    exact (T.zero x y hx hy).mp (by omega)
  rcases (by omega : D % 2 = 0 ∨ D % 2 = 1) with h | h
  · left
    obtain ⟨c, hc, c1, c2⟩ := T.walk m.p m.q (D / 2).toNat (by omega)
    have s := T.sym P c m.p hc
    refine ⟨h, c, (T.midAt m).mpr ⟨hc, by omega⟩, by omega, by omega, fun x hx => ?_⟩
    have o := T.midOn m hx
    have s2 := T.sym P x m.p hx.1
    exact uniq x c hx.1 hc (by omega) (by omega) (by omega)
  · right
    obtain ⟨a, ha, a1, a2⟩ := T.walk m.p m.q ((D + 1) / 2 - 1).toNat (by omega)
    obtain ⟨b, hb, b1, b2⟩ := T.walk m.p m.q ((D + 1) / 2).toNat (by omega)
    have s := T.sym P a m.p ha
    have s2 := T.sym P b m.p hb
    have ab : a ≠ b := fun e => by rw [e] at a1; omega
    have f := T.four a b P Q ha hb m.p m.q
    have pos := T.pos ha hb ab
    refine ⟨h, a, b, (T.midAt m).mpr ⟨ha, by omega⟩, (T.midAt m).mpr ⟨hb, by omega⟩, ab, by omega, by omega, by omega, by omega, by omega, fun x hx => ?_⟩
    have o := T.midOn m hx
    have s3 := T.sym P x m.p hx.1
    rcases (by omega : d P x = (D + 1) / 2 - 1 ∨ d P x = (D + 1) / 2) with q | q
    · exact .inl (uniq x a hx.1 ha (by omega) (by omega) (by omega))
    · exact .inr (uniq x b hx.1 hb (by omega) (by omega) (by omega))
/-- who is not much farther from the farthest stands beside the middle -/
theorem TM.beside (T : TM n ts d) {D P Q : Int} (m : Dm n d D P Q) {k : Int} (hk : RN n k) (h : ec d (rngI 0 n) k ≤ (D + 1) / 2 + 1) : ∃ c, Mid n d c ∧ d k c ≤ 1 := by
  rw [T.ecc m hk] at h
  have par := T.par P Q k m.p m.q hk
  have e := m.e
  have s := T.sym k P hk m.p
  have s2 := T.sym k Q hk m.q
  refine Classical.byContradiction fun hh => ?_
  have far : ∀ c, Mid n d c → 2 ≤ d k c := fun c hc => by
    refine Classical.byContradiction fun z => hh ⟨c, hc, by omega⟩
  rcases T.mids m with ⟨h0, c, mc, c1, c2, _⟩ | ⟨h0, a, b, ma, mb, _, _, a1, a2, b1, b2, _⟩
  · have f := T.four k c P Q hk mc.1 m.p m.q
    have := far c mc
    omega
  · have f1 := T.four k a P Q hk ma.1 m.p m.q
    have f2 := T.four k b P Q hk mb.1 m.p m.q
    have g1 := far a ma
    have g2 := far b mb
    omega
theorem TM.dm (T : TM n ts d) (h : 0 < n) : ∃ D P Q, Dm n d D P Q ∧ D = mxL ((rngI 0 n).map (ec d (rngI 0 n))) := by
  have z : RN n 0 := ⟨Int.le_refl 0, h⟩
  have nn : ∀ v ∈ (rngI 0 n).map (ec d (rngI 0 n)), 0 ≤ v := fun v hv => by
    obtain ⟨x, hx, rfl⟩ := List.mem_map.mp hv
    exact mxL_nn _
  have hm := mxL_mem (xs := (rngI 0 n).map (ec d (rngI 0 n))) (by simpa using rng_ne h) nn
  obtain ⟨P, hP, e⟩ := List.mem_map.mp hm
  obtain ⟨Q, hQ, e2⟩ := ec_at T (fun x h => rng_rn h) (rng_rn hP) (rng_ne h)
  refine ⟨_, P, Q, ⟨rng_rn hP, rng_rn hQ, e2.trans e, fun x y hx hy => ?_⟩, rfl⟩
  have g1 := ec_ge (d := d) (x := x) (mem_rngI.mpr hy)
  have g2 := le_mxL (List.mem_map_of_mem (f := ec d (rngI 0 n)) (mem_rngI.mpr hx))
  omega
/-- the middle, ascending -/
def cen (n : Int) (d : Int → Int → Int) : List Int := (rngI 0 n).filter fun x => decide (∀ y ∈ rngI 0 n, ec d (rngI 0 n) x ≤ ec d (rngI 0 n) y)
theorem mem_cen {x : Int} : x ∈ cen n d ↔ Mid n d x := by
  unfold cen Mid
  rw [List.mem_filter, mem_rngI, decide_eq_true_eq]
  exact ⟨fun h => ⟨h.1, fun y hy => h.2 y (mem_rngI.mpr hy)⟩, fun h => ⟨h.1, fun y hy => h.2 y (mem_rngI.mp hy)⟩⟩
theorem cen_sorted : (cen n d).Pairwise (· < ·) := (rngI_sorted 0 n).sublist List.filter_sublist
theorem cen_len_le : (cen n d).length ≤ n.toNat := by
  refine Nat.le_trans (List.length_filter_le _ _) ?_
  rw [rngI_len]; omega
theorem asc_ints {xs ys : List Int} (h1 : xs.Pairwise (· < ·)) (h2 : ys.Pairwise (· < ·)) (h : ∀ x, x ∈ xs ↔ x ∈ ys) : xs = ys :=
  sortI_eq (List.Perm.refl xs) (h1.imp fun {a b} q => by omega) (nodup_of_lt h1) h2 h
/-- what is left at the end is the middle -/
theorem Pr.cen {S : List Int} (P : Pr n d S) (T : TM n ts d) (hl : S.length ≤ 2) (s : S.Pairwise (· < ·)) : S = DL.cen n d :=
  asc_ints s cen_sorted fun x => by
    rw [mem_cen]
    exact ⟨fun h => ⟨P.rng x h, (P.fin T hl (P.rng x h)).mp h⟩, fun h => (P.fin T hl h.1).mpr h.2⟩
theorem TM.cenLen (T : TM n ts d) {D P Q : Int} (m : Dm n d D P Q) : (((cen n d).length : Int) = 1 + D % 2) ∧ ∀ a b, cen n d = [a, b] → d a b = 1 := by
  rcases T.mids m with ⟨h0, c, mc, _, _, hu⟩ | ⟨h0, a, b, ma, mb, ne, d1, _, _, _, _, hu⟩
  · have e : cen n d = [c] := asc_ints cen_sorted (List.pairwise_singleton _ _) fun x => by
      rw [mem_cen, List.mem_singleton]
      exact ⟨hu x, fun e => by rw [e]; exact mc⟩
    rw [e, h0]
    exact ⟨rfl, fun a b h => by cases h⟩
  · have key : ∀ u v, Mid n d u → Mid n d v → u < v → (∀ x, Mid n d x → x = u ∨ x = v) → cen n d = [u, v] := fun u v hu hv huv on =>
      asc_ints cen_sorted (by simp [huv]) fun x => by
        rw [mem_cen]
        simp only [List.mem_cons, List.not_mem_nil, or_false]
        exact ⟨on x, fun e => by rcases e with rfl | rfl; exact hu; exact hv⟩
    rcases (by omega : a < b ∨ b < a) with l | l
    · rw [key a b ma mb l hu, h0]
      exact ⟨rfl, fun x y h => by cases h; exact d1⟩
    · rw [key b a mb ma l fun x hx => (hu x hx).symm, h0]
      exact ⟨rfl, fun x y h => by cases h; rw [T.sym b a mb.1 ma.1]; exact d1⟩
theorem TM.cen_ne (T : TM n ts d) (h : 0 < n) : cen n d ≠ [] := fun e => by
  obtain ⟨D, P, Q, m, _⟩ := T.dm h
  have h1 := (T.cenLen m).1
  have h2 := (T.bd P Q m.p m.q).1
  have := m.e
  rw [e] at h1
  simp at h1
  omega
/-- a place more -/
theorem TM.moved (T : TM n ts d) {p : Int} (hp : RN n p) (ok : ∀ q ∈ ts, 0 ≤ q.1 ∧ q.1 < q.2 ∧ q.2 < n) {us : List (Int × Int)} (hu : ∀ q, q ∈ us ↔ q ∈ ts ∨ q = (p, n)) (h2 : 2 ≤ n) {k : Int} (hk : k ∈ cen (n + 1) (leafD n p d)) : k < n ∧ 0 ≤ k ∧ ∃ c ∈ cen n d, d k c ≤ 1 := by
  have T' := T.leaf hp ok hu
  obtain ⟨rk, hk⟩ := mem_cen.mp hk
  have up : ∀ x, RN n x → RN (n + 1) x := fun x hx => by unfold RN at *; omega
  have rn' : RN (n + 1) n := by unfold RN at *; omega
  have low : ∀ x y, RN n x → RN n y → leafD n p d x y = d x y := fun x y hx hy => by
    unfold leafD
    unfold RN at hx hy
    by_cases e : x = y
    · subst e; rw [if_pos rfl, T.self hx]
    · rw [if_neg e, if_neg (by omega), if_neg (by omega), if_neg (by omega), if_neg (by omega)]; omega
  have top : ∀ x, RN n x → leafD n p d x n = d x p + 1 := fun x hx => by
    unfold leafD
    unfold RN at hx
    rw [if_neg (by omega), if_neg (by omega), if_pos rfl, if_neg (by omega), if_pos rfl]; omega
  have ge : ∀ x, RN n x → ec d (rngI 0 n) x ≤ ec (leafD n p d) (rngI 0 (n + 1)) x := fun x hx => by
    obtain ⟨y, hy, e⟩ := ec_at T (fun x h => rng_rn h) hx (rng_ne (n := n) (by omega))
    have := ec_ge (d := leafD n p d) (x := x) (mem_rngI.mpr (up y (rng_rn hy)))
    rw [low x y hx (rng_rn hy)] at this
    omega
  have le : ∀ x, RN n x → ec (leafD n p d) (rngI 0 (n + 1)) x ≤ max (ec d (rngI 0 n) x) (d x p + 1) := fun x hx => by
    obtain ⟨y, hy, e⟩ := ec_at T' (fun x h => rng_rn h) (up x hx) (rng_ne (n := n + 1) (by omega))
    have ry := rng_rn hy
    by_cases yn : y = n
    · rw [yn, top x hx] at e
      omega
    · have ry' : RN n y := by unfold RN at *; omega
      rw [low x y hx ry'] at e
      have := ec_ge (d := d) (x := x) (mem_rngI.mpr ry')
      omega
  have pself := T.self hp
  obtain ⟨y, hy, ey⟩ := ec_at T (fun x h => rng_rn h) hp (rng_ne (n := n) (by omega))
  have ey1 : 1 ≤ ec d (rngI 0 n) p := by
    obtain ⟨z, hz, hne⟩ : ∃ z, RN n z ∧ z ≠ p := by
      by_cases e : p = 0
      · exact ⟨1, by unfold RN; omega, by omega⟩
      · exact ⟨0, by unfold RN; omega, fun q => e q.symm⟩
    have g := ec_ge (d := d) (x := p) (mem_rngI.mpr hz)
    have := T.pos hp hz (Ne.symm hne)
    omega
  have ky : k ≠ n := fun e => by
    subst e
    have h1 := hk p (up p hp)
    have h2 := le p hp
    have h3 := ec_ge (d := leafD k p d) (x := k) (mem_rngI.mpr (up y (rng_rn hy)))
    rw [T'.sym k y rn' (up y (rng_rn hy)), top y (rng_rn hy), T.sym y p (rng_rn hy) hp] at h3
    omega
  have rk' : RN n k := by unfold RN at *; omega
  refine ⟨rk'.2, rk'.1, ?_⟩
  obtain ⟨D, P, Q, m, _⟩ := T.dm (by omega)
  obtain ⟨c, hc⟩ := List.exists_mem_of_ne_nil _ (T.cen_ne (by omega))
  have mc := mem_cen.mp hc
  have ec' := (T.midAt m).mp mc
  have e1 := T.ecc m mc.1
  have h1 := hk c (up c mc.1)
  have h2 := le c mc.1
  have h3 := ge k rk'
  have h4 := ec_ge (d := d) (x := c) (mem_rngI.mpr hp)
  obtain ⟨c2, mc2, l⟩ := T.beside m rk' (by omega)
  exact ⟨c2, mem_cen.mpr mc2, l⟩
end
end DL

/-! DL31: plain: trees with other names, joined places within a set. -/
namespace DL
open PySem PySem.Spec PyProof.Rows L2
section
variable {n : Int} {ts us : List (Int × Int)} {d : Int → Int → Int} {nm : List Int}
/-- whose new name it is -/
def inv (nm : List Int) (a : Int) : Int := (nm.idxOf a : Nat)
theorem inv_ok (hn : nm.Perm (rngI 0 n)) {a : Int} (ha : RN n a) : RN n (inv nm a) ∧ getI nm (inv nm a) = a := by
  have hm : a ∈ nm := hn.mem_iff.mpr (mem_rngI.mpr ha)
  have hl := List.idxOf_lt_length_of_mem hm
  have h2 := hn.length_eq
  rw [rngI_len] at h2
  unfold inv
  refine ⟨⟨by omega, by omega⟩, ?_⟩
  unfold getI
  rw [show ((nm.idxOf a : Nat) : Int).toNat = nm.idxOf a by omega, List.getD_eq_getElem?_getD, List.getElem?_eq_getElem hl]
  exact List.getElem_idxOf hl
theorem inv_get (hn : nm.Perm (rngI 0 n)) {x : Int} (hx : RN n x) : inv nm (getI nm x) = x := by
  have b := names_bd hn hx
  obtain ⟨h1, h2⟩ := inv_ok hn b
  exact names_inj hn h1 hx h2
theorem TM.ren (T : TM n ts d) (ok : ∀ q ∈ ts, 0 ≤ q.1 ∧ q.1 < q.2 ∧ q.2 < n) (hn : nm.Perm (rngI 0 n)) (hu : ∀ q, q ∈ us ↔ q ∈ ts.map (renP nm)) : TM n us (fun a b => d (inv nm a) (inv nm b)) where
  bd := fun x y hx hy => T.bd _ _ (inv_ok hn hx).1 (inv_ok hn hy).1
  zero := fun x y hx hy => by
    rw [T.zero _ _ (inv_ok hn hx).1 (inv_ok hn hy).1]
    refine ⟨fun e => ?_, fun e => by rw [e]⟩
    rw [← (inv_ok hn hx).2, ← (inv_ok hn hy).2, e]
  sym := fun x y hx hy => T.sym _ _ (inv_ok hn hx).1 (inv_ok hn hy).1
  four := fun x y u v hx hy hu hv => T.four _ _ _ _ (inv_ok hn hx).1 (inv_ok hn hy).1 (inv_ok hn hu).1 (inv_ok hn hv).1
  par := fun x y z hx hy hz => T.par _ _ _ (inv_ok hn hx).1 (inv_ok hn hy).1 (inv_ok hn hz).1
  stp := fun x y hx hy h => by
    have ne : inv nm x ≠ inv nm y := fun e => h (by rw [← (inv_ok hn hx).2, ← (inv_ok hn hy).2, e])
    obtain ⟨z, hz, h1, h2⟩ := T.stp _ _ (inv_ok hn hx).1 (inv_ok hn hy).1 ne
    refine ⟨getI nm z, names_bd hn hz, ?_, ?_⟩
    · rw [inv_get hn hz]; exact h1
    · rw [inv_get hn hz]; exact h2
  adj := fun x y hx hy => by
    obtain ⟨rx, ex⟩ := inv_ok hn hx
    obtain ⟨ry, ey⟩ := inv_ok hn hy
    rw [T.adj _ _ rx ry, hu, List.mem_map]
    constructor
    · intro h
      refine ⟨_, h, ?_⟩
      unfold renP
      rcases (by omega : inv nm x ≤ inv nm y ∨ inv nm y ≤ inv nm x) with q | q
      · show tieI (getI nm (min _ _)) (getI nm (max _ _)) = _
        rw [Int.min_eq_left q, Int.max_eq_right q, ex, ey]
      · show tieI (getI nm (min _ _)) (getI nm (max _ _)) = _
        rw [Int.min_eq_right q, Int.max_eq_left q, ex, ey, tieI_comm]
    · rintro ⟨q, hq, e⟩
      have oq := ok q hq
      have r1 : RN n q.1 := ⟨oq.1, by omega⟩
      have r2 : RN n q.2 := ⟨by omega, oq.2.2⟩
      have eq : tieI q.1 q.2 = q := tieI_lt oq.2.1
      rcases tieI_inj e with ⟨h1, h2⟩ | ⟨h1, h2⟩
      · rw [← h1, ← h2, inv_get hn r1, inv_get hn r2, eq]; exact hq
      · rw [← h1, ← h2, inv_get hn r1, inv_get hn r2, tieI_comm, eq]; exact hq
theorem ec_ren (T : TM n ts d) (T2 : TM n us (fun a b => d (inv nm a) (inv nm b))) (hn : nm.Perm (rngI 0 n)) {x : Int} (hx : RN n x) : ec (fun a b => d (inv nm a) (inv nm b)) (rngI 0 n) x = ec d (rngI 0 n) (inv nm x) := by
  have ne := rng_ne (n := n) (by unfold RN at hx; omega)
  obtain ⟨y, hy, e1⟩ := ec_at T2 (fun x h => rng_rn h) hx ne
  obtain ⟨z, hz, e2⟩ := ec_at T (fun x h => rng_rn h) (inv_ok hn hx).1 ne
  have g1 := ec_ge (d := d) (x := inv nm x) (mem_rngI.mpr (inv_ok hn (rng_rn hy)).1)
  have g2 := ec_ge (d := fun a b => d (inv nm a) (inv nm b)) (x := x) (mem_rngI.mpr (names_bd hn (rng_rn hz)))
  simp only [inv_get hn (rng_rn hz)] at g2
  omega
/-- the names changed change the middle's names -/
theorem cen_ren (T : TM n ts d) (T2 : TM n us (fun a b => d (inv nm a) (inv nm b))) (hn : nm.Perm (rngI 0 n)) {xs : List Int} (hp : xs.Perm ((cen n d).map (getI nm))) (hs : xs.Pairwise (· ≤ ·)) : xs = cen n (fun a b => d (inv nm a) (inv nm b)) := by
  refine sortI_eq hp hs ?_ cen_sorted fun x => ?_
  · refine List.nodup_iff_pairwise_ne.mpr (List.pairwise_map.mpr ?_)
    have h0 : (cen n d).Pairwise fun a b => Mid n d a ∧ Mid n d b ∧ a < b := by
      refine List.Pairwise.imp_of_mem (fun {a b} ha hb h => ⟨mem_cen.mp ha, mem_cen.mp hb, h⟩) cen_sorted
    exact h0.imp fun {a b} h e => by
      have := names_inj hn h.1.1 h.2.1.1 e
      omega
  · rw [mem_cen, List.mem_map]
    constructor
    · rintro ⟨k, hk, rfl⟩
      have mk := mem_cen.mp hk
      refine ⟨names_bd hn mk.1, fun y hy => ?_⟩
      rw [ec_ren T T2 hn (names_bd hn mk.1), ec_ren T T2 hn hy, inv_get hn mk.1]
      exact mk.2 _ (inv_ok hn hy).1
    · rintro ⟨rx, h⟩
      obtain ⟨r, e⟩ := inv_ok hn rx
      refine ⟨inv nm x, mem_cen.mpr ⟨r, fun y hy => ?_⟩, e⟩
      have := h (getI nm y) (names_bd hn hy)
      rw [ec_ren T T2 hn rx, ec_ren T T2 hn (names_bd hn hy), inv_get hn hy] at this
      exact this
/-- more than one tie within the set: two joined places there -/
theorem two_iff (T : TM n ts d) (w : Web n ts) {S : List Int} (hS : ∀ x ∈ S, RN n x) {x : Int} (hx : x ∈ S) : 1 < cdeg (ts.filter fun p => decide (p.1 ∈ S) && decide (p.2 ∈ S)) x ↔ Two d S x := by
  unfold cdeg
  have hm : ∀ q, q ∈ (ts.filter fun p => decide (p.1 ∈ S) && decide (p.2 ∈ S)).filter (fun p => decide (x = p.1 ∨ x = p.2)) ↔ q ∈ ts ∧ q.1 ∈ S ∧ q.2 ∈ S ∧ (x = q.1 ∨ x = q.2) := fun q => by
    simp only [List.mem_filter, Bool.and_eq_true, decide_eq_true_eq]
    constructor
    · rintro ⟨⟨a, b, c⟩, e⟩; exact ⟨a, b, c, e⟩
    · rintro ⟨a, b, c, e⟩; exact ⟨⟨a, b, c⟩, e⟩
  have nd : ((ts.filter fun p => decide (p.1 ∈ S) && decide (p.2 ∈ S)).filter (fun p => decide (x = p.1 ∨ x = p.2))).Nodup := (w.asc.nodup.sublist List.filter_sublist).sublist List.filter_sublist
  generalize (ts.filter fun p => decide (p.1 ∈ S) && decide (p.2 ∈ S)).filter (fun p => decide (x = p.1 ∨ x = p.2)) = L at hm nd
  have rx := hS x hx
  have oth : ∀ q ∈ L, ∃ z ∈ S, d x z = 1 ∧ q = tieI x z := fun q hq => by
    obtain ⟨q1, q2, q3, q4⟩ := (hm q).mp hq
    have oq := w.ok q q1
    have eq : tieI q.1 q.2 = q := tieI_lt oq.2.1
    rcases q4 with e | e
    · refine ⟨q.2, q3, (T.adj x q.2 rx (hS _ q3)).mpr (by rw [e, eq]; exact q1), by rw [e, eq]⟩
    · refine ⟨q.1, q2, (T.adj x q.1 rx (hS _ q2)).mpr (by rw [e, tieI_comm, eq]; exact q1), by rw [e, tieI_comm, eq]⟩
  constructor
  · intro h
    match L, h with
    | a :: b :: L, _ =>
      obtain ⟨z1, h1, d1, e1⟩ := oth a (by simp)
      obtain ⟨z2, h2, d2, e2⟩ := oth b (by simp)
      refine ⟨z1, h1, z2, h2, fun e => ?_, d1, d2⟩
      have : a = b := by rw [e1, e2, e]
      rw [this] at nd
      simp at nd
    | [a], h => simp at h
    | [], h => simp at h
  · rintro ⟨z1, h1, z2, h2, ne, d1, d2⟩
    have inL : ∀ z ∈ S, d x z = 1 → tieI x z ∈ L := fun z hz hd => by
      have m := (T.adj x z rx (hS z hz)).mp hd
      refine (hm _).mpr ⟨m, ?_, ?_, ?_⟩
      · unfold tieI
        rcases (by omega : min x z = x ∨ min x z = z) with e | e
        · rw [e]; exact hx
        · rw [e]; exact hz
      · unfold tieI
        rcases (by omega : max x z = x ∨ max x z = z) with e | e
        · rw [e]; exact hx
        · rw [e]; exact hz
      · unfold tieI
        simp only
        omega
    have hne : tieI x z1 ≠ tieI x z2 := fun e => by
      rcases tieI_inj e with ⟨_, e⟩ | ⟨e, e'⟩
      · exact ne e
      · exact ne (e'.trans e)
    have := List.Nodup.length_le_of_subset (l₁ := [tieI x z1, tieI x z2]) (by simp [hne]) (l₂ := L) fun q hq => by
      rcases List.mem_cons.mp hq with rfl | hq
      · exact inL z1 h1 d1
      · rw [List.mem_singleton.mp hq]; exact inL z2 h2 d2
    simp at this
    omega
end
end DL

/-! DL32: list(range(n)). -/
namespace DL
open PySem PySem.Spec PyProof.Rows L2
section
variable {c : Cn} {Γ : List Sl} {O : OL} {ta : TE} {Φ : Res → OL → Prop}
theorem we_lstRg1 (h : We c Γ O ta fun a O1 => ∃ n, Any O1 a (.int n) ∧ 0 ≤ n ∧ n ≤ 1000 ∧ Φ (.nw ((rngI 0 n).map .int)) O1) : We c Γ O (tLstRg (tRg1 ta)) Φ := fun F H σ I Q q =>
  h F H σ I _ fun x F1 H1 a O1 p I1 g1 ra => by
    obtain ⟨n, an, h0, h1, p⟩ := p
    cases an.int I1 ra
    have e : rgV 0 n = (rngI 0 n).map V.int := by
      unfold rgV rngI
      first | rfl | (rw [List.map_map]; rfl) | simp
    refine ⟨n, rfl, ?_, fun l hl => ?_⟩
    · exact RgOk.of_le (by omega) (by omega) (by omega) (by omega)
    · rw [e]
      obtain ⟨I3, g3⟩ := I1.newL (Hs := H) hl ((rngI 0 n).map V.int)
      exact q _ _ _ _ O1 p I3 (g1.trans g3) (I1.nw g1.be hl (das_ints _))
end
end DL

namespace DL
open PySem PySem.Spec PyProof.Rows L2
/-! short tactics -/
local macro_rules | `(tactic| walk_at "mem") => `(tactic| first
  | exact (List.Mem.head _)
  | exact (List.Mem.tail _ (List.Mem.head _))
  | exact (List.Mem.tail _ (List.Mem.tail _ (List.Mem.head _)))
  | exact (List.Mem.tail _ (List.Mem.tail _ (List.Mem.tail _ (List.Mem.head _))))
  | exact (List.Mem.tail _ (List.Mem.tail _ (List.Mem.tail _ (List.Mem.tail _ (List.Mem.head _)))))
  | exact (List.Mem.tail _ (List.Mem.tail _ (List.Mem.tail _ (List.Mem.tail _ (List.Mem.tail _ (List.Mem.head _))))))
  | exact (List.Mem.tail _ (List.Mem.tail _ (List.Mem.tail _ (List.Mem.tail _ (List.Mem.tail _ (List.Mem.tail _ (List.Mem.head _))))))))
local macro_rules | `(tactic| walk_at "any") => `(tactic| ((with_reducible show Any _ _ _); walk_at "any0"))
local macro_rules | `(tactic| walk_at "any0") => `(tactic| first
  | exact Any.fr
  | exact Any.bo
  | exact Any.nw
  | exact Any.pt (by walk_at "mem")
  | assumption)
local macro_rules | `(tactic| walk_at "anys") => `(tactic| first
  | exact Anys.nil
  | refine Anys.cons (by walk_at "any") (by walk_at "anys"))
local macro_rules | `(tactic| walk_at "lf") => `(tactic| first
  | rfl
  | exact lfs_prs _
  | exact lfs_ints _
  | assumption)
local macro_rules | `(tactic| walk_at "seq") => `(tactic| first
  | exact Seq.fr
  | exact Seq.nw
  | exact Seq.pt (by walk_at "mem")
  | exact Seq.bf (by walk_at "lf")
  | exact Seq.bo)
local macro_rules | `(tactic| walk_at "seqw") => `(tactic| first
  | exact SeqW.fr
  | exact SeqW.nw
  | exact SeqW.bf (by walk_at "lf")
  | exact SeqW.bo
  | exact SeqW.tf
  | exact SeqW.tb)
local macro_rules | `(tactic| walk_at "tup") => `(tactic| first
  | exact Tup.fr
  | exact Tup.bo)
local macro_rules | `(tactic| walk_at "fz") => `(tactic| first
  | exact Fz.fr
  | exact Fz.nw
  | exact Fz.bf (by walk_at "lf"))
local macro_rules | `(tactic| walk_at "fzs") => `(tactic| first
  | exact Fzs.nil
  | refine Fzs.cons (by walk_at "fz") (by walk_at "fzs"))
local macro_rules | `(tactic| walk_at "tru") => `(tactic| first
  | exact Tru.bool
  | exact Tru.int
  | exact Tru.list
  | exact Tru.tuple
  | exact Tru.non)
local macro_rules | `(tactic| walk_at "set") => `(tactic| (dsimp only [List.set, wipeG]; try rfl))
local macro_rules | `(tactic| walk_at "own") => `(tactic| refine sto_own (by intro p; dsimp only [List.set, wipeG]; try rfl) (by intro p; dsimp only [List.nil_append, List.cons_append]; try rfl) ?_)
local macro_rules | `(tactic| walk_at "rs") => `(tactic| dsimp only [Rt.res, OcK])
local macro_rules | `(tactic| walk_at "sle") => `(tactic| first
  | exact SLe.nil
  | refine SLe.same (by walk_at "sle")
  | refine SLe.un (by walk_at "sle"))
local macro_rules | `(tactic| walk_at "sub") => `(tactic| first
  | exact List.Sublist.slnil
  | refine List.Sublist.cons₂ _ (by walk_at "sub")
  | refine List.Sublist.cons _ (by walk_at "sub"))
local macro_rules | `(tactic| walk_at "g1") => `(tactic| first
  | ((with_reducible show Wg _ _ _ (gName _) _ _ _); refine wg_nm rfl (by walk_at "set") ?_)
  | ((with_reducible show Wg _ _ _ (gTup _ 2 _) _ (Res.of false (prD _)) _); refine wg_prB (by walk_at "set") ?_)
  | ((with_reducible show Wg _ _ _ (gTup _ 2 _) _ (Res.of true (prD _)) _); refine wg_prF (by walk_at "set") ?_)
  | ((with_reducible show Wg _ _ _ (gTup _ 2 _) _ (Res.fr (prD _)) _); refine wg_prF (by walk_at "set") ?_)
  | ((with_reducible show Wg _ _ _ (gTup _ 2 _) _ (Res.bo (prD _)) _); refine wg_prB (by walk_at "set") ?_)
  | ((with_reducible show Wg _ _ _ (gTup _ _ _) _ _ _); refine wg_tup (by walk_at "tup") rfl ?_)
  | ((with_reducible show Wgs _ _ _ (gCons (gName _) _) _ _ _); refine wgs_nm rfl (by walk_at "set") ?_)
  | ((with_reducible show Wgs _ _ _ (gCons _ _) _ _ _); refine wgs_cons ?_)
  | ((with_reducible show Wgs _ _ _ gNil _ _ _); first | refine wgs_nil ?_ | refine wgs_end rfl ?_))
local macro_rules | `(tactic| walk_at "o1") => `(tactic| first
  | ((with_reducible show Wo _ _ _ rAddA _ _ _); refine wo_add (by walk_at "any") (by walk_at "any") ?_)
  | ((with_reducible show Wo _ _ _ rSub _ _ _); refine wo_sub (by walk_at "any") (by walk_at "any") ?_)
  | ((with_reducible show Wo _ _ _ (rLtA _) _ _ _); refine wo_lt (by walk_at "any") (by walk_at "any") ?_)
  | ((with_reducible show Wo _ _ _ rLeI _ _ _); refine wo_le (by walk_at "any") (by walk_at "any") ?_)
  | ((with_reducible show Wo _ _ _ rGtI _ _ _); refine wo_gt (by walk_at "any") (by walk_at "any") ?_)
  | ((with_reducible show Wo _ _ _ (rGeA _) _ _ _); refine wo_geA (by walk_at "any") (by walk_at "any") ?_)
  | ((with_reducible show Wo _ _ _ (rEqD _) _ _ _); first | refine wo_eqI (by walk_at "any") (by walk_at "any") ?_ | refine wo_eqP (by walk_at "any") (by walk_at "any") ?_ | refine wo_eqL (by walk_at "any") (by walk_at "any") ?_)
  | ((with_reducible show Wo _ _ _ (rNeD _) _ _ _); first | refine wo_neI (by walk_at "any") (by walk_at "any") ?_ | refine wo_neP (by walk_at "any") (by walk_at "any") ?_ | refine wo_neL (by walk_at "any") (by walk_at "any") ?_)
  | ((with_reducible show Wo _ _ _ (rInA _) _ _ _); first | refine wo_inI (by walk_at "any") (by walk_at "any") ?_ | refine wo_inP (by walk_at "any") (by walk_at "any") ?_ | refine wo_in2 (by walk_at "any") (by walk_at "tup") ?_)
  | ((with_reducible show Wo _ _ _ (rNotInA _) _ _ _); first | refine wo_niI (by walk_at "any") (by walk_at "any") ?_ | refine wo_niP (by walk_at "any") (by walk_at "any") ?_ | refine wo_ni2 (by walk_at "any") (by walk_at "tup") ?_)
  | ((with_reducible show Wo _ _ _ rMulA _ _ _); refine wo_mul (by walk_at "any") (by walk_at "any") (by unfold CMul; omega) ?_)
  | ((with_reducible show Wo _ _ _ rMod _ _ _); refine wo_mod (by walk_at "any") (by walk_at "any") (by omega) ?_)
  | ((with_reducible show Wo _ _ _ rFdiv _ _ _); refine wo_fdiv (by walk_at "any") (by walk_at "any") (by omega) ?_)
  | ((with_reducible show Wo _ _ _ (ipI _) _ _ _); refine wo_ip (by walk_at "any") (by walk_at "any") ?_)
  | ((with_reducible show Wo _ _ _ rIsB _ _ _); refine wo_isB (by walk_at "any") (by walk_at "any") ?_)
  | ((with_reducible show Wo _ _ _ rIsnB _ _ _); refine wo_isnB (by walk_at "any") (by walk_at "any") ?_)
  | ((with_reducible show Wu _ _ _ rNeg _ _); refine wu_neg (by walk_at "any") ?_)
  | ((with_reducible show Wo _ _ _ (rIx _) _ _ _); refine wo_ixT (by walk_at "tup") (by walk_at "any") (by rfl) ?_))
local macro_rules | `(tactic| walk_at "c1") => `(tactic| first
  | ((with_reducible show Wc _ _ _ (rLenA _) _ _); first | refine wc_lenL (by walk_at "any") ?_ | refine wc_lenT (by walk_at "any") ?_)
  | ((with_reducible show Wc _ _ _ rAbs _ _); refine wc_abs (by walk_at "any") ?_)
  | ((with_reducible show Wc _ _ _ rMax2 _ _); refine wc_max2 (by walk_at "any") (by walk_at "any") ?_)
  | ((with_reducible show Wc _ _ _ rMin2 _ _); refine wc_min2 (by walk_at "any") (by walk_at "any") ?_)
  | ((with_reducible show Wc _ _ _ rInt1 _ _); first | refine wc_int (by walk_at "any") ?_ | refine wc_intB (by walk_at "any") ?_)
  | ((with_reducible show Wc _ _ _ (rListA _) _ _); first | refine wc_listL (by walk_at "seq") ?_ | refine wc_listT (by walk_at "tup") ?_ | refine wc_listQ ?_))
local macro_rules | `(tactic| walk_at "we1") => `(tactic| first
  | ((with_reducible show We _ _ _ (tVar _) _); refine we_var rfl rfl ?_)
  | ((with_reducible show We _ _ _ (tC _) _); first | refine we_int ?_ | refine we_str ?_ | refine we_bl ?_ | refine we_non ?_ | refine we_ty ?_)
  | ((with_reducible show We _ _ _ (tOp _ _ _) _); refine we_op ?_)
  | ((with_reducible show We _ _ _ (tCB _ _) _); refine we_cb ?_)
  | ((with_reducible show We _ _ _ (tTup _) _); refine we_tup ?_)
  | ((with_reducible show We _ _ _ (tLst _) _); refine we_lst ?_)
  | ((with_reducible show We _ _ _ (tUn _ _) _); refine we_un ?_)
  | ((with_reducible show We _ _ _ (tAndV _ _) _); refine we_and ?_)
  | ((with_reducible show We _ _ _ (tOrV _ _) _); refine we_or ?_)
  | ((with_reducible show We _ _ _ (tNotT _ _) _); refine we_notT ?_)
  | ((with_reducible show We _ _ _ (tIsN _) _); refine we_isN ?_)
  | ((with_reducible show We _ _ _ (tNotN _) _); refine we_notN ?_)
  | ((with_reducible show We _ _ _ (tIf _ _ _) _); refine we_if ?_)
  | ((with_reducible show We _ _ _ (tSl _ _ _ _) _); refine we_slL ?_)
  | ((with_reducible show We _ _ _ (tRevL _ _) _); refine we_revL ?_)
  | ((with_reducible show We _ _ _ (tBM _ _ _ _ _) _); refine we_bmL ?_)
  | ((with_reducible show We _ _ _ (tBM0 _ _ _ _) _); refine we_bmL0 ?_)
  | ((with_reducible show We _ _ _ (tChain _ _ _ _ _) _); refine we_chain ?_))
local macro_rules | `(tactic| walk_at "wa1") => `(tactic| first
  | ((with_reducible show Wa _ _ _ tNil _); refine wa_nil ?_)
  | ((with_reducible show Wa _ _ _ (tCons _ _) _); refine wa_cons ?_))
local macro_rules | `(tactic| walk_at "wt1") => `(tactic| first
  | ((with_reducible show Wt _ _ _ (tTest _) _); refine wt_T ?_)
  | ((with_reducible show Wt _ _ _ (tB _) _); refine wt_B ?_)
  | ((with_reducible show Wt _ _ _ (tAnd _ _) _); refine wt_and ?_)
  | ((with_reducible show Wt _ _ _ (tOr _ _) _); refine wt_or ?_)
  | ((with_reducible show Wt _ _ _ (tNot _) _); refine wt_not ?_)
  | ((with_reducible show Wt _ _ _ tYes _); refine wt_yes ?_)
  | ((with_reducible show Wt _ _ _ (tTru _ _) _); refine wt_tru ?_))
local macro_rules | `(tactic| walk_at "wp1") => `(tactic| first
  | ((with_reducible show Wp _ _ _ tNoPart _); refine wp_no ?_)
  | ((with_reducible show Wp _ _ _ (tPart _) _); refine wp_some ?_))
local macro_rules | `(tactic| walk_at "st1") => `(tactic| first
  | ((with_reducible show StO _ _ _ (.fr _) _); refine sto_fr (by walk_at "set") ?_)
  | ((with_reducible show StO _ _ _ (.bo _) _); refine sto_bo (by walk_at "set") ?_)
  | ((with_reducible show StO _ _ _ (.pt _) _); refine sto_pt (by walk_at "set") ?_)
  | ((with_reducible show StO _ _ _ (.sq _) _); refine sto_sq (by walk_at "set") ?_))
local macro_rules | `(tactic| walk_at "ex1") => `(tactic| first
  | ((with_reducible show (∃ ds, Fzs _ ds ∧ _)); refine ⟨_, by walk_at "fzs", Nat.le_of_ble_eq_true rfl, ?_⟩)
  | ((with_reducible show (∃ k, Any _ _ _ ∧ _)); refine ⟨_, by walk_at "any", ?_⟩)
  | ((with_reducible show (∃ d k, Any _ _ _ ∧ Tru _ _ ∧ _)); refine ⟨_, _, by walk_at "any", by walk_at "tru", ?_⟩)
  | ((with_reducible show (∃ ds, Any _ _ _) ∧ _); refine ⟨⟨_, by walk_at "any"⟩, ?_⟩))
local macro_rules | `(tactic| walk_at "e1") => `(tactic| first
  | ((with_reducible show We _ _ _ _ _); walk_at "we1")
  | ((with_reducible show Wa _ _ _ _ _); walk_at "wa1")
  | ((with_reducible show Wo _ _ _ _ _ _ _); walk_at "o1")
  | ((with_reducible show Wc _ _ _ _ _ _); walk_at "c1")
  | ((with_reducible show Wt _ _ _ _ _); walk_at "wt1")
  | ((with_reducible show (∃ _, _)); walk_at "ex1")
  | ((with_reducible show _ ∧ _); walk_at "ex1")
  | ((with_reducible show StO _ _ _ _ _); walk_at "st1")
  | ((with_reducible show (if true = true then _ else _)); refine iteT ?_)
  | ((with_reducible show (if false = true then _ else _)); refine iteF ?_)
  | ((with_reducible show Wu _ _ _ _ _ _); walk_at "o1")
  | ((with_reducible show Wp _ _ _ _ _); walk_at "wp1")
  | ((with_reducible show Ws _ _ _ _ _); walk_at "s1")
  | ((with_reducible show Wg _ _ _ _ _ _ _); walk_at "g1")
  | ((with_reducible show Wgs _ _ _ _ _ _ _); walk_at "g1"))
local macro_rules | `(tactic| walk_at "s1") => `(tactic| first
  | ((with_reducible show Ws _ _ _ (tSeq _ _) _); refine ws_seq ?_)
  | ((with_reducible show Ws _ _ _ (tAsg _ (gName _)) _); refine ws_set ?_)
  | ((with_reducible show Ws _ _ _ (tRet _) _); refine ws_ret ?_)
  | ((with_reducible show Ws _ _ _ tRetN _); refine ws_retN ?_)
  | ((with_reducible show Ws _ _ _ (tDrop _) _); refine ws_drop ?_)
  | ((with_reducible show Ws _ _ _ (tRaiseX _ _ _ _ _) _); refine ws_raise ?_)
  | ((with_reducible show Ws _ _ _ (tIfS _ _ _) _); refine ws_if ?_)
  | ((with_reducible show Ws _ _ _ tNext _); refine ws_next ?_)
  | ((with_reducible show Ws _ _ _ tBreak _); refine ws_break ?_)
  | ((with_reducible show Ws _ _ _ tCont _); refine ws_cont ?_)
  | ((with_reducible show Ws _ _ _ (tAug _ _ _) _); refine ws_aug rfl rfl ?_)
  | ((with_reducible show Ws _ _ _ (tAsg _ (gTup _ _ _)) _); refine ws_tgt ?_)
  | ((with_reducible show Ws _ _ _ (tAsg _ (gSub _ _ _)) _); refine ws_setItem ?_)
  | ((with_reducible show Ws _ _ _ (tAugS _ _ _ _ _ _) _); refine ws_augItem ?_))
local macro_rules | `(tactic| walk_at "gg") => `(tactic| repeat' walk_at "g1")
local macro_rules | `(tactic| walk_at "w") => `(tactic| repeat' walk_at "e1")
local macro_rules | `(tactic| walk_at "fit") => `(tactic| first
  | exact Fit.nil
  | refine Fit.un (by walk_at "fit")
  | refine Fit.fr (by walk_at "lf") (by walk_at "fit")
  | refine Fit.bo (by walk_at "fit"))
local macro_rules | `(tactic| walk_at "ret") => `(tactic| first
  | refine ⟨_, Ret.fr, ?_⟩
  | refine ⟨_, Ret.nw, ?_⟩
  | refine ⟨_, Ret.bf (by walk_at "lf"), ?_⟩
  | refine ⟨_, Ret.pt (by walk_at "mem"), ?_⟩)

/-- slots: i 0, j 1 -/
def t_tie_of (K : PySem.W.Frag) : TS :=
  (tRet (tTup (tCons (tCB rMin2 (tCons (tVar 0) (tCons (tVar 1) tNil))) (tCons (tCB rMax2 (tCons (tVar 0) (tCons (tVar 1) tNil))) tNil))))
def T_tie_of (ds : List PyData) (Φ : Rt → Prop) : Prop := ∃ i j : Int, ds = [.int i, .int j] ∧ Φ (.d (prD (min i j, max i j)))
theorem ws_tie_of {c : Cn} {ds : List PyData} {Φ : Rt → Prop} (hT : T_tie_of ds Φ) : ∃ Γ, Fit ds Γ ∧ Γ.length = 2 ∧ Ws c Γ [] (t_tie_of c.K) { nx := fun _ O => RtW Φ (.fr .none) O, rt := RtW Φ } := by
  obtain ⟨i, j, rfl, h⟩ := hT
  refine ⟨[.fr (.int i), .fr (.int j)], by walk_at "fit", rfl, ?_⟩
  unfold t_tie_of
  walk_at "w"
  walk_at "ret"
  exact h

/-- slots: ties 0, i 1, j 2 -/
def t_are_joined (K : PySem.W.Frag) : TS :=
  (tRet (tOp (rInA K) (tCall (SpD T_tie_of) [] E0 (tCons (tVar 1) (tCons (tVar 2) tNil))) (tVar 0)))
def T_are_joined (ds : List PyData) (Φ : Rt → Prop) : Prop := ∃ (ts : List (Int × Int)) (i j : Int), ds = [.list (ts.map prD), .int i, .int j] ∧ Φ (.d (.bool (decide ((min i j, max i j) ∈ ts))))
theorem ws_are_joined {c : Cn} {ds : List PyData} {Φ : Rt → Prop} (hT : T_are_joined ds Φ) : ∃ Γ, Fit ds Γ ∧ Γ.length = 3 ∧ Ws c Γ [] (t_are_joined c.K) { nx := fun _ O => RtW Φ (.fr .none) O, rt := RtW Φ } := by
  obtain ⟨ts, i, j, rfl, h⟩ := hT
  refine ⟨[.bo (.list (ts.map prD)), .fr (.int i), .fr (.int j)], by walk_at "fit", rfl, ?_⟩
  unfold t_are_joined
  walk_at "w"
  refine we_call ?_
  walk_at "w"
  refine ⟨_, by walk_at "anys", _, _, rfl, ?_⟩
  walk_at "w"
  walk_at "ret"
  exact h

/-- slots: n 0, ties 1, i 2, j 3 -/
def t_neighbours (K : PySem.W.Frag) : TS :=
  (tRet (tLc (iRng1 (tCons (tVar 0) tNil)) (gName 3) (tTru K (tCall (SpD T_are_joined) [] E0 (tCons (tVar 1) (tCons (tVar 2) (tCons (tVar 3) tNil))))) (tVar 3) [3]))
def nbs (n : Int) (ts : List (Int × Int)) (i : Int) : List Int := (rngI 0 n).filter fun j => decide (tieI i j ∈ ts)
theorem mem_nbs {n : Int} {ts : List (Int × Int)} {i j : Int} : j ∈ nbs n ts i ↔ 0 ≤ j ∧ j < n ∧ tieI i j ∈ ts := by
  unfold nbs
  rw [List.mem_filter, mem_rngI, decide_eq_true_eq]
  exact ⟨fun ⟨⟨a, b⟩, c⟩ => ⟨a, b, c⟩, fun ⟨a, b, c⟩ => ⟨⟨a, b⟩, c⟩⟩
theorem nbs_len {n : Int} {ts : List (Int × Int)} {i : Int} : (nbs n ts i).length ≤ n.toNat := by
  unfold nbs
  refine Nat.le_trans (List.length_filter_le _ _) ?_
  rw [rngI_len]
  omega
theorem nbs_sorted (n : Int) (ts : List (Int × Int)) (i : Int) : (nbs n ts i).Pairwise (· < ·) := (rngI_sorted 0 n).sublist List.filter_sublist
def T_neighbours (ds : List PyData) (Φ : Rt → Prop) : Prop := ∃ (n : Int) (ts : List (Int × Int)) (i : Int), ds = [.int n, .list (ts.map prD), .int i] ∧ (-1000 ≤ n ∧ n ≤ 1000) ∧ Φ (.l ((nbs n ts i).map PyData.int))
theorem ws_neighbours {c : Cn} {ds : List PyData} {Φ : Rt → Prop} (hT : T_neighbours ds Φ) : ∃ Γ, Fit ds Γ ∧ Γ.length = 4 ∧ Ws c Γ [] (t_neighbours c.K) { nx := fun _ O => RtW Φ (.fr .none) O, rt := RtW Φ } := by
  obtain ⟨n, ts, i, rfl, ⟨h0, hn⟩, h⟩ := hT
  refine ⟨[.fr (.int n), .bo (.list (ts.map prD)), .fr (.int i), .un], Fit.fr rfl (Fit.bo (by walk_at "fit")), rfl, ?_⟩
  unfold t_neighbours
  walk_at "w"
  refine we_lcf [3] (wx_rng1 ?_)
  walk_at "w"
  refine ⟨_, n, rfl, by walk_at "any", ⟨by omega, by omega⟩, by rw [rngI_len]; omega, fun j => decide (tieI i j ∈ ts), PyData.int, fun j hj => ?_, ?_⟩
  · walk_at "w"
    refine we_call ?_
    walk_at "w"
    refine ⟨_, by walk_at "anys", ts, i, j, rfl, _, _, Any.fr, Tru.bool, rfl, rfl, fun _ => ?_⟩
    walk_at "w"
    exact ⟨rfl, Fz.fr⟩
  · walk_at "ret"
    exact h

/-- slots: n 0, ties 1, counts 2, i 3, j 4 -/
def t_degrees (K : PySem.W.Frag) : TS :=
  (tSeq (tAsg (tOp rMulA (tLst (tCons (tC (.int 0)) tNil)) (tVar 0)) (gName 2))
  (tSeq (tFor (iSeq K (tVar 1)) (gTup K 2 (gCons (gName 3) (gCons (gName 4) gNil)))
  (tSeq (tAugS (tVar 2) (tVar 3) (tC (.int 1)) (rGetL K) (ipI fun i j => i + j) rSetL)
  (tAugS (tVar 2) (tVar 4) (tC (.int 1)) (rGetL K) (ipI fun i j => i + j) rSetL)))
  (tRet (tVar 2))))
/-- a place's degree -/
def dg (ts : List (Int × Int)) (v : Int) : Int := Sm ts fun p => (if p.1 = v then 1 else 0) + (if p.2 = v then 1 else 0)
def degT (n : Int) (ts : List (Int × Int)) : List Int := (rngI 0 n).map (dg ts)
theorem dg_snoc (ts : List (Int × Int)) (p : Int × Int) (v : Int) : dg (ts ++ [p]) v = dg ts v + ((if p.1 = v then 1 else 0) + (if p.2 = v then 1 else 0)) := by
  unfold dg
  rw [sm_app]
  congr 1
  show (([p].map _).sum : Int) = _
  simp
def T_degrees (ds : List PyData) (Φ : Rt → Prop) : Prop := ∃ (n : Int) (ts : List (Int × Int)), ds = [.int n, .list (ts.map prD)] ∧ (0 ≤ n ∧ n ≤ 1000) ∧ (∀ p ∈ ts, (0 ≤ p.1 ∧ p.1 < n) ∧ 0 ≤ p.2 ∧ p.2 < n) ∧ Φ (.l ((degT n ts).map PyData.int))
theorem ws_degrees {c : Cn} {ds : List PyData} {Φ : Rt → Prop} (hT : T_degrees ds Φ) : ∃ Γ, Fit ds Γ ∧ Γ.length = 5 ∧ Ws c Γ [] (t_degrees c.K) { nx := fun _ O => RtW Φ (.fr .none) O, rt := RtW Φ } := by
  obtain ⟨n, ts, rfl, ⟨h0, hn⟩, ok, h⟩ := hT
  refine ⟨[.fr (.int n), .bo (.list (ts.map prD)), .un, .un, .un], Fit.fr rfl (Fit.bo (by walk_at "fit")), rfl, ?_⟩
  unfold t_degrees
  walk_at "w"
  refine wo_rep (by walk_at "seq") (by walk_at "any") (by omega) (by omega) (by simp; omega) ?_
  rw [rep_flat, rep_map]
  walk_at "own"
  intro p0
  walk_at "w"
  refine ws_forx [3, 4] (wx_seq (w := false) prD ?_)
  walk_at "w"
  refine ⟨ts, by walk_at "seqw", fun pre Γ O => Γ = [.fr (.int n), .bo (.list (ts.map prD)), .pt p0, .un, .un] ∧ O = [(p0, .l ((degT n pre).map PyData.int))], Up.of ⟨rfl, by rw [show (degT n []).map PyData.int = (rngI 0 n).map fun _ => PyData.int 0 by unfold degT; rw [List.map_map]; rfl]⟩, ?_, ?_⟩
  · rintro gs pre x post Γi Oi sp ⟨rfl, rfl⟩
    obtain ⟨⟨a0, a1⟩, b0, b1⟩ := ok x (by rw [sp]; simp)
    have e1 : (degT n pre).map PyData.int = (rngI 0 n).map fun v => PyData.int (dg pre v) := by unfold degT; rw [List.map_map]; rfl
    rw [e1]
    walk_at "w"
    refine ⟨p0, 0, _, x.1, dg pre x.1, rfl, rfl, by walk_at "any", a0, rng_get (f := fun v => PyData.int (dg pre v)) a0 a1, ?_⟩
    walk_at "w"
    refine ⟨rfl, 1, Any.fr, ?_⟩
    rw [tab_set a0]
    dsimp only [List.set]
    walk_at "w"
    refine ⟨p0, 0, _, x.2, dg pre x.2 + (if x.1 = x.2 then 1 else 0), rfl, rfl, by walk_at "any", b0, ?_, ?_⟩
    · rw [rng_get b0 b1]
      unfold upF
      by_cases e : x.2 = x.1
      · rw [if_pos e, if_pos e.symm, e]
      · rw [if_neg e, if_neg (Ne.symm e), Int.add_zero]
    walk_at "w"
    refine ⟨rfl, 1, Any.fr, ?_⟩
    rw [tab_set b0]
    dsimp only [List.set]
    refine ⟨_, _, ⟨rfl, rfl⟩, by walk_at "sle", ?_⟩
    rw [show (degT n (pre ++ [x])).map PyData.int = (rngI 0 n).map (upF (upF (fun v => PyData.int (dg pre v)) x.1 (PyData.int (dg pre x.1 + 1))) x.2 (PyData.int (dg pre x.2 + (if x.1 = x.2 then 1 else 0) + 1))) by
      unfold degT
      rw [List.map_map]
      refine List.map_congr_left fun v _ => ?_
      show PyData.int (dg (pre ++ [x]) v) = _
      rw [dg_snoc]
      unfold upF
      by_cases e2 : v = x.2
      · rw [if_pos e2, e2]
        congr 1
        by_cases e : x.1 = x.2
        · rw [if_pos e, if_pos rfl]; omega
        · rw [if_neg e, if_pos rfl]; omega
      · rw [if_neg e2]
        by_cases e1 : v = x.1
        · rw [if_pos e1, e1]
          congr 1
          rw [if_pos rfl, if_neg (by rw [← e1]; exact Ne.symm e2)]
          omega
        · rw [if_neg e1, if_neg (Ne.symm e1), if_neg (Ne.symm e2)]
          congr 1
          omega]
    exact List.Sublist.refl _
  · rintro Γ' O' ⟨rfl, rfl⟩
    walk_at "w"
    walk_at "ret"
    exact h

/-- slots: n 0, ties 1, left 2, counts 3, i 4, j 5, place 6 -/
def t_centre_of (K : PySem.W.Frag) : TS :=
  (tSeq (tAsg (tLstRg (tRg1 (tVar 0))) (gName 2))
  (tSeq (tWhile (tTest (tOp rGtI (tCB (rLenA K) (tCons (tVar 2) tNil)) (tC (.int 2))))
  (tSeq (tAsg (tCall (SpD T_degrees) [] E0 (tCons (tVar 0) (tCons (tLc (iSeq K (tVar 1)) (gTup K 2 (gCons (gName 4) (gCons (gName 5) gNil))) (tAnd (tTest (tOp (rInA K) (tVar 4) (tVar 2))) (tTest (tOp (rInA K) (tVar 5) (tVar 2)))) (tTup (tCons (tVar 4) (tCons (tVar 5) tNil))) [4, 5]) tNil))) (gName 3))
  (tAsg (tLc (iSeq K (tVar 2)) (gName 6) (tTest (tOp rGtI (tOp (rIx K) (tVar 3) (tVar 6)) (tC (.int 1)))) (tVar 6) [6]) (gName 2))))
  (tRet (tVar 2))))
def T_centre_of (ds : List PyData) (Φ : Rt → Prop) : Prop := ∃ (n : Int) (ts : List (Int × Int)) (d : Int → Int → Int), ds = [.int n, .list (ts.map prD)] ∧ (1 ≤ n ∧ n ≤ 1000) ∧ ts.length ≤ 1000 ∧ Web n ts ∧ TM n ts d ∧ Φ (.l ((cen n d).map PyData.int))
theorem ws_centre_of {c : Cn} {ds : List PyData} {Φ : Rt → Prop} (hT : T_centre_of ds Φ) : ∃ Γ, Fit ds Γ ∧ Γ.length = 7 ∧ Ws c Γ [] (t_centre_of c.K) { nx := fun _ O => RtW Φ (.fr .none) O, rt := RtW Φ } := by
  obtain ⟨n, ts, d, rfl, ⟨h0, hn⟩, hl, w, T, h⟩ := hT
  refine ⟨[.fr (.int n), .bo (.list (ts.map prD)), .un, .un, .un, .un, .un], by walk_at "fit", rfl, ?_⟩
  unfold t_centre_of
  walk_at "w"
  refine we_lstRg1 ?_
  walk_at "w"
  refine ⟨by omega, hn, ?_⟩
  walk_at "own"
  intro p0
  refine ws_seq ?_
  refine ws_while (fun m Γ O => ∃ (S : List Int) (s3 : Sl) (p : Addr), m = S.length ∧ Γ = [.fr (.int n), .bo (.list (ts.map prD)), .pt p, s3, .un, .un, .un] ∧ O = [(p, .l (S.map .int))] ∧ Pr n d S ∧ S.Pairwise (· < ·)) ⟨_, Up.of ⟨rngI 0 n, _, p0, rfl, rfl, rfl, Pr.start (by omega), rngI_sorted 0 n⟩⟩ ?_
  rintro m Γi Oi ⟨S, s3, p, rfl, rfl, rfl, P, st⟩
  have sl : S.length ≤ n.toNat := by
    have := P.nd.length_le_of_subset (l₂ := rngI 0 n) fun x hx => mem_rngI.mpr (P.rng x hx)
    rwa [rngI_len, show (n - 0).toNat = n.toNat by omega] at this
  walk_at "w"
  rw [List.length_map]
  refine iteD (fun e => ?_) fun e => ?_
  · walk_at "w"
    refine we_call ?_
    walk_at "w"
    refine we_lcf [4, 5] (wx_seq (w := false) prD ?_)
    walk_at "w"
    refine ⟨ts, by walk_at "seqw", by omega, fun p => decide (p.1 ∈ S) && decide (p.2 ∈ S), prD, fun p _ => ?_, ?_⟩
    · walk_at "gg"
      refine wt_and2 (p := decide (p.1 ∈ S)) (q := decide (p.2 ∈ S)) ?_ (fun _ => ?_) ?_
      · walk_at "w"
        exact ⟨rfl, rfl⟩
      · walk_at "w"
        exact ⟨rfl, rfl⟩
      refine ⟨rfl, rfl, fun _ => ?_⟩
      walk_at "w"
      exact ⟨rfl, Fz.fr⟩
    generalize hU : ts.filter (fun p => decide (p.1 ∈ S) && decide (p.2 ∈ S)) = U
    have hUs : ∀ p ∈ U, p ∈ ts := fun p hp => by
      rw [← hU] at hp
      exact (List.mem_filter.mp hp).1
    walk_at "w"
    refine ⟨_, by walk_at "anys", n, U, rfl, by omega, fun p hp => ?_, ?_⟩
    · have := w.ok p (hUs p hp)
      omega
    walk_at "rs"
    refine sto_nw (by walk_at "set") ?_
    walk_at "w"
    refine we_lcfO PyData.int (xs := S) [6] rfl (by walk_at "mem") (by omega) (fun x => decide (1 < dg U x)) PyData.int (fun x hx => ?_) ?_
    · have rx := P.rng x hx
      unfold RN at rx
      walk_at "w"
      unfold degT
      rw [List.map_map]
      refine wo_ix (d := .int (dg U x)) (by walk_at "seq") (by walk_at "any") ?_ ?_
      · unfold atI
        rw [List.length_map, rngI_len, ixN_pos rx.1 (by omega)]
        exact rng_get (f := fun v => PyData.int (dg U v)) rx.1 rx.2
      dsimp only [Res.of]
      walk_at "w"
      refine ⟨rfl, rfl, fun _ => ?_⟩
      walk_at "w"
      exact ⟨rfl, Fz.fr⟩
    walk_at "own"
    intro p2
    have key : ∀ x, x ∈ S.filter (fun x => decide (1 < dg U x)) ↔ x ∈ S ∧ Two d S x := fun x => by
      rw [List.mem_filter, decide_eq_true_eq]
      refine and_congr_right fun hx => ?_
      have e1 : dg U x = cdeg U x := dg_cdeg (fun p hp e => by have := w.ok p (hUs p hp); omega) x
      rw [e1, ← hU]
      exact two_iff T w P.rng hx
    obtain ⟨P', y, hy, hny⟩ := P.step T (by omega) (P.nd.sublist List.filter_sublist) key
    refine ⟨(S.filter fun x => decide (1 < dg U x)).length, ?_, _, _, ⟨_, _, p2, rfl, rfl, rfl, P', st.sublist List.filter_sublist⟩, by walk_at "sle", List.Sublist.cons _ (List.Sublist.refl _)⟩
    refine Nat.lt_of_le_of_ne (List.length_filter_le _ _) fun e => hny ?_
    rw [List.filter_sublist.eq_of_length e]
    exact hy
  · walk_at "w"
    walk_at "ret"
    rw [P.cen T (by omega) st]
    exact h

/-- slots: i 0, j 1 -/
def t_law_tie (K : PySem.W.Frag) : TS :=
  (tRet (tTup (tCons (tCB rMin2 (tCons (tVar 0) (tCons (tVar 1) tNil))) (tCons (tCB rMax2 (tCons (tVar 0) (tCons (tVar 1) tNil))) tNil))))
def T_law_tie (ds : List PyData) (Φ : Rt → Prop) : Prop := ∃ i j : Int, ds = [.int i, .int j] ∧ Φ (.d (prD (min i j, max i j)))
theorem ws_law_tie {c : Cn} {ds : List PyData} {Φ : Rt → Prop} (hT : T_law_tie ds Φ) : ∃ Γ, Fit ds Γ ∧ Γ.length = 2 ∧ Ws c Γ [] (t_law_tie c.K) { nx := fun _ O => RtW Φ (.fr .none) O, rt := RtW Φ } := by
  obtain ⟨i, j, rfl, h⟩ := hT
  refine ⟨[.fr (.int i), .fr (.int j)], by walk_at "fit", rfl, ?_⟩
  unfold t_law_tie
  walk_at "w"
  walk_at "ret"
  exact h

/-- slots: n 0, ties 1, place 2, found 3, step 4, i 5, j 6 -/
def t_law_steps (K : PySem.W.Frag) : TS :=
  (tSeq (tAsg (tOp rMulA (tLst (tCons (tC .non) tNil)) (tVar 0)) (gName 3))
  (tSeq (tAsg (tC (.int 0)) (gSub (tVar 3) (tVar 2) rSetL))
  (tSeq (tFor (iRng2 (tCons (tC (.int 1)) (tCons (tVar 0) tNil))) (gName 4)
  (tFor (iRng1 (tCons (tVar 0) tNil)) (gName 5)
  (tIfS (tAnd (tB (tIsN (tOp (rIx K) (tVar 3) (tVar 5)))) (tTest (tOp rGtI (tCB (rLenA K) (tCons (tLc (iRng1 (tCons (tVar 0) tNil)) (gName 6) (tAnd (tTest (tOp (rEqD K) (tOp (rIx K) (tVar 3) (tVar 6)) (tOp rSub (tVar 4) (tC (.int 1))))) (tTest (tOp (rInA K) (tCall (SpD T_law_tie) [] E0 (tCons (tVar 5) (tCons (tVar 6) tNil))) (tVar 1)))) (tVar 6) [6]) tNil)) (tC (.int 0)))))
  (tAsg (tVar 4) (gSub (tVar 3) (tVar 5) rSetL))
  tNext)))
  (tRet (tVar 3)))))
/-- the least number of steps, if at most k: step by step -/
def dk (n : Int) (ts : List (Int × Int)) (p : Int) : Nat → Int → Option Int
  | 0, j => if j = p then some 0 else none
  | k + 1, j => match dk n ts p k j with
    | some d => some d
    | none => if ((rngI 0 n).filter fun i => decide (dk n ts p k i = some (k : Int)) && decide (tieI j i ∈ ts)).length > 0 then some ((k : Int) + 1) else none
def dkT (n : Int) (ts : List (Int × Int)) (p : Int) : List (Option Int) := (rngI 0 n).map (dk n ts p (n - 1).toNat)
theorem dk_le {n : Int} {ts : List (Int × Int)} {p : Int} : ∀ {k : Nat} {j d : Int}, dk n ts p k j = some d → 0 ≤ d ∧ d ≤ k
  | 0, j, d, h => by
    unfold dk at h
    split at h
    · cases h; omega
    · cases h
  | k + 1, j, d, h => by
    unfold dk at h
    split at h
    · rename_i e he
      cases h
      have := dk_le he
      omega
    · split at h
      · cases h; omega
      · cases h
/-- the places below i have been looked at in step k + 1 -/
def dkP (n : Int) (ts : List (Int × Int)) (p : Int) (k : Nat) (i j : Int) : Option Int := if j < i then dk n ts p (k + 1) j else dk n ts p k j
theorem dkP_filter {n : Int} {ts : List (Int × Int)} {p : Int} {k : Nat} {i x : Int} (j : Int) : (decide (dkP n ts p k i x = some (k : Int)) && decide (tieI j x ∈ ts)) = (decide (dk n ts p k x = some (k : Int)) && decide (tieI j x ∈ ts)) := by
  congr 1
  rw [decide_eq_decide]
  unfold dkP
  split
  · rw [show dk n ts p (k + 1) x = (match dk n ts p k x with
      | some d => some d
      | none => if ((rngI 0 n).filter fun i => decide (dk n ts p k i = some (k : Int)) && decide (tieI x i ∈ ts)).length > 0 then some ((k : Int) + 1) else none) from rfl]
    cases h : dk n ts p k x with
    | some d => rfl
    | none =>
      simp only
      constructor
      · intro e
        split at e
        · cases e
        · cases e
      · intro e; cases e
  · rfl
def T_law_steps (ds : List PyData) (Φ : Rt → Prop) : Prop := ∃ (n : Int) (ts : List (Int × Int)) (p : Int), ds = [.int n, .list (ts.map prD), .int p] ∧ (0 ≤ n ∧ n ≤ 1000) ∧ (0 ≤ p ∧ p < n) ∧ Φ (.l ((dkT n ts p).map opD))
theorem ws_law_steps {c : Cn} {ds : List PyData} {Φ : Rt → Prop} (hT : T_law_steps ds Φ) : ∃ Γ, Fit ds Γ ∧ Γ.length = 7 ∧ Ws c Γ [] (t_law_steps c.K) { nx := fun _ O => RtW Φ (.fr .none) O, rt := RtW Φ } := by
  obtain ⟨n, ts, p, rfl, ⟨h0, hn⟩, hp, h⟩ := hT
  refine ⟨[.fr (.int n), .bo (.list (ts.map prD)), .fr (.int p), .un, .un, .un, .un], Fit.fr rfl (Fit.bo (by walk_at "fit")), rfl, ?_⟩
  unfold t_law_steps
  walk_at "w"
  refine wo_rep (by walk_at "seq") (by walk_at "any") (by omega) (by omega) (by simp; omega) ?_
  rw [rep_flat, rep_map]
  walk_at "own"
  intro a0
  walk_at "w"
  refine ⟨a0, 0, _, p, _, rfl, rfl, by walk_at "any", hp.1, by rw [List.length_map, rngI_len]; omega, Fz.fr, ?_⟩
  rw [tab_set hp.1]
  have e0 : (rngI 0 n).map (upF (fun _ => PyData.none) p (.int 0)) = ((rngI 0 n).map (dk n ts p 0)).map opD := by
    rw [List.map_map]
    refine List.map_congr_left fun j _ => ?_
    show upF (fun _ => PyData.none) p (.int 0) j = opD (if j = p then some 0 else none)
    unfold upF
    split <;> rfl
  rw [e0]
  walk_at "w"
  refine ws_forx [4] (wx_rng2 ?_)
  walk_at "w"
  refine ⟨_, _, 1, n, rfl, by walk_at "any", by walk_at "any", by omega, fun pre Γ O => Γ = [.fr (.int n), .bo (.list (ts.map prD)), .fr (.int p), .pt a0, .un, .un, .un] ∧ O = [(a0, .l (((rngI 0 n).map (dk n ts p pre.length)).map opD))], Up.of ⟨rfl, rfl⟩, ?_, ?_⟩
  · rintro gs pre x post Γi Oi sp ⟨rfl, rfl⟩
    obtain ⟨_, hx1, hx2, hx3, _⟩ := rngI_split sp
    walk_at "w"
    refine ws_forx [5] (wx_rng1 ?_)
    walk_at "w"
    refine ⟨_, n, rfl, by walk_at "any", ⟨by omega, by omega⟩, fun pre2 Γ O => Γ = [.fr (.int n), .bo (.list (ts.map prD)), .fr (.int p), .pt a0, .fr (.int x), .un, .un] ∧ O = [(a0, .l (((rngI 0 n).map (dkP n ts p pre.length pre2.length)).map opD))], ⟨_, _, ⟨rfl, rfl⟩, by walk_at "sle", ?_⟩, ?_, ?_⟩
    · have : (rngI 0 n).map (dkP n ts p pre.length (([] : List Int).length : Nat)) = (rngI 0 n).map (dk n ts p pre.length) := List.map_congr_left fun j hj => by
        have := mem_rngI.mp hj
        unfold dkP
        rw [if_neg (by simp; omega)]
      rw [this]
      exact List.Sublist.refl _
    · rintro gs2 pre2 y post2 Γi Oi sp2 ⟨rfl, rfl⟩
      obtain ⟨_, hy1, hy2, hy3, _⟩ := rngI_split sp2
      have hy3 : (pre2.length : Int) = y := by omega
      rw [hy3]
      have sm : ∀ j : Int, ((rngI 0 n).filter fun i => decide (dkP n ts p pre.length y i = some (pre.length : Int)) && decide (tieI j i ∈ ts)) = (rngI 0 n).filter fun i => decide (dk n ts p pre.length i = some (pre.length : Int)) && decide (tieI j i ∈ ts) := fun j => by
        congr 1
        funext i
        exact dkP_filter j
      have nxt : (rngI 0 n).map (upF (dkP n ts p pre.length y) y (dk n ts p (pre.length + 1) y)) = (rngI 0 n).map (dkP n ts p pre.length ((pre2 ++ [y]).length : Nat)) := List.map_congr_left fun j _ => by
        have e : ((pre2 ++ [y]).length : Int) = y + 1 := by rw [List.length_append]; simp; omega
        rw [e]
        unfold upF dkP
        by_cases h1 : j = y
        · subst h1
          rw [if_pos rfl, if_pos (by omega)]
        · rw [if_neg h1]
          by_cases h2 : j < y
          · rw [if_pos h2, if_pos (by omega)]
          · rw [if_neg h2, if_neg (by omega)]
      have cur : dkP n ts p pre.length y y = dk n ts p pre.length y := by unfold dkP; rw [if_neg (by omega)]
      have suc : dk n ts p (pre.length + 1) y = (match dk n ts p pre.length y with
        | some d => some d
        | none => if ((rngI 0 n).filter fun i => decide (dk n ts p pre.length i = some (pre.length : Int)) && decide (tieI y i ∈ ts)).length > 0 then some ((pre.length : Int) + 1) else none) := rfl
      walk_at "g1"
      refine ws_if (wt_and2 (p := decide (dk n ts p pre.length y = none)) (q := decide (0 < (((rngI 0 n).filter fun i => decide (dk n ts p pre.length i = some (pre.length : Int)) && decide (tieI y i ∈ ts)).length : Int))) ?_ (fun _ => ?_) ?_)
      · refine wt_B (we_isN (we_op (we_var rfl rfl (we_var rfl rfl ?_))))
        refine wo_ixE (enc := opD) (by walk_at "seq") (by walk_at "any") hy1 (rng_get hy1 hy2) ?_
        rw [cur]
        refine ⟨_, by walk_at "any", _, Any.fr, rfl, ?_⟩
        cases dk n ts p pre.length y <;> rfl
      · refine wt_T (we_op (we_cb (wa_cons ?_)))
        refine we_lcf [6] (wx_rng1 ?_)
        walk_at "w"
        refine ⟨_, n, rfl, by walk_at "any", ⟨by omega, by omega⟩, by rw [rngI_len]; omega, fun i => decide (dkP n ts p pre.length y i = some (pre.length : Int)) && decide (tieI y i ∈ ts), PyData.int, fun i hi => ?_, ?_⟩
        · have hi := mem_rngI.mp hi
          walk_at "g1"
          refine wt_and2 (p := decide (dkP n ts p pre.length y i = some (pre.length : Int))) (q := decide (tieI y i ∈ ts)) ?_ (fun _ => ?_) ?_
          · walk_at "w"
            refine wo_ixE (enc := opD) (by walk_at "seq") (by walk_at "any") hi.1 (rng_get hi.1 hi.2) ?_
            walk_at "w"
            refine wo_eqE opD (y := some (x - 1)) (by walk_at "any") Any.fr ?_
            exact ⟨_, Any.fr, rfl, by rw [hx3]⟩
          · walk_at "w"
            refine we_call ?_
            walk_at "w"
            refine ⟨_, by walk_at "anys", y, i, rfl, ?_⟩
            walk_at "rs"
            walk_at "w"
            exact ⟨rfl, rfl⟩
          · refine ⟨rfl, rfl, fun _ => ?_⟩
            walk_at "w"
            exact ⟨rfl, Fz.fr⟩
        · walk_at "w"
          refine ⟨rfl, ?_⟩
          rw [List.length_map, sm y]
      · rw [← Bool.decide_and]
        refine iteD (fun e => ?_) fun e => ?_
        · walk_at "w"
          refine ⟨a0, 0, _, y, _, rfl, rfl, by walk_at "any", hy1, by rw [List.length_map, List.length_map, rngI_len]; omega, Fz.fr, ?_⟩
          have e5 : dk n ts p (pre.length + 1) y = some x := by
            rw [suc, e.1]
            simp only
            rw [if_pos (by have := e.2; omega)]
            congr 1
            omega
          refine ⟨_, _, ⟨rfl, rfl⟩, by walk_at "sle", ?_⟩
          rw [← nxt, e5, ← tab_set hy1, List.map_set]
          exact List.Sublist.refl _
        · walk_at "w"
          have e5 : dk n ts p (pre.length + 1) y = dk n ts p pre.length y := by
            rw [suc]
            cases h7 : dk n ts p pre.length y with
            | some d => rfl
            | none =>
              simp only
              rw [if_neg (fun z => e ⟨h7, by omega⟩)]
          refine ⟨_, _, ⟨rfl, rfl⟩, by walk_at "sle", ?_⟩
          have e6 : (rngI 0 n).map (upF (dkP n ts p pre.length y) y (dk n ts p (pre.length + 1) y)) = (rngI 0 n).map (dkP n ts p pre.length y) := List.map_congr_left fun j _ => by
            unfold upF
            split
            · rename_i h8; subst h8; rw [e5, cur]
            · rfl
          rw [← nxt, e6]
          exact List.Sublist.refl _
    · rintro Γ' O' ⟨rfl, rfl⟩
      have e9 : (rngI 0 n).map (dkP n ts p pre.length ((rngI 0 n).length : Nat)) = (rngI 0 n).map (dk n ts p (pre ++ [x]).length) := List.map_congr_left fun j hj => by
        have := mem_rngI.mp hj
        unfold dkP
        rw [rngI_len, if_pos (by omega), List.length_append]
        rfl
      rw [e9]
      exact ⟨_, _, ⟨rfl, rfl⟩, by walk_at "sle", List.Sublist.refl _⟩
  · rintro Γ' O' ⟨rfl, rfl⟩
    walk_at "w"
    walk_at "ret"
    rw [rngI_len]
    exact h

/-- slots: n 0, ties 1, place 2, found 3, row 4, at 5, other 6 -/
def t_steps_from (K : PySem.W.Frag) : TS :=
  (tSeq (tAsg (tOp rMulA (tLst (tCons (tC .non) tNil)) (tVar 0)) (gName 3))
  (tSeq (tAsg (tC (.int 0)) (gSub (tVar 3) (tVar 2) rSetL))
  (tSeq (tAsg (tLst (tCons (tVar 2) tNil)) (gName 4))
  (tSeq (tAsg (tC (.int 0)) (gName 5))
  (tSeq (tWhile (tTest (tOp (rLtA K) (tVar 5) (tCB (rLenA K) (tCons (tVar 4) tNil))))
  (tSeq (tFor (iSeq K (tCall (SpD T_neighbours) [] E0 (tCons (tVar 0) (tCons (tVar 1) (tCons (tOp (rIx K) (tVar 4) (tVar 5)) tNil))))) (gName 6)
  (tIfS (tB (tIsN (tOp (rIx K) (tVar 3) (tVar 6))))
  (tSeq (tAsg (tOp rAddA (tOp (rIx K) (tVar 3) (tOp (rIx K) (tVar 4) (tVar 5))) (tC (.int 1))) (gSub (tVar 3) (tVar 6) rSetL))
  (tDrop (tBM K "list" rAppend (tVar 4) (tCons (tVar 6) tNil))))
  tNext))
  (tAug 5 (tC (.int 1)) (ipI fun i j => i + j))))
  (tRet (tVar 3)))))))
theorem nodup_len {n : Int} {xs : List Int} (hn : 0 ≤ n) (nd : xs.Nodup) (h : ∀ x ∈ xs, 0 ≤ x ∧ x < n) : (xs.length : Int) ≤ n := by
  have e1 : Sm xs (fun _ => 1) = xs.length := by
    induction xs with
    | nil => rfl
    | cons x xs ih => rw [sm_cons, ih (List.nodup_cons.mp nd).2 fun y hy => h y (List.mem_cons_of_mem _ hy), List.length_cons]; omega
  have e2 : Sm xs (fun _ => 1) = Sm xs fun x => Sm (rngI 0 n) fun j => if j = x then 1 else 0 := sm_congr fun x hx => by
    rw [sm_one (rngI_nodup _ _) (mem_rngI.mpr (h x hx)) fun _ => 1]
  rw [e1, sm_swap] at e2
  have e3 := sm_bd (xs := rngI 0 n) (f := fun j => Sm xs fun x => if j = x then 1 else 0) (b := 1) fun j _ => by
    have e4 : (Sm xs fun x => if j = x then (1 : Int) else 0) = if j ∈ xs then 1 else 0 := by
      rw [sm_congr (g := fun x => if x = j then (1 : Int) else 0) (fun x _ => by
        by_cases q : x = j
        · rw [if_pos q.symm, if_pos q]
        · rw [if_neg (Ne.symm q), if_neg q]), sm_one' nd j fun _ => 1]
    rw [e4]
    split <;> omega
  rw [rngI_len] at e3
  omega
def vl (g : Int → Option Int) (j : Int) : Int := (g j).getD 0
structure Bq (n : Int) (ts : List (Int × Int)) (p : Int) (a : Nat) (g : Int → Option Int) (row : List Int) : Prop where
  nd : row.Nodup
  mem : ∀ j, 0 ≤ j → j < n → (g j ≠ none ↔ j ∈ row)
  rg : ∀ j ∈ row, 0 ≤ j ∧ j < n
  ale : a ≤ row.length
  zero : g p = some 0
  pin : p ∈ row
  z0 : ∀ j ∈ row, vl g j = 0 → j = p
  srt : row.Pairwise fun x y => vl g x ≤ vl g y
  top : ∀ x, row[a]? = some x → ∀ j ∈ row, vl g j ≤ vl g x + 1
  idx : ∀ (i : Nat) x, row[i]? = some x → 0 ≤ vl g x ∧ vl g x ≤ i
  prd : ∀ j ∈ row, j ≠ p → ∃ i ∈ row, tieI i j ∈ ts ∧ vl g j = vl g i + 1
  cls : ∀ i ∈ row.take a, ∀ j, 0 ≤ j → j < n → tieI i j ∈ ts → j ∈ row ∧ vl g j ≤ vl g i + 1
section
variable {n p : Int} {ts : List (Int × Int)} {a : Nat} {g : Int → Option Int} {row : List Int}
theorem Bq.init (hp : 0 ≤ p ∧ p < n) : Bq n ts p 0 (upF (fun _ => none) p (some 0)) [p] := by
  have v : vl (upF (fun _ => none) p (some 0)) p = 0 := by unfold vl upF; rw [if_pos rfl]; rfl
  have one : ∀ (i : Nat) x, [p][i]? = some x → i = 0 ∧ x = p := fun i x h => by
    cases i with
    | zero => simp at h; exact ⟨rfl, h.symm⟩
    | succ i => simp at h
  refine ⟨by simp, fun j h0 h1 => ?_, fun j hj => by rw [List.mem_singleton.mp hj]; exact hp, Nat.zero_le _, by unfold upF; rw [if_pos rfl], List.mem_singleton_self _, fun j hj _ => List.mem_singleton.mp hj, by simp, fun x hx j hj => ?_, fun i x hx => ?_, fun j hj h => absurd (List.mem_singleton.mp hj) h, fun i hi => by simp at hi⟩
  · unfold upF
    by_cases h : j = p
    · simp [h]
    · simp [h]
  · rw [List.mem_singleton.mp hj, (one 0 x hx).2]; omega
  · obtain ⟨rfl, rfl⟩ := one i x hx
    rw [v]; omega
theorem vl_up {j i : Int} {v : Int} : vl (upF g j (some v)) i = if i = j then v else vl g i := by
  unfold vl upF
  split <;> rfl
theorem Bq.add (b : Bq n ts p a g row) {x j : Int} (hx : row[a]? = some x) (hj : 0 ≤ j ∧ j < n) (hg : g j = none) (ht : tieI x j ∈ ts) : Bq n ts p a (upF g j (some (vl g x + 1))) (row ++ [j]) := by
  have hjr : j ∉ row := fun m => (b.mem j hj.1 hj.2).mpr m hg
  have ne : ∀ i ∈ row, i ≠ j := fun i hi e => hjr (by rw [← e]; exact hi)
  have vo : ∀ i ∈ row, vl (upF g j (some (vl g x + 1))) i = vl g i := fun i hi => by rw [vl_up, if_neg (ne i hi)]
  have vj : vl (upF g j (some (vl g x + 1))) j = vl g x + 1 := by rw [vl_up, if_pos rfl]
  have xr : x ∈ row := List.mem_of_getElem? hx
  have al : a < row.length := (List.getElem?_eq_some_iff.mp hx).1
  have x0 := b.idx a x hx
  have mm : ∀ i, i ∈ row ++ [j] → i ∈ row ∨ i = j := fun i hi => by simpa using hi
  have hxa : (row ++ [j])[a]? = some x := by rw [List.getElem?_append_left al]; exact hx
  refine ⟨List.nodup_append.mpr ⟨b.nd, by simp, fun i hi k hk e => by rw [List.mem_singleton.mp hk] at e; exact ne i hi e⟩, fun i h0 h1 => ?_, fun i hi => ?_, by rw [List.length_append]; omega, ?_, List.mem_append_left _ b.pin, fun i hi hv => ?_, ?_, fun y hy i hi => ?_, fun i y hy => ?_, fun i hi hp => ?_, fun i hi k h0 h1 ht' => ?_⟩
  · unfold upF
    by_cases h : i = j
    · rw [if_pos h]; simp [h]
    · rw [if_neg h, b.mem i h0 h1]; simp [h]
  · rcases mm i hi with z | z
    · exact b.rg i z
    · rw [z]; exact hj
  · unfold upF
    rw [if_neg (ne p b.pin)]
    exact b.zero
  · rcases mm i hi with z | z
    · rw [vo i z] at hv; exact b.z0 i z hv
    · rw [z, vj] at hv; omega
  · refine List.pairwise_append.mpr ⟨?_, by simp, fun i hi k hk => ?_⟩
    · exact b.srt.imp_of_mem fun hi hk h => by rw [vo _ hi, vo _ hk]; exact h
    · rw [List.mem_singleton.mp hk, vj, vo i hi]
      exact b.top x hx i hi
  · rw [hxa] at hy
    cases hy
    rw [vo x xr]
    rcases mm i hi with z | z
    · rw [vo i z]; exact b.top x hx i z
    · rw [z, vj]; omega
  · by_cases h : i < row.length
    · rw [List.getElem?_append_left h] at hy
      rw [vo y (List.mem_of_getElem? hy)]
      exact b.idx i y hy
    · have hl := (List.getElem?_eq_some_iff.mp hy).1
      rw [List.length_append] at hl
      have e : i = row.length := by simp at hl; omega
      subst e
      rw [List.getElem?_append_right (Nat.le_refl _)] at hy
      simp at hy
      subst hy
      rw [vj]
      omega
  · rcases mm i hi with z | z
    · obtain ⟨k, hk, h1, h2⟩ := b.prd i z hp
      exact ⟨k, List.mem_append_left _ hk, h1, by rw [vo i z, vo k hk]; exact h2⟩
    · subst z
      exact ⟨x, List.mem_append_left _ xr, ht, by rw [vj, vo x xr]⟩
  · rw [List.take_append_of_le_length (by omega)] at hi
    have hi' := List.mem_of_mem_take hi
    obtain ⟨h2, h3⟩ := b.cls i hi k h0 h1 ht'
    exact ⟨List.mem_append_left _ h2, by rw [vo k h2, vo i hi']; exact h3⟩
theorem Bq.next (b : Bq n ts p a g row) {x : Int} (hx : row[a]? = some x) (h : ∀ j, 0 ≤ j → j < n → tieI x j ∈ ts → j ∈ row ∧ vl g j ≤ vl g x + 1) : Bq n ts p (a + 1) g row := by
  have al : a < row.length := (List.getElem?_eq_some_iff.mp hx).1
  refine ⟨b.nd, b.mem, b.rg, al, b.zero, b.pin, b.z0, b.srt, fun y hy j hj => ?_, b.idx, b.prd, fun i hi j h0 h1 ht => ?_⟩
  · have hl := (List.getElem?_eq_some_iff.mp hy).1
    have h1 := b.top x hx j hj
    have h2 : vl g x ≤ vl g y := by
      have e1 := (List.getElem?_eq_some_iff.mp hx).2
      have e2 := (List.getElem?_eq_some_iff.mp hy).2
      rw [← e1, ← e2]
      exact List.pairwise_iff_getElem.mp b.srt a (a + 1) al hl (Nat.lt_succ_self a)
    omega
  · rw [← List.take_append_getElem al] at hi
    rcases List.mem_append.mp hi with z | z
    · exact b.cls i z j h0 h1 ht
    · have e : i = x := (List.mem_singleton.mp z).trans (List.getElem?_eq_some_iff.mp hx).2
      subst e
      exact h j h0 h1 ht
/-- what is found at the end -/
structure Dist (n : Int) (ts : List (Int × Int)) (p : Int) (f : Int → Option Int) : Prop where
  zero : ∀ j, 0 ≤ j → j < n → (f j = some 0 ↔ j = p)
  step : ∀ i j d, 0 ≤ i → i < n → 0 ≤ j → j < n → f i = some d → tieI i j ∈ ts → ∃ e, f j = some e ∧ e ≤ d + 1
  prd : ∀ j d, 0 ≤ j → j < n → f j = some d → 0 < d → ∃ i, 0 ≤ i ∧ i < n ∧ f i = some (d - 1) ∧ tieI i j ∈ ts
  bd : ∀ j d, 0 ≤ j → j < n → f j = some d → 0 ≤ d ∧ d < n
theorem Bq.dist (hn : 0 ≤ n) (b : Bq n ts p row.length g row) : Dist n ts p g := by
  have some_of : ∀ j ∈ row, g j = some (vl g j) := fun j hj => by
    have r := b.rg j hj
    have := (b.mem j r.1 r.2).mpr hj
    unfold vl
    cases h : g j with
    | none => exact absurd h this
    | some d => rfl
  have inrow : ∀ j d, 0 ≤ j → j < n → g j = some d → j ∈ row ∧ vl g j = d := fun j d h0 h1 h => by
    refine ⟨(b.mem j h0 h1).mp (by rw [h]; exact fun z => nomatch z), ?_⟩
    unfold vl; rw [h]; rfl
  have len := nodup_len hn b.nd b.rg
  refine ⟨fun j h0 h1 => ⟨fun h => ?_, fun h => by rw [h]; exact b.zero⟩, fun i j d h0 h1 h2 h3 hd ht => ?_, fun j d h0 h1 hd hpos => ?_, fun j d h0 h1 hd => ?_⟩
  · obtain ⟨m, v⟩ := inrow j 0 h0 h1 h
    exact b.z0 j m v
  · obtain ⟨m, v⟩ := inrow i d h0 h1 hd
    obtain ⟨k1, k2⟩ := b.cls i (by rw [List.take_length]; exact m) j h2 h3 ht
    exact ⟨_, some_of j k1, by omega⟩
  · obtain ⟨m, v⟩ := inrow j d h0 h1 hd
    have ne : j ≠ p := fun e => by
      rw [e, b.zero] at hd
      cases hd
      omega
    obtain ⟨i, hi, h5, h6⟩ := b.prd j m ne
    have ri := b.rg i hi
    exact ⟨i, ri.1, ri.2, by rw [some_of i hi]; congr 1; omega, h5⟩
  · obtain ⟨m, v⟩ := inrow j d h0 h1 hd
    obtain ⟨i, hi⟩ := List.getElem?_of_mem m
    have := b.idx i j hi
    have hl := (List.getElem?_eq_some_iff.mp hi).1
    omega
theorem Dist.dk {f : Int → Option Int} (D : Dist n ts p f) : ∀ (k : Nat) (j : Int), 0 ≤ j → j < n → dk n ts p k j = (match f j with
    | some d => if d ≤ k then some d else none
    | none => none)
  | 0, j, h0, h1 => by
    show (if j = p then some 0 else none) = _
    by_cases h : j = p
    · rw [if_pos h, (D.zero j h0 h1).mpr h]
      rfl
    · rw [if_neg h]
      cases hf : f j with
      | none => rfl
      | some d =>
        have b := D.bd j d h0 h1 hf
        have : d ≠ 0 := fun e => h ((D.zero j h0 h1).mp (by rw [hf, e]))
        simp only
        rw [if_neg (by omega)]
  | k + 1, j, h0, h1 => by
    have ih := D.dk k j h0 h1
    show (match DL.dk n ts p k j with
      | some d => some d
      | none => if ((rngI 0 n).filter fun i => decide (DL.dk n ts p k i = some (k : Int)) && decide (tieI j i ∈ ts)).length > 0 then some ((k : Int) + 1) else none) = _
    have some_iff : ((rngI 0 n).filter fun i => decide (DL.dk n ts p k i = some (k : Int)) && decide (tieI j i ∈ ts)).length > 0 ↔ ∃ i, 0 ≤ i ∧ i < n ∧ f i = some (k : Int) ∧ tieI i j ∈ ts := by
      rw [gt_iff_lt, List.length_pos_iff_exists_mem]
      constructor
      · rintro ⟨i, hi⟩
        obtain ⟨h2, h3⟩ := List.mem_filter.mp hi
        have h2 := mem_rngI.mp h2
        rw [Bool.and_eq_true, decide_eq_true_eq, decide_eq_true_eq, D.dk k i h2.1 h2.2] at h3
        refine ⟨i, h2.1, h2.2, ?_, by rw [tieI_comm]; exact h3.2⟩
        cases hf : f i with
        | none => rw [hf] at h3; cases h3.1
        | some d =>
          rw [hf] at h3
          have h4 := h3.1
          simp only at h4
          split at h4
          · exact h4
          · cases h4
      · rintro ⟨i, h2, h3, h4, h5⟩
        refine ⟨i, List.mem_filter.mpr ⟨mem_rngI.mpr ⟨h2, h3⟩, ?_⟩⟩
        rw [Bool.and_eq_true, decide_eq_true_eq, decide_eq_true_eq, D.dk k i h2 h3, h4]
        exact ⟨by simp, by rw [tieI_comm]; exact h5⟩
    cases hf : f j with
    | none =>
      rw [hf] at ih
      rw [ih]
      simp only
      rw [if_neg fun z => ?_]
      obtain ⟨i, h2, h3, h4, h5⟩ := some_iff.mp z
      obtain ⟨e, h6, _⟩ := D.step i j _ h2 h3 h0 h1 h4 h5
      rw [hf] at h6
      cases h6
    | some d =>
      rw [hf] at ih
      rw [ih]
      simp only
      have b := D.bd j d h0 h1 hf
      by_cases hd : d ≤ k
      · rw [if_pos hd]
        show some d = if d ≤ ((k + 1 : Nat) : Int) then some d else none
        rw [if_pos (by omega)]
      · rw [if_neg hd]
        simp only
        by_cases h9 : d = (k : Int) + 1
        · rw [if_pos (some_iff.mpr ?_), if_pos (by omega), h9]
          obtain ⟨i, h2, h3, h4, h5⟩ := D.prd j d h0 h1 hf (by omega)
          exact ⟨i, h2, h3, by rw [h4]; congr 1; omega, h5⟩
        · rw [if_neg fun z => ?_, if_neg (by omega)]
          obtain ⟨i, h2, h3, h4, h5⟩ := some_iff.mp z
          obtain ⟨e, h6, h7⟩ := D.step i j _ h2 h3 h0 h1 h4 h5
          rw [hf] at h6
          cases h6
          omega
theorem Dist.dkT {f : Int → Option Int} (D : Dist n ts p f) : (rngI 0 n).map f = dkT n ts p := by
  unfold DL.dkT
  refine List.map_congr_left fun j hj => ?_
  have hj := mem_rngI.mp hj
  rw [D.dk _ j hj.1 hj.2]
  cases hf : f j with
  | none => rfl
  | some d =>
    have := D.bd j d hj.1 hj.2 hf
    simp only
    rw [if_pos (by omega)]
end
def T_steps_from (ds : List PyData) (Φ : Rt → Prop) : Prop := ∃ (n : Int) (ts : List (Int × Int)) (p : Int), ds = [.int n, .list (ts.map prD), .int p] ∧ (0 ≤ n ∧ n ≤ 1000) ∧ (0 ≤ p ∧ p < n) ∧ ((∃ f, Dist n ts p f) → Φ (.l ((dkT n ts p).map opD)))
theorem ws_steps_from {c : Cn} {ds : List PyData} {Φ : Rt → Prop} (hT : T_steps_from ds Φ) : ∃ Γ, Fit ds Γ ∧ Γ.length = 7 ∧ Ws c Γ [] (t_steps_from c.K) { nx := fun _ O => RtW Φ (.fr .none) O, rt := RtW Φ } := by
  obtain ⟨n, ts, p, rfl, ⟨h0, hn⟩, hp, h⟩ := hT
  refine ⟨[.fr (.int n), .bo (.list (ts.map prD)), .fr (.int p), .un, .un, .un, .un], Fit.fr rfl (Fit.bo (by walk_at "fit")), rfl, ?_⟩
  unfold t_steps_from
  walk_at "w"
  refine wo_rep (by walk_at "seq") (by walk_at "any") (by omega) (by omega) (by simp; omega) ?_
  rw [rep_flat, rep_map]
  walk_at "own"
  intro a0
  walk_at "w"
  refine ⟨a0, 0, _, p, _, rfl, rfl, by walk_at "any", hp.1, by rw [List.length_map, rngI_len]; omega, Fz.fr, ?_⟩
  rw [tab_set hp.1]
  have e0 : (rngI 0 n).map (upF (fun _ => PyData.none) p (.int 0)) = ((rngI 0 n).map (upF (fun _ => none) p (some 0))).map opD := by
    rw [List.map_map]
    refine List.map_congr_left fun j _ => ?_
    show upF (fun _ => PyData.none) p (.int 0) j = opD (upF (fun _ => none) p (some 0) j)
    unfold upF
    split <;> rfl
  rw [e0]
  walk_at "w"
  walk_at "own"
  intro b0
  walk_at "w"
  refine ws_while (fun m Γ O => ∃ (at_ : Nat) (g : Int → Option Int) (row : List Int), m = 1001 - at_ ∧ Γ = [.fr (.int n), .bo (.list (ts.map prD)), .fr (.int p), .pt a0, .pt b0, .fr (.int at_), .un] ∧ O = [(a0, .l (((rngI 0 n).map g).map opD)), (b0, .l (row.map PyData.int))] ∧ Bq n ts p at_ g row) ⟨_, Up.of ⟨0, _, [p], rfl, rfl, rfl, Bq.init hp⟩⟩ ?_
  rintro m Γi Oi ⟨at_, g, row, rfl, rfl, rfl, bq⟩
  walk_at "w"
  rw [List.length_map]
  have rl := nodup_len h0 bq.nd bq.rg
  refine iteD (fun e => ?_) fun e => ?_
  · obtain ⟨x, hx⟩ : ∃ x, row[at_]? = some x := ⟨_, List.getElem?_eq_getElem (by omega)⟩
    walk_at "w"
    refine ws_forx [6] (wx_seq (w := true) PyData.int ?_)
    refine we_call ?_
    walk_at "w"
    refine wo_ixE (enc := PyData.int) (by walk_at "seq") (by walk_at "any") (by omega) (by rw [Int.toNat_natCast]; exact hx) ?_
    walk_at "w"
    refine ⟨_, by walk_at "anys", n, ts, x, rfl, by omega, ?_⟩
    walk_at "rs"
    refine ⟨nbs n ts x, by walk_at "seqw", fun pre Γ O => ∃ (g : Int → Option Int) (row : List Int), Γ = [.fr (.int n), .bo (.list (ts.map prD)), .fr (.int p), .pt a0, .pt b0, .fr (.int at_), .un] ∧ O = [(a0, .l (((rngI 0 n).map g).map opD)), (b0, .l (row.map PyData.int))] ∧ Bq n ts p at_ g row ∧ row[at_]? = some x ∧ ∀ j ∈ pre, j ∈ row ∧ vl g j ≤ vl g x + 1,
      Up.of ⟨g, row, rfl, rfl, bq, hx, fun j hj => by cases hj⟩, ?_, ?_⟩
    · clear bq hx rl e
      rintro gs pre y post Γi Oi sp ⟨g, row, rfl, rfl, bq, hx, hpre⟩
      have rl := nodup_len h0 bq.nd bq.rg
      have hy : y ∈ nbs n ts x := by rw [sp]; simp
      obtain ⟨y0, y1, yt⟩ := mem_nbs.mp hy
      have xr := List.mem_of_getElem? hx
      have rx := bq.rg x xr
      have gx : g x = some (vl g x) := by
        have := (bq.mem x rx.1 rx.2).mpr xr
        unfold vl
        cases h : g x with
        | none => exact absurd h this
        | some d => rfl
      walk_at "w"
      refine wo_ixE (enc := opD) (by walk_at "seq") (by walk_at "any") y0 (rng_get y0 y1) ?_
      cases hg : g y with
      | some d =>
        have yr : y ∈ row := (bq.mem y y0 y1).mp (by rw [hg]; exact fun z => nomatch z)
        have yv : vl g y ≤ vl g x + 1 := bq.top x hx y yr
        refine ⟨_, by walk_at "any", false, Any.fr, ?_⟩
        walk_at "w"
        refine ⟨_, _, ⟨g, row, rfl, rfl, bq, hx, fun j hj => ?_⟩, by walk_at "sle", List.Sublist.refl _⟩
        rcases List.mem_append.mp hj with z | z
        · exact hpre j z
        · rw [List.mem_singleton.mp z]; exact ⟨yr, yv⟩
      | none =>
        have b2 := bq.add hx ⟨y0, y1⟩ hg yt
        have hl2 := (List.getElem?_eq_some_iff.mp hx).1
        refine ⟨_, by walk_at "any", true, Any.fr, ?_⟩
        walk_at "w"
        refine wo_ixE (enc := PyData.int) (by walk_at "seq") (by walk_at "any") (by omega) (by rw [Int.toNat_natCast]; exact hx) ?_
        refine wo_ixE (enc := opD) (by walk_at "seq") (by walk_at "any") rx.1 (rng_get rx.1 rx.2) ?_
        rw [gx]
        walk_at "w"
        refine ⟨a0, 0, _, y, _, rfl, rfl, by walk_at "any", y0, by rw [List.length_map, List.length_map, rngI_len]; omega, Fz.fr, ?_⟩
        walk_at "w"
        refine wm_append (j := 1) rfl Fz.fr (by rw [List.length_map]; omega) ?_
        refine ⟨_, _, ⟨upF g y (some (vl g x + 1)), row ++ [y], rfl, ?_, b2, by rw [List.getElem?_append_left hl2]; exact hx, fun j hj => ?_⟩, by walk_at "sle", List.Sublist.refl _⟩
        · rw [← tab_set y0, List.map_set]
          simp only [List.set, List.map_append]
          rfl
        · have vx : vl (upF g y (some (vl g x + 1))) x = vl g x := by
            rw [vl_up, if_neg fun e => by rw [← e, gx] at hg; cases hg]
          rcases List.mem_append.mp hj with z | z
          · obtain ⟨k1, k2⟩ := hpre j z
            refine ⟨List.mem_append_left _ k1, ?_⟩
            rw [vx, vl_up]
            split <;> omega
          · rw [List.mem_singleton.mp z]
            refine ⟨List.mem_append_right _ (List.mem_singleton_self _), ?_⟩
            rw [vx, vl_up, if_pos rfl]
            omega
    · rintro Γ' O' ⟨g, row, rfl, rfl, bq, hx, hall⟩
      have rl := nodup_len h0 bq.nd bq.rg
      have hl2 := (List.getElem?_eq_some_iff.mp hx).1
      walk_at "w"
      refine ⟨1001 - (at_ + 1), by omega, Up.of ⟨at_ + 1, g, row, rfl, ?_, rfl, bq.next hx fun j j0 j1 jt => hall j (mem_nbs.mpr ⟨j0, j1, jt⟩)⟩⟩
      simp
  · walk_at "w"
    have el : at_ = row.length := by have := bq.ale; omega
    subst el
    have D := bq.dist h0
    refine ⟨_, Ret.pt (by walk_at "mem"), ?_⟩
    rw [D.dkT]
    exact h ⟨g, D⟩

/-- slots: n 0, ties 1, place 2 -/
def t_far (K : PySem.W.Frag) : TS :=
  (tRet (tLc (iRng1 (tCons (tVar 0) tNil)) (gName 2) tYes (tCall (SpD T_steps_from) [] E0 (tCons (tVar 0) (tCons (tVar 1) (tCons (tVar 2) tNil)))) [2]))
def farT (n : Int) (ts : List (Int × Int)) : List (List (Option Int)) := (rngI 0 n).map (dkT n ts)
def T_far (ds : List PyData) (Φ : Rt → Prop) : Prop := ∃ (n : Int) (ts : List (Int × Int)), ds = [.int n, .list (ts.map prD)] ∧ (0 ≤ n ∧ n ≤ 1000) ∧ ((∀ p, 0 ≤ p → p < n → ∃ f, Dist n ts p f) → Φ (.l ((farT n ts).map (lsD opD))))
theorem ws_far {c : Cn} {ds : List PyData} {Φ : Rt → Prop} (hT : T_far ds Φ) : ∃ Γ, Fit ds Γ ∧ Γ.length = 3 ∧ Ws c Γ [] (t_far c.K) { nx := fun _ O => RtW Φ (.fr .none) O, rt := RtW Φ } := by
  obtain ⟨n, ts, rfl, ⟨h0, hn⟩, h⟩ := hT
  refine ⟨[.fr (.int n), .bo (.list (ts.map prD)), .un], Fit.fr rfl (Fit.bo (by walk_at "fit")), rfl, ?_⟩
  unfold t_far
  walk_at "w"
  refine we_lcx [2] (wx_rng1 ?_)
  walk_at "w"
  refine ⟨_, n, rfl, by walk_at "any", ⟨by omega, by omega⟩, by rw [rngI_len]; omega, fun pre es => es = (pre.map (dkT n ts)).map (lsD opD) ∧ ∀ p ∈ pre, ∃ f, Dist n ts p f, ⟨rfl, fun p hp => by cases hp⟩, ?_, ?_⟩
  · rintro pre x post es sp ⟨rfl, hpre⟩
    have hx : x ∈ rngI 0 n := by rw [sp]; simp
    have hx := mem_rngI.mp hx
    walk_at "w"
    refine ⟨rfl, ?_⟩
    rw [if_pos rfl]
    refine we_call ?_
    walk_at "w"
    refine ⟨_, by walk_at "anys", n, ts, x, rfl, ⟨h0, hn⟩, hx, fun hD => ⟨rfl, _, Fz.nw, ?_, fun p hp => ?_⟩⟩
    · rw [List.map_append, List.map_append]
      rfl
    · rcases List.mem_append.mp hp with z | z
      · exact hpre p z
      · rw [List.mem_singleton.mp z]; exact hD
  · rintro es ⟨rfl, hall⟩
    walk_at "ret"
    exact h fun p p0 p1 => hall p (mem_rngI.mpr ⟨p0, p1⟩)

/-- slots: script 0 -/
def t_law_feed (K : PySem.W.Frag) : TS :=
  (tRet (tLst (tCons (tCB (rListA K) (tCons (tVar 0) tNil)) (tCons (tC (.int 0)) (tCons (tC (.int 0)) (tCons (tC (.int 1)) tNil))))))
theorem ws_law_feed {K : PySem.W.Frag} {vs : List V} {H : Hp} {Q : VK} {X : XK} (h : SpFeed K vs H Q X) : t_law_feed K { nx := fun _ H' => Q .non H', rt := Q } (start ["script"] vs) H := by
  obtain ⟨b, ns, rfl, hs, q⟩ := h
  refine ⟨.ref b, rfl, b, ns.map V.int, rfl, .inl hs, fun l hl => ?_⟩
  refine ⟨Nat.le_trans (by decide : (4 : Nat) ≤ 1000000) (by rw [sizeLine_eq]; decide), fun p hp => ?_⟩
  exact q l p hl hp

/-- slots: feed 0, many 1, cell 2, told 3, mixed 4 -/
def t_law_draw (K : PySem.W.Frag) : TS :=
  (tSeq (tIfS (tAnd (tTest (tOp (rEqD K) (tOp (rIx K) (tVar 0) (tC (.int 2))) (tC (.int 0)))) (tTest (tOp (rLtA K) (tOp (rIx K) (tVar 0) (tC (.int 1))) (tCB (rLenA K) (tCons (tOp (rIx K) (tVar 0) (tC (.int 0))) tNil)))))
  (tSeq (tAsg (tCB rAbs (tCons (tCB rInt1 (tCons (tOp (rIx K) (tOp (rIx K) (tVar 0) (tC (.int 0))) (tOp (rIx K) (tVar 0) (tC (.int 1)))) tNil)) tNil)) (gName 2))
  (tSeq (tAugS (tVar 0) (tC (.int 1)) (tC (.int 1)) (rGetL K) (ipI fun i j => i + j) rSetL)
  (tIfS (tTest (tOp (rGeA K) (tVar 2) (tOp rPow (tC (.int 10)) (tC (.int 18)))))
  (tAsg (tVar 2) (gSub (tVar 0) (tC (.int 2)) rSetL))
  (tAsg (tOp rMod (tCB rInt1 (tCons (tOp rAddA (tOp rAddA (tOp rMulA (tOp (rIx K) (tVar 0) (tC (.int 3))) (tC (.int 48271))) (tOp rMulA (tVar 2) (tC (.int 69621)))) (tOp (rIx K) (tVar 0) (tC (.int 1)))) tNil)) (tC (.int 2147483647))) (gSub (tVar 0) (tC (.int 3)) rSetL)))))
  tNext)
  (tSeq (tIfS (tTest (tOp rGtI (tOp (rIx K) (tVar 0) (tC (.int 2))) (tC (.int 0))))
  (tSeq (tAsg (tOp rMod (tCB rInt1 (tCons (tOp (rIx K) (tVar 0) (tC (.int 2))) tNil)) (tVar 1)) (gName 3))
  (tSeq (tAsg (tOp rFdiv (tOp (rIx K) (tVar 0) (tC (.int 2))) (tVar 1)) (gSub (tVar 0) (tC (.int 2)) rSetL))
  (tRet (tVar 3))))
  tNext)
  (tSeq (tAsg (tOp rMod (tCB rInt1 (tCons (tOp rAddA (tOp rMulA (tOp (rIx K) (tVar 0) (tC (.int 3))) (tC (.int 16807))) (tC (.int 12345))) tNil)) (tC (.int 2147483647))) (gSub (tVar 0) (tC (.int 3)) rSetL))
  (tSeq (tAsg (tOp rMod (tCB rInt1 (tCons (tOp rAddA (tOp rMulA (tOp (rIx K) (tVar 0) (tC (.int 3))) (tOp (rIx K) (tVar 0) (tC (.int 3)))) (tOp (rIx K) (tVar 0) (tC (.int 3)))) tNil)) (tC (.int 2147483629))) (gName 4))
  (tRet (tOp rMod (tOp rFdiv (tVar 4) (tC (.int 11))) (tVar 1)))))))
def T_law_draw (ds : List PyData) (Φ : Rt → Prop) : Prop := ∃ many : Int, ds = [.int many] ∧ (0 < many ∧ many < 1073741824) ∧ ∀ k : Int, 0 ≤ k → k < many → Φ (.d (.int k))
section
variable {c : Cn} {F H : Hp} {σ : L2.St} {Γ : List Sl} {a s : Addr} {ns : List Int} {i w sd : Int}
theorem Is.fd0 (I : Is c F H σ Γ [(a, .fd s ns)]) : SqL c.K H s (ns.map V.int) := by
  obtain ⟨_, _, h | h⟩ := I.oH _ (List.mem_singleton_self _)
  · exact same_l I.fh h
  · exact same_l I.bh h
theorem fd_rd {K : PySem.W.Frag} {k : Int} {v : V} (hs : σ[0]? = some (some (.ref a))) (h : H a = some (.lst [.ref s, .int i, .int w, .int sd])) (hk : atI [.ref s, .int i, .int w, .int sd] k = some v) : PV (tOp (rIx K) (tVar 0) (tC (.int k))) σ H v :=
  pv_ix (pv_var hs) pv_c (SqL.of h) hk
/-- feed[k] = e -/
theorem fd_wr {te : TE} {D : Ends} {k : Int} {x : Int} {n : Nat} (hs : σ[0]? = some (some (.ref a))) (h : H a = some (.lst [.ref s, .int i, .int w, .int sd])) (he : PV te σ H (.int x)) (hk : ixN 4 k = some n)
    (q : D.nx σ (upd H a (.lst ([.ref s, .int i, .int w, .int sd].set n (.int x))))) : tAsg te (gSub (tVar 0) (tC (.int k)) rSetL) D σ H :=
  he _ ⟨.ref a, hs, a, _, k, n, rfl, rfl, h, hk, q⟩
end
theorem rest_draw {c : Cn} {F H : Hp} {D : Ends} {many : Int} {a s : Addr} {ns : List Int} {i w sd : Int} {s2 : Sl} {x2 x3 x4 : Option V} (hm : 0 < many ∧ many < 1073741824) (h : H a = some (.lst [.ref s, .int i, .int w, .int sd])) (hf : FeedI ns.length i w sd)
    (I : Is c F H [some (.ref a), some (.int many), x2, x3, x4] [.pt a, .fr (.int many), s2, .un, .un] [(a, .fd s ns)])
    (fin : ∀ k : Int, 0 ≤ k → k < many → ∀ H' F' σ' Γ', Is c F' H' σ' Γ' [(a, .fd s ns)] → D.rt (.int k) H') :
    (tSeq (tIfS (tTest (tOp rGtI (tOp (rIx c.K) (tVar 0) (tC (.int 2))) (tC (.int 0))))
  (tSeq (tAsg (tOp rMod (tCB rInt1 (tCons (tOp (rIx c.K) (tVar 0) (tC (.int 2))) tNil)) (tVar 1)) (gName 3))
  (tSeq (tAsg (tOp rFdiv (tOp (rIx c.K) (tVar 0) (tC (.int 2))) (tVar 1)) (gSub (tVar 0) (tC (.int 2)) rSetL))
  (tRet (tVar 3))))
  tNext)
  (tSeq (tAsg (tOp rMod (tCB rInt1 (tCons (tOp rAddA (tOp rMulA (tOp (rIx c.K) (tVar 0) (tC (.int 3))) (tC (.int 16807))) (tC (.int 12345))) tNil)) (tC (.int 2147483647))) (gSub (tVar 0) (tC (.int 3)) rSetL))
  (tSeq (tAsg (tOp rMod (tCB rInt1 (tCons (tOp rAddA (tOp rMulA (tOp (rIx c.K) (tVar 0) (tC (.int 3))) (tOp (rIx c.K) (tVar 0) (tC (.int 3)))) (tOp (rIx c.K) (tVar 0) (tC (.int 3)))) tNil)) (tC (.int 2147483629))) (gName 4))
  (tRet (tOp rMod (tOp rFdiv (tVar 4) (tC (.int 11))) (tVar 1)))))) D [some (.ref a), some (.int many), x2, x3, x4] H := by
  obtain ⟨hi0, hi1, hw, hs0, hs1⟩ := hf
  refine pb_gt (fd_rd rfl h rfl) pv_c _ ?_
  by_cases hw0 : 0 < w
  · rw [if_pos (decide_eq_true hw0)]
    refine pv_mod (pv_int1 (fd_rd rfl h rfl)) (pv_var rfl) hm.1 _ ?_
    refine fd_wr (n := 2) (x := w / many) rfl h (pv_fdiv (fd_rd rfl h rfl) (pv_var rfl) hm) rfl ?_
    have I2 := I.setFd (j := 0) (i := i) (w := w / many) (sd := sd) rfl ⟨hi0, hi1, Int.ediv_nonneg hw (by omega), hs0, hs1⟩
    exact ⟨_, rfl, fin _ (Int.emod_nonneg _ (by omega)) (Int.emod_lt_of_pos _ hm.1) _ _ _ _ I2⟩
  · rw [if_neg (by rw [decide_eq_false hw0]; exact Bool.false_ne_true)]
    have e1 : 0 ≤ (sd * 16807 + 12345) % 2147483647 := Int.emod_nonneg _ (by omega)
    have e2 : (sd * 16807 + 12345) % 2147483647 < 2147483647 := Int.emod_lt_of_pos _ (by omega)
    have r3 : PV (tOp (rIx c.K) (tVar 0) (tC (.int 3))) [some (.ref a), some (.int many), x2, x3, x4] H (.int sd) := fd_rd rfl h rfl
    refine fd_wr (n := 3) (x := (sd * 16807 + 12345) % 2147483647) rfl h (pv_mod (pv_int1 (pv_add (pv_mul r3 pv_c (by unfold CMul; omega)) pv_c)) pv_c (by omega)) rfl ?_
    generalize hz : (sd * 16807 + 12345) % 2147483647 = z at e1 e2
    have I2 := I.setFd (j := 0) (i := i) (w := w) (sd := z) rfl ⟨hi0, hi1, hw, e1, e2⟩
    have rd3 : PV (tOp (rIx c.K) (tVar 0) (tC (.int 3))) [some (.ref a), some (.int many), x2, x3, x4] (upd H a (.lst [.ref s, .int i, .int w, .int z])) (.int z) := fd_rd rfl upd_same rfl
    refine pv_mod (pv_int1 (pv_add (pv_mul rd3 rd3 (by unfold CMul; omega)) rd3)) pv_c (by omega) _ ?_
    refine pv_mod (pv_fdiv (pv_var rfl) pv_c (by omega)) (pv_var rfl) hm.1 _ ?_
    exact fin _ (Int.emod_nonneg _ (by omega)) (Int.emod_lt_of_pos _ hm.1) _ _ _ _ I2
theorem ws_law_draw {c : Cn} {ds : List PyData} {Φ : Rt → Prop} {a s : Addr} {ns : List Int} (hT : T_law_draw ds Φ) : ∃ Γ, Fit ds Γ ∧ Γ.length + 1 = 5 ∧ Ws c (.pt a :: Γ) [(a, .fd s ns)] (t_law_draw c.K) { nx := fun _ O => RtW Φ (.fr .none) O ∧ (a, Ob.fd s ns) ∈ O, rt := fun r O => RtW Φ r O ∧ (a, Ob.fd s ns) ∈ O } := by
  obtain ⟨many, rfl, hm, hΦ⟩ := hT
  refine ⟨[.fr (.int many), .un, .un, .un], by walk_at "fit", rfl, ?_⟩
  intro F H σ D I nx rt bk ct
  have fin : ∀ k : Int, 0 ≤ k → k < many → ∀ H' F' σ' Γ', Is c F' H' σ' Γ' [(a, .fd s ns)] → D.rt (.int k) H' := fun k h0 h1 H' F' σ' Γ' I' =>
    rt H' (.int k) F' H' σ' Γ' (.fr (.int k)) _ ⟨⟨_, Ret.fr, hΦ k h0 h1⟩, List.mem_singleton_self _⟩ I' (Be.refl _) (Da.int k)
  obtain ⟨_, ⟨i, w, sd, h, hf⟩, _⟩ := I.oH _ (List.mem_singleton_self _)
  have hsq := I.fd0
  -- the slots
  have hl : σ.length = 5 := I.ln
  have s0 := I.sl 0 _ rfl
  have s1 := I.sl 1 _ rfl
  obtain ⟨x0, x1, x2, x3, x4, rfl⟩ : ∃ x0 x1 x2 x3 x4, σ = [x0, x1, x2, x3, x4] := by
    match σ, hl with
    | [x0, x1, x2, x3, x4], _ => exact ⟨x0, x1, x2, x3, x4, rfl⟩
  have e0 : x0 = some (.ref a) := s0
  subst e0
  have e1 : x1 = some (.int many) := by
    obtain ⟨v, e, h⟩ := s1
    have e : x1 = some v := e
    cases h
    exact e
  subst e1
  unfold t_law_draw
  have hf' := hf
  obtain ⟨hi0, hi1, hw, hs0, hs1⟩ := hf'
  refine pb_and (d := decide (w = 0) && decide (i < ns.length)) (pb_eq (fd_rd rfl h rfl) pv_c) (fun e => ?_) (fun e => by rw [e]; rfl) _ ?_
  · rw [e, Bool.true_and]
    have hl' : PV (tCB (rLenA c.K) (tCons (tOp (rIx c.K) (tVar 0) (tC (.int 0))) tNil)) [some (.ref a), some (.int many), x2, x3, x4] H (.int ns.length) := by
      have := pv_len (K := c.K) (fd_rd (K := c.K) (σ := [some (.ref a), some (.int many), x2, x3, x4]) (k := 0) rfl h rfl) hsq
      rw [List.length_map] at this
      exact this
    exact pb_lt (fd_rd rfl h rfl) hl'
  by_cases hc : (decide (w = 0) && decide (i < ns.length)) = true
  · rw [if_pos hc]
    have hc' : w = 0 ∧ i < ns.length := by simpa using hc
    obtain ⟨hw0, hin⟩ := hc'
    obtain ⟨x, hx⟩ : ∃ x, ns[i.toNat]? = some x := ⟨_, List.getElem?_eq_getElem (by omega)⟩
    have hcell : PV (tCB rAbs (tCons (tCB rInt1 (tCons (tOp (rIx c.K) (tOp (rIx c.K) (tVar 0) (tC (.int 0))) (tOp (rIx c.K) (tVar 0) (tC (.int 1)))) tNil)) tNil)) [some (.ref a), some (.int many), x2, x3, x4] H (.int (if x < 0 then -x else x)) :=
      pv_abs (pv_int1 (pv_ix (fd_rd rfl h rfl) (fd_rd rfl h rfl) hsq (atI_of hi0 (by rw [List.getElem?_map, hx]; rfl))))
    refine hcell _ ?_
    generalize hz : (if x < 0 then -x else x) = z
    have hz0 : 0 ≤ z := by rw [← hz]; split <;> omega
    have I1 : Is c F H ([some (.ref a), some (.int many), x2, x3, x4].set 2 (some (.int z))) ([.pt a, .fr (.int many), .un, .un, .un].set 2 (.fr (.int z))) [(a, .fd s ns)] := I.set ⟨_, rfl, Da.int z⟩
    -- feed[1] += 1
    refine ⟨.ref a, rfl, a, _, 1, .int i, rfl, rfl, SqL.of h, by omega, rfl, i, 1, rfl, rfl, a, _, 1, 1, rfl, rfl, h, rfl, ?_⟩
    have hf2 : FeedI ns.length (i + 1) w sd := ⟨by omega, by omega, hw, hs0, hs1⟩
    have I2 := I1.setFd (j := 0) (i := i + 1) (w := w) (sd := sd) rfl hf2
    have h2 : (upd H a (.lst ([V.ref s, .int i, .int w, .int sd].set 1 (.int (i + 1))))) a = some (.lst [.ref s, .int (i + 1), .int w, .int sd]) := upd_same
    have I2 : Is c F (upd H a (.lst ([V.ref s, .int i, .int w, .int sd].set 1 (.int (i + 1))))) [some (.ref a), some (.int many), some (.int z), x3, x4] [.pt a, .fr (.int many), .fr (.int z), .un, .un] [(a, .fd s ns)] := I2
    generalize upd H a (.lst ([V.ref s, .int i, .int w, .int sd].set 1 (.int (i + 1)))) = H2 at h2 I2
    refine pb_ge (pv_var rfl) (pv_pow pv_c pv_c (by unfold CPow; omega)) _ ?_
    by_cases hb : (10 : Int) ^ (18 : Int).toNat ≤ z
    · rw [if_pos (decide_eq_true hb)]
      refine fd_wr (n := 2) (x := z) rfl h2 (pv_var rfl) rfl ?_
      have hf3 : FeedI ns.length (i + 1) z sd := ⟨by omega, by omega, hz0, hs0, hs1⟩
      have I3 := I2.setFd (j := 0) (i := i + 1) (w := z) (sd := sd) rfl hf3
      exact rest_draw hm upd_same hf3 I3 fin
    · rw [if_neg (by rw [decide_eq_false hb]; exact Bool.false_ne_true)]
      have hzb : z < 1000000000000000000 := by
        have e : (10 : Int) ^ (18 : Int).toNat = 1000000000000000000 := by decide
        rw [e] at hb
        omega
      have e1 : 0 ≤ (sd * 48271 + z * 69621 + (i + 1)) % 2147483647 := Int.emod_nonneg _ (by omega)
      have e2 : (sd * 48271 + z * 69621 + (i + 1)) % 2147483647 < 2147483647 := Int.emod_lt_of_pos _ (by omega)
      generalize hy : (sd * 48271 + z * 69621 + (i + 1)) % 2147483647 = y at e1 e2
      refine fd_wr (n := 3) (x := y) rfl h2 (by rw [← hy]; exact pv_mod (pv_int1 (pv_add (pv_add (pv_mul (fd_rd rfl h2 rfl) pv_c (by unfold CMul; omega)) (pv_mul (pv_var rfl) pv_c (by unfold CMul; omega))) (fd_rd rfl h2 rfl))) pv_c (by omega)) rfl ?_
      have hf3 : FeedI ns.length (i + 1) w y := ⟨by omega, by omega, hw, e1, e2⟩
      have I3 := I2.setFd (j := 0) (i := i + 1) (w := w) (sd := y) rfl hf3
      exact rest_draw hm upd_same hf3 I3 fin
  · rw [if_neg hc]
    exact rest_draw hm h hf I fin

/-- slots: x 0 -/
def t_law_is_whole (K : PySem.W.Frag) : TS :=
  (tRet (tAndV (tCB (rIsi K) (tCons (tVar 0) (tCons (tC (.ty "int")) tNil))) (tNotT K (tCB (rIsi K) (tCons (tVar 0) (tCons (tC (.ty "bool")) tNil))))))
def T_law_is_whole (ds : List PyData) (Φ : Rt → Prop) : Prop := ∃ d : PyData, ds = [d] ∧ noDict d = true ∧ Φ (.d (.bool (isInt d)))
theorem ws_law_is_whole {c : Cn} {ds : List PyData} {Φ : Rt → Prop} (hT : T_law_is_whole ds Φ) : ∃ Γ, Fit ds Γ ∧ Γ.length = 1 ∧ Ws c Γ [] (t_law_is_whole c.K) { nx := fun _ O => RtW Φ (.fr .none) O, rt := RtW Φ } := by
  obtain ⟨d, rfl, hd, h⟩ := hT
  refine ⟨[.bo d], Fit.bo Fit.nil, rfl, ?_⟩
  unfold t_law_is_whole
  obtain ⟨⟨z1, k1, e1⟩, ⟨z2, k2, e2⟩, _⟩ := kit_some d (fun kvs e => by rw [e] at hd; cases hd)
  refine ws_ret (we_and (we_cb (wa_cons (we_var rfl rfl (wa_cons (we_ty (wa_nil (wc_isi Any.bo k1 ⟨_, Any.fr, ?_⟩))))))))
  cases hz : z1 with
  | false =>
    rw [if_neg Bool.false_ne_true]
    walk_at "ret"
    have e : isInt d = false := by
      rw [hz] at e1
      cases d <;> first | rfl | cases e1
    rw [e] at h
    exact h
  | true =>
    rw [if_pos rfl]
    refine we_notT (we_cb (wa_cons (we_var rfl rfl (wa_cons (we_ty (wa_nil (wc_isi Any.bo k2 ⟨_, _, Any.fr, Tru.bool, ?_⟩)))))))
    walk_at "ret"
    have e : isInt d = !z2 := by
      rw [hz] at e1
      rw [e2]
      cases d <;> first | rfl | cases e1
    rw [e] at h
    exact h

/-- slots: n 0, found 1, i 2, j 3 -/
def t_law_pairs (K : PySem.W.Frag) : TS :=
  (tSeq (tAsg (tLst tNil) (gName 1))
  (tSeq (tFor (iRng1 (tCons (tVar 0) tNil)) (gName 2)
  (tAsg (tOp rAddA (tVar 1) (tLc (iRng2 (tCons (tOp rAddA (tVar 2) (tC (.int 1))) (tCons (tVar 0) tNil))) (gName 3) tYes (tTup (tCons (tVar 2) (tCons (tVar 3) tNil))) [3])) (gName 1)))
  (tRet (tVar 1))))
def T_law_pairs (ds : List PyData) (Φ : Rt → Prop) : Prop := ∃ n : Int, ds = [.int n] ∧ (0 ≤ n ∧ n ≤ 700) ∧ Φ (.l ((prs n).map prD))
theorem ws_law_pairs {c : Cn} {ds : List PyData} {Φ : Rt → Prop} (hT : T_law_pairs ds Φ) : ∃ Γ, Fit ds Γ ∧ Γ.length = 4 ∧ Ws c Γ [] (t_law_pairs c.K) { nx := fun _ O => RtW Φ (.fr .none) O, rt := RtW Φ } := by
  obtain ⟨n, rfl, ⟨h0, hn⟩, h⟩ := hT
  refine ⟨[.fr (.int n), .un, .un, .un], by walk_at "fit", rfl, ?_⟩
  unfold t_law_pairs
  walk_at "w"
  walk_at "own"
  intro p0
  walk_at "w"
  refine ws_forx [2] (wx_rng1 ?_)
  walk_at "w"
  refine ⟨_, n, rfl, by walk_at "any", ⟨by omega, by omega⟩, fun pre Γ O => ∃ p, Γ = [.fr (.int n), .pt p, .un, .un] ∧ O = [(p, .l ((prsTo n pre.length).map prD))], Up.of ⟨p0, rfl, rfl⟩, ?_, ?_⟩
  · rintro gs pre x post Γi Oi sp ⟨p, rfl, rfl⟩
    obtain ⟨e1, h1, h2, h3, _⟩ := rngI_split sp
    have e3 : (pre.length : Int) = x := by omega
    rw [e3]
    walk_at "w"
    refine we_lcm [3] (wx_rng2 ?_)
    walk_at "w"
    refine ⟨_, _, x + 1, n, rfl, by walk_at "any", by walk_at "any", by omega, by rw [rngI_len]; omega, fun b => prD (x, b), fun b hb => ?_, ?_⟩
    · walk_at "w"
      exact ⟨rfl, Fz.fr⟩
    · refine wo_cat (by walk_at "seq") (by walk_at "seq") ?_ ?_
      · have := prsTo_len (n := n) (i := x) (by omega) h1 hn
        rw [List.length_map, List.length_map, rngI_len]
        omega
      · walk_at "own"
        intro q
        have e4 : (prsTo n x).map prD ++ (rngI (x + 1) n).map (fun b => prD (x, b)) = (prsTo n (pre ++ [x]).length).map prD := by
          have e5 : ((pre ++ [x]).length : Int) = x + 1 := by rw [List.length_append]; simp; omega
          rw [e5, prsTo_succ h1, List.map_append, List.map_map]
          rfl
        rw [e4]
        exact ⟨_, _, ⟨q, rfl, rfl⟩, .same (.same (.un (.same .nil))), (List.Sublist.refl _).cons _⟩
  · rintro Γ' O' ⟨p, rfl, rfl⟩
    walk_at "w"
    walk_at "ret"
    have e : prs n = prsTo n (rngI 0 n).length := by
      rw [rngI_len]
      unfold prs
      congr 1
      omega
    rw [← e]
    exact h

/-- slots: feed 0, n 1, rest 2, k 3, order 4 -/
def t_law_names (K : PySem.W.Frag) : TS :=
  (tSeq (tAsg (tLc (iRng1 (tCons (tVar 1) tNil)) (gName 3) tYes (tVar 3) [3]) (gName 2))
  (tSeq (tAsg (tLst tNil) (gName 4))
  (tSeq (tFor (iRng1 (tCons (tVar 1) tNil)) (gName 3)
  (tDrop (tBM K "list" rAppend (tVar 4) (tCons (tBM K "list" rPopAt (tVar 2) (tCons (tCall (SpF K T_law_draw) [] E0 (tCons (tVar 0) (tCons (tCB (rLenA K) (tCons (tVar 2) tNil)) tNil))) tNil)) tNil))))
  (tRet (tVar 4)))))
def T_law_names (ds : List PyData) (Φ : Rt → Prop) : Prop := ∃ n : Int, ds = [.int n] ∧ (0 ≤ n ∧ n ≤ 1000) ∧ ∀ o : List Int, o.Perm (rngI 0 n) → Φ (.l (o.map PyData.int))
theorem ws_law_names {c : Cn} {ds : List PyData} {Φ : Rt → Prop} {a s : Addr} {ns : List Int} (hT : T_law_names ds Φ) : ∃ Γ, Fit ds Γ ∧ Γ.length + 1 = 5 ∧ Ws c (.pt a :: Γ) [(a, .fd s ns)] (t_law_names c.K) { nx := fun _ O => RtW Φ (.fr .none) O ∧ (a, Ob.fd s ns) ∈ O, rt := fun r O => RtW Φ r O ∧ (a, Ob.fd s ns) ∈ O } := by
  obtain ⟨n, rfl, ⟨h0, hn⟩, h⟩ := hT
  refine ⟨[.fr (.int n), .un, .un, .un], by walk_at "fit", rfl, ?_⟩
  unfold t_law_names
  walk_at "w"
  refine we_lcm [3] (wx_rng1 ?_)
  walk_at "w"
  refine ⟨_, n, rfl, by walk_at "any", ⟨by omega, by omega⟩, by rw [rngI_len]; omega, PyData.int, fun x hx => ?_, ?_⟩
  · walk_at "w"
    exact ⟨rfl, Fz.fr⟩
  walk_at "own"
  intro p0
  walk_at "w"
  walk_at "own"
  intro q0
  walk_at "w"
  refine ws_forx [3] (wx_rng1 ?_)
  walk_at "w"
  refine ⟨_, n, rfl, by walk_at "any", ⟨by omega, by omega⟩, fun pre Γ O => ∃ (p q : Addr) (rest ord : List Int), Γ = [.pt a, .fr (.int n), .pt p, .un, .pt q] ∧ O = [(a, .fd s ns), (p, .l (rest.map PyData.int)), (q, .l (ord.map PyData.int))] ∧ (ord ++ rest).Perm (rngI 0 n) ∧ ord.length = pre.length, Up.of ⟨p0, q0, _, [], rfl, rfl, List.Perm.refl _, rfl⟩, ?_, ?_⟩
  · rintro gs pre x post Γi Oi sp ⟨p, q, rest, ord, rfl, rfl, pm, hl⟩
    have hlen := pm.length_eq
    rw [List.length_append, rngI_len] at hlen
    have hsp := congrArg List.length sp
    rw [rngI_len, List.length_append, List.length_cons] at hsp
    walk_at "w"
    refine we_callF ?_
    walk_at "w"
    refine ⟨a, s, ns, _, _, rfl, by walk_at "mem", by walk_at "anys", _, rfl, by rw [List.length_map]; omega, fun k hk0 hk1 => ?_⟩
    rw [List.length_map] at hk1
    walk_at "rs"
    walk_at "w"
    obtain ⟨y, hy⟩ : ∃ y, rest[k.toNat]? = some y := ⟨_, List.getElem?_eq_getElem (by omega)⟩
    refine wm_popAt (j := 1) (d := .int y) rfl Any.fr hk0 (by omega) (by rw [List.getElem?_map, hy]; rfl) ?_
    walk_at "w"
    refine wm_append (j := 2) rfl Fz.fr (by rw [List.length_map]; omega) ?_
    walk_at "w"
    refine ⟨_, _, ⟨p, q, rest.eraseIdx k.toNat, ord ++ [y], rfl, ?_, ?_, by rw [List.length_append, List.length_append, hl]; rfl⟩, by walk_at "sle", List.Sublist.refl _⟩
    · simp [List.set, List.map_append, map_eraseIdx]
    · refine List.Perm.trans ?_ pm
      rw [List.append_assoc]
      refine List.Perm.append_left _ ?_
      exact perm_erase hy
  · rintro Γ' O' ⟨p, q, rest, ord, rfl, rfl, pm, hl⟩
    have hlen := pm.length_eq
    rw [List.length_append, rngI_len] at hlen
    rw [rngI_len] at hl
    have e : rest = [] := List.eq_nil_of_length_eq_zero (by omega)
    subst e
    rw [List.append_nil] at pm
    walk_at "w"
    refine ⟨⟨_, Ret.pt (by walk_at "mem"), h ord pm⟩, by walk_at "mem"⟩

/-- slots: ties 0, names 1, i 2, j 3 -/
def t_law_renamed (K : PySem.W.Frag) : TS :=
  (tRet (tCB (rSortedA K) (tCons (tLc (iSeq K (tVar 0)) (gTup K 2 (gCons (gName 2) (gCons (gName 3) gNil))) tYes (tCall (SpD T_law_tie) [] E0 (tCons (tOp (rIx K) (tVar 1) (tVar 2)) (tCons (tOp (rIx K) (tVar 1) (tVar 3)) tNil))) [2, 3]) tNil)))
def T_law_renamed (ds : List PyData) (Φ : Rt → Prop) : Prop := ∃ (ts : List (Int × Int)) (nm : List Int), ds = [.list (ts.map prD), .list (nm.map PyData.int)] ∧ ts.length ≤ 1000000 ∧ (∀ p ∈ ts, (0 ≤ p.1 ∧ p.1 < nm.length) ∧ 0 ≤ p.2 ∧ p.2 < nm.length) ∧
  ∀ us : List (Int × Int), us.Perm (ts.map (renP nm)) → us.Pairwise leP → Φ (.l (us.map prD))
theorem ws_law_renamed {c : Cn} {ds : List PyData} {Φ : Rt → Prop} (hT : T_law_renamed ds Φ) : ∃ Γ, Fit ds Γ ∧ Γ.length = 4 ∧ Ws c Γ [] (t_law_renamed c.K) { nx := fun _ O => RtW Φ (.fr .none) O, rt := RtW Φ } := by
  obtain ⟨ts, nm, rfl, hl, hb, h⟩ := hT
  refine ⟨[.bo (.list (ts.map prD)), .bo (.list (nm.map PyData.int)), .un, .un], by walk_at "fit", rfl, ?_⟩
  unfold t_law_renamed
  walk_at "w"
  refine we_lcm [2, 3] (wx_seq (w := false) prD ?_)
  walk_at "w"
  refine ⟨ts, by walk_at "seqw", hl, fun p => prD (renP nm p), fun p hp => ?_, ?_⟩
  · obtain ⟨⟨h1, h2⟩, h3, h4⟩ := hb p hp
    walk_at "w"
    refine we_call ?_
    walk_at "w"
    refine wo_ixE (enc := PyData.int) (by walk_at "seq") (by walk_at "any") h1 (getI_some h1 h2) ?_
    walk_at "w"
    refine wo_ixE (enc := PyData.int) (by walk_at "seq") (by walk_at "any") h3 (getI_some h3 h4) ?_
    walk_at "w"
    exact ⟨_, by walk_at "anys", _, _, rfl, rfl, Fz.fr⟩
  · walk_at "w"
    refine wc_sortP (ts.map (renP nm)) (by walk_at "seq") (by rw [List.map_map]; rfl) fun us hp hs => ?_
    walk_at "ret"
    exact h us hp hs

/-- slots: feed 0, n 1, shape 2, ties 3, k 4, near 5 -/
def t_law_tree (K : PySem.W.Frag) : TS :=
  (tSeq (tAsg (tCall (SpF K T_law_draw) [] E0 (tCons (tVar 0) (tCons (tC (.int 5)) tNil))) (gName 2))
  (tSeq (tAsg (tLst tNil) (gName 3))
  (tSeq (tFor (iRng2 (tCons (tC (.int 1)) (tCons (tVar 1) tNil))) (gName 4)
  (tSeq (tAsg (tCall (SpF K T_law_draw) [] E0 (tCons (tVar 0) (tCons (tVar 4) tNil))) (gName 5))
  (tSeq (tIfS (tTest (tOp (rEqD K) (tVar 2) (tC (.int 0))))
  (tAsg (tOp rSub (tVar 4) (tC (.int 1))) (gName 5))
  (tIfS (tTest (tOp (rEqD K) (tVar 2) (tC (.int 1))))
  (tAsg (tC (.int 0)) (gName 5))
  (tIfS (tTest (tOp (rEqD K) (tVar 2) (tC (.int 2))))
  (tAsg (tCB rMax2 (tCons (tC (.int 0)) (tCons (tOp rSub (tOp rSub (tVar 4) (tC (.int 1))) (tCall (SpF K T_law_draw) [] E0 (tCons (tVar 0) (tCons (tC (.int 3)) tNil)))) tNil))) (gName 5))
  tNext)))
  (tDrop (tBM K "list" rAppend (tVar 3) (tCons (tTup (tCons (tVar 5) (tCons (tVar 4) tNil))) tNil))))))
  (tRet (tCall (SpD T_law_renamed) [] E0 (tCons (tVar 3) (tCons (tCall (SpF K T_law_names) [] E0 (tCons (tVar 0) (tCons (tVar 1) tNil))) tNil)))))))
def T_law_tree (ds : List PyData) (Φ : Rt → Prop) : Prop := ∃ n : Int, ds = [.int n] ∧ (1 ≤ n ∧ n ≤ 700) ∧ ∀ (ts : List (Int × Int)) (d : Int → Int → Int), Web n ts → TM n ts d → (ts.length : Int) = n - 1 → Φ (.l (ts.map prD))
theorem ws_law_tree {c : Cn} {ds : List PyData} {Φ : Rt → Prop} {a s : Addr} {ns : List Int} (hT : T_law_tree ds Φ) : ∃ Γ, Fit ds Γ ∧ Γ.length + 1 = 6 ∧ Ws c (.pt a :: Γ) [(a, .fd s ns)] (t_law_tree c.K) { nx := fun _ O => RtW Φ (.fr .none) O ∧ (a, Ob.fd s ns) ∈ O, rt := fun r O => RtW Φ r O ∧ (a, Ob.fd s ns) ∈ O } := by
  obtain ⟨n, rfl, ⟨h0, hn⟩, h⟩ := hT
  refine ⟨[.fr (.int n), .un, .un, .un, .un], by walk_at "fit", rfl, ?_⟩
  unfold t_law_tree
  walk_at "w"
  refine we_callF ?_
  walk_at "w"
  refine ⟨a, s, ns, _, _, rfl, by walk_at "mem", by walk_at "anys", 5, rfl, by omega, fun sh z0 z1 => ?_⟩
  walk_at "rs"
  walk_at "w"
  walk_at "own"
  intro p
  walk_at "w"
  refine ws_forx [4] (wx_rng2 ?_)
  walk_at "w"
  refine ⟨_, _, _, _, rfl, by walk_at "any", by walk_at "any", by omega, fun pre Γ O => ∃ (ts : List (Int × Int)) (d : Int → Int → Int) (s4 s5 : Sl), Γ = [.pt a, .fr (.int n), .fr (.int sh), .pt p, s4, s5] ∧ O = [(a, .fd s ns), (p, .l (ts.map prD))] ∧ (ts.length = pre.length) ∧ ts.Nodup ∧ (∀ q ∈ ts, 0 ≤ q.1 ∧ q.1 < q.2 ∧ q.2 < pre.length + 1) ∧ TM (pre.length + 1) ts d, Up.of ⟨[], fun _ _ => 0, _, _, rfl, rfl, rfl, List.nodup_nil, (fun q hq => by cases hq), (by have := TM.start; simpa using this)⟩, ?_, ?_⟩
  · rintro gs pre x post Γi Oi sp ⟨ts, d, s4, s5, rfl, rfl, tl, nd, ok, T⟩
    have hx : x ∈ rngI 1 n := by rw [sp]; simp
    obtain ⟨x0, x1⟩ := mem_rngI.mp hx
    have ex : x = pre.length + 1 := by
      have hg : (rngI 1 n)[pre.length]? = some x := by rw [sp]; simp
      have := rngI_get hg
      omega
    walk_at "w"
    refine we_callF ?_
    walk_at "w"
    refine ⟨a, s, ns, _, _, rfl, by walk_at "mem", by walk_at "anys", x, rfl, by omega, fun k k0 k1 => ?_⟩
    walk_at "rs"
    walk_at "st1"
    refine ws_cut (fun Γ O => ∃ k : Int, 0 ≤ k ∧ k < x ∧ Γ = [.pt a, .fr (.int n), .fr (.int sh), .pt p, .fr (.int x), .fr (.int k)] ∧ O = [(a, .fd s ns), (p, .l (ts.map prD))]) ?_ ?_
    · walk_at "w"
      refine iteD (fun _ => ?_) fun _ => ?_
      · walk_at "w"
        exact ⟨_, _, ⟨x - 1, by omega, by omega, rfl, rfl⟩, by walk_at "sle", List.Sublist.refl _⟩
      walk_at "w"
      refine iteD (fun _ => ?_) fun _ => ?_
      · walk_at "w"
        exact ⟨_, _, ⟨0, by omega, by omega, rfl, rfl⟩, by walk_at "sle", List.Sublist.refl _⟩
      walk_at "w"
      refine iteD (fun _ => ?_) fun _ => ?_
      · walk_at "w"
        refine we_callF ?_
        walk_at "w"
        refine ⟨a, s, ns, _, _, rfl, by walk_at "mem", by walk_at "anys", 3, rfl, by omega, fun y y0 y1 => ?_⟩
        walk_at "rs"
        walk_at "w"
        exact ⟨_, _, ⟨max 0 (x - 1 - y), by omega, by omega, rfl, rfl⟩, by walk_at "sle", List.Sublist.refl _⟩
      · walk_at "w"
        exact ⟨_, _, ⟨k, by omega, by omega, rfl, rfl⟩, by walk_at "sle", List.Sublist.refl _⟩
    rintro Γ' O' ⟨k, k0, k1, rfl, rfl⟩
    walk_at "w"
    have pl : pre.length < 700 := by omega
    refine wm_append (j := 1) rfl Fz.fr (by rw [List.length_map]; omega) ?_
    dsimp only [List.set]
    have T2 := T.leaf (p := k) (us := ts ++ [(k, x)]) ⟨k0, by omega⟩ ok fun q => by rw [List.mem_append, List.mem_singleton, ex]
    refine ⟨_, _, ⟨ts ++ [(k, x)], _, _, _, rfl, by rw [List.map_append]; rfl, ?_, ?_, ?_, by rw [List.length_append, List.length_singleton]; exact T2⟩, by walk_at "sle", List.Sublist.refl _⟩
    · rw [List.length_append, List.length_append, tl]
      rfl
    · refine List.nodup_append.mpr ⟨nd, by simp, fun u hu v hv e => ?_⟩
      have := ok u hu
      rw [e, List.mem_singleton.mp hv] at this
      simp only at this
      omega
    · intro q hq
      rw [List.length_append, List.length_singleton]
      rcases List.mem_append.mp hq with hq | hq
      · have := ok q hq
        omega
      · rw [List.mem_singleton.mp hq]
        simp only
        omega
  · rintro Γ' O' ⟨ts, d, s4, s5, rfl, rfl, tl, nd, ok, T⟩
    rw [rngI_len] at tl ok T
    have en : ((n - 1).toNat : Int) + 1 = n := by omega
    rw [en] at ok T
    walk_at "w"
    refine we_call ?_
    walk_at "w"
    refine we_callF ?_
    walk_at "w"
    refine ⟨a, s, ns, _, _, rfl, by walk_at "mem", by walk_at "anys", n, rfl, by omega, fun nm hp => ?_⟩
    walk_at "rs"
    have nl := hp.length_eq
    rw [rngI_len] at nl
    refine wa_nil ?_
    refine ⟨_, by walk_at "anys", ts, nm, rfl, by omega, fun q hq => ?_, fun us h1 h2 => ?_⟩
    · have := ok q hq
      omega
    walk_at "rs"
    refine ⟨?_, by walk_at "mem"⟩
    walk_at "ret"
    refine h us _ (web_ren hp nd ok h1 h2) (T.ren ok hp fun q => h1.mem_iff) ?_
    rw [h1.length_eq, List.length_map]
    omega

/-- slots: n 0, ties 1, place 2 -/
def t_law_far (K : PySem.W.Frag) : TS :=
  (tRet (tLc (iRng1 (tCons (tVar 0) tNil)) (gName 2) tYes (tCall (SpD T_law_steps) [] E0 (tCons (tVar 0) (tCons (tVar 1) (tCons (tVar 2) tNil)))) [2]))
def rowI (n : Int) (d : Int → Int → Int) (p : Int) : PyData := .list (((rngI 0 n).map (d p)).map .int)
def tabI (n : Int) (d : Int → Int → Int) : PyData := .list ((rngI 0 n).map (rowI n d))
theorem TM.dist {n : Int} {ts : List (Int × Int)} {d : Int → Int → Int} (T : TM n ts d) {p : Int} (hp : RN n p) : Dist n ts p (fun j => some (d p j)) where
  zero := fun j j0 j1 => by
    rw [Option.some_inj, T.zero p j hp ⟨j0, j1⟩]
    exact eq_comm
  step := fun i j e i0 i1 j0 j1 h ht => by
    cases h
    have hd := (T.adj i j ⟨i0, i1⟩ ⟨j0, j1⟩).mpr ht
    have := T.near hp ⟨i0, i1⟩ ⟨j0, j1⟩ hd
    exact ⟨_, rfl, by omega⟩
  prd := fun j e j0 j1 h hpos => by
    cases h
    have ne : j ≠ p := fun e => by rw [e, T.self hp] at hpos; omega
    obtain ⟨z, hz, z1, z2⟩ := T.stp j p ⟨j0, j1⟩ hp ne
    refine ⟨z, hz.1, hz.2, ?_, ?_⟩
    · rw [T.sym p z hp hz, T.sym p j hp ⟨j0, j1⟩, z2]
    · rw [tieI_comm]
      exact (T.adj j z ⟨j0, j1⟩ hz).mp z1
  bd := fun j e j0 j1 h => by
    cases h
    exact T.bd p j hp ⟨j0, j1⟩
theorem TM.dkT {n : Int} {ts : List (Int × Int)} {d : Int → Int → Int} (T : TM n ts d) {p : Int} (hp : RN n p) : (dkT n ts p).map opD = ((rngI 0 n).map (d p)).map .int := by
  rw [← (T.dist hp).dkT, List.map_map, List.map_map]
  rfl
def T_law_far (ds : List PyData) (Φ : Rt → Prop) : Prop := ∃ (n : Int) (ts : List (Int × Int)) (d : Int → Int → Int), ds = [.int n, .list (ts.map prD)] ∧ (1 ≤ n ∧ n ≤ 1000) ∧ TM n ts d ∧ Φ (.l ((rngI 0 n).map (rowI n d)))
theorem ws_law_far {c : Cn} {ds : List PyData} {Φ : Rt → Prop} (hT : T_law_far ds Φ) : ∃ Γ, Fit ds Γ ∧ Γ.length = 3 ∧ Ws c Γ [] (t_law_far c.K) { nx := fun _ O => RtW Φ (.fr .none) O, rt := RtW Φ } := by
  obtain ⟨n, ts, d, rfl, ⟨h0, hn⟩, T, h⟩ := hT
  refine ⟨[.fr (.int n), .bo (.list (ts.map prD)), .un], Fit.fr rfl (Fit.bo (by walk_at "fit")), rfl, ?_⟩
  unfold t_law_far
  walk_at "w"
  refine we_lcm [2] (wx_rng1 ?_)
  walk_at "w"
  refine ⟨_, n, rfl, by walk_at "any", ⟨by omega, by omega⟩, by rw [rngI_len]; omega, rowI n d, fun p hp => ?_, ?_⟩
  · have hp := mem_rngI.mp hp
    walk_at "w"
    refine we_call ?_
    walk_at "w"
    refine ⟨_, by walk_at "anys", n, ts, p, rfl, ⟨by omega, hn⟩, hp, ?_⟩
    rw [T.dkT hp]
    exact ⟨rfl, Fz.nw⟩
  · walk_at "ret"
    exact h

/-- slots: table 0, greatest 1, row 2, k 3 -/
def t_law_due (K : PySem.W.Frag) : TS :=
  (tSeq (tAsg (tLc (iSeq K (tVar 0)) (gName 2) tYes (tCB (rMax K) (tCons (tVar 2) tNil)) [2]) (gName 1))
  (tRet (tLc (iRng1 (tCons (tCB (rLenA K) (tCons (tVar 0) tNil)) tNil)) (gName 3) (tTest (tOp (rEqD K) (tOp (rIx K) (tVar 1) (tVar 3)) (tCB (rMin K) (tCons (tVar 1) tNil)))) (tVar 3) [3])))
def T_law_due (ds : List PyData) (Φ : Rt → Prop) : Prop := ∃ (n : Int) (ts : List (Int × Int)) (d : Int → Int → Int), ds = [tabI n d] ∧ (1 ≤ n ∧ n ≤ 1000) ∧ TM n ts d ∧ Φ (.l ((cen n d).map .int))
theorem ws_law_due {c : Cn} {ds : List PyData} {Φ : Rt → Prop} (hT : T_law_due ds Φ) : ∃ Γ, Fit ds Γ ∧ Γ.length = 4 ∧ Ws c Γ [] (t_law_due c.K) { nx := fun _ O => RtW Φ (.fr .none) O, rt := RtW Φ } := by
  obtain ⟨n, ts, d, rfl, ⟨h0, hn⟩, T, h⟩ := hT
  refine ⟨[.bo (tabI n d), .un, .un, .un], Fit.bo (by walk_at "fit"), rfl, ?_⟩
  unfold t_law_due tabI
  have nn : ∀ x ∈ rngI 0 n, ∀ v ∈ (rngI 0 n).map (d x), 0 ≤ v := fun x hx v hv => by
    obtain ⟨y, hy, rfl⟩ := List.mem_map.mp hv
    exact (T.bd x y (rng_rn hx) (rng_rn hy)).1
  have ll : (rngI 0 n).length = n.toNat := by rw [rngI_len]; omega
  walk_at "w"
  refine we_lcm [2] (wx_seq (w := false) (rowI n d) ?_)
  walk_at "w"
  refine ⟨rngI 0 n, by exact SeqW.bo, by omega, fun x => .int (ec d (rngI 0 n) x), fun x hx => ?_, ?_⟩
  · walk_at "w"
    refine wc_max ((rngI 0 n).map (d x)) (by walk_at "any") rfl (by rw [List.length_map]; omega) fun m h1 h2 => ?_
    rw [mxL_eq h1 h2 (nn x hx)]
    exact ⟨rfl, Fz.fr⟩
  refine sto_nw (by walk_at "set") ?_
  rw [show (rngI 0 n).map (fun x => PyData.int (ec d (rngI 0 n) x)) = ((rngI 0 n).map (ec d (rngI 0 n))).map .int by rw [List.map_map]; rfl]
  refine ws_ret ?_
  refine we_lcf [3] (wx_rng1 ?_)
  walk_at "w"
  rw [List.length_map, ll]
  refine ⟨_, _, rfl, by walk_at "any", by omega, by rw [rngI_len]; omega, fun k => decide (∀ y ∈ rngI 0 n, ec d (rngI 0 n) k ≤ ec d (rngI 0 n) y), PyData.int, fun k hk => ?_, ?_⟩
  · have hk := mem_rngI.mp hk
    walk_at "w"
    refine wo_ixE (enc := PyData.int) (x := ec d (rngI 0 n) k) (by walk_at "seq") (by walk_at "any") hk.1 ?_ ?_
    · exact rng_get (f := ec d (rngI 0 n)) hk.1 (by omega)
    walk_at "w"
    refine wc_min ((rngI 0 n).map (ec d (rngI 0 n))) (by walk_at "any") rfl (by rw [List.length_map]; omega) fun m h1 h2 => ?_
    dsimp only [Res.of]
    walk_at "w"
    refine ⟨rfl, ?_, fun _ => ?_⟩
    · rw [decide_eq_decide]
      obtain ⟨y, hy, ey⟩ := List.mem_map.mp h1
      constructor
      · intro e z hz
        rw [e]
        exact h2 _ (List.mem_map_of_mem hz)
      · intro e
        have q1 := e y hy
        have q2 := h2 _ (List.mem_map_of_mem (f := ec d (rngI 0 n)) (mem_rngI.mpr ⟨hk.1, (by omega : k < n)⟩))
        omega
    · walk_at "w"
      exact ⟨rfl, Fz.fr⟩
  · walk_at "ret"
    rw [show ((n.toNat : Nat) : Int) = n by omega]
    exact h

/-- slots: n 0, ties 1, handed 2, told 3, x 4, kept 5 -/
def t_law_told (K : PySem.W.Frag) : TS :=
  (tSeq (tAsg (tCB (rListA K) (tCons (tVar 1) tNil)) (gName 2))
  (tSeq (tAsg (tCall (SpD T_centre_of) [] E0 (tCons (tVar 0) (tCons (tVar 2) tNil))) (gName 3))
  (tSeq (tIfS (tOr (tNot (tTru K (tCB (rIsi K) (tCons (tVar 3) (tCons (tC (.ty "list")) tNil))))) (tOr (tTest (tOp (rNeD K) (tCB (rLenA K) (tCons (tLc (iSeq K (tVar 3)) (gName 4) (tTru K (tCall (SpD T_law_is_whole) [] E0 (tCons (tVar 4) tNil))) (tVar 4) [4]) tNil)) (tCB (rLenA K) (tCons (tVar 3) tNil)))) (tTest (tOp (rNeD K) (tVar 2) (tVar 1)))))
  (tRet (tC .non))
  tNext)
  (tSeq (tAsg (tCB (rListA K) (tCons (tVar 3) tNil)) (gName 5))
  (tSeq (tDrop (tBM K "list" rAppend (tVar 3) (tCons (tC (.int 0)) tNil)))
  (tSeq (tIfS (tTest (tOp (rNeD K) (tCall (SpD T_centre_of) [] E0 (tCons (tVar 0) (tCons (tVar 2) tNil))) (tVar 5)))
  (tRet (tC .non))
  tNext)
  (tRet (tVar 5))))))))
def T_law_told (ds : List PyData) (Φ : Rt → Prop) : Prop := ∃ (n : Int) (ts : List (Int × Int)) (d : Int → Int → Int), ds = [.int n, .list (ts.map prD)] ∧ (1 ≤ n ∧ n ≤ 1000) ∧ ts.length ≤ 1000 ∧ Web n ts ∧ TM n ts d ∧ Φ (.d (.list ((cen n d).map PyData.int)))
theorem ws_law_told {c : Cn} {ds : List PyData} {Φ : Rt → Prop} (hT : T_law_told ds Φ) : ∃ Γ, Fit ds Γ ∧ Γ.length = 6 ∧ Ws c Γ [] (t_law_told c.K) { nx := fun _ O => RtW Φ (.fr .none) O, rt := RtW Φ } := by
  obtain ⟨n, ts, d, rfl, ⟨h0, hn⟩, hl, w, T, h⟩ := hT
  refine ⟨[.fr (.int n), .bo (.list (ts.map prD)), .un, .un, .un, .un], by walk_at "fit", rfl, ?_⟩
  unfold t_law_told
  have cl : (cen n d).length ≤ n.toNat := cen_len_le
  walk_at "w"
  refine sto_nw (by walk_at "set") ?_
  walk_at "w"
  refine we_call ?_
  walk_at "w"
  refine ⟨_, by walk_at "anys", n, ts, d, rfl, ⟨h0, hn⟩, hl, w, T, ?_⟩
  walk_at "rs"
  walk_at "own"
  intro p
  have isl : kitB "list" "list" = some true := by decide +kernel
  refine ws_seq (ws_if (wt_or2 (p := false) (q := false) ?_ (fun _ => wt_or2 (p := false) (q := false) ?_ (fun _ => ?_) ?_) ?_))
  · exact wt_not (wt_tru (we_cb (wa_cons (we_var rfl rfl (wa_cons (we_ty (wa_nil (wc_isi (d := .list ((cen n d).map .int)) (by walk_at "any") isl ⟨_, _, Any.fr, Tru.bool, rfl, rfl⟩))))))))
  · walk_at "w"
    refine we_lcfO PyData.int (xs := cen n d) [4] rfl (by walk_at "mem") (by omega) (fun _ => true) PyData.int (fun x hx => ?_) ?_
    · walk_at "g1"
      refine wt_tru (we_call ?_)
      walk_at "w"
      refine ⟨_, by walk_at "anys", .int x, rfl, rfl, _, _, Any.fr, Tru.bool, rfl, rfl, fun _ => ?_⟩
      walk_at "w"
      exact ⟨rfl, Fz.fr⟩
    · walk_at "w"
      rw [List.filter_eq_self.mpr fun _ _ => rfl]
      refine ⟨rfl, ?_⟩
      simp
  · walk_at "w"
    refine ⟨rfl, ?_⟩
    simp
  · exact ⟨rfl, rfl⟩
  rw [if_neg (by decide)]
  walk_at "w"
  refine sto_nw (by walk_at "set") ?_
  walk_at "w"
  refine wm_append (j := 0) rfl Fz.fr (by rw [List.length_map]; omega) ?_
  dsimp only [List.set]
  walk_at "w"
  refine we_call ?_
  walk_at "w"
  refine ⟨_, by walk_at "anys", n, ts, d, rfl, ⟨h0, hn⟩, hl, w, T, ?_⟩
  walk_at "rs"
  walk_at "w"
  rw [decide_eq_true rfl]
  rw [if_neg (by decide)]
  walk_at "w"
  walk_at "ret"
  exact h

/-- slots: n 0, table 1, centre 2, long 3, row 4, i 5, j 6, place 7 -/
def t_law_in_the_middle (K : PySem.W.Frag) : TS :=
  (tSeq (tAsg (tCB (rMax K) (tCons (tLc (iSeq K (tVar 1)) (gName 4) tYes (tCB (rMax K) (tCons (tVar 4) tNil)) [4]) tNil)) (gName 3))
  (tSeq (tIfS (tTest (tOp (rNeD K) (tCB (rLenA K) (tCons (tVar 2) tNil)) (tOp rAddA (tC (.int 1)) (tOp rMod (tCB rInt1 (tCons (tVar 3) tNil)) (tC (.int 2))))))
  (tRet (tC (.bl false)))
  tNext)
  (tSeq (tIfS (tAnd (tTest (tOp (rEqD K) (tCB (rLenA K) (tCons (tVar 2) tNil)) (tC (.int 2)))) (tTest (tOp (rNeD K) (tOp (rIx K) (tOp (rIx K) (tVar 1) (tOp (rIx K) (tVar 2) (tC (.int 0)))) (tOp (rIx K) (tVar 2) (tC (.int 1)))) (tC (.int 1)))))
  (tRet (tC (.bl false)))
  tNext)
  (tSeq (tFor (iSeq K (tCall (SpD T_law_pairs) [] E0 (tCons (tVar 0) tNil))) (gTup K 2 (gCons (gName 5) (gCons (gName 6) gNil)))
  (tIfS (tTest (tOp (rEqD K) (tOp (rIx K) (tOp (rIx K) (tVar 1) (tVar 5)) (tVar 6)) (tVar 3)))
  (tFor (iSeq K (tVar 2)) (gName 7)
  (tIfS (tOr (tTest (tOp (rNeD K) (tOp rAddA (tOp (rIx K) (tOp (rIx K) (tVar 1) (tVar 5)) (tVar 7)) (tOp (rIx K) (tOp (rIx K) (tVar 1) (tVar 7)) (tVar 6))) (tVar 3))) (tTest (tOp rGtI (tCB rAbs (tCons (tOp rSub (tOp (rIx K) (tOp (rIx K) (tVar 1) (tVar 5)) (tVar 7)) (tOp (rIx K) (tOp (rIx K) (tVar 1) (tVar 7)) (tVar 6))) tNil)) (tC (.int 1)))))
  (tRet (tC (.bl false)))
  tNext))
  tNext))
  (tRet (tC (.bl true)))))))
theorem tab_at {n : Int} {d : Int → Int → Int} {i : Int} (h : RN n i) : atI ((rngI 0 n).map (rowI n d)) i = some (rowI n d i) := by
  unfold atI
  unfold RN at h
  rw [List.length_map, rngI_len, ixN_pos h.1 (by omega)]
  exact rng_get (f := rowI n d) h.1 h.2
theorem row_at {n : Int} {d : Int → Int → Int} {i j : Int} (h : RN n j) : atI (((rngI 0 n).map (d i)).map PyData.int) j = some (.int (d i j)) := by
  unfold atI
  unfold RN at h
  rw [List.length_map, List.length_map, rngI_len, ixN_pos h.1 (by omega), List.map_map]
  exact rng_get (f := fun v => PyData.int (d i v)) h.1 h.2
def T_law_in_the_middle (ds : List PyData) (Φ : Rt → Prop) : Prop := ∃ (n : Int) (ts : List (Int × Int)) (d : Int → Int → Int), ds = [.int n, tabI n d, .list ((cen n d).map .int)] ∧ (1 ≤ n ∧ n ≤ 700) ∧ TM n ts d ∧ Φ (.d (.bool true))
theorem ws_law_in_the_middle {c : Cn} {ds : List PyData} {Φ : Rt → Prop} (hT : T_law_in_the_middle ds Φ) : ∃ Γ, Fit ds Γ ∧ Γ.length = 8 ∧ Ws c Γ [] (t_law_in_the_middle c.K) { nx := fun _ O => RtW Φ (.fr .none) O, rt := RtW Φ } := by
  obtain ⟨n, ts, d, rfl, ⟨h0, hn⟩, T, h⟩ := hT
  refine ⟨[.fr (.int n), .bo (tabI n d), .bo (.list ((cen n d).map .int)), .un, .un, .un, .un, .un], Fit.fr rfl (Fit.bo (Fit.bo (by walk_at "fit"))), rfl, ?_⟩
  unfold t_law_in_the_middle tabI
  have nn : ∀ x ∈ rngI 0 n, ∀ v ∈ (rngI 0 n).map (d x), 0 ≤ v := fun x hx v hv => by
    obtain ⟨y, hy, rfl⟩ := List.mem_map.mp hv
    exact (T.bd x y (rng_rn hx) (rng_rn hy)).1
  have ll : (rngI 0 n).length = n.toNat := by rw [rngI_len]; omega
  have cl : (cen n d).length ≤ n.toNat := cen_len_le
  obtain ⟨D, P, Q, m, eD⟩ := T.dm (by omega)
  have hD := (T.bd P Q m.p m.q).1
  rw [m.e] at hD
  obtain ⟨c1, c2⟩ := T.cenLen m
  walk_at "w"
  refine we_lcm [4] (wx_seq (w := false) (rowI n d) ?_)
  walk_at "w"
  refine ⟨rngI 0 n, by exact SeqW.bo, by omega, fun x => .int (ec d (rngI 0 n) x), fun x hx => ?_, ?_⟩
  · walk_at "w"
    refine wc_max ((rngI 0 n).map (d x)) (by walk_at "any") rfl (by rw [List.length_map]; omega) fun m h1 h2 => ?_
    rw [mxL_eq h1 h2 (nn x hx)]
    exact ⟨rfl, Fz.fr⟩
  walk_at "w"
  refine wc_max ((rngI 0 n).map (ec d (rngI 0 n))) (by walk_at "any") (by rw [List.map_map]; rfl) (by rw [List.length_map]; omega) fun m' h1 h2 => ?_
  rw [mxL_eq h1 h2 (fun v hv => by
    obtain ⟨x, hx, rfl⟩ := List.mem_map.mp hv
    exact mxL_nn _), ← eD]
  walk_at "w"
  rw [List.length_map, c1, decide_eq_true rfl]
  walk_at "w"
  rw [if_neg (by decide)]
  refine ws_next ?_
  refine ws_seq (ws_if (wt_and2 (p := decide (((cen n d).length : Int) = 2)) (q := false) ?_ (fun q => ?_) ?_))
  · walk_at "w"
    rw [List.length_map]
    exact ⟨rfl, rfl⟩
  · have q := of_decide_eq_true q
    obtain ⟨u, v, e⟩ : ∃ u v, cen n d = [u, v] := by
      have q : (cen n d).length = 2 := by omega
      match cen n d, q with
      | [u, v], _ => exact ⟨u, v, rfl⟩
    have mu : Mid n d u := mem_cen.mp (by rw [e]; simp)
    have mv : Mid n d v := mem_cen.mp (by rw [e]; simp)
    have g := c2 u v e
    rw [e]
    walk_at "w"
    refine wo_ix (d := .int u) (by walk_at "seq") (by walk_at "any") rfl ?_
    dsimp only [Res.of]
    refine wo_ix (d := rowI n d u) (by exact Seq.bo) (by walk_at "any") (tab_at mu.1) ?_
    dsimp only [Res.of]
    walk_at "w"
    refine wo_ix (d := .int v) (by walk_at "seq") (by walk_at "any") rfl ?_
    dsimp only [Res.of]
    refine wo_ix (d := .int (d u v)) (by exact Seq.bo) (by walk_at "any") (row_at mv.1) ?_
    dsimp only [Res.of]
    walk_at "w"
    rw [g]
    exact ⟨rfl, rfl⟩
  rw [Bool.and_false, if_neg (by decide)]
  refine ws_next ?_
  have hpl := prsTo_len (n := n) (i := n) (Int.le_refl _) (by omega) hn
  have hpl : (prs n).length ≤ 490000 := hpl
  refine ws_seq (ws_forx [5, 6] (wx_seq (w := true) prD ?_))
  refine we_call ?_
  walk_at "w"
  refine ⟨_, by walk_at "anys", n, rfl, by omega, ?_⟩
  walk_at "rs"
  refine ⟨prs n, by walk_at "seqw", fun pre Γ O => (∃ s5 s6 s7, Γ = [.fr (.int n), .bo (tabI n d), .bo (.list ((cen n d).map .int)), .fr (.int D), .un, s5, s6, s7]) ∧ O = [], Up.of ⟨⟨_, _, _, rfl⟩, rfl⟩, ?_, ?_⟩
  · rintro gs pre x post Γi Oi sp ⟨⟨s5, s6, s7, rfl⟩, rfl⟩
    have hx : x ∈ prs n := by rw [sp]; simp
    have hx := mem_prs.mp hx
    have r1 : RN n x.1 := ⟨by omega, by omega⟩
    have r2 : RN n x.2 := ⟨by omega, by omega⟩
    unfold tabI
    walk_at "w"
    refine wo_ix (d := rowI n d x.1) (by exact Seq.bo) (by walk_at "any") (tab_at r1) ?_
    dsimp only [Res.of]
    walk_at "w"
    refine wo_ix (d := .int (d x.1 x.2)) (by exact Seq.bo) (by walk_at "any") (row_at r2) ?_
    dsimp only [Res.of]
    walk_at "w"
    refine iteD (fun e => ?_) fun e => ?_
    · have m2 : Dm n d D x.1 x.2 := ⟨r1, r2, e, m.le⟩
      refine ws_forx [7] (wx_seq (w := false) PyData.int ?_)
      walk_at "w"
      refine ⟨cen n d, by exact SeqW.bo, fun pre Γ O => (∃ s7, Γ = [.fr (.int n), .bo (tabI n d), .bo (.list ((cen n d).map .int)), .fr (.int D), .un, .fr (.int x.1), .fr (.int x.2), s7]) ∧ O = [], Up.of ⟨⟨_, rfl⟩, rfl⟩, ?_, ?_⟩
      · rintro gs2 pre2 k post2 Γi2 Oi2 sp2 ⟨⟨s7', rfl⟩, rfl⟩
        have hk : k ∈ cen n d := by rw [sp2]; simp
        have mk := mem_cen.mp hk
        obtain ⟨g1, g2, g3⟩ := T.midOn m2 mk
        unfold tabI
        walk_at "g1"
        refine ws_if (wt_or2 (p := false) (q := false) ?_ (fun _ => ?_) ?_)
        · walk_at "w"
          refine wo_ix (d := rowI n d x.1) (by exact Seq.bo) (by walk_at "any") (tab_at r1) ?_
          dsimp only [Res.of]
          walk_at "w"
          refine wo_ix (d := .int (d x.1 k)) (by exact Seq.bo) (by walk_at "any") (row_at mk.1) ?_
          dsimp only [Res.of]
          walk_at "w"
          refine wo_ix (d := rowI n d k) (by exact Seq.bo) (by walk_at "any") (tab_at mk.1) ?_
          dsimp only [Res.of]
          walk_at "w"
          refine wo_ix (d := .int (d k x.2)) (by exact Seq.bo) (by walk_at "any") (row_at r2) ?_
          dsimp only [Res.of]
          walk_at "w"
          rw [decide_eq_true g1]
          exact ⟨rfl, rfl⟩
        · walk_at "w"
          refine wo_ix (d := rowI n d x.1) (by exact Seq.bo) (by walk_at "any") (tab_at r1) ?_
          dsimp only [Res.of]
          walk_at "w"
          refine wo_ix (d := .int (d x.1 k)) (by exact Seq.bo) (by walk_at "any") (row_at mk.1) ?_
          dsimp only [Res.of]
          walk_at "w"
          refine wo_ix (d := rowI n d k) (by exact Seq.bo) (by walk_at "any") (tab_at mk.1) ?_
          dsimp only [Res.of]
          walk_at "w"
          refine wo_ix (d := .int (d k x.2)) (by exact Seq.bo) (by walk_at "any") (row_at r2) ?_
          dsimp only [Res.of]
          walk_at "w"
          refine ⟨rfl, decide_eq_false ?_⟩
          split <;> omega
        rw [if_neg (by decide)]
        walk_at "w"
        exact ⟨_, _, ⟨⟨_, rfl⟩, rfl⟩, by walk_at "sle", List.Sublist.refl _⟩
      · rintro Γ' O' ⟨⟨s7', rfl⟩, rfl⟩
        exact ⟨_, _, ⟨⟨_, _, _, rfl⟩, rfl⟩, by walk_at "sle", List.Sublist.refl _⟩
    · walk_at "w"
      exact ⟨_, _, ⟨⟨_, _, _, rfl⟩, rfl⟩, by walk_at "sle", List.Sublist.refl _⟩
  · rintro Γ' O' ⟨⟨s5, s6, s7, rfl⟩, rfl⟩
    walk_at "w"
    walk_at "ret"
    exact h

/-- slots: feed 0, n 1, ties 2, table 3, centre 4, place 5, told 6, k 7, near 8 -/
def t_law_more (K : PySem.W.Frag) : TS :=
  (tSeq (tAsg (tCall (SpF K T_law_draw) [] E0 (tCons (tVar 0) (tCons (tVar 1) tNil))) (gName 5))
  (tSeq (tAsg (tCall (SpD T_law_told) [] E0 (tCons (tOp rAddA (tVar 1) (tC (.int 1))) (tCons (tCB (rSortedA K) (tCons (tOp rAddA (tVar 2) (tLst (tCons (tTup (tCons (tVar 5) (tCons (tVar 1) tNil))) tNil))) tNil)) tNil))) (gName 6))
  (tSeq (tIfS (tOr (tB (tIsN (tVar 6))) (tOr (tTest (tOp (rLtA K) (tCB (rLenA K) (tCons (tVar 6) tNil)) (tC (.int 1)))) (tTest (tOp rGtI (tCB (rLenA K) (tCons (tLc (iSeq K (tVar 6)) (gName 7) (tNot (tTest (tChain rLeI rLeI (tC (.int 0)) (tVar 7) (tVar 1)))) (tVar 7) [7]) tNil)) (tC (.int 0))))))
  (tRet (tC (.bl false)))
  tNext)
  (tSeq (tAsg (tLc (iSeq K (tVar 6)) (gName 7) (tTest (tOp (rLtA K) (tVar 7) (tVar 1))) (tVar 7) [7]) (gName 8))
  (tSeq (tIfS (tTest (tOp (rEqD K) (tVar 1) (tC (.int 1))))
  (tRet (tOp (rEqD K) (tVar 6) (tLst (tCons (tC (.int 0)) (tCons (tC (.int 1)) tNil)))))
  tNext)
  (tSeq (tFor (iSeq K (tVar 8)) (gName 7)
  (tIfS (tTest (tOp rGtI (tCB (rMin K) (tCons (tLc (iSeq K (tVar 4)) (gName 5) tYes (tOp (rIx K) (tOp (rIx K) (tVar 3) (tVar 7)) (tVar 5)) [5]) tNil)) (tC (.int 1))))
  (tRet (tC (.bl false)))
  tNext))
  (tRet (tOp (rEqD K) (tCB (rLenA K) (tCons (tVar 8) tNil)) (tCB (rLenA K) (tCons (tVar 6) tNil))))))))))
def T_law_more (ds : List PyData) (Φ : Rt → Prop) : Prop := ∃ (n : Int) (ts : List (Int × Int)) (d : Int → Int → Int), ds = [.int n, .list (ts.map prD), tabI n d, .list ((cen n d).map .int)] ∧ (1 ≤ n ∧ n ≤ 600) ∧ ts.length ≤ 900 ∧ Web n ts ∧ TM n ts d ∧ Φ (.d (.bool true))
theorem ws_law_more {c : Cn} {ds : List PyData} {Φ : Rt → Prop} {a s : Addr} {ns : List Int} (hT : T_law_more ds Φ) : ∃ Γ, Fit ds Γ ∧ Γ.length + 1 = 9 ∧ Ws c (.pt a :: Γ) [(a, .fd s ns)] (t_law_more c.K) { nx := fun _ O => RtW Φ (.fr .none) O ∧ (a, Ob.fd s ns) ∈ O, rt := fun r O => RtW Φ r O ∧ (a, Ob.fd s ns) ∈ O } := by
  obtain ⟨n, ts, d, rfl, ⟨h0, hn⟩, hl, w, T, h⟩ := hT
  refine ⟨[.fr (.int n), .bo (.list (ts.map prD)), .bo (tabI n d), .bo (.list ((cen n d).map .int)), .un, .un, .un, .un], Fit.fr rfl (Fit.bo (Fit.bo (Fit.bo (by walk_at "fit")))), rfl, ?_⟩
  unfold t_law_more
  walk_at "w"
  refine we_callF ?_
  walk_at "w"
  refine ⟨a, s, ns, _, _, rfl, by walk_at "mem", by walk_at "anys", n, rfl, by omega, fun p p0 p1 => ?_⟩
  walk_at "rs"
  walk_at "w"
  refine we_call ?_
  walk_at "w"
  refine wo_cat (by walk_at "seq") (by walk_at "seq") (by rw [List.length_map]; simp; omega) ?_
  walk_at "w"
  refine wc_sortS (ts ++ [(p, n)]) (by walk_at "seq") (by rw [List.map_append]; rfl) ?_
  have hp : RN n p := ⟨p0, p1⟩
  have hu : ∀ q, q ∈ srt (ts ++ [(p, n)]) ↔ q ∈ ts ∨ q = (p, n) := fun q => by rw [mem_srt, List.mem_append, List.mem_singleton]
  have T' := T.leaf hp w.ok hu
  have nd : (ts ++ [(p, n)]).Nodup := List.nodup_append.mpr ⟨w.asc.nodup, by simp, fun x hx y hy e => by
    have := w.ok x hx
    rw [e, List.mem_singleton.mp hy] at this
    simp only at this
    omega⟩
  have w' : Web (n + 1) (srt (ts ++ [(p, n)])) := ⟨asc_srt nd, fun q hq => by
    rcases (hu q).mp hq with hq | rfl
    · have := w.ok q hq
      omega
    · simp only
      omega⟩
  have sl : (srt (ts ++ [(p, n)])).length ≤ 1000 := by
    rw [(srt_perm _).length_eq, List.length_append, List.length_singleton]
    omega
  walk_at "w"
  refine ⟨_, by walk_at "anys", n + 1, srt (ts ++ [(p, n)]), leafD n p d, rfl, by omega, sl, w', T', ?_⟩
  walk_at "rs"
  have cl : (cen (n + 1) (leafD n p d)).length ≤ (n + 1).toNat := cen_len_le
  have cne := T'.cen_ne (by omega)
  have cpos : 0 < (cen (n + 1) (leafD n p d)).length := List.length_pos_iff.mpr cne
  have crn : ∀ k ∈ cen (n + 1) (leafD n p d), 0 ≤ k ∧ k ≤ n := fun k hk => by
    have := (mem_cen.mp hk).1
    unfold RN at this
    omega
  have mv : 2 ≤ n → ∀ k ∈ cen (n + 1) (leafD n p d), k < n ∧ 0 ≤ k ∧ ∃ c ∈ cen n d, d k c ≤ 1 := fun h2 k hk => T.moved hp w.ok hu h2 hk
  have e1 : n = 1 → cen (n + 1) (leafD n p d) = [0, 1] := fun e => by
    obtain ⟨D, P, Q, m, _⟩ := T'.dm (by omega)
    have b := T'.bd P Q m.p m.q
    have e01 := T'.pos (x := 0) (y := 1) ⟨by omega, by omega⟩ ⟨by omega, by omega⟩ (by decide)
    have l01 := m.le 0 1 ⟨by omega, by omega⟩ ⟨by omega, by omega⟩
    have eD := m.e
    have c1 := (T'.cenLen m).1
    have hs : (cen (n + 1) (leafD n p d)).Sublist (rngI 0 (n + 1)) := List.filter_sublist
    have := hs.eq_of_length (by rw [rngI_len]; omega)
    rw [this, e]
    rfl
  generalize cen (n + 1) (leafD n p d) = C at cl cne cpos crn mv e1
  walk_at "st1"
  refine ws_seq (ws_if (wt_or2 (p := false) (q := false) ?_ (fun _ => wt_or2 (p := false) (q := false) ?_ (fun _ => ?_) ?_) ?_))
  · walk_at "w"
    exact ⟨rfl, rfl⟩
  · walk_at "w"
    rw [List.length_map]
    exact ⟨rfl, decide_eq_false (by omega)⟩
  · walk_at "w"
    refine we_lcf [7] (wx_seq (w := true) PyData.int ?_)
    walk_at "w"
    refine ⟨C, by walk_at "seqw", by omega, fun k => !decide (0 ≤ k ∧ k ≤ n), PyData.int, fun k hk => ?_, ?_⟩
    · walk_at "g1"
      refine wt_not (wt_T ?_)
      refine we_ch2 (i := 0) (j := k) (k := n) (A := 0 ≤ k) (B := k ≤ n) ?_ ?_ ?_ (fun Ψ z => wo_le (by walk_at "any") (by walk_at "any") z) (fun Ψ z => wo_le (by walk_at "any") (by walk_at "any") z) ?_
      · walk_at "w"
        exact ⟨rfl, rfl⟩
      · walk_at "w"
        exact ⟨rfl, rfl⟩
      · walk_at "w"
        exact ⟨rfl, rfl⟩
      refine ⟨_, Any.fr, rfl, rfl, fun _ => ?_⟩
      walk_at "w"
      exact ⟨rfl, Fz.fr⟩
    · walk_at "w"
      rw [List.filter_eq_nil_iff.mpr fun k hk => by simpa using crn k hk]
      exact ⟨rfl, rfl⟩
  · exact ⟨rfl, rfl⟩
  rw [if_neg (by decide)]
  walk_at "w"
  refine we_lcf [7] (wx_seq (w := true) PyData.int ?_)
  walk_at "w"
  refine ⟨C, by walk_at "seqw", by omega, fun k => decide (k < n), PyData.int, fun k hk => ?_, ?_⟩
  · walk_at "w"
    refine ⟨rfl, rfl, fun _ => ?_⟩
    walk_at "w"
    exact ⟨rfl, Fz.fr⟩
  refine sto_nw (by walk_at "set") ?_
  walk_at "w"
  refine iteD (fun e => ?_) fun e => ?_
  · rw [e1 e]
    walk_at "w"
    refine wo_eqL (p := [0, 1]) (q := [0, 1]) (by walk_at "any") (by walk_at "any") ?_
    refine ⟨?_, by walk_at "mem"⟩
    walk_at "ret"
    exact h
  · have h2 : 2 ≤ n := by omega
    have fe : C.filter (fun k => decide (k < n)) = C := List.filter_eq_self.mpr fun k hk => decide_eq_true (mv h2 k hk).1
    rw [fe]
    have cl2 : (cen n d).length ≤ n.toNat := cen_len_le
    refine ws_next ?_
    refine ws_seq (ws_forx [7] (wx_seq (w := true) PyData.int ?_))
    walk_at "w"
    refine ⟨C, by walk_at "seqw", fun pre Γ O => (∃ s5 s7, Γ = [.pt a, .fr (.int n), .bo (.list (ts.map prD)), .bo (tabI n d), .bo (.list ((cen n d).map .int)), s5, .fr (.list (C.map .int)), s7, .fr (.list (C.map .int))]) ∧ O = [(a, .fd s ns)], Up.of ⟨⟨_, _, rfl⟩, rfl⟩, ?_, ?_⟩
    · rintro gs pre k post Γi Oi sp ⟨⟨s5, s7, rfl⟩, rfl⟩
      have hk : k ∈ C := by rw [sp]; simp
      obtain ⟨k1, k0, c', hc, hd⟩ := mv h2 k hk
      unfold tabI
      walk_at "w"
      refine we_lcm [5] (wx_seq (w := false) PyData.int ?_)
      walk_at "w"
      refine ⟨cen n d, by exact SeqW.bo, by omega, fun x => .int (d k x), fun x hx => ?_, ?_⟩
      · have mx := (mem_cen.mp hx).1
        walk_at "w"
        refine wo_ix (d := rowI n d k) (by exact Seq.bo) (by walk_at "any") (tab_at ⟨k0, k1⟩) ?_
        dsimp only [Res.of]
        walk_at "w"
        refine wo_ix (d := .int (d k x)) (by exact Seq.bo) (by walk_at "any") (row_at mx) ?_
        exact ⟨rfl, Fz.bf rfl⟩
      walk_at "w"
      refine wc_min ((cen n d).map (d k)) (by walk_at "any") (by rw [List.map_map]; rfl) (by rw [List.length_map]; exact List.length_pos_of_mem hc) fun m h1 h2 => ?_
      have := h2 _ (List.mem_map_of_mem hc)
      walk_at "w"
      rw [decide_eq_false (show ¬ 1 < m by omega), if_neg (by decide)]
      walk_at "w"
      exact ⟨_, _, ⟨⟨_, _, rfl⟩, rfl⟩, by walk_at "sle", List.Sublist.refl _⟩
    · rintro Γ' O' ⟨⟨s5, s7, rfl⟩, rfl⟩
      walk_at "w"
      rw [decide_eq_true rfl]
      refine ⟨?_, by walk_at "mem"⟩
      walk_at "ret"
      exact h

/-- slots: script 0, feed 1, turn 2, n 3, ties 4, table 5, centre 6, names 7, k 8 -/
def t_law (K : PySem.W.Frag) : TS :=
  (tSeq (tAsg (tCall (SpFeed K) [] E0 (tCons (tVar 0) tNil)) (gName 1))
  (tSeq (tFor (iRng1 (tCons (tC (.int 3)) tNil)) (gName 2)
  (tSeq (tAsg (tOp rAddA (tC (.int 1)) (tCall (SpF K T_law_draw) [] E0 (tCons (tVar 1) (tCons (tC (.int 12)) tNil)))) (gName 3))
  (tSeq (tAsg (tCall (SpF K T_law_tree) [] E0 (tCons (tVar 1) (tCons (tVar 3) tNil))) (gName 4))
  (tSeq (tAsg (tCall (SpD T_law_far) [] E0 (tCons (tVar 3) (tCons (tVar 4) tNil))) (gName 5))
  (tSeq (tAsg (tCall (SpD T_law_told) [] E0 (tCons (tVar 3) (tCons (tVar 4) tNil))) (gName 6))
  (tSeq (tIfS (tOr (tB (tIsN (tVar 6))) (tOr (tTest (tOp (rNeD K) (tVar 6) (tCall (SpD T_law_due) [] E0 (tCons (tVar 5) tNil)))) (tNot (tTru K (tCall (SpD T_law_in_the_middle) [] E0 (tCons (tVar 3) (tCons (tVar 5) (tCons (tVar 6) tNil))))))))
  (tRet (tC (.bl false)))
  tNext)
  (tSeq (tIfS (tTest (tOp (rNeD K) (tCall (SpD T_far) [] E0 (tCons (tVar 3) (tCons (tCB (rListA K) (tCons (tVar 4) tNil)) tNil))) (tVar 5)))
  (tRet (tC (.bl false)))
  tNext)
  (tSeq (tAsg (tCall (SpF K T_law_names) [] E0 (tCons (tVar 1) (tCons (tVar 3) tNil))) (gName 7))
  (tSeq (tIfS (tTest (tOp (rNeD K) (tCall (SpD T_law_told) [] E0 (tCons (tVar 3) (tCons (tCall (SpD T_law_renamed) [] E0 (tCons (tVar 4) (tCons (tVar 7) tNil))) tNil))) (tCB (rSortedA K) (tCons (tLc (iSeq K (tVar 6)) (gName 8) tYes (tOp (rIx K) (tVar 7) (tVar 8)) [8]) tNil))))
  (tRet (tC (.bl false)))
  tNext)
  (tIfS (tAnd (tTest (tOp (rLtA K) (tVar 3) (tC (.int 12)))) (tNot (tTru K (tCall (SpF K T_law_more) [] E0 (tCons (tVar 1) (tCons (tVar 3) (tCons (tVar 4) (tCons (tVar 5) (tCons (tVar 6) tNil)))))))))
  (tRet (tC (.bl false)))
  tNext))))))))))
  (tSeq (tIfS (tOr (tTest (tOp (rNeD K) (tCall (SpD T_centre_of) [] E0 (tCons (tC (.int 1)) (tCons (tLst tNil) tNil))) (tLst (tCons (tC (.int 0)) tNil)))) (tTest (tOp (rNeD K) (tCall (SpD T_centre_of) [] E0 (tCons (tC (.int 2)) (tCons (tLst (tCons (tTup (tCons (tC (.int 0)) (tCons (tC (.int 1)) tNil))) tNil)) tNil))) (tLst (tCons (tC (.int 0)) (tCons (tC (.int 1)) tNil))))))
  (tRet (tC (.bl false)))
  tNext)
  (tRet (tOp (rEqD K) (tCall (SpD T_centre_of) [] E0 (tCons (tC (.int 5)) (tCons (tLst (tCons (tTup (tCons (tC (.int 0)) (tCons (tC (.int 1)) tNil))) (tCons (tTup (tCons (tC (.int 0)) (tCons (tC (.int 2)) tNil))) (tCons (tTup (tCons (tC (.int 2)) (tCons (tC (.int 3)) tNil))) (tCons (tTup (tCons (tC (.int 2)) (tCons (tC (.int 4)) tNil))) tNil))))) tNil))) (tLst (tCons (tC (.int 0)) (tCons (tC (.int 2)) tNil))))))))
theorem rowI_shp (n : Int) (d : Int → Int → Int) (p : Int) : Shp 1 (rowI n d p) := shp_ints _
theorem tabI_shp (n : Int) (d : Int → Int → Int) : Shp 2 (tabI n d) := shp_map _ (rowI_shp n d)
theorem tabI_noD (n : Int) (d : Int → Int → Int) : noD (tabI n d) = true := noD_ls (fun p => noD_ints _) _
theorem far_tab {n : Int} {ts : List (Int × Int)} {d : Int → Int → Int} (T : TM n ts d) : (farT n ts).map (lsD opD) = (rngI 0 n).map (rowI n d) := by
  unfold farT
  rw [List.map_map]
  refine List.map_congr_left fun p hp => ?_
  show PyData.list _ = PyData.list _
  rw [T.dkT (rng_rn hp)]
theorem ws_law {c : Cn} {ns : List Int} : ∃ n, n + 1 = 9 ∧ Ws c (.sq ns :: List.replicate n .un) [] (t_law c.K) { nx := fun _ _ => False, rt := fun r O => Any O r (.bool true) } := by
  refine ⟨8, rfl, ?_⟩
  show Ws c [.sq ns, .un, .un, .un, .un, .un, .un, .un, .un] [] _ _
  unfold t_law
  walk_at "w"
  refine we_feed ?_
  walk_at "w"
  refine ⟨ns, rfl, fun a s => ?_⟩
  walk_at "st1"
  dsimp only [List.nil_append]
  refine ws_cut (fun Γ O => (∃ s2 s3 s4 s5 s6 s7, Γ = [.sq ns, .pt a, s2, s3, s4, s5, s6, s7, .un]) ∧ O = [(a, .fd s ns)]) ?_ ?_
  · refine ws_forx [2] (wx_rng1 ?_)
    walk_at "w"
    refine ⟨_, 3, rfl, by walk_at "any", by decide, fun pre Γ O => (∃ s2 s3 s4 s5 s6 s7, Γ = [.sq ns, .pt a, s2, s3, s4, s5, s6, s7, .un]) ∧ O = [(a, .fd s ns)], Up.of ⟨⟨_, _, _, _, _, _, rfl⟩, rfl⟩, ?_, ?_⟩
    · rintro gs pre x post Γi Oi sp ⟨⟨s2, s3, s4, s5, s6, s7, rfl⟩, rfl⟩
      walk_at "w"
      refine we_callF ?_
      walk_at "w"
      refine ⟨a, s, ns, _, _, rfl, by walk_at "mem", by walk_at "anys", 12, rfl, by omega, fun k k0 k1 => ?_⟩
      walk_at "rs"
      walk_at "w"
      refine we_callF ?_
      walk_at "w"
      obtain ⟨n, en⟩ : ∃ n, n = 1 + k := ⟨_, rfl⟩
      rw [← en]
      refine ⟨a, s, ns, _, _, rfl, by walk_at "mem", by walk_at "anys", n, rfl, by omega, fun ts d w T tl => ?_⟩
      walk_at "rs"
      refine sto_nw (by walk_at "set") ?_
      walk_at "w"
      refine we_call ?_
      walk_at "w"
      refine ⟨_, by walk_at "anys", n, ts, d, rfl, by omega, T, ?_⟩
      walk_at "rs"
      refine sto_nw (by walk_at "set") ?_
      walk_at "w"
      refine we_call ?_
      walk_at "w"
      refine ⟨_, by walk_at "anys", n, ts, d, rfl, by omega, by omega, w, T, ?_⟩
      walk_at "rs"
      walk_at "st1"
      refine ws_seq (ws_if (wt_or2 (p := false) (q := false) ?_ (fun _ => wt_or2 (p := false) (q := false) ?_ (fun _ => ?_) ?_) ?_))
      · walk_at "w"
        exact ⟨rfl, rfl⟩
      · walk_at "w"
        refine we_call ?_
        walk_at "w"
        refine ⟨_, by walk_at "anys", n, ts, d, rfl, by omega, T, ?_⟩
        walk_at "rs"
        walk_at "w"
        exact ⟨rfl, by simp⟩
      · refine wt_not (wt_tru (we_call ?_))
        walk_at "w"
        exact ⟨_, by walk_at "anys", n, ts, d, rfl, by omega, T, _, _, Any.fr, Tru.bool, rfl, rfl⟩
      · exact ⟨rfl, rfl⟩
      rw [if_neg (by decide)]
      walk_at "w"
      refine we_call ?_
      walk_at "w"
      refine ⟨_, by walk_at "anys", n, ts, rfl, by omega, fun _ => ?_⟩
      rw [far_tab T]
      walk_at "rs"
      walk_at "w"
      refine wo_neR (d := tabI n d) (n := 2) (by exact Any.nw) (by exact Any.fr) (tabI_shp n d) (tabI_noD n d) ?_
      walk_at "w"
      refine we_callF ?_
      walk_at "w"
      refine ⟨a, s, ns, _, _, rfl, by walk_at "mem", by walk_at "anys", n, rfl, by omega, fun nm hp => ?_⟩
      walk_at "rs"
      refine sto_nw (by walk_at "set") ?_
      have nl := hp.length_eq
      rw [rngI_len] at nl
      walk_at "w"
      refine we_call ?_
      walk_at "w"
      refine we_call ?_
      walk_at "w"
      refine ⟨_, by walk_at "anys", ts, nm, rfl, by omega, fun q hq => ?_, fun us h1 h2 => ?_⟩
      · have := w.ok q hq
        omega
      walk_at "rs"
      have w2 := web_ren hp w.asc.nodup w.ok h1 h2
      have T2 := T.ren w.ok hp fun q => h1.mem_iff
      refine wa_nil ?_
      refine ⟨_, by walk_at "anys", n, us, _, rfl, by omega, by rw [h1.length_eq, List.length_map]; omega, w2, T2, ?_⟩
      walk_at "rs"
      have cl : (cen n d).length ≤ n.toNat := cen_len_le
      walk_at "w"
      refine we_lcm [8] (wx_seq (w := true) PyData.int ?_)
      walk_at "w"
      refine ⟨cen n d, by walk_at "seqw", by omega, fun x => .int (getI nm x), fun x hx => ?_, ?_⟩
      · have mx := (mem_cen.mp hx).1
        unfold RN at mx
        walk_at "w"
        refine wo_ixE (enc := PyData.int) (x := getI nm x) (by walk_at "seq") (by walk_at "any") mx.1 (getI_some mx.1 (by omega)) ?_
        exact ⟨rfl, Fz.fr⟩
      walk_at "w"
      refine wc_sortI ((cen n d).map (getI nm)) (by walk_at "any") (by rw [List.map_map]; rfl) fun xs h3 h4 => ?_
      rw [cen_ren T T2 hp h3 h4]
      walk_at "w"
      rw [decide_eq_true rfl]
      rw [if_neg (by decide)]
      refine ws_next ?_
      refine ws_if (wt_and2 (p := decide (n < 12)) (q := false) ?_ (fun q => ?_) ?_)
      · walk_at "w"
        exact ⟨rfl, rfl⟩
      · refine wt_not (wt_tru (we_callF ?_))
        walk_at "w"
        exact ⟨a, s, ns, _, _, rfl, by walk_at "mem", by walk_at "anys", n, ts, d, rfl, by omega, by omega, w, T, _, _, Any.fr, Tru.bool, rfl, rfl⟩
      rw [Bool.and_false, if_neg (by decide)]
      walk_at "w"
      exact ⟨_, _, ⟨⟨_, _, _, _, _, _, rfl⟩, rfl⟩, by walk_at "sle", List.Sublist.refl _⟩
    · rintro Γ' O' ⟨⟨s2, s3, s4, s5, s6, s7, rfl⟩, rfl⟩
      exact Up.of ⟨⟨_, _, _, _, _, _, rfl⟩, rfl⟩
  rintro Γ' O' ⟨⟨s2, s3, s4, s5, s6, s7, rfl⟩, rfl⟩
  have T1 := TM.start
  have T2 : TM 2 [(0, 1)] (leafD 1 0 fun _ _ => 0) := T1.leaf (p := 0) ⟨by omega, by omega⟩ (fun q hq => by cases hq) fun q => by simp
  have T3 : TM 3 [(0, 1), (0, 2)] (leafD 2 0 (leafD 1 0 fun _ _ => 0)) := T2.leaf (p := 0) ⟨by omega, by omega⟩ (by decide) fun q => by simp [or_assoc]
  have T4 : TM 4 [(0, 1), (0, 2), (2, 3)] (leafD 3 2 (leafD 2 0 (leafD 1 0 fun _ _ => 0))) := T3.leaf (p := 2) ⟨by omega, by omega⟩ (by decide) fun q => by simp [or_assoc]
  have T5 : TM 5 [(0, 1), (0, 2), (2, 3), (2, 4)] (leafD 4 2 (leafD 3 2 (leafD 2 0 (leafD 1 0 fun _ _ => 0)))) := T4.leaf (p := 2) ⟨by omega, by omega⟩ (by decide) fun q => by simp [or_assoc]
  have c1 : cen 1 (fun _ _ => 0) = [0] := by decide +kernel
  have c2 : cen 2 (leafD 1 0 fun _ _ => 0) = [0, 1] := by decide +kernel
  have c5 : cen 5 (leafD 4 2 (leafD 3 2 (leafD 2 0 (leafD 1 0 fun _ _ => 0)))) = [0, 2] := by decide +kernel
  have w1 : Web 1 [] := ⟨List.Pairwise.nil, fun p hp => by cases hp⟩
  have w2 : Web 2 [(0, 1)] := ⟨by decide, by decide⟩
  have w5 : Web 5 [(0, 1), (0, 2), (2, 3), (2, 4)] := ⟨by decide, by decide⟩
  refine ws_seq (ws_if (wt_or2 (p := false) (q := false) ?_ (fun _ => ?_) ?_))
  · walk_at "w"
    refine we_call ?_
    walk_at "w"
    refine ⟨_, by walk_at "anys", 1, [], _, rfl, by omega, by decide, w1, T1, ?_⟩
    walk_at "rs"
    rw [c1]
    walk_at "w"
    refine wo_neL (p := [0]) (q := [0]) (by walk_at "any") (by walk_at "any") ?_
    exact ⟨_, Any.fr, rfl, rfl⟩
  · walk_at "w"
    refine we_call ?_
    walk_at "w"
    refine ⟨_, by walk_at "anys", 2, [(0, 1)], _, rfl, by omega, by decide, w2, T2, ?_⟩
    walk_at "rs"
    rw [c2]
    walk_at "w"
    refine wo_neL (p := [0, 1]) (q := [0, 1]) (by walk_at "any") (by walk_at "any") ?_
    exact ⟨_, Any.fr, rfl, rfl⟩
  rw [if_neg (by decide)]
  walk_at "w"
  refine we_call ?_
  walk_at "w"
  refine ⟨_, by walk_at "anys", 5, [(0, 1), (0, 2), (2, 3), (2, 4)], _, rfl, by omega, by decide, w5, T5, ?_⟩
  walk_at "rs"
  rw [c5]
  walk_at "w"
  refine wo_eqL (p := [0, 2]) (q := [0, 2]) (by walk_at "any") (by walk_at "any") ?_
  exact Any.fr

open C8 (Cal pe_c)
def top (i : Nat) : Stmt := PySem.Challenge.pw_havenwebs_k86_whole_centres_of_trees.main.body.getD i (.Pass ⟨0, 0, 0, 0⟩)
abbrev s_tie_of : Stmt := top 1
abbrev s_are_joined : Stmt := top 2
abbrev s_neighbours : Stmt := top 3
abbrev s_degrees : Stmt := top 4
abbrev s_centre_of : Stmt := top 6
abbrev s_steps_from : Stmt := top 8
abbrev s_far : Stmt := top 9
abbrev s_law_feed : Stmt := top 11
abbrev s_law_draw : Stmt := top 12
abbrev s_law_is_whole : Stmt := top 13
abbrev s_law_pairs : Stmt := top 14
abbrev s_law_names : Stmt := top 15
abbrev s_law_tie : Stmt := top 16
abbrev s_law_renamed : Stmt := top 17
abbrev s_law_tree : Stmt := top 18
abbrev s_law_steps : Stmt := top 19
abbrev s_law_far : Stmt := top 20
abbrev s_law_due : Stmt := top 21
abbrev s_law_told : Stmt := top 22
abbrev s_law_in_the_middle : Stmt := top 23
abbrev s_law_more : Stmt := top 24
abbrev s_law : Stmt := top 25
abbrev FnP (K : PySem.W.Frag) (x : Str) (st : Stmt) (f : Addr) (fd : FuncData) : Prop := FunD K x x (defArgs st) (defBody st) (defScope st) [] [] f fd
structure Fx (K : PySem.W.Frag) (mg : Str → Option Value) : Prop where
  b_max : mg "max" = none
  b_min : mg "min" = none
  b_range : mg "range" = none
  b_len : mg "len" = none
  b_list : mg "list" = none
  b_abs : mg "abs" = none
  b_int : mg "int" = none
  b_bool : mg "bool" = none
  b_isinstance : mg "isinstance" = none
  b_sorted : mg "sorted" = none
section
variable {P : Program} {w : World} {K : PySem.W.Frag} {mg : Str → Option Value} {base : Heap}
theorem sc_tie_of : FnScope ["i", "j"] ["i", "j"] (defScope s_tie_of) := ⟨rfl, rfl, rfl, by decide +kernel, rfl, by decide +kernel, by decide +kernel⟩
theorem ok_tie_of {f : Addr} {fd : FuncData} (F : FnP K "tie_of" s_tie_of f fd) (g : mg "tie_of" = some (.ref f)) (X : Fx K mg)  : Cal P w K mg base 1 "tie_of" (SpD T_tie_of) [] := by
  have b : Binds K fd ["i", "j"] [] := F.bindsN fun _ _ _ _ _ _ us hl => match us, hl with | [_, _], _ => rfl
  refine ⟨f, fd, _, [], F.ok sc_tie_of (SpD.len (n := 2) fun ds Φ h => by first | (obtain ⟨rfl, _⟩ := h; rfl) | (obtain ⟨_, rfl, _⟩ := h; rfl) | (obtain ⟨_, _, rfl, _⟩ := h; rfl) | (obtain ⟨_, _, _, rfl, _⟩ := h; rfl) | (obtain ⟨_, _, _, _, rfl, _⟩ := h; rfl) | (obtain ⟨_, _, _, _, _, rfl, _⟩ := h; rfl) | (obtain ⟨_, _, _, _, _, _, rfl, _⟩ := h; rfl) | (obtain ⟨_, _, _, _, _, _, _, rfl, _⟩ := h; rfl)) (fun cdv A outer s H vs Q E hr h => ⟨t_tie_of K, PSs.nox ?_, enterD (K := K) h fun ds Φ c hc hT => ?_⟩), g, F.kp, b, .nil⟩
  · exact (pss_one (ps_ret (pe_tup (pa_cons (pe_callB (call_min2 rfl) rfl X.b_min (by decide +kernel) (pa_cons (pv 0) (pa_cons (pv 1) pa_nil))) (pa_cons (pe_callB (call_max2 rfl) rfl X.b_max (by decide +kernel) (pa_cons (pv 0) (pa_cons (pv 1) pa_nil))) pa_nil)))))
  · have z := ws_tie_of (c := c) hT; subst hc; exact z

theorem sc_are_joined : FnScope ["ties", "i", "j"] ["ties", "i", "j"] (defScope s_are_joined) := ⟨rfl, rfl, rfl, by decide +kernel, rfl, by decide +kernel, by decide +kernel⟩
theorem ok_are_joined {f : Addr} {fd : FuncData} (F : FnP K "are_joined" s_are_joined f fd) (g : mg "are_joined" = some (.ref f)) (X : Fx K mg) (C_tie_of : Cal P w K mg base 1 "tie_of" (SpD T_tie_of) []) : Cal P w K mg base 2 "are_joined" (SpD T_are_joined) [] := by
  have b : Binds K fd ["ties", "i", "j"] [] := F.bindsN fun _ _ _ _ _ _ us hl => match us, hl with | [_, _, _], _ => rfl
  refine ⟨f, fd, _, [], F.ok sc_are_joined (SpD.len (n := 3) fun ds Φ h => by first | (obtain ⟨rfl, _⟩ := h; rfl) | (obtain ⟨_, rfl, _⟩ := h; rfl) | (obtain ⟨_, _, rfl, _⟩ := h; rfl) | (obtain ⟨_, _, _, rfl, _⟩ := h; rfl) | (obtain ⟨_, _, _, _, rfl, _⟩ := h; rfl) | (obtain ⟨_, _, _, _, _, rfl, _⟩ := h; rfl) | (obtain ⟨_, _, _, _, _, _, rfl, _⟩ := h; rfl) | (obtain ⟨_, _, _, _, _, _, _, rfl, _⟩ := h; rfl)) (fun cdv A outer s H vs Q E hr h => ⟨t_are_joined K, PSs.nox ?_, enterD (K := K) h fun ds Φ c hc hT => ?_⟩), g, F.kp, b, .nil⟩
  · exact (pss_one (ps_ret (pe_cmpR (op_inA (Room.un65 hr)) (pe_c C_tie_of hr (by decide) rfl (pa_cons (pv 1) (pa_cons (pv 2) pa_nil))) (pv 0) rfl)))
  · have z := ws_are_joined (c := c) hT; subst hc; exact z

theorem sc_neighbours : FnScope ["n", "ties", "i", "j"] ["n", "ties", "i"] (defScope s_neighbours) := ⟨rfl, rfl, rfl, by decide +kernel, rfl, by decide +kernel, by decide +kernel⟩
theorem ok_neighbours {f : Addr} {fd : FuncData} (F : FnP K "neighbours" s_neighbours f fd) (g : mg "neighbours" = some (.ref f)) (X : Fx K mg) (C_are_joined : Cal P w K mg base 2 "are_joined" (SpD T_are_joined) []) : Cal P w K mg base 3 "neighbours" (SpD T_neighbours) [] := by
  have b : Binds K fd ["n", "ties", "i"] [] := F.bindsN fun _ _ _ _ _ _ us hl => match us, hl with | [_, _, _], _ => rfl
  refine ⟨f, fd, _, [], F.ok sc_neighbours (SpD.len (n := 3) fun ds Φ h => by first | (obtain ⟨rfl, _⟩ := h; rfl) | (obtain ⟨_, rfl, _⟩ := h; rfl) | (obtain ⟨_, _, rfl, _⟩ := h; rfl) | (obtain ⟨_, _, _, rfl, _⟩ := h; rfl) | (obtain ⟨_, _, _, _, rfl, _⟩ := h; rfl) | (obtain ⟨_, _, _, _, _, rfl, _⟩ := h; rfl) | (obtain ⟨_, _, _, _, _, _, rfl, _⟩ := h; rfl) | (obtain ⟨_, _, _, _, _, _, _, rfl, _⟩ := h; rfl)) (fun cdv A outer s H vs Q E hr h => ⟨t_neighbours K, PSs.nox ?_, enterD (K := K) h fun ds Φ c hc hT => ?_⟩), g, F.kp, b, .nil⟩
  · exact (pss_one (ps_ret (pe_lc (own := [("j", 3)]) rfl sc_neighbours.nd (pi_range1 rfl X.b_range (pa_cons (pv 0) pa_nil)) (blkOk_by (own := [("j", 3)]) (by kernel_rfl)) (fun _ _ _ _ _ => (pg_name (i := 3) sc_neighbours.nd rfl (Or.inl rfl))) (fun _ _ _ _ _ => (pts_one (pt_truth (pe_c C_are_joined hr (by decide) rfl (pa_cons (pv 1) (pa_cons (pv 2) (pa_cons (pv 3) pa_nil)))) (fun _ => rfl)))) (fun _ _ _ _ _ => (pv 3)))))
  · have z := ws_neighbours (c := c) hT; subst hc; exact z

theorem sc_degrees : FnScope ["n", "ties", "counts", "i", "j"] ["n", "ties"] (defScope s_degrees) := ⟨rfl, rfl, rfl, by decide +kernel, rfl, by decide +kernel, by decide +kernel⟩
theorem ok_degrees {f : Addr} {fd : FuncData} (F : FnP K "degrees" s_degrees f fd) (g : mg "degrees" = some (.ref f)) (X : Fx K mg)  : Cal P w K mg base 1 "degrees" (SpD T_degrees) [] := by
  have b : Binds K fd ["n", "ties"] [] := F.bindsN fun _ _ _ _ _ _ us hl => match us, hl with | [_, _], _ => rfl
  refine ⟨f, fd, _, [], F.ok sc_degrees (SpD.len (n := 2) fun ds Φ h => by first | (obtain ⟨rfl, _⟩ := h; rfl) | (obtain ⟨_, rfl, _⟩ := h; rfl) | (obtain ⟨_, _, rfl, _⟩ := h; rfl) | (obtain ⟨_, _, _, rfl, _⟩ := h; rfl) | (obtain ⟨_, _, _, _, rfl, _⟩ := h; rfl) | (obtain ⟨_, _, _, _, _, rfl, _⟩ := h; rfl) | (obtain ⟨_, _, _, _, _, _, rfl, _⟩ := h; rfl) | (obtain ⟨_, _, _, _, _, _, _, rfl, _⟩ := h; rfl)) (fun cdv A outer s H vs Q E hr h => ⟨t_degrees K, PSs.nox ?_, enterD (K := K) h fun ds Φ c hc hT => ?_⟩), g, F.kp, b, .nil⟩
  · exact (pss_cons (ps_set (i := 2) sc_degrees.nd rfl (Or.inl rfl) (pe_op op_mulA (pe_lst (pa_cons pe_int pa_nil)) (pv 0)))
    (pss_cons (ps_for PassesOwn.never rfl (pi_seq (pv 1)) (pg_tup rfl (pgs_cons (pg_name (i := 3) sc_degrees.nd rfl (Or.inl rfl)) (pgs_cons (pg_name (i := 4) sc_degrees.nd rfl (Or.inl rfl)) pgs_nil))) (pss_cons (ps_augS (pv 2) (pv 3) get_list pe_int ip_add set_list)
    (pss_one (ps_augS (pv 2) (pv 4) get_list pe_int ip_add set_list))))
    (pss_one (ps_ret (pv 2)))))
  · have z := ws_degrees (c := c) hT; subst hc; exact z

theorem sc_centre_of : FnScope ["n", "ties", "left", "counts", "i", "j", "place"] ["n", "ties"] (defScope s_centre_of) := ⟨rfl, rfl, rfl, by decide +kernel, rfl, by decide +kernel, by decide +kernel⟩
theorem ok_centre_of {f : Addr} {fd : FuncData} (F : FnP K "centre_of" s_centre_of f fd) (g : mg "centre_of" = some (.ref f)) (X : Fx K mg) (C_degrees : Cal P w K mg base 1 "degrees" (SpD T_degrees) []) : Cal P w K mg base 2 "centre_of" (SpD T_centre_of) [] := by
  have b : Binds K fd ["n", "ties"] [] := F.bindsN fun _ _ _ _ _ _ us hl => match us, hl with | [_, _], _ => rfl
  refine ⟨f, fd, _, [], F.ok sc_centre_of (SpD.len (n := 2) fun ds Φ h => by first | (obtain ⟨rfl, _⟩ := h; rfl) | (obtain ⟨_, rfl, _⟩ := h; rfl) | (obtain ⟨_, _, rfl, _⟩ := h; rfl) | (obtain ⟨_, _, _, rfl, _⟩ := h; rfl) | (obtain ⟨_, _, _, _, rfl, _⟩ := h; rfl) | (obtain ⟨_, _, _, _, _, rfl, _⟩ := h; rfl) | (obtain ⟨_, _, _, _, _, _, rfl, _⟩ := h; rfl) | (obtain ⟨_, _, _, _, _, _, _, rfl, _⟩ := h; rfl)) (fun cdv A outer s H vs Q E hr h => ⟨t_centre_of K, PSs.nox ?_, enterD (K := K) h fun ds Φ c hc hT => ?_⟩), g, F.kp, b, .nil⟩
  · exact (pss_cons (ps_set (i := 2) sc_centre_of.nd rfl (Or.inr rfl) (pe_listRg rfl rfl X.b_list (prg_1 rfl X.b_range (pv 0))))
    (pss_cons (ps_while PassesOwn.never (pt_cmpR op_gtI (pe_callB call_len rfl X.b_len (by decide +kernel) (pa_cons (pv 2) pa_nil)) pe_int (nomark _)) (pss_cons (ps_set (i := 3) sc_centre_of.nd rfl (Or.inr rfl) (pe_c C_degrees hr (by decide) rfl (pa_cons (pv 0) (pa_cons (pe_lc (own := [("i", 4), ("j", 5)]) rfl sc_centre_of.nd (pi_seq (pv 1)) (blkOk_by (own := [("i", 4), ("j", 5)]) (by kernel_rfl)) (fun _ _ _ _ _ => (pg_tup rfl (pgs_cons (pg_name (i := 4) sc_centre_of.nd rfl (Or.inl rfl)) (pgs_cons (pg_name (i := 5) sc_centre_of.nd rfl (Or.inl rfl)) pgs_nil)))) (fun _ _ _ _ _ => (pts_one (PW.pt (pw_and (pt_cmpR (op_inA (Room.un65 hr)) (pv 4) (pv 2) rfl) (pw_and1 (pt_cmpR (op_inA (Room.un65 hr)) (pv 5) (pv 2) rfl)))))) (fun _ _ _ _ _ => (pe_tup (pa_cons (pv 4) (pa_cons (pv 5) pa_nil))))) pa_nil))))
    (pss_one (ps_set (i := 2) sc_centre_of.nd rfl (Or.inr rfl) (pe_lc (own := [("place", 6)]) rfl sc_centre_of.nd (pi_seq (pv 2)) (blkOk_by (own := [("place", 6)]) (by kernel_rfl)) (fun _ _ _ _ _ => (pg_name (i := 6) sc_centre_of.nd rfl (Or.inl rfl))) (fun _ _ _ _ _ => (pts_one (pt_cmpR op_gtI (pe_ix ix_seq (pv 3) (pv 6) (fun _ _ => rfl)) pe_int (nomark _)))) (fun _ _ _ _ _ => (pv 6)))))))
    (pss_one (ps_ret (pv 2)))))
  · have z := ws_centre_of (c := c) hT; subst hc; exact z

theorem sc_steps_from : FnScope ["n", "ties", "place", "found", "row", "at", "other"] ["n", "ties", "place"] (defScope s_steps_from) := ⟨rfl, rfl, rfl, by decide +kernel, rfl, by decide +kernel, by decide +kernel⟩
theorem ok_steps_from {f : Addr} {fd : FuncData} (F : FnP K "steps_from" s_steps_from f fd) (g : mg "steps_from" = some (.ref f)) (X : Fx K mg) (C_neighbours : Cal P w K mg base 3 "neighbours" (SpD T_neighbours) []) : Cal P w K mg base 4 "steps_from" (SpD T_steps_from) [] := by
  have b : Binds K fd ["n", "ties", "place"] [] := F.bindsN fun _ _ _ _ _ _ us hl => match us, hl with | [_, _, _], _ => rfl
  refine ⟨f, fd, _, [], F.ok sc_steps_from (SpD.len (n := 3) fun ds Φ h => by first | (obtain ⟨rfl, _⟩ := h; rfl) | (obtain ⟨_, rfl, _⟩ := h; rfl) | (obtain ⟨_, _, rfl, _⟩ := h; rfl) | (obtain ⟨_, _, _, rfl, _⟩ := h; rfl) | (obtain ⟨_, _, _, _, rfl, _⟩ := h; rfl) | (obtain ⟨_, _, _, _, _, rfl, _⟩ := h; rfl) | (obtain ⟨_, _, _, _, _, _, rfl, _⟩ := h; rfl) | (obtain ⟨_, _, _, _, _, _, _, rfl, _⟩ := h; rfl)) (fun cdv A outer s H vs Q E hr h => ⟨t_steps_from K, PSs.nox ?_, enterD (K := K) h fun ds Φ c hc hT => ?_⟩), g, F.kp, b, .nil⟩
  · exact (pss_cons (ps_set (i := 3) sc_steps_from.nd rfl (Or.inl rfl) (pe_op op_mulA (pe_lst (pa_cons pe_non pa_nil)) (pv 0)))
    (pss_cons (ps_asg pe_int (pg_sub (pv 3) (pv 2) set_list))
    (pss_cons (ps_set (i := 4) sc_steps_from.nd rfl (Or.inl rfl) (pe_lst (pa_cons (pv 2) pa_nil)))
    (pss_cons (ps_set (i := 5) sc_steps_from.nd rfl (Or.inl rfl) pe_int)
    (pss_cons (ps_while PassesOwn.never (pt_cmpR (op_ltA hr.units0) (pv 5) (pe_callB call_len rfl X.b_len (by decide +kernel) (pa_cons (pv 4) pa_nil)) (nomark _)) (pss_cons (ps_for PassesOwn.never rfl (pi_seq (pe_c C_neighbours hr (by decide) rfl (pa_cons (pv 0) (pa_cons (pv 1) (pa_cons (pe_ix ix_seq (pv 4) (pv 5) (fun _ _ => rfl)) pa_nil))))) (pg_name (i := 6) sc_steps_from.nd rfl (Or.inl rfl)) (pss_one (ps_if (pt_cmp (pc_isN (pe_ix ix_seq (pv 3) (pv 6) (fun _ _ => rfl)))) (pss_cons (ps_asg (pe_op op_addA (pe_ix ix_seq (pv 3) (pe_ix ix_seq (pv 4) (pv 5) (fun _ _ => rfl)) (fun _ _ => rfl)) pe_int) (pg_sub (pv 3) (pv 6) set_list))
    (pss_one (ps_expr (pe_bm PySem.F.plainAttrs_list PySem.F.slot_list_append PySem.F.type_list_append mt_append (pv 4) (pa_cons (pv 6) pa_nil))))) pss_nil)))
    (pss_one (ps_aug (i := 5) sc_steps_from.nd rfl (Or.inl rfl) pe_int ip_add))))
    (pss_one (ps_ret (pv 3))))))))
  · have z := ws_steps_from (c := c) hT; subst hc; exact z

theorem sc_far : FnScope ["n", "ties", "place"] ["n", "ties"] (defScope s_far) := ⟨rfl, rfl, rfl, by decide +kernel, rfl, by decide +kernel, by decide +kernel⟩
theorem ok_far {f : Addr} {fd : FuncData} (F : FnP K "far" s_far f fd) (g : mg "far" = some (.ref f)) (X : Fx K mg) (C_steps_from : Cal P w K mg base 4 "steps_from" (SpD T_steps_from) []) : Cal P w K mg base 5 "far" (SpD T_far) [] := by
  have b : Binds K fd ["n", "ties"] [] := F.bindsN fun _ _ _ _ _ _ us hl => match us, hl with | [_, _], _ => rfl
  refine ⟨f, fd, _, [], F.ok sc_far (SpD.len (n := 2) fun ds Φ h => by first | (obtain ⟨rfl, _⟩ := h; rfl) | (obtain ⟨_, rfl, _⟩ := h; rfl) | (obtain ⟨_, _, rfl, _⟩ := h; rfl) | (obtain ⟨_, _, _, rfl, _⟩ := h; rfl) | (obtain ⟨_, _, _, _, rfl, _⟩ := h; rfl) | (obtain ⟨_, _, _, _, _, rfl, _⟩ := h; rfl) | (obtain ⟨_, _, _, _, _, _, rfl, _⟩ := h; rfl) | (obtain ⟨_, _, _, _, _, _, _, rfl, _⟩ := h; rfl)) (fun cdv A outer s H vs Q E hr h => ⟨t_far K, PSs.nox ?_, enterD (K := K) h fun ds Φ c hc hT => ?_⟩), g, F.kp, b, .nil⟩
  · exact (pss_one (ps_ret (pe_lc (own := [("place", 2)]) rfl sc_far.nd (pi_range1 rfl X.b_range (pa_cons (pv 0) pa_nil)) (blkOk_by (own := [("place", 2)]) (by kernel_rfl)) (fun _ _ _ _ _ => (pg_name (i := 2) sc_far.nd rfl (Or.inl rfl))) (fun _ _ _ _ _ => pts_nil) (fun _ _ _ _ _ => (pe_c C_steps_from hr (by decide) rfl (pa_cons (pv 0) (pa_cons (pv 1) (pa_cons (pv 2) pa_nil))))))))
  · have z := ws_far (c := c) hT; subst hc; exact z

theorem sc_law_feed : FnScope ["script"] ["script"] (defScope s_law_feed) := ⟨rfl, rfl, rfl, by decide +kernel, rfl, by decide +kernel, by decide +kernel⟩
theorem ok_law_feed {f : Addr} {fd : FuncData} (F : FnP K "_law_feed" s_law_feed f fd) (g : mg "_law_feed" = some (.ref f)) (X : Fx K mg)  : Cal P w K mg base 1 "_law_feed" (SpFeed K) [] := by
  have b : Binds K fd ["script"] [] := F.bindsN fun _ _ _ _ _ _ us hl => match us, hl with | [_], _ => rfl
  refine ⟨f, fd, _, [], F.ok sc_law_feed (fun vs H Q E h => ?_) (fun cdv A outer s H vs Q E hr h => ⟨t_law_feed K, PSs.nox ?_, ws_law_feed h⟩), g, F.kp, b, .nil⟩
  · obtain ⟨_, _, rfl, _⟩ := h; rfl
  · exact (pss_one (ps_ret (pe_lst (pa_cons (pe_callTy call_list_of rfl X.b_list (by decide +kernel) (pa_cons (pv 0) pa_nil)) (pa_cons pe_int (pa_cons pe_int (pa_cons pe_int pa_nil)))))))

theorem sc_law_draw : FnScope ["feed", "many", "cell", "told", "mixed"] ["feed", "many"] (defScope s_law_draw) := ⟨rfl, rfl, rfl, by decide +kernel, rfl, by decide +kernel, by decide +kernel⟩
theorem ok_law_draw {f : Addr} {fd : FuncData} (F : FnP K "_law_draw" s_law_draw f fd) (g : mg "_law_draw" = some (.ref f)) (X : Fx K mg)  : Cal P w K mg base 1 "_law_draw" (SpF K T_law_draw) [] := by
  have b : Binds K fd ["feed", "many"] [] := F.bindsN fun _ _ _ _ _ _ us hl => match us, hl with | [_, _], _ => rfl
  refine ⟨f, fd, _, [], F.ok sc_law_draw (SpF.len (n := 1) fun ds Φ h => by first | (obtain ⟨rfl, _⟩ := h; rfl) | (obtain ⟨_, rfl, _⟩ := h; rfl) | (obtain ⟨_, _, rfl, _⟩ := h; rfl) | (obtain ⟨_, _, _, rfl, _⟩ := h; rfl) | (obtain ⟨_, _, _, _, rfl, _⟩ := h; rfl) | (obtain ⟨_, _, _, _, _, rfl, _⟩ := h; rfl) | (obtain ⟨_, _, _, _, _, _, rfl, _⟩ := h; rfl) | (obtain ⟨_, _, _, _, _, _, _, rfl, _⟩ := h; rfl)) (fun cdv A outer s H vs Q E hr h => ⟨t_law_draw K, PSs.nox ?_, enterF h fun ds Φ c a s ns hc hB hT => ?_⟩), g, F.kp, b, .nil⟩
  · exact (pss_cons (ps_if (PW.pt (pw_and (pt_cmpR (op_eqD hr.units) (pe_ix ix_seq (pv 0) pe_int (fun _ _ => rfl)) pe_int (nomark _)) (pw_and1 (pt_cmpR (op_ltA hr.units0) (pe_ix ix_seq (pv 0) pe_int (fun _ _ => rfl)) (pe_callB call_len rfl X.b_len (by decide +kernel) (pa_cons (pe_ix ix_seq (pv 0) pe_int (fun _ _ => rfl)) pa_nil)) (nomark _))))) (pss_cons (ps_set (i := 2) sc_law_draw.nd rfl (Or.inl rfl) (pe_callB call_abs rfl X.b_abs (by decide +kernel) (pa_cons (pe_callTy call_int1 rfl X.b_int (by decide +kernel) (pa_cons (pe_ix ix_seq (pe_ix ix_seq (pv 0) pe_int (fun _ _ => rfl)) (pe_ix ix_seq (pv 0) pe_int (fun _ _ => rfl)) (fun _ _ => rfl)) pa_nil)) pa_nil)))
    (pss_cons (ps_augS (pv 0) pe_int get_list pe_int ip_add set_list)
    (pss_one (ps_if (pt_cmpR (op_geA hr.units0) (pv 2) (pe_op op_pow pe_int pe_int) (nomark _)) (pss_one (ps_asg (pv 2) (pg_sub (pv 0) pe_int set_list))) (pss_one (ps_asg (pe_op op_modN (pe_callTy call_int1 rfl X.b_int (by decide +kernel) (pa_cons (pe_op op_addA (pe_op op_addA (pe_op op_mulA (pe_ix ix_seq (pv 0) pe_int (fun _ _ => rfl)) pe_int) (pe_op op_mulA (pv 2) pe_int)) (pe_ix ix_seq (pv 0) pe_int (fun _ _ => rfl))) pa_nil)) pe_int) (pg_sub (pv 0) pe_int set_list))))))) pss_nil)
    (pss_cons (ps_if (pt_cmpR op_gtI (pe_ix ix_seq (pv 0) pe_int (fun _ _ => rfl)) pe_int (nomark _)) (pss_cons (ps_set (i := 3) sc_law_draw.nd rfl (Or.inl rfl) (pe_op op_modN (pe_callTy call_int1 rfl X.b_int (by decide +kernel) (pa_cons (pe_ix ix_seq (pv 0) pe_int (fun _ _ => rfl)) pa_nil)) (pv 1)))
    (pss_cons (ps_asg (pe_op op_fdivN (pe_ix ix_seq (pv 0) pe_int (fun _ _ => rfl)) (pv 1)) (pg_sub (pv 0) pe_int set_list))
    (pss_one (ps_ret (pv 3))))) pss_nil)
    (pss_cons (ps_asg (pe_op op_modN (pe_callTy call_int1 rfl X.b_int (by decide +kernel) (pa_cons (pe_op op_addA (pe_op op_mulA (pe_ix ix_seq (pv 0) pe_int (fun _ _ => rfl)) pe_int) pe_int) pa_nil)) pe_int) (pg_sub (pv 0) pe_int set_list))
    (pss_cons (ps_set (i := 4) sc_law_draw.nd rfl (Or.inl rfl) (pe_op op_modN (pe_callTy call_int1 rfl X.b_int (by decide +kernel) (pa_cons (pe_op op_addA (pe_op op_mulA (pe_ix ix_seq (pv 0) pe_int (fun _ _ => rfl)) (pe_ix ix_seq (pv 0) pe_int (fun _ _ => rfl))) (pe_ix ix_seq (pv 0) pe_int (fun _ _ => rfl))) pa_nil)) pe_int))
    (pss_one (ps_ret (pe_op op_modN (pe_op op_fdivN (pv 4) pe_int) (pv 1))))))))
  · have z := ws_law_draw (c := c) (a := a) (s := s) (ns := ns) hT; subst hc; exact z

theorem sc_law_is_whole : FnScope ["x"] ["x"] (defScope s_law_is_whole) := ⟨rfl, rfl, rfl, by decide +kernel, rfl, by decide +kernel, by decide +kernel⟩
theorem ok_law_is_whole {f : Addr} {fd : FuncData} (F : FnP K "_law_is_whole" s_law_is_whole f fd) (g : mg "_law_is_whole" = some (.ref f)) (X : Fx K mg)  : Cal P w K mg base 1 "_law_is_whole" (SpD T_law_is_whole) [] := by
  have b : Binds K fd ["x"] [] := F.bindsN fun _ _ _ _ _ _ us hl => match us, hl with | [_], _ => rfl
  refine ⟨f, fd, _, [], F.ok sc_law_is_whole (SpD.len (n := 1) fun ds Φ h => by first | (obtain ⟨rfl, _⟩ := h; rfl) | (obtain ⟨_, rfl, _⟩ := h; rfl) | (obtain ⟨_, _, rfl, _⟩ := h; rfl) | (obtain ⟨_, _, _, rfl, _⟩ := h; rfl) | (obtain ⟨_, _, _, _, rfl, _⟩ := h; rfl) | (obtain ⟨_, _, _, _, _, rfl, _⟩ := h; rfl) | (obtain ⟨_, _, _, _, _, _, rfl, _⟩ := h; rfl) | (obtain ⟨_, _, _, _, _, _, _, rfl, _⟩ := h; rfl)) (fun cdv A outer s H vs Q E hr h => ⟨t_law_is_whole K, PSs.nox ?_, enterD (K := K) h fun ds Φ c hc hT => ?_⟩), g, F.kp, b, .nil⟩
  · exact (pss_one (ps_ret (pe_and (pe_callB call_isi rfl X.b_isinstance (by decide +kernel) (pa_cons (pv 0) (pa_cons (pe_bltn (v := .ty "int") rfl X.b_int (by decide +kernel) rfl) pa_nil))) (pe_one (pe_notT (pe_callB call_isi rfl X.b_isinstance (by decide +kernel) (pa_cons (pv 0) (pa_cons (pe_bltn (v := .ty "bool") rfl X.b_bool (by decide +kernel) rfl) pa_nil))))))))
  · have z := ws_law_is_whole (c := c) hT; subst hc; exact z

theorem sc_law_pairs : FnScope ["n", "found", "i", "j"] ["n"] (defScope s_law_pairs) := ⟨rfl, rfl, rfl, by decide +kernel, rfl, by decide +kernel, by decide +kernel⟩
theorem ok_law_pairs {f : Addr} {fd : FuncData} (F : FnP K "_law_pairs" s_law_pairs f fd) (g : mg "_law_pairs" = some (.ref f)) (X : Fx K mg)  : Cal P w K mg base 1 "_law_pairs" (SpD T_law_pairs) [] := by
  have b : Binds K fd ["n"] [] := F.bindsN fun _ _ _ _ _ _ us hl => match us, hl with | [_], _ => rfl
  refine ⟨f, fd, _, [], F.ok sc_law_pairs (SpD.len (n := 1) fun ds Φ h => by first | (obtain ⟨rfl, _⟩ := h; rfl) | (obtain ⟨_, rfl, _⟩ := h; rfl) | (obtain ⟨_, _, rfl, _⟩ := h; rfl) | (obtain ⟨_, _, _, rfl, _⟩ := h; rfl) | (obtain ⟨_, _, _, _, rfl, _⟩ := h; rfl) | (obtain ⟨_, _, _, _, _, rfl, _⟩ := h; rfl) | (obtain ⟨_, _, _, _, _, _, rfl, _⟩ := h; rfl) | (obtain ⟨_, _, _, _, _, _, _, rfl, _⟩ := h; rfl)) (fun cdv A outer s H vs Q E hr h => ⟨t_law_pairs K, PSs.nox ?_, enterD (K := K) h fun ds Φ c hc hT => ?_⟩), g, F.kp, b, .nil⟩
  · exact (pss_cons (ps_set (i := 1) sc_law_pairs.nd rfl (Or.inl rfl) (pe_lst pa_nil))
    (pss_cons (ps_for PassesOwn.never rfl (pi_range1 rfl X.b_range (pa_cons (pv 0) pa_nil)) (pg_name (i := 2) sc_law_pairs.nd rfl (Or.inr rfl)) (pss_one (ps_set (i := 1) sc_law_pairs.nd rfl (Or.inl rfl) (pe_op op_addA (pv 1) (pe_lc (own := [("j", 3)]) rfl sc_law_pairs.nd (pi_range2 rfl X.b_range (pa_cons (pe_op op_addA (pv 2) pe_int) (pa_cons (pv 0) pa_nil))) (blkOk_by (own := [("j", 3)]) (by kernel_rfl)) (fun _ _ _ _ _ => (pg_name (i := 3) sc_law_pairs.nd rfl (Or.inl rfl))) (fun _ _ _ _ _ => pts_nil) (fun _ _ _ _ _ => (pe_tup (pa_cons (pv 2) (pa_cons (pv 3) pa_nil)))))))))
    (pss_one (ps_ret (pv 1)))))
  · have z := ws_law_pairs (c := c) hT; subst hc; exact z

theorem sc_law_names : FnScope ["feed", "n", "rest", "k", "order"] ["feed", "n"] (defScope s_law_names) := ⟨rfl, rfl, rfl, by decide +kernel, rfl, by decide +kernel, by decide +kernel⟩
theorem ok_law_names {f : Addr} {fd : FuncData} (F : FnP K "_law_names" s_law_names f fd) (g : mg "_law_names" = some (.ref f)) (X : Fx K mg) (C_law_draw : Cal P w K mg base 1 "_law_draw" (SpF K T_law_draw) []) : Cal P w K mg base 2 "_law_names" (SpF K T_law_names) [] := by
  have b : Binds K fd ["feed", "n"] [] := F.bindsN fun _ _ _ _ _ _ us hl => match us, hl with | [_, _], _ => rfl
  refine ⟨f, fd, _, [], F.ok sc_law_names (SpF.len (n := 1) fun ds Φ h => by first | (obtain ⟨rfl, _⟩ := h; rfl) | (obtain ⟨_, rfl, _⟩ := h; rfl) | (obtain ⟨_, _, rfl, _⟩ := h; rfl) | (obtain ⟨_, _, _, rfl, _⟩ := h; rfl) | (obtain ⟨_, _, _, _, rfl, _⟩ := h; rfl) | (obtain ⟨_, _, _, _, _, rfl, _⟩ := h; rfl) | (obtain ⟨_, _, _, _, _, _, rfl, _⟩ := h; rfl) | (obtain ⟨_, _, _, _, _, _, _, rfl, _⟩ := h; rfl)) (fun cdv A outer s H vs Q E hr h => ⟨t_law_names K, PSs.nox ?_, enterF h fun ds Φ c a s ns hc hB hT => ?_⟩), g, F.kp, b, .nil⟩
  · exact (pss_cons (ps_setLc (i := 2) (own := [("k", 3)]) rfl sc_law_names.nd rfl rfl (sw_true rfl rfl rfl (by decide +kernel)) (pi_range1 rfl X.b_range (pa_cons (pv 1) pa_nil)) (blkOk_by (own := [("k", 3)]) (by kernel_rfl)) (fun _ _ _ _ _ => (pg_name (i := 3) sc_law_names.nd rfl (Or.inl rfl))) (fun _ _ _ _ _ => pts_nil) (fun _ _ _ _ _ => (pv 3)))
    (pss_cons (ps_set (i := 4) sc_law_names.nd rfl (Or.inl rfl) (pe_lst pa_nil))
    (pss_cons (ps_for PassesOwn.never rfl (pi_range1 rfl X.b_range (pa_cons (pv 1) pa_nil)) (pg_name (i := 3) sc_law_names.nd rfl (Or.inl rfl)) (pss_one (ps_expr (pe_bm PySem.F.plainAttrs_list PySem.F.slot_list_append PySem.F.type_list_append mt_append (pv 4) (pa_cons (pe_bm PySem.F.plainAttrs_list PySem.F.slot_list_pop PySem.F.type_list_pop mt_popAt (pv 2) (pa_cons (pe_c C_law_draw hr (by decide) rfl (pa_cons (pv 0) (pa_cons (pe_callB call_len rfl X.b_len (by decide +kernel) (pa_cons (pv 2) pa_nil)) pa_nil))) pa_nil)) pa_nil)))))
    (pss_one (ps_ret (pv 4))))))
  · have z := ws_law_names (c := c) (a := a) (s := s) (ns := ns) hT; subst hc; exact z

theorem sc_law_tie : FnScope ["i", "j"] ["i", "j"] (defScope s_law_tie) := ⟨rfl, rfl, rfl, by decide +kernel, rfl, by decide +kernel, by decide +kernel⟩
theorem ok_law_tie {f : Addr} {fd : FuncData} (F : FnP K "_law_tie" s_law_tie f fd) (g : mg "_law_tie" = some (.ref f)) (X : Fx K mg)  : Cal P w K mg base 1 "_law_tie" (SpD T_law_tie) [] := by
  have b : Binds K fd ["i", "j"] [] := F.bindsN fun _ _ _ _ _ _ us hl => match us, hl with | [_, _], _ => rfl
  refine ⟨f, fd, _, [], F.ok sc_law_tie (SpD.len (n := 2) fun ds Φ h => by first | (obtain ⟨rfl, _⟩ := h; rfl) | (obtain ⟨_, rfl, _⟩ := h; rfl) | (obtain ⟨_, _, rfl, _⟩ := h; rfl) | (obtain ⟨_, _, _, rfl, _⟩ := h; rfl) | (obtain ⟨_, _, _, _, rfl, _⟩ := h; rfl) | (obtain ⟨_, _, _, _, _, rfl, _⟩ := h; rfl) | (obtain ⟨_, _, _, _, _, _, rfl, _⟩ := h; rfl) | (obtain ⟨_, _, _, _, _, _, _, rfl, _⟩ := h; rfl)) (fun cdv A outer s H vs Q E hr h => ⟨t_law_tie K, PSs.nox ?_, enterD (K := K) h fun ds Φ c hc hT => ?_⟩), g, F.kp, b, .nil⟩
  · exact (pss_one (ps_ret (pe_tup (pa_cons (pe_callB (call_min2 rfl) rfl X.b_min (by decide +kernel) (pa_cons (pv 0) (pa_cons (pv 1) pa_nil))) (pa_cons (pe_callB (call_max2 rfl) rfl X.b_max (by decide +kernel) (pa_cons (pv 0) (pa_cons (pv 1) pa_nil))) pa_nil)))))
  · have z := ws_law_tie (c := c) hT; subst hc; exact z

theorem sc_law_renamed : FnScope ["ties", "names", "i", "j"] ["ties", "names"] (defScope s_law_renamed) := ⟨rfl, rfl, rfl, by decide +kernel, rfl, by decide +kernel, by decide +kernel⟩
theorem ok_law_renamed {f : Addr} {fd : FuncData} (F : FnP K "_law_renamed" s_law_renamed f fd) (g : mg "_law_renamed" = some (.ref f)) (X : Fx K mg) (C_law_tie : Cal P w K mg base 1 "_law_tie" (SpD T_law_tie) []) : Cal P w K mg base 2 "_law_renamed" (SpD T_law_renamed) [] := by
  have b : Binds K fd ["ties", "names"] [] := F.bindsN fun _ _ _ _ _ _ us hl => match us, hl with | [_, _], _ => rfl
  refine ⟨f, fd, _, [], F.ok sc_law_renamed (SpD.len (n := 2) fun ds Φ h => by first | (obtain ⟨rfl, _⟩ := h; rfl) | (obtain ⟨_, rfl, _⟩ := h; rfl) | (obtain ⟨_, _, rfl, _⟩ := h; rfl) | (obtain ⟨_, _, _, rfl, _⟩ := h; rfl) | (obtain ⟨_, _, _, _, rfl, _⟩ := h; rfl) | (obtain ⟨_, _, _, _, _, rfl, _⟩ := h; rfl) | (obtain ⟨_, _, _, _, _, _, rfl, _⟩ := h; rfl) | (obtain ⟨_, _, _, _, _, _, _, rfl, _⟩ := h; rfl)) (fun cdv A outer s H vs Q E hr h => ⟨t_law_renamed K, PSs.nox ?_, enterD (K := K) h fun ds Φ c hc hT => ?_⟩), g, F.kp, b, .nil⟩
  · exact (pss_one (ps_ret (pe_callB cr_sortedA rfl X.b_sorted (by decide +kernel) (pa_cons (pe_lc (own := [("i", 2), ("j", 3)]) rfl sc_law_renamed.nd (pi_seq (pv 0)) (blkOk_by (own := [("i", 2), ("j", 3)]) (by kernel_rfl)) (fun _ _ _ _ _ => (pg_tup rfl (pgs_cons (pg_name (i := 2) sc_law_renamed.nd rfl (Or.inl rfl)) (pgs_cons (pg_name (i := 3) sc_law_renamed.nd rfl (Or.inl rfl)) pgs_nil)))) (fun _ _ _ _ _ => pts_nil) (fun _ _ _ _ _ => (pe_c C_law_tie hr (by decide) rfl (pa_cons (pe_ix ix_seq (pv 1) (pv 2) (fun _ _ => rfl)) (pa_cons (pe_ix ix_seq (pv 1) (pv 3) (fun _ _ => rfl)) pa_nil))))) pa_nil))))
  · have z := ws_law_renamed (c := c) hT; subst hc; exact z

theorem sc_law_tree : FnScope ["feed", "n", "shape", "ties", "k", "near"] ["feed", "n"] (defScope s_law_tree) := ⟨rfl, rfl, rfl, by decide +kernel, rfl, by decide +kernel, by decide +kernel⟩
theorem ok_law_tree {f : Addr} {fd : FuncData} (F : FnP K "_law_tree" s_law_tree f fd) (g : mg "_law_tree" = some (.ref f)) (X : Fx K mg) (C_law_draw : Cal P w K mg base 1 "_law_draw" (SpF K T_law_draw) []) (C_law_renamed : Cal P w K mg base 2 "_law_renamed" (SpD T_law_renamed) []) (C_law_names : Cal P w K mg base 2 "_law_names" (SpF K T_law_names) []) : Cal P w K mg base 3 "_law_tree" (SpF K T_law_tree) [] := by
  have b : Binds K fd ["feed", "n"] [] := F.bindsN fun _ _ _ _ _ _ us hl => match us, hl with | [_, _], _ => rfl
  refine ⟨f, fd, _, [], F.ok sc_law_tree (SpF.len (n := 1) fun ds Φ h => by first | (obtain ⟨rfl, _⟩ := h; rfl) | (obtain ⟨_, rfl, _⟩ := h; rfl) | (obtain ⟨_, _, rfl, _⟩ := h; rfl) | (obtain ⟨_, _, _, rfl, _⟩ := h; rfl) | (obtain ⟨_, _, _, _, rfl, _⟩ := h; rfl) | (obtain ⟨_, _, _, _, _, rfl, _⟩ := h; rfl) | (obtain ⟨_, _, _, _, _, _, rfl, _⟩ := h; rfl) | (obtain ⟨_, _, _, _, _, _, _, rfl, _⟩ := h; rfl)) (fun cdv A outer s H vs Q E hr h => ⟨t_law_tree K, PSs.nox ?_, enterF h fun ds Φ c a s ns hc hB hT => ?_⟩), g, F.kp, b, .nil⟩
  · exact (pss_cons (ps_set (i := 2) sc_law_tree.nd rfl (Or.inl rfl) (pe_c C_law_draw hr (by decide) rfl (pa_cons (pv 0) (pa_cons pe_int pa_nil))))
    (pss_cons (ps_set (i := 3) sc_law_tree.nd rfl (Or.inl rfl) (pe_lst pa_nil))
    (pss_cons (ps_for PassesOwn.never rfl (pi_range2 rfl X.b_range (pa_cons pe_int (pa_cons (pv 1) pa_nil))) (pg_name (i := 4) sc_law_tree.nd rfl (Or.inl rfl)) (pss_cons (ps_set (i := 5) sc_law_tree.nd rfl (Or.inl rfl) (pe_c C_law_draw hr (by decide) rfl (pa_cons (pv 0) (pa_cons (pv 4) pa_nil))))
    (pss_cons (ps_if (pt_cmpR (op_eqD hr.units) (pv 2) pe_int (nomark _)) (pss_one (ps_set (i := 5) sc_law_tree.nd rfl (Or.inl rfl) (pe_op op_sub (pv 4) pe_int))) (pss_one (ps_if (pt_cmpR (op_eqD hr.units) (pv 2) pe_int (nomark _)) (pss_one (ps_set (i := 5) sc_law_tree.nd rfl (Or.inl rfl) pe_int)) (pss_one (ps_if (pt_cmpR (op_eqD hr.units) (pv 2) pe_int (nomark _)) (pss_one (ps_set (i := 5) sc_law_tree.nd rfl (Or.inl rfl) (pe_callB (call_max2 rfl) rfl X.b_max (by decide +kernel) (pa_cons pe_int (pa_cons (pe_op op_sub (pe_op op_sub (pv 4) pe_int) (pe_c C_law_draw hr (by decide) rfl (pa_cons (pv 0) (pa_cons pe_int pa_nil)))) pa_nil))))) pss_nil)))))
    (pss_one (ps_expr (pe_bm PySem.F.plainAttrs_list PySem.F.slot_list_append PySem.F.type_list_append mt_append (pv 3) (pa_cons (pe_tup (pa_cons (pv 5) (pa_cons (pv 4) pa_nil))) pa_nil)))))))
    (pss_one (ps_ret (pe_c C_law_renamed hr (by decide) rfl (pa_cons (pv 3) (pa_cons (pe_c C_law_names hr (by decide) rfl (pa_cons (pv 0) (pa_cons (pv 1) pa_nil))) pa_nil))))))))
  · have z := ws_law_tree (c := c) (a := a) (s := s) (ns := ns) hT; subst hc; exact z

theorem sc_law_steps : FnScope ["n", "ties", "place", "found", "step", "i", "j"] ["n", "ties", "place"] (defScope s_law_steps) := ⟨rfl, rfl, rfl, by decide +kernel, rfl, by decide +kernel, by decide +kernel⟩
theorem ok_law_steps {f : Addr} {fd : FuncData} (F : FnP K "_law_steps" s_law_steps f fd) (g : mg "_law_steps" = some (.ref f)) (X : Fx K mg) (C_law_tie : Cal P w K mg base 1 "_law_tie" (SpD T_law_tie) []) : Cal P w K mg base 2 "_law_steps" (SpD T_law_steps) [] := by
  have b : Binds K fd ["n", "ties", "place"] [] := F.bindsN fun _ _ _ _ _ _ us hl => match us, hl with | [_, _, _], _ => rfl
  refine ⟨f, fd, _, [], F.ok sc_law_steps (SpD.len (n := 3) fun ds Φ h => by first | (obtain ⟨rfl, _⟩ := h; rfl) | (obtain ⟨_, rfl, _⟩ := h; rfl) | (obtain ⟨_, _, rfl, _⟩ := h; rfl) | (obtain ⟨_, _, _, rfl, _⟩ := h; rfl) | (obtain ⟨_, _, _, _, rfl, _⟩ := h; rfl) | (obtain ⟨_, _, _, _, _, rfl, _⟩ := h; rfl) | (obtain ⟨_, _, _, _, _, _, rfl, _⟩ := h; rfl) | (obtain ⟨_, _, _, _, _, _, _, rfl, _⟩ := h; rfl)) (fun cdv A outer s H vs Q E hr h => ⟨t_law_steps K, PSs.nox ?_, enterD (K := K) h fun ds Φ c hc hT => ?_⟩), g, F.kp, b, .nil⟩
  · exact (pss_cons (ps_set (i := 3) sc_law_steps.nd rfl (Or.inr rfl) (pe_op op_mulA (pe_lst (pa_cons pe_non pa_nil)) (pv 0)))
    (pss_cons (ps_asg pe_int (pg_sub (pv 3) (pv 2) set_list))
    (pss_cons (ps_for PassesOwn.never rfl (pi_range2 rfl X.b_range (pa_cons pe_int (pa_cons (pv 0) pa_nil))) (pg_name (i := 4) sc_law_steps.nd rfl (Or.inr rfl)) (pss_one (ps_for PassesOwn.never rfl (pi_range1 rfl X.b_range (pa_cons (pv 0) pa_nil)) (pg_name (i := 5) sc_law_steps.nd rfl (Or.inr rfl)) (pss_one (ps_if (PW.pt (pw_and (pt_cmp (pc_isN (pe_ix ix_seq (pv 3) (pv 5) (fun _ _ => rfl)))) (pw_and1 (pt_cmpR op_gtI (pe_callB call_len rfl X.b_len (by decide +kernel) (pa_cons (pe_lc (own := [("j", 6)]) rfl sc_law_steps.nd (pi_range1 rfl X.b_range (pa_cons (pv 0) pa_nil)) (blkOk_by (own := [("j", 6)]) (by kernel_rfl)) (fun _ _ _ _ _ => (pg_name (i := 6) sc_law_steps.nd rfl (Or.inl rfl))) (fun _ _ _ _ _ => (pts_one (PW.pt (pw_and (pt_cmpR (op_eqD hr.units) (pe_ix ix_seq (pv 3) (pv 6) (fun _ _ => rfl)) (pe_op op_sub (pv 4) pe_int) (nomark _)) (pw_and1 (pt_cmpR (op_inA (Room.un65 hr)) (pe_c C_law_tie hr (by decide) rfl (pa_cons (pv 5) (pa_cons (pv 6) pa_nil))) (pv 1) rfl)))))) (fun _ _ _ _ _ => (pv 6))) pa_nil)) pe_int (nomark _))))) (pss_one (ps_asg (pv 4) (pg_sub (pv 3) (pv 5) set_list))) pss_nil)))))
    (pss_one (ps_ret (pv 3))))))
  · have z := ws_law_steps (c := c) hT; subst hc; exact z

theorem sc_law_far : FnScope ["n", "ties", "place"] ["n", "ties"] (defScope s_law_far) := ⟨rfl, rfl, rfl, by decide +kernel, rfl, by decide +kernel, by decide +kernel⟩
theorem ok_law_far {f : Addr} {fd : FuncData} (F : FnP K "_law_far" s_law_far f fd) (g : mg "_law_far" = some (.ref f)) (X : Fx K mg) (C_law_steps : Cal P w K mg base 2 "_law_steps" (SpD T_law_steps) []) : Cal P w K mg base 3 "_law_far" (SpD T_law_far) [] := by
  have b : Binds K fd ["n", "ties"] [] := F.bindsN fun _ _ _ _ _ _ us hl => match us, hl with | [_, _], _ => rfl
  refine ⟨f, fd, _, [], F.ok sc_law_far (SpD.len (n := 2) fun ds Φ h => by first | (obtain ⟨rfl, _⟩ := h; rfl) | (obtain ⟨_, rfl, _⟩ := h; rfl) | (obtain ⟨_, _, rfl, _⟩ := h; rfl) | (obtain ⟨_, _, _, rfl, _⟩ := h; rfl) | (obtain ⟨_, _, _, _, rfl, _⟩ := h; rfl) | (obtain ⟨_, _, _, _, _, rfl, _⟩ := h; rfl) | (obtain ⟨_, _, _, _, _, _, rfl, _⟩ := h; rfl) | (obtain ⟨_, _, _, _, _, _, _, rfl, _⟩ := h; rfl)) (fun cdv A outer s H vs Q E hr h => ⟨t_law_far K, PSs.nox ?_, enterD (K := K) h fun ds Φ c hc hT => ?_⟩), g, F.kp, b, .nil⟩
  · exact (pss_one (ps_ret (pe_lc (own := [("place", 2)]) rfl sc_law_far.nd (pi_range1 rfl X.b_range (pa_cons (pv 0) pa_nil)) (blkOk_by (own := [("place", 2)]) (by kernel_rfl)) (fun _ _ _ _ _ => (pg_name (i := 2) sc_law_far.nd rfl (Or.inl rfl))) (fun _ _ _ _ _ => pts_nil) (fun _ _ _ _ _ => (pe_c C_law_steps hr (by decide) rfl (pa_cons (pv 0) (pa_cons (pv 1) (pa_cons (pv 2) pa_nil))))))))
  · have z := ws_law_far (c := c) hT; subst hc; exact z

theorem sc_law_due : FnScope ["table", "greatest", "row", "k"] ["table"] (defScope s_law_due) := ⟨rfl, rfl, rfl, by decide +kernel, rfl, by decide +kernel, by decide +kernel⟩
theorem ok_law_due {f : Addr} {fd : FuncData} (F : FnP K "_law_due" s_law_due f fd) (g : mg "_law_due" = some (.ref f)) (X : Fx K mg)  : Cal P w K mg base 1 "_law_due" (SpD T_law_due) [] := by
  have b : Binds K fd ["table"] [] := F.bindsN fun _ _ _ _ _ _ us hl => match us, hl with | [_], _ => rfl
  refine ⟨f, fd, _, [], F.ok sc_law_due (SpD.len (n := 1) fun ds Φ h => by first | (obtain ⟨rfl, _⟩ := h; rfl) | (obtain ⟨_, rfl, _⟩ := h; rfl) | (obtain ⟨_, _, rfl, _⟩ := h; rfl) | (obtain ⟨_, _, _, rfl, _⟩ := h; rfl) | (obtain ⟨_, _, _, _, rfl, _⟩ := h; rfl) | (obtain ⟨_, _, _, _, _, rfl, _⟩ := h; rfl) | (obtain ⟨_, _, _, _, _, _, rfl, _⟩ := h; rfl) | (obtain ⟨_, _, _, _, _, _, _, rfl, _⟩ := h; rfl)) (fun cdv A outer s H vs Q E hr h => ⟨t_law_due K, PSs.nox ?_, enterD (K := K) h fun ds Φ c hc hT => ?_⟩), g, F.kp, b, .nil⟩
  · exact (pss_cons (ps_set (i := 1) sc_law_due.nd rfl (Or.inr rfl) (pe_lc (own := [("row", 2)]) rfl sc_law_due.nd (pi_seq (pv 0)) (blkOk_by (own := [("row", 2)]) (by kernel_rfl)) (fun _ _ _ _ _ => (pg_name (i := 2) sc_law_due.nd rfl (Or.inl rfl))) (fun _ _ _ _ _ => pts_nil) (fun _ _ _ _ _ => (pe_callB (cr_max rfl) rfl X.b_max (by decide +kernel) (pa_cons (pv 2) pa_nil)))))
    (pss_one (ps_ret (pe_lc (own := [("k", 3)]) rfl sc_law_due.nd (pi_range1 rfl X.b_range (pa_cons (pe_callB call_len rfl X.b_len (by decide +kernel) (pa_cons (pv 0) pa_nil)) pa_nil)) (blkOk_by (own := [("k", 3)]) (by kernel_rfl)) (fun _ _ _ _ _ => (pg_name (i := 3) sc_law_due.nd rfl (Or.inl rfl))) (fun _ _ _ _ _ => (pts_one (pt_cmpR (op_eqD hr.units) (pe_ix ix_seq (pv 1) (pv 3) (fun _ _ => rfl)) (pe_callB (cr_min rfl) rfl X.b_min (by decide +kernel) (pa_cons (pv 1) pa_nil)) (nomark _)))) (fun _ _ _ _ _ => (pv 3))))))
  · have z := ws_law_due (c := c) hT; subst hc; exact z

theorem sc_law_told : FnScope ["n", "ties", "handed", "told", "x", "kept"] ["n", "ties"] (defScope s_law_told) := ⟨rfl, rfl, rfl, by decide +kernel, rfl, by decide +kernel, by decide +kernel⟩
theorem ok_law_told {f : Addr} {fd : FuncData} (F : FnP K "_law_told" s_law_told f fd) (g : mg "_law_told" = some (.ref f)) (X : Fx K mg) (C_centre_of : Cal P w K mg base 2 "centre_of" (SpD T_centre_of) []) (C_law_is_whole : Cal P w K mg base 1 "_law_is_whole" (SpD T_law_is_whole) []) : Cal P w K mg base 3 "_law_told" (SpD T_law_told) [] := by
  have b : Binds K fd ["n", "ties"] [] := F.bindsN fun _ _ _ _ _ _ us hl => match us, hl with | [_, _], _ => rfl
  refine ⟨f, fd, _, [], F.ok sc_law_told (SpD.len (n := 2) fun ds Φ h => by first | (obtain ⟨rfl, _⟩ := h; rfl) | (obtain ⟨_, rfl, _⟩ := h; rfl) | (obtain ⟨_, _, rfl, _⟩ := h; rfl) | (obtain ⟨_, _, _, rfl, _⟩ := h; rfl) | (obtain ⟨_, _, _, _, rfl, _⟩ := h; rfl) | (obtain ⟨_, _, _, _, _, rfl, _⟩ := h; rfl) | (obtain ⟨_, _, _, _, _, _, rfl, _⟩ := h; rfl) | (obtain ⟨_, _, _, _, _, _, _, rfl, _⟩ := h; rfl)) (fun cdv A outer s H vs Q E hr h => ⟨t_law_told K, PSs.nox ?_, enterD (K := K) h fun ds Φ c hc hT => ?_⟩), g, F.kp, b, .nil⟩
  · exact (pss_cons (ps_set (i := 2) sc_law_told.nd rfl (Or.inl rfl) (pe_callTy call_list_of rfl X.b_list (by decide +kernel) (pa_cons (pv 1) pa_nil)))
    (pss_cons (ps_set (i := 3) sc_law_told.nd rfl (Or.inl rfl) (pe_c C_centre_of hr (by decide) rfl (pa_cons (pv 0) (pa_cons (pv 2) pa_nil))))
    (pss_cons (ps_if (PW.pt (pw_or (pt_not (pt_truth (pe_callB call_isi rfl X.b_isinstance (by decide +kernel) (pa_cons (pv 3) (pa_cons (pe_bltn (v := .ty "list") rfl X.b_list (by decide +kernel) rfl) pa_nil))) (fun _ => rfl))) (pw_or (pt_cmpR (op_neD hr.units) (pe_callB call_len rfl X.b_len (by decide +kernel) (pa_cons (pe_lc (own := [("x", 4)]) rfl sc_law_told.nd (pi_seq (pv 3)) (blkOk_by (own := [("x", 4)]) (by kernel_rfl)) (fun _ _ _ _ _ => (pg_name (i := 4) sc_law_told.nd rfl (Or.inl rfl))) (fun _ _ _ _ _ => (pts_one (pt_truth (pe_c C_law_is_whole hr (by decide) rfl (pa_cons (pv 4) pa_nil)) (fun _ => rfl)))) (fun _ _ _ _ _ => (pv 4))) pa_nil)) (pe_callB call_len rfl X.b_len (by decide +kernel) (pa_cons (pv 3) pa_nil)) (nomark _)) (pw_or1 (pt_cmpR (op_neD hr.units) (pv 2) (pv 1) (nomark _)))))) (pss_one (ps_ret pe_non)) pss_nil)
    (pss_cons (ps_set (i := 5) sc_law_told.nd rfl (Or.inl rfl) (pe_callTy call_list_of rfl X.b_list (by decide +kernel) (pa_cons (pv 3) pa_nil)))
    (pss_cons (ps_expr (pe_bm PySem.F.plainAttrs_list PySem.F.slot_list_append PySem.F.type_list_append mt_append (pv 3) (pa_cons pe_int pa_nil)))
    (pss_cons (ps_if (pt_cmpR (op_neD hr.units) (pe_c C_centre_of hr (by decide) rfl (pa_cons (pv 0) (pa_cons (pv 2) pa_nil))) (pv 5) (nomark _)) (pss_one (ps_ret pe_non)) pss_nil)
    (pss_one (ps_ret (pv 5)))))))))
  · have z := ws_law_told (c := c) hT; subst hc; exact z

theorem sc_law_in_the_middle : FnScope ["n", "table", "centre", "long", "row", "i", "j", "place"] ["n", "table", "centre"] (defScope s_law_in_the_middle) := ⟨rfl, rfl, rfl, by decide +kernel, rfl, by decide +kernel, by decide +kernel⟩
theorem ok_law_in_the_middle {f : Addr} {fd : FuncData} (F : FnP K "_law_in_the_middle" s_law_in_the_middle f fd) (g : mg "_law_in_the_middle" = some (.ref f)) (X : Fx K mg) (C_law_pairs : Cal P w K mg base 1 "_law_pairs" (SpD T_law_pairs) []) : Cal P w K mg base 2 "_law_in_the_middle" (SpD T_law_in_the_middle) [] := by
  have b : Binds K fd ["n", "table", "centre"] [] := F.bindsN fun _ _ _ _ _ _ us hl => match us, hl with | [_, _, _], _ => rfl
  refine ⟨f, fd, _, [], F.ok sc_law_in_the_middle (SpD.len (n := 3) fun ds Φ h => by first | (obtain ⟨rfl, _⟩ := h; rfl) | (obtain ⟨_, rfl, _⟩ := h; rfl) | (obtain ⟨_, _, rfl, _⟩ := h; rfl) | (obtain ⟨_, _, _, rfl, _⟩ := h; rfl) | (obtain ⟨_, _, _, _, rfl, _⟩ := h; rfl) | (obtain ⟨_, _, _, _, _, rfl, _⟩ := h; rfl) | (obtain ⟨_, _, _, _, _, _, rfl, _⟩ := h; rfl) | (obtain ⟨_, _, _, _, _, _, _, rfl, _⟩ := h; rfl)) (fun cdv A outer s H vs Q E hr h => ⟨t_law_in_the_middle K, PSs.nox ?_, enterD (K := K) h fun ds Φ c hc hT => ?_⟩), g, F.kp, b, .nil⟩
  · exact (pss_cons (ps_set (i := 3) sc_law_in_the_middle.nd rfl (Or.inl rfl) (pe_callB (cr_max rfl) rfl X.b_max (by decide +kernel) (pa_cons (pe_lc (own := [("row", 4)]) rfl sc_law_in_the_middle.nd (pi_seq (pv 1)) (blkOk_by (own := [("row", 4)]) (by kernel_rfl)) (fun _ _ _ _ _ => (pg_name (i := 4) sc_law_in_the_middle.nd rfl (Or.inl rfl))) (fun _ _ _ _ _ => pts_nil) (fun _ _ _ _ _ => (pe_callB (cr_max rfl) rfl X.b_max (by decide +kernel) (pa_cons (pv 4) pa_nil)))) pa_nil)))
    (pss_cons (ps_if (pt_cmpR (op_neD hr.units) (pe_callB call_len rfl X.b_len (by decide +kernel) (pa_cons (pv 2) pa_nil)) (pe_op op_addA pe_int (pe_op op_modN (pe_callTy call_int1 rfl X.b_int (by decide +kernel) (pa_cons (pv 3) pa_nil)) pe_int)) (nomark _)) (pss_one (ps_ret pe_bl)) pss_nil)
    (pss_cons (ps_if (PW.pt (pw_and (pt_cmpR (op_eqD hr.units) (pe_callB call_len rfl X.b_len (by decide +kernel) (pa_cons (pv 2) pa_nil)) pe_int (nomark _)) (pw_and1 (pt_cmpR (op_neD hr.units) (pe_ix ix_seq (pe_ix ix_seq (pv 1) (pe_ix ix_seq (pv 2) pe_int (fun _ _ => rfl)) (fun _ _ => rfl)) (pe_ix ix_seq (pv 2) pe_int (fun _ _ => rfl)) (fun _ _ => rfl)) pe_int (nomark _))))) (pss_one (ps_ret pe_bl)) pss_nil)
    (pss_cons (ps_for PassesOwn.never rfl (pi_seq (pe_c C_law_pairs hr (by decide) rfl (pa_cons (pv 0) pa_nil))) (pg_tup rfl (pgs_cons (pg_name (i := 5) sc_law_in_the_middle.nd rfl (Or.inl rfl)) (pgs_cons (pg_name (i := 6) sc_law_in_the_middle.nd rfl (Or.inl rfl)) pgs_nil))) (pss_one (ps_if (pt_cmpR (op_eqD hr.units) (pe_ix ix_seq (pe_ix ix_seq (pv 1) (pv 5) (fun _ _ => rfl)) (pv 6) (fun _ _ => rfl)) (pv 3) (nomark _)) (pss_one (ps_for PassesOwn.never rfl (pi_seq (pv 2)) (pg_name (i := 7) sc_law_in_the_middle.nd rfl (Or.inl rfl)) (pss_one (ps_if (PW.pt (pw_or (pt_cmpR (op_neD hr.units) (pe_op op_addA (pe_ix ix_seq (pe_ix ix_seq (pv 1) (pv 5) (fun _ _ => rfl)) (pv 7) (fun _ _ => rfl)) (pe_ix ix_seq (pe_ix ix_seq (pv 1) (pv 7) (fun _ _ => rfl)) (pv 6) (fun _ _ => rfl))) (pv 3) (nomark _)) (pw_or1 (pt_cmpR op_gtI (pe_callB call_abs rfl X.b_abs (by decide +kernel) (pa_cons (pe_op op_sub (pe_ix ix_seq (pe_ix ix_seq (pv 1) (pv 5) (fun _ _ => rfl)) (pv 7) (fun _ _ => rfl)) (pe_ix ix_seq (pe_ix ix_seq (pv 1) (pv 7) (fun _ _ => rfl)) (pv 6) (fun _ _ => rfl))) pa_nil)) pe_int (nomark _))))) (pss_one (ps_ret pe_bl)) pss_nil)))) pss_nil)))
    (pss_one (ps_ret pe_bl))))))
  · have z := ws_law_in_the_middle (c := c) hT; subst hc; exact z

theorem sc_law_more : FnScope ["feed", "n", "ties", "table", "centre", "place", "told", "k", "near"] ["feed", "n", "ties", "table", "centre"] (defScope s_law_more) := ⟨rfl, rfl, rfl, by decide +kernel, rfl, by decide +kernel, by decide +kernel⟩
theorem ok_law_more {f : Addr} {fd : FuncData} (F : FnP K "_law_more" s_law_more f fd) (g : mg "_law_more" = some (.ref f)) (X : Fx K mg) (C_law_draw : Cal P w K mg base 1 "_law_draw" (SpF K T_law_draw) []) (C_law_told : Cal P w K mg base 3 "_law_told" (SpD T_law_told) []) : Cal P w K mg base 4 "_law_more" (SpF K T_law_more) [] := by
  have b : Binds K fd ["feed", "n", "ties", "table", "centre"] [] := F.bindsN fun _ _ _ _ _ _ us hl => match us, hl with | [_, _, _, _, _], _ => rfl
  refine ⟨f, fd, _, [], F.ok sc_law_more (SpF.len (n := 4) fun ds Φ h => by first | (obtain ⟨rfl, _⟩ := h; rfl) | (obtain ⟨_, rfl, _⟩ := h; rfl) | (obtain ⟨_, _, rfl, _⟩ := h; rfl) | (obtain ⟨_, _, _, rfl, _⟩ := h; rfl) | (obtain ⟨_, _, _, _, rfl, _⟩ := h; rfl) | (obtain ⟨_, _, _, _, _, rfl, _⟩ := h; rfl) | (obtain ⟨_, _, _, _, _, _, rfl, _⟩ := h; rfl) | (obtain ⟨_, _, _, _, _, _, _, rfl, _⟩ := h; rfl)) (fun cdv A outer s H vs Q E hr h => ⟨t_law_more K, PSs.nox ?_, enterF h fun ds Φ c a s ns hc hB hT => ?_⟩), g, F.kp, b, .nil⟩
  · exact (pss_cons (ps_set (i := 5) sc_law_more.nd rfl (Or.inl rfl) (pe_c C_law_draw hr (by decide) rfl (pa_cons (pv 0) (pa_cons (pv 1) pa_nil))))
    (pss_cons (ps_set (i := 6) sc_law_more.nd rfl (Or.inl rfl) (pe_c C_law_told hr (by decide) rfl (pa_cons (pe_op op_addA (pv 1) pe_int) (pa_cons (pe_callB cr_sortedA rfl X.b_sorted (by decide +kernel) (pa_cons (pe_op op_addA (pv 2) (pe_lst (pa_cons (pe_tup (pa_cons (pv 5) (pa_cons (pv 1) pa_nil))) pa_nil))) pa_nil)) pa_nil))))
    (pss_cons (ps_if (PW.pt (pw_or (pt_cmp (pc_isN (pv 6))) (pw_or (pt_cmpR (op_ltA hr.units0) (pe_callB call_len rfl X.b_len (by decide +kernel) (pa_cons (pv 6) pa_nil)) pe_int (nomark _)) (pw_or1 (pt_cmpR op_gtI (pe_callB call_len rfl X.b_len (by decide +kernel) (pa_cons (pe_lc (own := [("k", 7)]) rfl sc_law_more.nd (pi_seq (pv 6)) (blkOk_by (own := [("k", 7)]) (by kernel_rfl)) (fun _ _ _ _ _ => (pg_name (i := 7) sc_law_more.nd rfl (Or.inl rfl))) (fun _ _ _ _ _ => (pts_one (pt_not (pt_chain op_leI op_leI pe_int (pv 7) (pv 1))))) (fun _ _ _ _ _ => (pv 7))) pa_nil)) pe_int (nomark _)))))) (pss_one (ps_ret pe_bl)) pss_nil)
    (pss_cons (ps_setLc (i := 8) (own := [("k", 7)]) rfl sc_law_more.nd rfl rfl (sw_true rfl rfl rfl (by decide +kernel)) (pi_seq (pv 6)) (blkOk_by (own := [("k", 7)]) (by kernel_rfl)) (fun _ _ _ _ _ => (pg_name (i := 7) sc_law_more.nd rfl (Or.inl rfl))) (fun _ _ _ _ _ => (pts_one (pt_cmpR (op_ltA hr.units0) (pv 7) (pv 1) (nomark _)))) (fun _ _ _ _ _ => (pv 7)))
    (pss_cons (ps_if (pt_cmpR (op_eqD hr.units) (pv 1) pe_int (nomark _)) (pss_one (ps_ret (pe_cmpR (op_eqD hr.units) (pv 6) (pe_lst (pa_cons pe_int (pa_cons pe_int pa_nil))) (nomark _)))) pss_nil)
    (pss_cons (ps_for PassesOwn.never rfl (pi_seq (pv 8)) (pg_name (i := 7) sc_law_more.nd rfl (Or.inr rfl)) (pss_one (ps_if (pt_cmpR op_gtI (pe_callB (cr_min rfl) rfl X.b_min (by decide +kernel) (pa_cons (pe_lc (own := [("place", 5)]) rfl sc_law_more.nd (pi_seq (pv 4)) (blkOk_by (own := [("place", 5)]) (by kernel_rfl)) (fun _ _ _ _ _ => (pg_name (i := 5) sc_law_more.nd rfl (Or.inl rfl))) (fun _ _ _ _ _ => pts_nil) (fun _ _ _ _ _ => (pe_ix ix_seq (pe_ix ix_seq (pv 3) (pv 7) (fun _ _ => rfl)) (pv 5) (fun _ _ => rfl)))) pa_nil)) pe_int (nomark _)) (pss_one (ps_ret pe_bl)) pss_nil)))
    (pss_one (ps_ret (pe_cmpR (op_eqD hr.units) (pe_callB call_len rfl X.b_len (by decide +kernel) (pa_cons (pv 8) pa_nil)) (pe_callB call_len rfl X.b_len (by decide +kernel) (pa_cons (pv 6) pa_nil)) (nomark _))))))))))
  · have z := ws_law_more (c := c) (a := a) (s := s) (ns := ns) hT; subst hc; exact z

theorem sc_law : FnScope ["script", "feed", "turn", "n", "ties", "table", "centre", "names", "k"] ["script"] (defScope s_law) := ⟨rfl, rfl, rfl, by decide +kernel, rfl, by decide +kernel, by decide +kernel⟩
theorem ok_law {f : Addr} {fd : FuncData} (F : FnP K "law" s_law f fd) (X : Fx K mg) (C_law_feed : Cal P w K mg base 1 "_law_feed" (SpFeed K) []) (C_law_tree : Cal P w K mg base 3 "_law_tree" (SpF K T_law_tree) []) (C_law_far : Cal P w K mg base 3 "_law_far" (SpD T_law_far) []) (C_law_told : Cal P w K mg base 3 "_law_told" (SpD T_law_told) []) (C_law_names : Cal P w K mg base 2 "_law_names" (SpF K T_law_names) []) (C_centre_of : Cal P w K mg base 2 "centre_of" (SpD T_centre_of) []) (C_law_draw : Cal P w K mg base 1 "_law_draw" (SpF K T_law_draw) []) (C_far : Cal P w K mg base 5 "far" (SpD T_far) []) (C_law_due : Cal P w K mg base 1 "_law_due" (SpD T_law_due) []) (C_law_in_the_middle : Cal P w K mg base 2 "_law_in_the_middle" (SpD T_law_in_the_middle) []) (C_law_renamed : Cal P w K mg base 2 "_law_renamed" (SpD T_law_renamed) []) (C_law_more : Cal P w K mg base 4 "_law_more" (SpF K T_law_more) []) : FnOk P w K mg base CX0 6 f fd ["script"] (spLaw K) := by
  refine F.ok sc_law (fun vs H Q E h => ?_) (fun cdv A outer s H vs Q E hr h => ⟨t_law K, PSs.nox ?_, enterL h fun ns c hc => ?_⟩)
  · obtain ⟨a, ns, rfl, _⟩ := h
    rfl
  · exact (pss_cons (ps_set (i := 1) sc_law.nd rfl (Or.inl rfl) (pe_c C_law_feed hr (by decide) rfl (pa_cons (pv 0) pa_nil)))
    (pss_cons (ps_for PassesOwn.never rfl (pi_range1 rfl X.b_range (pa_cons pe_int pa_nil)) (pg_name (i := 2) sc_law.nd rfl (Or.inl rfl)) (pss_cons (ps_set (i := 3) sc_law.nd rfl (Or.inl rfl) (pe_op op_addA pe_int (pe_c C_law_draw hr (by decide) rfl (pa_cons (pv 1) (pa_cons pe_int pa_nil)))))
    (pss_cons (ps_set (i := 4) sc_law.nd rfl (Or.inl rfl) (pe_c C_law_tree hr (by decide) rfl (pa_cons (pv 1) (pa_cons (pv 3) pa_nil))))
    (pss_cons (ps_set (i := 5) sc_law.nd rfl (Or.inl rfl) (pe_c C_law_far hr (by decide) rfl (pa_cons (pv 3) (pa_cons (pv 4) pa_nil))))
    (pss_cons (ps_set (i := 6) sc_law.nd rfl (Or.inl rfl) (pe_c C_law_told hr (by decide) rfl (pa_cons (pv 3) (pa_cons (pv 4) pa_nil))))
    (pss_cons (ps_if (PW.pt (pw_or (pt_cmp (pc_isN (pv 6))) (pw_or (pt_cmpR (op_neD hr.units) (pv 6) (pe_c C_law_due hr (by decide) rfl (pa_cons (pv 5) pa_nil)) (nomark _)) (pw_or1 (pt_not (pt_truth (pe_c C_law_in_the_middle hr (by decide) rfl (pa_cons (pv 3) (pa_cons (pv 5) (pa_cons (pv 6) pa_nil)))) (fun _ => rfl))))))) (pss_one (ps_ret pe_bl)) pss_nil)
    (pss_cons (ps_if (pt_cmpR (op_neD hr.units) (pe_c C_far hr (by decide) rfl (pa_cons (pv 3) (pa_cons (pe_callTy call_list_of rfl X.b_list (by decide +kernel) (pa_cons (pv 4) pa_nil)) pa_nil))) (pv 5) (nomark _)) (pss_one (ps_ret pe_bl)) pss_nil)
    (pss_cons (ps_set (i := 7) sc_law.nd rfl (Or.inr rfl) (pe_c C_law_names hr (by decide) rfl (pa_cons (pv 1) (pa_cons (pv 3) pa_nil))))
    (pss_cons (ps_if (pt_cmpR (op_neD hr.units) (pe_c C_law_told hr (by decide) rfl (pa_cons (pv 3) (pa_cons (pe_c C_law_renamed hr (by decide) rfl (pa_cons (pv 4) (pa_cons (pv 7) pa_nil))) pa_nil))) (pe_callB cr_sortedA rfl X.b_sorted (by decide +kernel) (pa_cons (pe_lc (own := [("k", 8)]) rfl sc_law.nd (pi_seq (pv 6)) (blkOk_by (own := [("k", 8)]) (by kernel_rfl)) (fun _ _ _ _ _ => (pg_name (i := 8) sc_law.nd rfl (Or.inl rfl))) (fun _ _ _ _ _ => pts_nil) (fun _ _ _ _ _ => (pe_ix ix_seq (pv 7) (pv 8) (fun _ _ => rfl)))) pa_nil)) (nomark _)) (pss_one (ps_ret pe_bl)) pss_nil)
    (pss_one (ps_if (PW.pt (pw_and (pt_cmpR (op_ltA hr.units0) (pv 3) pe_int (nomark _)) (pw_and1 (pt_not (pt_truth (pe_c C_law_more hr (by decide) rfl (pa_cons (pv 1) (pa_cons (pv 3) (pa_cons (pv 4) (pa_cons (pv 5) (pa_cons (pv 6) pa_nil)))))) (fun _ => rfl)))))) (pss_one (ps_ret pe_bl)) pss_nil)))))))))))
    (pss_cons (ps_if (PW.pt (pw_or (pt_cmpR (op_neD hr.units) (pe_c C_centre_of hr (by decide) rfl (pa_cons pe_int (pa_cons (pe_lst pa_nil) pa_nil))) (pe_lst (pa_cons pe_int pa_nil)) (nomark _)) (pw_or1 (pt_cmpR (op_neD hr.units) (pe_c C_centre_of hr (by decide) rfl (pa_cons pe_int (pa_cons (pe_lst (pa_cons (pe_tup (pa_cons pe_int (pa_cons pe_int pa_nil))) pa_nil)) pa_nil))) (pe_lst (pa_cons pe_int (pa_cons pe_int pa_nil))) (nomark _))))) (pss_one (ps_ret pe_bl)) pss_nil)
    (pss_one (ps_ret (pe_cmpR (op_eqD hr.units) (pe_c C_centre_of hr (by decide) rfl (pa_cons pe_int (pa_cons (pe_lst (pa_cons (pe_tup (pa_cons pe_int (pa_cons pe_int pa_nil))) (pa_cons (pe_tup (pa_cons pe_int (pa_cons pe_int pa_nil))) (pa_cons (pe_tup (pa_cons pe_int (pa_cons pe_int pa_nil))) (pa_cons (pe_tup (pa_cons pe_int (pa_cons pe_int pa_nil))) pa_nil))))) pa_nil))) (pe_lst (pa_cons pe_int (pa_cons pe_int pa_nil))) (nomark _)))))))
  · subst hc; exact ws_law

end
def d_tie_of : He.DefD := ⟨("tie_of", none), "tie_of", "tie_of", defArgs s_tie_of, defBody s_tie_of, defScope s_tie_of, [], []⟩
def d_are_joined : He.DefD := ⟨("are_joined", none), "are_joined", "are_joined", defArgs s_are_joined, defBody s_are_joined, defScope s_are_joined, [], []⟩
def d_neighbours : He.DefD := ⟨("neighbours", none), "neighbours", "neighbours", defArgs s_neighbours, defBody s_neighbours, defScope s_neighbours, [], []⟩
def d_degrees : He.DefD := ⟨("degrees", none), "degrees", "degrees", defArgs s_degrees, defBody s_degrees, defScope s_degrees, [], []⟩
def d_centre_of : He.DefD := ⟨("centre_of", none), "centre_of", "centre_of", defArgs s_centre_of, defBody s_centre_of, defScope s_centre_of, [], []⟩
def d_steps_from : He.DefD := ⟨("steps_from", none), "steps_from", "steps_from", defArgs s_steps_from, defBody s_steps_from, defScope s_steps_from, [], []⟩
def d_far : He.DefD := ⟨("far", none), "far", "far", defArgs s_far, defBody s_far, defScope s_far, [], []⟩
def d_law_feed : He.DefD := ⟨("_law_feed", none), "_law_feed", "_law_feed", defArgs s_law_feed, defBody s_law_feed, defScope s_law_feed, [], []⟩
def d_law_draw : He.DefD := ⟨("_law_draw", none), "_law_draw", "_law_draw", defArgs s_law_draw, defBody s_law_draw, defScope s_law_draw, [], []⟩
def d_law_is_whole : He.DefD := ⟨("_law_is_whole", none), "_law_is_whole", "_law_is_whole", defArgs s_law_is_whole, defBody s_law_is_whole, defScope s_law_is_whole, [], []⟩
def d_law_pairs : He.DefD := ⟨("_law_pairs", none), "_law_pairs", "_law_pairs", defArgs s_law_pairs, defBody s_law_pairs, defScope s_law_pairs, [], []⟩
def d_law_names : He.DefD := ⟨("_law_names", none), "_law_names", "_law_names", defArgs s_law_names, defBody s_law_names, defScope s_law_names, [], []⟩
def d_law_tie : He.DefD := ⟨("_law_tie", none), "_law_tie", "_law_tie", defArgs s_law_tie, defBody s_law_tie, defScope s_law_tie, [], []⟩
def d_law_renamed : He.DefD := ⟨("_law_renamed", none), "_law_renamed", "_law_renamed", defArgs s_law_renamed, defBody s_law_renamed, defScope s_law_renamed, [], []⟩
def d_law_tree : He.DefD := ⟨("_law_tree", none), "_law_tree", "_law_tree", defArgs s_law_tree, defBody s_law_tree, defScope s_law_tree, [], []⟩
def d_law_steps : He.DefD := ⟨("_law_steps", none), "_law_steps", "_law_steps", defArgs s_law_steps, defBody s_law_steps, defScope s_law_steps, [], []⟩
def d_law_far : He.DefD := ⟨("_law_far", none), "_law_far", "_law_far", defArgs s_law_far, defBody s_law_far, defScope s_law_far, [], []⟩
def d_law_due : He.DefD := ⟨("_law_due", none), "_law_due", "_law_due", defArgs s_law_due, defBody s_law_due, defScope s_law_due, [], []⟩
def d_law_told : He.DefD := ⟨("_law_told", none), "_law_told", "_law_told", defArgs s_law_told, defBody s_law_told, defScope s_law_told, [], []⟩
def d_law_in_the_middle : He.DefD := ⟨("_law_in_the_middle", none), "_law_in_the_middle", "_law_in_the_middle", defArgs s_law_in_the_middle, defBody s_law_in_the_middle, defScope s_law_in_the_middle, [], []⟩
def d_law_more : He.DefD := ⟨("_law_more", none), "_law_more", "_law_more", defArgs s_law_more, defBody s_law_more, defScope s_law_more, [], []⟩
def d_law : He.DefD := ⟨("law", none), "law", "law", defArgs s_law, defBody s_law, defScope s_law, [], []⟩
def fn : List He.DefD := [d_tie_of, d_are_joined, d_neighbours, d_degrees, d_centre_of, d_steps_from, d_far, d_law_feed, d_law_draw, d_law_is_whole, d_law_pairs, d_law_names, d_law_tie, d_law_renamed, d_law_tree, d_law_steps, d_law_far, d_law_due, d_law_told, d_law_in_the_middle, d_law_more, d_law]
def fa : List He.Fa := [.glo "tie_of", .glo "are_joined", .glo "neighbours", .glo "degrees", .glo "centre_of", .glo "steps_from", .glo "far", .glo "_law_feed", .glo "_law_draw", .glo "_law_is_whole", .glo "_law_pairs", .glo "_law_names", .glo "_law_tie", .glo "_law_renamed", .glo "_law_tree", .glo "_law_steps", .glo "_law_far", .glo "_law_due", .glo "_law_told", .glo "_law_in_the_middle", .glo "_law_more", .glo "law", .free "max", .free "min", .free "range", .free "len", .free "list", .free "abs", .free "int", .free "bool", .free "isinstance", .free "sorted"]
abbrev Rw : PySem.W.OpenRow := PySem.W.OpenLaw.row PySem.Challenge.rw_havenwebs_k86_whole_centres_of_trees
abbrev hk : PySem.W.Hook := He.hookD 4 fa fn
def ob (s : PySem.W.SharedT) : He.AlD := He.obsDG 4 fa fn (HandSHeadRun.getT s)
theorem ob_eq (s : PySem.W.SharedT) : ob s = hk.obs s.abs := He.obsDG_eq (HandSHeadRun.getT_eq s)
def loose0 : List Str := ["tie_of", "are_joined", "neighbours", "degrees", "centre_of", "steps_from", "far", "_law_feed", "_law_draw", "_law_is_whole", "_law_pairs", "_law_names", "_law_tie", "_law_renamed", "_law_tree", "_law_steps", "_law_far", "_law_due", "_law_told", "_law_in_the_middle", "_law_more"]
theorem run (w : World) : HandSHeadRun.RunEq Rw (PySem.W.view Rw.prog [25]) hk ob 3000 (["tie_of", "are_joined", "neighbours", "degrees", "centre_of", "steps_from", "far", "_law_feed", "_law_draw", "_law_is_whole", "_law_pairs", "_law_names", "_law_tie", "_law_renamed", "_law_tree", "_law_steps", "_law_far", "_law_due", "_law_told", "_law_in_the_middle", "_law_more"]) w := by
  intro os
  kernel_rfl
theorem facts {P : Program} {w : World} {K : PySem.W.Frag} {h : Heap} {mg : Str → Option Value} {f : Addr} (X : K.In h) (G : h.Ns mainGlobals mg) (hfa : mg ("law" : Str) = some (.ref f)) (c : He.SaysD fa fn K) :
    ∃ fd : FuncData, (∀ (s : Shared) (v : Value), BindsTo s fd ⟨[v], []⟩ [("script", v)]) ∧ ∀ base : Heap, K.In base → base.Ns mainGlobals mg → FnOk P w K mg base CX0 6 f fd ["script"] (spLaw K) := by
  obtain ⟨fd0, F0⟩ := c.def_ 0 (d := d_tie_of) rfl
  have g0 := He.glo_ok X G (c.fact 0 (f := .glo "tie_of") rfl)
  obtain ⟨fd1, F1⟩ := c.def_ 1 (d := d_are_joined) rfl
  have g1 := He.glo_ok X G (c.fact 1 (f := .glo "are_joined") rfl)
  obtain ⟨fd2, F2⟩ := c.def_ 2 (d := d_neighbours) rfl
  have g2 := He.glo_ok X G (c.fact 2 (f := .glo "neighbours") rfl)
  obtain ⟨fd3, F3⟩ := c.def_ 3 (d := d_degrees) rfl
  have g3 := He.glo_ok X G (c.fact 3 (f := .glo "degrees") rfl)
  obtain ⟨fd4, F4⟩ := c.def_ 4 (d := d_centre_of) rfl
  have g4 := He.glo_ok X G (c.fact 4 (f := .glo "centre_of") rfl)
  obtain ⟨fd5, F5⟩ := c.def_ 5 (d := d_steps_from) rfl
  have g5 := He.glo_ok X G (c.fact 5 (f := .glo "steps_from") rfl)
  obtain ⟨fd6, F6⟩ := c.def_ 6 (d := d_far) rfl
  have g6 := He.glo_ok X G (c.fact 6 (f := .glo "far") rfl)
  obtain ⟨fd7, F7⟩ := c.def_ 7 (d := d_law_feed) rfl
  have g7 := He.glo_ok X G (c.fact 7 (f := .glo "_law_feed") rfl)
  obtain ⟨fd8, F8⟩ := c.def_ 8 (d := d_law_draw) rfl
  have g8 := He.glo_ok X G (c.fact 8 (f := .glo "_law_draw") rfl)
  obtain ⟨fd9, F9⟩ := c.def_ 9 (d := d_law_is_whole) rfl
  have g9 := He.glo_ok X G (c.fact 9 (f := .glo "_law_is_whole") rfl)
  obtain ⟨fd10, F10⟩ := c.def_ 10 (d := d_law_pairs) rfl
  have g10 := He.glo_ok X G (c.fact 10 (f := .glo "_law_pairs") rfl)
  obtain ⟨fd11, F11⟩ := c.def_ 11 (d := d_law_names) rfl
  have g11 := He.glo_ok X G (c.fact 11 (f := .glo "_law_names") rfl)
  obtain ⟨fd12, F12⟩ := c.def_ 12 (d := d_law_tie) rfl
  have g12 := He.glo_ok X G (c.fact 12 (f := .glo "_law_tie") rfl)
  obtain ⟨fd13, F13⟩ := c.def_ 13 (d := d_law_renamed) rfl
  have g13 := He.glo_ok X G (c.fact 13 (f := .glo "_law_renamed") rfl)
  obtain ⟨fd14, F14⟩ := c.def_ 14 (d := d_law_tree) rfl
  have g14 := He.glo_ok X G (c.fact 14 (f := .glo "_law_tree") rfl)
  obtain ⟨fd15, F15⟩ := c.def_ 15 (d := d_law_steps) rfl
  have g15 := He.glo_ok X G (c.fact 15 (f := .glo "_law_steps") rfl)
  obtain ⟨fd16, F16⟩ := c.def_ 16 (d := d_law_far) rfl
  have g16 := He.glo_ok X G (c.fact 16 (f := .glo "_law_far") rfl)
  obtain ⟨fd17, F17⟩ := c.def_ 17 (d := d_law_due) rfl
  have g17 := He.glo_ok X G (c.fact 17 (f := .glo "_law_due") rfl)
  obtain ⟨fd18, F18⟩ := c.def_ 18 (d := d_law_told) rfl
  have g18 := He.glo_ok X G (c.fact 18 (f := .glo "_law_told") rfl)
  obtain ⟨fd19, F19⟩ := c.def_ 19 (d := d_law_in_the_middle) rfl
  have g19 := He.glo_ok X G (c.fact 19 (f := .glo "_law_in_the_middle") rfl)
  obtain ⟨fd20, F20⟩ := c.def_ 20 (d := d_law_more) rfl
  have g20 := He.glo_ok X G (c.fact 20 (f := .glo "_law_more") rfl)
  obtain ⟨fd21, F21⟩ := c.def_ 21 (d := d_law) rfl
  have g21 := He.glo_ok X G (c.fact 21 (f := .glo "law") rfl)
  have e := hfa.symm.trans g21
  cases e
  have Z : Fx K mg := ⟨He.free_ok X G (c.fact 22 (f := .free "max") rfl), He.free_ok X G (c.fact 23 (f := .free "min") rfl), He.free_ok X G (c.fact 24 (f := .free "range") rfl), He.free_ok X G (c.fact 25 (f := .free "len") rfl), He.free_ok X G (c.fact 26 (f := .free "list") rfl), He.free_ok X G (c.fact 27 (f := .free "abs") rfl), He.free_ok X G (c.fact 28 (f := .free "int") rfl), He.free_ok X G (c.fact 29 (f := .free "bool") rfl), He.free_ok X G (c.fact 30 (f := .free "isinstance") rfl), He.free_ok X G (c.fact 31 (f := .free "sorted") rfl)⟩
  have b := FunD.bindsA (ps := ["script"]) F21 fun _ _ _ _ _ _ us hl => match us, hl with | [_], _ => rfl
  refine ⟨fd21, fun s v => b s [v] rfl, fun base _ _ => ?_⟩
  have C0 := ok_tie_of (P := P) (w := w) (base := base) F0 g0 Z 
  have C1 := ok_are_joined (P := P) (w := w) (base := base) F1 g1 Z C0
  have C2 := ok_neighbours (P := P) (w := w) (base := base) F2 g2 Z C1
  have C3 := ok_degrees (P := P) (w := w) (base := base) F3 g3 Z 
  have C4 := ok_centre_of (P := P) (w := w) (base := base) F4 g4 Z C3
  have C5 := ok_steps_from (P := P) (w := w) (base := base) F5 g5 Z C2
  have C6 := ok_far (P := P) (w := w) (base := base) F6 g6 Z C5
  have C7 := ok_law_feed (P := P) (w := w) (base := base) F7 g7 Z 
  have C8 := ok_law_draw (P := P) (w := w) (base := base) F8 g8 Z 
  have C9 := ok_law_is_whole (P := P) (w := w) (base := base) F9 g9 Z 
  have C10 := ok_law_pairs (P := P) (w := w) (base := base) F10 g10 Z 
  have C11 := ok_law_names (P := P) (w := w) (base := base) F11 g11 Z C8
  have C12 := ok_law_tie (P := P) (w := w) (base := base) F12 g12 Z 
  have C13 := ok_law_renamed (P := P) (w := w) (base := base) F13 g13 Z C12
  have C14 := ok_law_tree (P := P) (w := w) (base := base) F14 g14 Z C8 C13 C11
  have C15 := ok_law_steps (P := P) (w := w) (base := base) F15 g15 Z C12
  have C16 := ok_law_far (P := P) (w := w) (base := base) F16 g16 Z C15
  have C17 := ok_law_due (P := P) (w := w) (base := base) F17 g17 Z 
  have C18 := ok_law_told (P := P) (w := w) (base := base) F18 g18 Z C4 C9
  have C19 := ok_law_in_the_middle (P := P) (w := w) (base := base) F19 g19 Z C10
  have C20 := ok_law_more (P := P) (w := w) (base := base) F20 g20 Z C8 C18
  exact ok_law (P := P) (w := w) (base := base) F21 Z C7 C14 C16 C18 C11 C4 C8 C6 C17 C19 C13 C20
end DL
open PySem PySem.W PySem.Calls PyProof.Rows
theorem PySem.Challenge.cw_havenwebs_k86_whole_centres_of_trees_holds : PySem.Challenge.rw_havenwebs_k86_whole_centres_of_trees.Holds := by
  w_on; o_law
  refine HandSHeadRun.head_any (r := OpenLaw.row PySem.Challenge.rw_havenwebs_k86_whole_centres_of_trees) (q := view (OpenLaw.row PySem.Challenge.rw_havenwebs_k86_whole_centres_of_trees).prog [25]) (H := DL.hk) (ob := DL.ob) (M := 3000) (loose := ["tie_of", "are_joined", "neighbours", "degrees", "centre_of", "steps_from", "far", "_law_feed", "_law_draw", "_law_is_whole", "_law_pairs", "_law_names", "_law_tie", "_law_renamed", "_law_tree", "_law_steps", "_law_far", "_law_due", "_law_told", "_law_in_the_middle", "_law_more"]) (d := HandSHeadRun.topDef (OpenLaw.row PySem.Challenge.rw_havenwebs_k86_whole_centres_of_trees).prog 25) (kwd := []) DL.ob_eq
    (by kernel_rfl) (fun s => by kernel_rfl) DL.run (by kernel_rfl) (by kernel_rfl) (by kernel_rfl) (by rfl) (by first | assumption | decide +kernel) (by decide +kernel) ⟨rfl, rfl, rfl, rfl, rfl, by decide +kernel⟩ ?hw ?hc
  case hw => w_witness2
  case hc =>
    refine L2.walk_ofE (l := PySem.Challenge.rw_havenwebs_k86_whole_centres_of_trees) (n := 63) (k := 6) (x := "script") (CX := L2.CX0) rfl (by decide) (by kernel_rfl) ⟨rfl, by decide, by decide⟩ ?F (fun _ _ _ _ z => z)
    intro w mg fa h Y G hmg0
    obtain ⟨K, KX, c⟩ := Y
    have hmg : mg ("law" : PySem.Str) = some (.ref fa) := by
      have e : (HandSHeadRun.topDef (OpenLaw.row PySem.Challenge.rw_havenwebs_k86_whole_centres_of_trees).prog 25).name = ("law" : PySem.Str) := by kernel_rfl
      rw [← e]
      exact hmg0
    obtain ⟨fd, hb, hF⟩ := DL.facts (P := (PySem.Challenge.rw_havenwebs_k86_whole_centres_of_trees).prog) (w := w) KX G hmg c
    exact ⟨K, fd, DL.spLaw K, KX, hb, fun H a ns hl _ hS => ⟨a, ns, rfl, hS, fun _ => rfl⟩, hF⟩

