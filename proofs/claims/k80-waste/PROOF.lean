import PyProof.Rows.All
import Wide.All
import OpenK.AllK
import Wide.FinOn
import HandS.ForMost
import HandS.Lambda
import HandS.Walk
import HandS.Steps
import HandS.Zip
import HandS.IsInst
import HandS.Conv
import KE.KDictWalk
import HandS.DictTup
import HandS.Iter
import HandS.Flt
import HandS.Text
import HandS.TupLen
import KE.GoesEnum
import HandS.ExcInit
import HandS.ExcField
import HandS.ExcIs
import HandS.ClsMeth
import KE.KExcIs
import KE.KIsAll
import HandS.Dict
import PyProof.NeKinds
import HandS.WordsDict
import KE.KDictCopyH
import HandS.Nested
import HandS.SortKw
import KE.SortKeyHeap
import KE.SortKeyed
import KE.SortData
import HandS.SortRule
import KE.KStateDown
import HandS.Base
import HandS.Call
import HandS.Ends
import HandS.More
import HandS.Words
import HandS.WordsExc
import HandS.Defaults
import HandS.Head0
import HandS.Head1
import HandS.Head2
import HandS.HeadEnd
import HandS.HeadHook1
import HandS.HeadHook2
import HandS.HeadHook4
import HandS.HeadWalk
import HandS.DictComp
import HandS.Replace
import PySem.Challenge.RW_evencut_k80_waste_and_papers
set_option Elab.async false
set_option linter.all false
set_option maxRecDepth 100000
set_option maxHeartbeats 4000000
/-! DL0: readings at the level of data: a stable part G of the abstract heap H, slots told by predicates. -/
namespace DL
open PySem PySem.Spec PyProof.Rows L2
/-- the tables of code objects that a def may fill, with the one name of what they hold -/
class TabSpec where
  T : List (Addr × Str)
variable [tsp : TabSpec]
/-- the stable part tells no table of code objects -/
def NoTbl (G : Hp) : Prop := ∀ a ps, G a ≠ some (.tbl ps)
structure Le (G H : Hp) : Prop where
  same : Same G H
  nt : NoTbl G
  tb : LamX.Tabs tsp.T H
instance {G H : Hp} : CoeFun (Le G H) (fun _ => ∀ a o, G a = some o → H a = some o) := ⟨Le.same⟩
theorem Le.seq {K : PySem.W.Frag} {G H : Hp} (e : Le G H) {a : Addr} {xs : List V} (h : SqL K G a xs) : SqL K H a xs := Same.seq e.same h
/-- what may stand in an own thing -/
def Dat : HO → Prop
  | .lst _ => True
  | .dK _ => True
  | .dT _ => True
  | _ => False
theorem Dat.nt {o : HO} (h : Dat o) (ps : Array Value) : o ≠ .tbl ps := fun z => by subst z; exact h
theorem NoTbl.upd {G : Hp} {p : Addr} {o : HO} (h : NoTbl G) (ho : ∀ ps, o ≠ .tbl ps) : NoTbl (upd G p o) := fun a ps e => by
  by_cases z : a = p
  · subst z; rw [upd_same] at e; exact ho ps (Option.some.inj e)
  · rw [upd_ne z] at e; exact h a ps e
/-- what a value stands for, over the stable part of the heap -/
structure R where
  p : V → Hp → Prop
  mono : ∀ {v : V} {G G' : Hp}, Same G G' → p v G → p v G'
/-- what a slot holds: value, stable part, heap, the addresses that the slot owns -/
structure SP where
  p : V → Hp → Hp → (Addr → Prop) → Prop
  mono : ∀ {v : V} {G G' H H' : Hp} {F : Addr → Prop}, Same G G' → (∀ a, F a → H' a = H a) → p v G H F → p v G' H' F
abbrev Env := List (Option SP)
def im (r : R) : SP := ⟨fun v G _ F => r.p v G ∧ ∀ a, ¬ F a, fun e _ h => ⟨r.mono e h.1, h.2⟩⟩
abbrev Reps (rs : List R) (xs : List V) (G : Hp) : Prop := Paired (fun (r : R) (x : V) => r.p x G) rs xs
theorem Reps.mono {rs : List R} {xs : List V} {G G' : Hp} (e : Same G G') (h : Reps rs xs G) : Reps rs xs G' := Paired.mapP h fun r _ q => r.mono e q
theorem Reps.get {rs : List R} {xs : List V} {G : Hp} {i : Nat} {r : R} (h : Reps rs xs G) (e : rs[i]? = some r) : ∃ x, xs[i]? = some x ∧ r.p x G := by
  induction h generalizing i with
  | nil => cases e
  | cons q _ ih =>
    cases i with
    | zero => cases e; exact ⟨_, rfl, q⟩
    | succ i => exact ih e
theorem Reps.get2 {rs : List R} {xs : List V} {G : Hp} {i : Nat} {x : V} (h : Reps rs xs G) (e : xs[i]? = some x) : ∃ r, rs[i]? = some r ∧ r.p x G := by
  induction h generalizing i with
  | nil => cases e
  | cons q _ ih =>
    cases i with
    | zero => cases e; exact ⟨_, rfl, q⟩
    | succ i => exact ih e
theorem Reps.length {rs : List R} {xs : List V} {G : Hp} (h : Reps rs xs G) : rs.length = xs.length := Paired.length h
theorem Reps.append {rs rs' : List R} {xs xs' : List V} {G : Hp} (h : Reps rs xs G) (h' : Reps rs' xs' G) : Reps (rs ++ rs') (xs ++ xs') G := by
  induction h with
  | nil => exact h'
  | cons q _ ih => exact .cons q ih
theorem Reps.set {rs : List R} {xs : List V} {G : Hp} {i : Nat} {r : R} {x : V} (h : Reps rs xs G) (q : r.p x G) : Reps (rs.set i r) (xs.set i x) G := by
  induction h generalizing i with
  | nil => exact .nil
  | cons q' h' ih =>
    cases i with
    | zero => exact .cons q h'
    | succ i => exact .cons q' ih
theorem Reps.eraseIdx {rs : List R} {xs : List V} {G : Hp} {i : Nat} (h : Reps rs xs G) : Reps (rs.eraseIdx i) (xs.eraseIdx i) G := by
  induction h generalizing i with
  | nil => exact .nil
  | cons q' h' ih =>
    cases i with
    | zero => exact h'
    | succ i => exact .cons q' ih
theorem Reps.take {rs : List R} {xs : List V} {G : Hp} {i : Nat} (h : Reps rs xs G) : Reps (rs.take i) (xs.take i) G := by
  induction h generalizing i with
  | nil => simp; exact .nil
  | cons q' h' ih =>
    cases i with
    | zero => exact .nil
    | succ i => exact .cons q' ih
theorem Reps.drop {rs : List R} {xs : List V} {G : Hp} {i : Nat} (h : Reps rs xs G) : Reps (rs.drop i) (xs.drop i) G := by
  induction h generalizing i with
  | nil => simp; exact .nil
  | cons q' h' ih =>
    cases i with
    | zero => exact .cons q' h'
    | succ i => exact ih
/-! ### kinds of data -/
def RNon : R := ⟨fun v _ => v = .non, fun _ h => h⟩
def RBl (b : Bool) : R := ⟨fun v _ => v = .bl b, fun _ h => h⟩
def RInt (i : Int) : R := ⟨fun v _ => v = .int i, fun _ h => h⟩
def RStr (s : Str) : R := ⟨fun v _ => v = .str s, fun _ h => h⟩
def RRef (a : Addr) : R := ⟨fun v _ => v = .ref a, fun _ h => h⟩
/-- a class, a def: what a constant is -/
def RV0 (x : V) : R := ⟨fun v _ => v = x, fun _ h => h⟩
theorem rd_same {G G' : Hp} {a : Addr} {u : HO} (e : Same G G') (h : Rd G a u) : Rd G' a u := by
  rcases h with h | ⟨o, h⟩
  · exact .inl (e _ _ h)
  · exact .inr ⟨o, e _ _ h⟩
theorem sqt_same {K : PySem.W.Frag} {G G' : Hp} {a : Addr} {xs : List V} (e : Same G G') (h : SqT K G a xs) : SqT K G' a xs := by
  rcases h with h | h
  · exact .inl (rd_same e h)
  · exact .inr h
/-- a kind of object -/
structure HK where
  p : HO → Hp → Prop
  dat : ∀ {o : HO} {G : Hp}, p o G → Dat o
  mono : ∀ {o : HO} {G G' : Hp}, Same G G' → p o G → p o G'
/-- an object of that kind in the stable part -/
def RH (P : HK) : R := ⟨fun v G => ∃ a o, v = .ref a ∧ G a = some o ∧ P.p o G, fun e ⟨a, o, h1, h2, h3⟩ => ⟨a, o, h1, e _ _ h2, P.mono e h3⟩⟩
def HL (rs : List R) : HK := ⟨fun o G => ∃ xs, o = .lst xs ∧ Reps rs xs G, fun ⟨_, e, _⟩ => by rw [e]; trivial, fun e ⟨xs, h1, h2⟩ => ⟨xs, h1, h2.mono e⟩⟩
abbrev RLst (rs : List R) : R := RH (HL rs)
theorem RLst.out {rs : List R} {v : V} {G : Hp} (h : (RLst rs).p v G) : ∃ a xs, v = .ref a ∧ G a = some (.lst xs) ∧ Reps rs xs G := by
  obtain ⟨a, o, h1, h2, xs, rfl, h3⟩ := h
  exact ⟨a, xs, h1, h2, h3⟩
theorem RLst.mk {rs : List R} {v : V} {G : Hp} (h : ∃ a xs, v = .ref a ∧ G a = some (.lst xs) ∧ Reps rs xs G) : (RLst rs).p v G := by
  obtain ⟨a, xs, h1, h2, h3⟩ := h
  exact ⟨a, _, h1, h2, xs, rfl, h3⟩
/-- a list that may be written, known or locked -/
def RSeq (K : PySem.W.Frag) (rs : List R) : R := ⟨fun v G => ∃ a xs, v = .ref a ∧ SqL K G a xs ∧ Reps rs xs G,
  fun e ⟨a, xs, h1, h2, h3⟩ => ⟨a, xs, h1, e.seq h2, h3.mono e⟩⟩
def RTup (K : PySem.W.Frag) (rs : List R) : R := ⟨fun v G => ∃ a xs, v = .ref a ∧ SqT K G a xs ∧ Reps rs xs G,
  fun e ⟨a, xs, h1, h2, h3⟩ => ⟨a, xs, h1, sqt_same e h2, h3.mono e⟩⟩
abbrev KReps {κ : Type} (kvs : List (κ × R)) (xs : List (κ × V)) (G : Hp) : Prop := Paired (fun (r : κ × R) (x : κ × V) => r.1 = x.1 ∧ r.2.p x.2 G) kvs xs
theorem KReps.mono {κ : Type} {rs : List (κ × R)} {xs : List (κ × V)} {G G' : Hp} (e : Same G G') (h : KReps rs xs G) : KReps rs xs G' := Paired.mapP h fun r _ q => ⟨q.1, r.2.mono e q.2⟩
def HD (kvs : List (Key × R)) : HK := ⟨fun o G => ∃ xs, o = .dK xs ∧ KReps kvs xs G, fun ⟨_, e, _⟩ => by rw [e]; trivial, fun e ⟨xs, h1, h2⟩ => ⟨xs, h1, h2.mono e⟩⟩
abbrev RDic (kvs : List (Key × R)) : R := RH (HD kvs)
theorem RDic.out {kvs : List (Key × R)} {v : V} {G : Hp} (h : (RDic kvs).p v G) : ∃ a xs, v = .ref a ∧ G a = some (.dK xs) ∧ KReps kvs xs G := by
  obtain ⟨a, o, h1, h2, xs, rfl, h3⟩ := h
  exact ⟨a, xs, h1, h2, h3⟩
theorem RDic.mk {kvs : List (Key × R)} {v : V} {G : Hp} (h : ∃ a xs, v = .ref a ∧ G a = some (.dK xs) ∧ KReps kvs xs G) : (RDic kvs).p v G := by
  obtain ⟨a, xs, h1, h2, h3⟩ := h
  exact ⟨a, _, h1, h2, xs, rfl, h3⟩
/-- a dict whose keys are tuples -/
def HT (kvs : List (List Key × R)) : HK := ⟨fun o G => ∃ xs, o = .dT xs ∧ KReps kvs xs G, fun ⟨_, e, _⟩ => by rw [e]; trivial, fun e ⟨xs, h1, h2⟩ => ⟨xs, h1, h2.mono e⟩⟩
abbrev RDcT (kvs : List (List Key × R)) : R := RH (HT kvs)
def exR {α : Type} (P : α → Prop) (r : α → R) : R := ⟨fun v G => ∃ x, P x ∧ (r x).p v G, fun e ⟨x, h, q⟩ => ⟨x, h, (r x).mono e q⟩⟩
/-! ### states -/
structure Ext (B : Addr → Prop) (G H G' H' : Hp) : Prop where
  keep : ∀ a o, ¬ B a → (∀ ps, o ≠ .tbl ps) → H a = some o → H' a = some o
  live : ∀ a, H' a = none → H a = none
  sub : Same G G'
  le : Le G' H'
  new : ∀ a, H a ≠ none → G a = none → G' a = none
  tab : LamX.Tabs tsp.T H → LamX.Tabs tsp.T H'
abbrev noB : Addr → Prop := fun _ => False
structure Ctx where
  K : PySem.W.Frag
  B : Addr → Prop
  G0 : Hp
  H0 : Hp
  bs : List Nat := []
  pins : List Hp := []
def Held (H : Hp) (a : Addr) : Prop := ∃ o, H a = some o ∧ Dat o
theorem Held.ne {H : Hp} {a : Addr} (h : Held H a) : H a ≠ none := fun z => by
  obtain ⟨o, e, _⟩ := h
  rw [z] at e; cases e
structure Sta (c : Ctx) (ρ : Env) (σ : L2.St) (G H : Hp) (F : Nat → Addr → Prop) : Prop where
  ext : Ext c.B c.G0 c.H0 G H
  len : σ.length = ρ.length
  at_ : ∀ (i : Nat) (s : SP), ρ[i]? = some (some s) → ∃ v, σ[i]? = some (some v) ∧ s.p v G H (F i)
  dis : ∀ i j a, F i a → F j a → i = j
  out : ∀ i a, F i a → G a = none ∧ Held H a ∧ ((c.B a ∧ i ∈ c.bs) ∨ c.H0 a = none)
  pin : ∀ g ∈ c.pins, Same g G
theorem Ext.refl {B : Addr → Prop} {G H : Hp} (e : Le G H) : Ext B G H G H := ⟨fun _ _ _ _ h => h, fun _ h => h, Same.refl _, e, fun _ _ h => h, fun t => t⟩
theorem Ext.trans {B B' : Addr → Prop} {G0 H0 G H G' H' : Hp} (x : Ext B G0 H0 G H) (y : Ext B' G H G' H') (hB : ∀ a, B' a → B a ∨ H0 a = none) : Ext B G0 H0 G' H' where
  keep := fun a o nb nt h => y.keep a o (fun q => (hB a q).elim nb fun z => by rw [z] at h; cases h) nt (x.keep a o nb nt h)
  live := fun a h => x.live a (y.live a h)
  sub := x.sub.trans y.sub
  le := y.le
  new := fun a h g => y.new a (fun z => h (x.live a z)) (x.new a h g)
  tab := fun t => y.tab (x.tab t)
theorem Ext.mono {B B' : Addr → Prop} {G H G' H' : Hp} (x : Ext B G H G' H') (h : ∀ a, B a → B' a) : Ext B' G H G' H' := ⟨fun a o nb => x.keep a o fun q => nb (h a q), x.live, x.sub, x.le, x.new, x.tab⟩
/-- a new thing, put into the stable part -/
theorem tab_new {H : Hp} {p : Addr} {o : HO} (hp : H p = none) {T : List (Addr × Str)} : LamX.Tabs T H → LamX.Tabs T (upd H p o) := fun t => t.ext fun b u h => by rw [upd_ne (ne_of_none h hp)]; exact h
theorem tabs_put {H : Hp} {p : Addr} {o o' : HO} (hp : H p = some o') (hd : Dat o') {P : Addr} {q : Str} : LamX.TabS H P q → LamX.TabS (upd H p o) P q := fun ⟨ps, h1, h2, h3⟩ => by
  refine ⟨ps, ?_, h2, fun pos cv hc => ?_⟩
  · rw [upd_ne (fun z => by subst z; rw [h1] at hp; cases hp; exact hd)]; exact h1
  · obtain ⟨c, e1, e2⟩ := h3 pos cv hc
    refine ⟨c, e1, ?_⟩
    rw [upd_ne (fun z => by subst z; rw [e2] at hp; cases hp; exact hd)]; exact e2
theorem tab_put {H : Hp} {p : Addr} {o o' : HO} (hp : H p = some o') (hd : Dat o') {T : List (Addr × Str)} : LamX.Tabs T H → LamX.Tabs T (upd H p o) := fun t x hx => tabs_put hp hd (t x hx)
theorem Ext.laid {B : Addr → Prop} {G H : Hp} {p : Addr} {o : HO} (e : Le G H) (hp : H p = none) (ho : ∀ ps, o ≠ .tbl ps := by intro _ z; cases z) : Ext B G H (upd G p o) (upd H p o) where
  tab := tab_new hp
  keep := fun a u _ _ h => by rw [upd_ne (ne_of_none h hp)]; exact h
  live := fun a h => by
    by_cases q : a = p
    · subst q; exact hp
    · rw [upd_ne q] at h; exact h
  sub := fun a u h => by rw [upd_ne (ne_of_none (e _ _ h) hp)]; exact h
  le := ⟨fun a u h => by
    by_cases q : a = p
    · subst q; rw [upd_same] at h ⊢; exact h
    · rw [upd_ne q] at h ⊢; exact e _ _ h, e.nt.upd ho, tab_new hp e.tb⟩
  new := fun a h g => by
    have q : a ≠ p := fun z => by subst z; exact h hp
    rw [upd_ne q]; exact g
/-- a new thing, not in the stable part -/
theorem Ext.aside {B : Addr → Prop} {G H : Hp} {p : Addr} {o : HO} (e : Le G H) (hp : H p = none) : Ext B G H G (upd H p o) where
  tab := tab_new hp
  keep := fun a u _ _ h => by rw [upd_ne (ne_of_none h hp)]; exact h
  live := fun a h => by
    by_cases q : a = p
    · subst q; exact hp
    · rw [upd_ne q] at h; exact h
  sub := Same.refl _
  le := ⟨fun a u h => by rw [upd_ne (ne_of_none (e _ _ h) hp)]; exact e _ _ h, e.nt, tab_new hp e.tb⟩
  new := fun a _ g => g
theorem eq_some_of_ne {H : Hp} {a : Addr} (h : H a ≠ none) : ∃ o, H a = some o := by
  cases e : H a with
  | none => exact absurd e h
  | some o => exact ⟨o, rfl⟩
section
variable {c : Ctx} {ρ : Env} {σ : L2.St} {G H G' H' : Hp} {F : Nat → Addr → Prop}
theorem Sta.le (S : Sta c ρ σ G H F) : Le G H := S.ext.le
/-- a step that touches nothing that is owned -/
theorem Sta.step (S : Sta c ρ σ G H F) (x : Ext noB G H G' H') : Sta c ρ σ G' H' F where
  ext := S.ext.trans x fun a q => q.elim
  len := S.len
  at_ := fun i s h => by
    obtain ⟨v, h1, h2⟩ := S.at_ i s h
    refine ⟨v, h1, s.mono x.sub (fun a q => ?_) h2⟩
    obtain ⟨o, e, d⟩ := (S.out i a q).2.1
    rw [e]; exact x.keep a o (fun z => z) d.nt e
  dis := S.dis
  out := fun i a q => by
    obtain ⟨g, hl, b⟩ := S.out i a q
    have hn := hl.ne
    obtain ⟨o, e, d⟩ := hl
    exact ⟨x.new a hn g, ⟨o, x.keep a o (fun z => z) d.nt e, d⟩, b⟩
  pin := fun g h => (S.pin g h).trans x.sub
/-- a slot gets a value of the stable part -/
theorem Sta.set (S : Sta c ρ σ G H F) {i : Nat} {v : V} {r : R} (hi : i < ρ.length) (h : r.p v G) : Sta c (ρ.set i (some (im r))) (σ.set i (some v)) G H (fun j a => j ≠ i ∧ F j a) where
  ext := S.ext
  len := by rw [List.length_set, List.length_set]; exact S.len
  at_ := fun j s e => by
    by_cases q : j = i
    · subst q
      rw [List.getElem?_set_self hi] at e
      cases e
      exact ⟨v, List.getElem?_set_self (by rw [S.len]; exact hi), h, fun a z => z.1 rfl⟩
    · rw [List.getElem?_set_ne (Ne.symm q)] at e
      obtain ⟨u, h1, h2⟩ := S.at_ j s e
      refine ⟨u, by rw [List.getElem?_set_ne (Ne.symm q)]; exact h1, ?_⟩
      have eF : (fun a => j ≠ i ∧ F j a) = F j := funext fun a => propext ⟨fun z => z.2, fun z => ⟨q, z⟩⟩
      rw [eF]; exact h2
  dis := fun j k a x y => S.dis j k a x.2 y.2
  out := fun j a x => S.out j a x.2
  pin := S.pin
/-- a slot is forgotten -/
theorem Sta.forget (S : Sta c ρ σ G H F) {i : Nat} {x : Option V} : Sta c (ρ.set i none) (σ.set i x) G H F where
  ext := S.ext
  len := by rw [List.length_set, List.length_set]; exact S.len
  at_ := fun j s e => by
    by_cases q : j = i
    · subst q
      by_cases hi : j < ρ.length
      · rw [List.getElem?_set_self hi] at e; cases e
      · rw [List.getElem?_eq_none (by rw [List.length_set]; omega)] at e; cases e
    · rw [List.getElem?_set_ne (Ne.symm q)] at e
      obtain ⟨u, h1, h2⟩ := S.at_ j s e
      exact ⟨u, by rw [List.getElem?_set_ne (Ne.symm q)]; exact h1, h2⟩
  dis := S.dis
  out := S.out
  pin := S.pin
/-- what slot i owns turns: its footprint turns into F', of its own and new addresses -/
theorem Sta.turn (S : Sta c ρ σ G H F) {i : Nat} {v : V} {s : SP} {F' : Addr → Prop} (hi : i < ρ.length)
    (le : Le G' H') (sub : Same G G') (tab : LamX.Tabs tsp.T H → LamX.Tabs tsp.T H') (keep : ∀ a o, ¬ F i a → (∀ ps, o ≠ .tbl ps) → H a = some o → H' a = some o) (live : ∀ a, H' a = none → H a = none) (new : ∀ a, H a ≠ none → G a = none → G' a = none)
    (hF : ∀ a, F' a → (F i a ∨ H a = none) ∧ Held H' a ∧ G' a = none) (h : s.p v G' H' F') : Sta c (ρ.set i (some s)) (σ.set i (some v)) G' H' (fun j a => if j = i then F' a else F j a) where
  ext := S.ext.trans (B' := F i) ⟨keep, live, sub, le, new, tab⟩ fun a q => (S.out i a q).2.2.elim (fun z => .inl z.1) .inr
  len := by rw [List.length_set, List.length_set]; exact S.len
  at_ := fun j t e => by
    by_cases q : j = i
    · subst q
      rw [List.getElem?_set_self hi] at e
      cases e
      refine ⟨v, List.getElem?_set_self (by rw [S.len]; exact hi), ?_⟩
      have eF : (fun a => if j = j then F' a else F j a) = F' := funext fun a => if_pos rfl
      rw [eF]; exact h
    · rw [List.getElem?_set_ne (Ne.symm q)] at e
      obtain ⟨u, h1, h2⟩ := S.at_ j t e
      refine ⟨u, by rw [List.getElem?_set_ne (Ne.symm q)]; exact h1, ?_⟩
      have eF : (fun a => if j = i then F' a else F j a) = F j := funext fun a => if_neg q
      rw [eF]
      refine t.mono sub (fun a z => ?_) h2
      obtain ⟨o, eo, d⟩ := (S.out j a z).2.1
      rw [eo]; exact keep a o (fun y => q (S.dis j i a z y)) d.nt eo
  dis := fun j k a x y => by
    by_cases qj : j = i
    · by_cases qk : k = i
      · rw [qj, qk]
      · exfalso
        rw [if_pos qj] at x; rw [if_neg qk] at y
        rcases (hF a x).1 with z | z
        · exact qk (S.dis k i a y z)
        · exact (S.out k a y).2.1.ne z
    · by_cases qk : k = i
      · exfalso
        rw [if_neg qj] at x; rw [if_pos qk] at y
        rcases (hF a y).1 with z | z
        · exact qj (S.dis j i a x z)
        · exact (S.out j a x).2.1.ne z
      · rw [if_neg qj] at x; rw [if_neg qk] at y
        exact S.dis j k a x y
  out := fun j a x => by
    by_cases qj : j = i
    · rw [if_pos qj] at x
      obtain ⟨h1, h2, h3⟩ := hF a x
      refine ⟨h3, h2, ?_⟩
      rcases h1 with z | z
      · rw [qj]; exact (S.out i a z).2.2
      · exact .inr (S.ext.live a z)
    · rw [if_neg qj] at x
      obtain ⟨g, hl, b⟩ := S.out j a x
      have hn := hl.ne
      obtain ⟨o, e, d⟩ := hl
      exact ⟨new a hn g, ⟨o, keep a o (fun z => qj (S.dis j i a x z)) d.nt e, d⟩, b⟩
  pin := fun g h => (S.pin g h).trans sub
end
end DL
set_option Elab.async false
set_option linter.all false
set_option maxRecDepth 100000
set_option maxHeartbeats 4000000
/-! DL1: expressions at the level of data. -/
namespace DL
open PySem PySem.Spec PyProof.Rows L2
variable [tsp : TabSpec]
/-- what an expression leaves: the stable part grows, what nobody owns is kept -/
structure Nxt (G H : Hp) (F : Nat → Addr → Prop) (G' H' : Hp) (F' : Nat → Addr → Prop) : Prop where
  sub : Same G G'
  keep : ∀ a o, (∀ ps, o ≠ .tbl ps) → H a = some o → (∀ i, ¬ F i a) → H' a = some o ∧ ∀ i, ¬ F' i a
  live : ∀ a, H' a = none → H a = none
  new : ∀ a, H a ≠ none → G a = none → G' a = none
section
variable {G H G1 H1 G2 H2 : Hp} {F F1 F2 : Nat → Addr → Prop}
theorem Nxt.refl (G H : Hp) (F : Nat → Addr → Prop) : Nxt G H F G H F := ⟨Same.refl _, fun _ _ _ h n => ⟨h, n⟩, fun _ h => h, fun _ _ h => h⟩
theorem Nxt.trans (x : Nxt G H F G1 H1 F1) (y : Nxt G1 H1 F1 G2 H2 F2) : Nxt G H F G2 H2 F2 where
  sub := x.sub.trans y.sub
  keep := fun a o t h n => y.keep a o t (x.keep a o t h n).1 (x.keep a o t h n).2
  live := fun a h => x.live a (y.live a h)
  new := fun a h g => y.new a (fun z => h (x.live a z)) (x.new a h g)
theorem Nxt.of (x : Ext noB G H G1 H1) : Nxt G H F G1 H1 F := ⟨x.sub, fun a o t h n => ⟨x.keep a o (fun z => z) t h, n⟩, x.live, x.new⟩
end
section
variable (c : Ctx)
def Ev (te : TE) (ρ : Env) (r : R) : Prop := ∀ σ G H F, Sta c ρ σ G H F → ∀ Q : VK, (∀ v G' H' F', Sta c ρ σ G' H' F' → Nxt G H F G' H' F' → r.p v G' → Q v H') → te σ H Q
def EvP (tt : TT) (ρ : Env) (Φ : Bool → Prop) : Prop := ∀ σ G H F, Sta c ρ σ G H F → ∀ Q : Bool → Hp → Prop, (∀ b G' H' F', Sta c ρ σ G' H' F' → Nxt G H F G' H' F' → Φ b → Q b H') → tt σ H Q
abbrev EvT (tt : TT) (ρ : Env) (b : Bool) : Prop := EvP c tt ρ (fun x => x = b)
def EvA (ta : TA) (ρ : Env) (rs : List R) : Prop := ∀ σ G H F, Sta c ρ σ G H F → ∀ Q : List V → Hp → Prop, (∀ vs G' H' F', Sta c ρ σ G' H' F' → Nxt G H F G' H' F' → Reps rs vs G' → Q vs H') → ta σ H Q
end
/-- rules by values -/
def RV2 (r : R2) (ra rb rc : R) : Prop := ∀ x y G H, Le G H → ra.p x G → rb.p y G → ∀ Q : VK, (∀ z G' H', Ext noB G H G' H' → rc.p z G' → Q z H') → r x y H Q
def RV1 (r : V → Hp → VK → Prop) (ra rc : R) : Prop := ∀ x G H, Le G H → ra.p x G → ∀ Q : VK, (∀ z G' H', Ext noB G H G' H' → rc.p z G' → Q z H') → r x H Q
def RVc (r : List V → Hp → VK → Prop) (rs : List R) (rc : R) : Prop := ∀ vs G H, Le G H → Reps rs vs G → ∀ Q : VK, (∀ z G' H', Ext noB G H G' H' → rc.p z G' → Q z H') → r vs H Q
/-- a def's promise -/
def SpOk (sp : Sp) (rs : List R) (rc : R) : Prop := ∀ E, RVc (fun vs H Q => sp vs H Q E) rs rc
section
variable {c : Ctx} {ρ : Env} {ta tb te : TE} {tt tu : TT} {tas : TA} {ra rb rc r r' : R} {rs : List R}
theorem ev_weak (h : Ev c te ρ r) (w : ∀ v G, r.p v G → r'.p v G) : Ev c te ρ r' := fun σ G H F S Q k => h σ G H F S Q fun v G' H' F' S' x q => k v G' H' F' S' x (w _ _ q)
theorem ev_eq (h : Ev c te ρ r) (e : r = r') : Ev c te ρ r' := e ▸ h
theorem ev_var {i : Nat} (h : ρ[i]? = some (some (im r))) : Ev c (tVar i) ρ r := fun σ G H F S Q k => by
  obtain ⟨v, h1, h2, _⟩ := S.at_ i _ h
  exact ⟨v, h1, k v G H F S (Nxt.refl _ _ _) h2⟩
theorem ev_c {v : V} : Ev c (tC v) ρ (RV0 v) := fun σ G H F S Q k => k v G H F S (Nxt.refl _ _ _) rfl
theorem ev_int {i : Int} : Ev c (tC (.int i)) ρ (RInt i) := ev_c
theorem ev_str {s : Str} : Ev c (tC (.str s)) ρ (RStr s) := ev_c
theorem ev_bl {b : Bool} : Ev c (tC (.bl b)) ρ (RBl b) := ev_c
theorem ev_non : Ev c (tC .non) ρ RNon := ev_c
theorem ev_op {o : R2} (ha : Ev c ta ρ ra) (hb : Ev c tb ρ rb) (hr : RV2 o ra rb rc) : Ev c (tOp o ta tb) ρ rc := fun σ G H F S Q k => by
  refine ha σ G H F S _ fun x G1 H1 F1 S1 n1 qx => ?_
  refine hb σ G1 H1 F1 S1 _ fun y G2 H2 F2 S2 n2 qy => ?_
  exact hr x y G2 H2 S2.le (ra.mono n2.sub qx) qy Q fun z G3 H3 e q => k z G3 H3 F2 (S2.step e) (n1.trans (n2.trans (Nxt.of e))) q
theorem ev_un {o : V → Hp → VK → Prop} (ha : Ev c ta ρ ra) (hr : RV1 o ra rc) : Ev c (tUn o ta) ρ rc := fun σ G H F S Q k => by
  refine ha σ G H F S _ fun x G1 H1 F1 S1 n1 qx => ?_
  exact hr x G1 H1 S1.le qx Q fun z G3 H3 e q => k z G3 H3 F1 (S1.step e) (n1.trans (Nxt.of e)) q
theorem ea_nil : EvA c tNil ρ [] := fun σ G H F S Q k => k [] G H F S (Nxt.refl _ _ _) .nil
theorem ea_cons (ha : Ev c ta ρ ra) (hr : EvA c tas ρ rs) : EvA c (tCons ta tas) ρ (ra :: rs) := fun σ G H F S Q k => by
  refine ha σ G H F S _ fun x G1 H1 F1 S1 n1 qx => ?_
  refine hr σ G1 H1 F1 S1 _ fun xs G2 H2 F2 S2 n2 qs => ?_
  exact k _ G2 H2 F2 S2 (n1.trans n2) (.cons (ra.mono n2.sub qx) qs)
theorem ev_cb {o : List V → Hp → VK → Prop} (ha : EvA c tas ρ rs) (hr : RVc o rs rc) : Ev c (tCB o tas) ρ rc := fun σ G H F S Q k => by
  refine ha σ G H F S _ fun xs G1 H1 F1 S1 n1 qs => ?_
  exact hr xs G1 H1 S1.le qs Q fun z G3 H3 e q => k z G3 H3 F1 (S1.step e) (n1.trans (Nxt.of e)) q
theorem Reps.vals (vs : List V) (G : Hp) : Reps (vs.map RV0) vs G := by
  induction vs with
  | nil => exact .nil
  | cons v r ih => exact .cons rfl ih
theorem ev_call {sp : Sp} {dvs : List V} {E : XK} (ha : EvA c tas ρ rs) (hr : SpOk sp (rs ++ dvs.map RV0) rc) : Ev c (tCall sp dvs E tas) ρ rc := fun σ G H F S Q k => by
  refine ha σ G H F S _ fun xs G1 H1 F1 S1 n1 qs => ?_
  exact hr E _ G1 H1 S1.le (qs.append (Reps.vals dvs G1)) Q fun z G3 H3 e q => k z G3 H3 F1 (S1.step e) (n1.trans (Nxt.of e)) q
theorem ev_call0 {sp : Sp} {E : XK} (ha : EvA c tas ρ rs) (hr : SpOk sp rs rc) : Ev c (tCall sp [] E tas) ρ rc := ev_call ha (by simpa using hr)
/-- r stands for instances of the class C -/
def IsIns (C : Addr) (m : Str) (r : R) : Prop := ∀ v G, r.p v G → ∃ a dx fs, v = .ref a ∧ G a = some (.ins C dx fs) ∧ fs.lookup m = none
theorem ev_meth {C : Addr} {m : Str} {sp : Sp} {dvs : List V} {E : XK} (ho : Ev c ta ρ ra) (hi : IsIns C m ra) (ha : EvA c tas ρ rs) (hr : SpOk sp (ra :: (rs ++ dvs.map RV0)) rc) : Ev c (tMeth C m sp dvs E ta tas) ρ rc := fun σ G H F S Q k => by
  refine ho σ G H F S _ fun x G1 H1 F1 S1 n1 qx => ?_
  obtain ⟨a, dx, fs, rfl, h1, h2⟩ := hi x G1 qx
  refine ⟨a, dx, fs, rfl, S1.le _ _ h1, h2, ?_⟩
  refine ha σ G1 H1 F1 S1 _ fun xs G2 H2 F2 S2 n2 qs => ?_
  exact hr E _ G2 H2 S2.le (.cons (ra.mono n2.sub qx) (qs.append (Reps.vals dvs G2))) Q fun z G3 H3 e q => k z G3 H3 F2 (S2.step e) (n1.trans (n2.trans (Nxt.of e))) q
theorem ev_meth0 {C : Addr} {m : Str} {sp : Sp} {E : XK} (ho : Ev c ta ρ ra) (hi : IsIns C m ra) (ha : EvA c tas ρ rs) (hr : SpOk sp (ra :: rs) rc) : Ev c (tMeth C m sp [] E ta tas) ρ rc := ev_meth ho hi ha (by simpa using hr)
theorem sz_ok {n : Nat} (h : n ≤ 100000) : n ≤ sizeLine := Nat.le_trans h (by decide)
theorem sz_lt {n : Nat} (h : n < 100000) : n < sizeLine := Nat.lt_of_lt_of_le h (by decide)
theorem ev_tup (ha : EvA c tas ρ rs) (hl : rs.length ≤ 100000) : Ev c (tTup tas) ρ (RTup c.K rs) := fun σ G H F S Q k => by
  refine ha σ G H F S _ fun xs G1 H1 F1 S1 n1 qs => ?_
  refine ⟨sz_ok (by rw [← qs.length]; exact hl), fun p hp => ?_⟩
  have e : Ext noB G1 H1 (upd G1 p (.tup xs)) (upd H1 p (.tup xs)) := Ext.laid S1.le hp
  exact k _ _ _ F1 (S1.step e) (n1.trans (Nxt.of e)) ⟨p, xs, rfl, .of upd_same, qs.mono e.sub⟩
theorem ev_lst (ha : EvA c tas ρ rs) (hl : rs.length ≤ 100000) : Ev c (tLst tas) ρ (RLst rs) := fun σ G H F S Q k => by
  refine ha σ G H F S _ fun xs G1 H1 F1 S1 n1 qs => ?_
  refine ⟨sz_ok (by rw [← qs.length]; exact hl), fun p hp => ?_⟩
  have e : Ext noB G1 H1 (upd G1 p (.lst xs)) (upd H1 p (.lst xs)) := Ext.laid S1.le hp
  exact k _ _ _ F1 (S1.step e) (n1.trans (Nxt.of e)) (RLst.mk ⟨p, xs, rfl, upd_same, qs.mono e.sub⟩)
/-! tests -/
theorem ep_weak {Φ Ψ : Bool → Prop} (h : EvP c tt ρ Φ) (w : ∀ b, Φ b → Ψ b) : EvP c tt ρ Ψ := fun σ G H F S Q k => h σ G H F S Q fun b G' H' F' S' n q => k b G' H' F' S' n (w b q)
theorem ep_test {Φ : Bool → Prop} (h : Ev c te ρ (exR Φ RBl)) : EvP c (tTest te) ρ Φ := fun σ G H F S Q k => h σ G H F S _ fun v G' H' F' S' n ⟨b, q, e⟩ => ⟨b, e, k b G' H' F' S' n q⟩
theorem et_test {b : Bool} (h : Ev c te ρ (RBl b)) : EvT c (tTest te) ρ b := fun σ G H F S Q k => h σ G H F S _ fun v G' H' F' S' n e => ⟨b, e, k b G' H' F' S' n rfl⟩
theorem ep_B {Φ : Bool → Prop} (h : Ev c te ρ (exR Φ RBl)) : EvP c (tB te) ρ Φ := fun σ G H F S Q k => h σ G H F S _ fun v G' H' F' S' n ⟨b, q, e⟩ => ⟨b, e, k b G' H' F' S' n q⟩
theorem et_B {b : Bool} (h : Ev c te ρ (RBl b)) : EvT c (tB te) ρ b := fun σ G H F S Q k => h σ G H F S _ fun v G' H' F' S' n e => ⟨b, e, k b G' H' F' S' n rfl⟩
theorem et_and {a b : Bool} (h1 : EvT c tt ρ a) (h2 : a = true → EvT c tu ρ b) : EvT c (tAnd tt tu) ρ (a && b) := fun σ G H F S Q k => h1 σ G H F S _ fun x G1 H1 F1 S1 n1 e => by
  subst e
  cases x with
  | true => exact h2 rfl σ G1 H1 F1 S1 _ fun y G2 H2 F2 S2 n2 e2 => k y G2 H2 F2 S2 (n1.trans n2) (by rw [e2]; rfl)
  | false => exact k false G1 H1 F1 S1 n1 rfl
theorem et_or {a b : Bool} (h1 : EvT c tt ρ a) (h2 : a = false → EvT c tu ρ b) : EvT c (tOr tt tu) ρ (a || b) := fun σ G H F S Q k => h1 σ G H F S _ fun x G1 H1 F1 S1 n1 e => by
  subst e
  cases x with
  | false => exact h2 rfl σ G1 H1 F1 S1 _ fun y G2 H2 F2 S2 n2 e2 => k y G2 H2 F2 S2 (n1.trans n2) (by rw [e2]; rfl)
  | true => exact k true G1 H1 F1 S1 n1 rfl
/-- the left test as it may come, the right one where it is true -/
theorem ep_and {Φ Ψ : Bool → Prop} (h1 : EvP c tt ρ Φ) (h2 : Φ true → EvP c tu ρ Ψ) (hf : Φ false → Ψ false) : EvP c (tAnd tt tu) ρ Ψ := fun σ G H F S Q k => h1 σ G H F S _ fun x G1 H1 F1 S1 n1 e => by
  cases x with
  | true => exact h2 e σ G1 H1 F1 S1 _ fun y G2 H2 F2 S2 n2 e2 => k y G2 H2 F2 S2 (n1.trans n2) e2
  | false => exact k false G1 H1 F1 S1 n1 (hf e)
theorem ep_or {Φ Ψ : Bool → Prop} (h1 : EvP c tt ρ Φ) (h2 : Φ false → EvP c tu ρ Ψ) (hf : Φ true → Ψ true) : EvP c (tOr tt tu) ρ Ψ := fun σ G H F S Q k => h1 σ G H F S _ fun x G1 H1 F1 S1 n1 e => by
  cases x with
  | false => exact h2 e σ G1 H1 F1 S1 _ fun y G2 H2 F2 S2 n2 e2 => k y G2 H2 F2 S2 (n1.trans n2) e2
  | true => exact k true G1 H1 F1 S1 n1 (hf e)
theorem et_not {a : Bool} (h1 : EvT c tt ρ a) : EvT c (tNot tt) ρ (!a) := fun σ G H F S Q k => h1 σ G H F S _ fun x G1 H1 F1 S1 n1 e => k (!x) G1 H1 F1 S1 n1 (by rw [e])
theorem et_is {a b : Bool} (h : EvT c tt ρ a) (e : a = b) : EvT c tt ρ b := e ▸ h
theorem ev_andV {a b : Bool} (h1 : Ev c ta ρ (RBl a)) (h2 : a = true → Ev c tb ρ (RBl b)) : Ev c (tAndV ta tb) ρ (RBl (a && b)) := fun σ G H F S Q k => h1 σ G H F S _ fun x G1 H1 F1 S1 n1 e => by
  refine ⟨a, e, ?_⟩
  cases a with
  | true => exact iteT (h2 rfl σ G1 H1 F1 S1 _ fun y G2 H2 F2 S2 n2 e2 => k y G2 H2 F2 S2 (n1.trans n2) e2)
  | false => exact iteF (k _ G1 H1 F1 S1 n1 rfl)
theorem ev_orV {a b : Bool} (h1 : Ev c ta ρ (RBl a)) (h2 : a = false → Ev c tb ρ (RBl b)) : Ev c (tOrV ta tb) ρ (RBl (a || b)) := fun σ G H F S Q k => h1 σ G H F S _ fun x G1 H1 F1 S1 n1 e => by
  refine ⟨a, e, ?_⟩
  cases a with
  | false => exact iteF (h2 rfl σ G1 H1 F1 S1 _ fun y G2 H2 F2 S2 n2 e2 => k y G2 H2 F2 S2 (n1.trans n2) e2)
  | true => exact iteT (k _ G1 H1 F1 S1 n1 rfl)
theorem ev_notV {a : Bool} (h1 : Ev c ta ρ (RBl a)) : Ev c (tNotV ta) ρ (RBl (!a)) := fun σ G H F S Q k => h1 σ G H F S _ fun x G1 H1 F1 S1 n1 e => ⟨a, e, k _ G1 H1 F1 S1 n1 rfl⟩
theorem ev_if {b : Bool} (h : EvT c tt ρ b) (h1 : b = true → Ev c ta ρ r) (h2 : b = false → Ev c tb ρ r) : Ev c (tIf tt ta tb) ρ r := fun σ G H F S Q k => h σ G H F S _ fun x G1 H1 F1 S1 n1 e => by
  subst e
  cases x with
  | true => exact iteT (h1 rfl σ G1 H1 F1 S1 _ fun y G2 H2 F2 S2 n2 e2 => k y G2 H2 F2 S2 (n1.trans n2) e2)
  | false => exact iteF (h2 rfl σ G1 H1 F1 S1 _ fun y G2 H2 F2 S2 n2 e2 => k y G2 H2 F2 S2 (n1.trans n2) e2)
end
/-! ### values: ints, texts, bools -/
section
variable {K : PySem.W.Frag} {rs rs' : List R} {r ra rb : R}
theorem rv_I0 {g : Int → Int → V} {i j : Int} : RV2 (rI0 g) (RInt i) (RInt j) (RV0 (g i j)) := fun x y G H e hx hy Q k => ⟨i, j, hx, hy, k _ G H (Ext.refl e) rfl⟩
theorem rv_I {C : Int → Int → Prop} {g : Int → Int → V} {i j : Int} (hc : C i j) : RV2 (rI C g) (RInt i) (RInt j) (RV0 (g i j)) := fun x y G H e hx hy Q k => ⟨i, j, hx, hy, hc, k _ G H (Ext.refl e) rfl⟩
theorem rv_ex1 {α : Type} {P : α → Prop} {f g : α → R} {o : R2} (h : ∀ x, P x → RV2 o (f x) rb (g x)) : RV2 o (exR P f) rb (exR P g) := fun x y G H e ⟨a, pa, hx⟩ hy Q k =>
  h a pa x y G H e hx hy Q fun z G' H' e' q => k z G' H' e' ⟨a, pa, q⟩
theorem rv_ex2 {α : Type} {P : α → Prop} {f g : α → R} {o : R2} (h : ∀ x, P x → RV2 o ra (f x) (g x)) : RV2 o ra (exR P f) (exR P g) := fun x y G H e hx ⟨a, pa, hy⟩ Q k =>
  h a pa x y G H e hx hy Q fun z G' H' e' q => k z G' H' e' ⟨a, pa, q⟩
theorem rv_eqI {i j : Int} : RV2 rEq (RInt i) (RInt j) (RBl (decide (i = j))) := fun x y G H e hx hy Q k => by
  obtain rfl : x = .int i := hx
  obtain rfl : y = .int j := hy
  refine ⟨rfl, k _ G H (Ext.refl e) ?_⟩
  show V.bl _ = V.bl _
  congr 1; simp
theorem rv_neI {i j : Int} : RV2 rNe (RInt i) (RInt j) (RBl (!decide (i = j))) := fun x y G H e hx hy Q k => by
  obtain rfl : x = .int i := hx
  obtain rfl : y = .int j := hy
  refine ⟨rfl, k _ G H (Ext.refl e) ?_⟩
  show V.bl _ = V.bl _
  congr 1; simp
theorem rv_eqS {i j : Str} : RV2 rEq (RStr i) (RStr j) (RBl (decide (i = j))) := fun x y G H e hx hy Q k => by
  obtain rfl : x = .str i := hx
  obtain rfl : y = .str j := hy
  refine ⟨rfl, k _ G H (Ext.refl e) ?_⟩
  show V.bl _ = V.bl _
  congr 1; simp
theorem rv_neS {i j : Str} : RV2 rNe (RStr i) (RStr j) (RBl (!decide (i = j))) := fun x y G H e hx hy Q k => by
  obtain rfl : x = .str i := hx
  obtain rfl : y = .str j := hy
  refine ⟨rfl, k _ G H (Ext.refl e) ?_⟩
  show V.bl _ = V.bl _
  congr 1; simp
/-- is None -/
def notNon (r : R) : Prop := ∀ v G, r.p v G → v ≠ .non
theorem rv_isN (h : notNon r) : RV2 rIsN r RNon (RBl false) := fun x y G H e hx hy Q k => ⟨hy, k _ G H (Ext.refl e) (by show V.bl _ = V.bl _; rw [decide_eq_false (h _ _ hx)])⟩
theorem rv_isN0 : RV2 rIsN RNon RNon (RBl true) := fun x y G H e hx hy Q k => ⟨hy, k _ G H (Ext.refl e) (by show V.bl _ = V.bl _; rw [decide_eq_true (show x = .non from hx)])⟩
theorem rv_notN (h : notNon r) : RV2 rNotN r RNon (RBl true) := fun x y G H e hx hy Q k => ⟨hy, k _ G H (Ext.refl e) (by show V.bl _ = V.bl _; rw [decide_eq_false (h _ _ hx)]; rfl)⟩
theorem rv_notN0 : RV2 rNotN RNon RNon (RBl false) := fun x y G H e hx hy Q k => ⟨hy, k _ G H (Ext.refl e) (by show V.bl _ = V.bl _; rw [decide_eq_true (show x = .non from hx)]; rfl)⟩
theorem nn_int {i : Int} : notNon (RInt i) := fun v G h => by rw [show v = .int i from h]; intro z; cases z
theorem nn_str {i : Str} : notNon (RStr i) := fun v G h => by rw [show v = .str i from h]; intro z; cases z
theorem nn_h {P : HK} : notNon (RH P) := fun v G ⟨a, xs, h, _⟩ => by rw [h]; intro z; cases z
theorem nn_tup : notNon (RTup K rs) := fun v G ⟨a, xs, h, _⟩ => by rw [h]; intro z; cases z
/-! lists, tuples -/
theorem seq_same {G H : Hp} {a : Addr} {xs : List V} (e : Same G H) (h : SqL K G a xs) : SqL K H a xs := e.seq h
theorem atI_get {rs : List R} {xs : List V} {G : Hp} {i : Int} {r : R} (h : Reps rs xs G) (e : atI rs i = some r) : ∃ x, atI xs i = some x ∧ r.p x G := by
  unfold atI at e ⊢
  rw [h.length] at e
  cases q : ixN xs.length i with
  | none => rw [q] at e; cases e
  | some j => rw [q] at e; exact h.get e
theorem rv_ixL {i : Int} (e : atI rs i = some r) : RV2 (rIxL K) (RLst rs) (RInt i) r := fun x y G H s hx hy Q k => by
  obtain ⟨a, xs, rfl, h1, h2⟩ := RLst.out hx
  obtain ⟨v, h3, h4⟩ := atI_get h2 e
  exact ⟨a, xs, i, v, rfl, hy, .of (s _ _ h1), h3, k v G H (Ext.refl s) h4⟩
theorem rv_ixT {i : Int} (e : atI rs i = some r) : RV2 (rIxT K) (RTup K rs) (RInt i) r := fun x y G H s hx hy Q k => by
  obtain ⟨a, xs, rfl, h1, h2⟩ := hx
  obtain ⟨v, h3, h4⟩ := atI_get h2 e
  exact ⟨a, xs, i, v, rfl, hy, sqt_same s.same h1, h3, k v G H (Ext.refl s) h4⟩
theorem atI_nat' {α : Type} {xs : List α} {i : Nat} {x : α} (h : xs[i]? = some x) : atI xs (i : Int) = some x := by
  have hl : i < xs.length := (List.getElem?_eq_some_iff.mp h).1
  have e : ixN xs.length (i : Int) = some i := by
    unfold ixN
    rw [if_pos (by omega), if_pos (by omega), Int.toNat_natCast]
  unfold atI; rw [e]; exact h
theorem atI_int {α : Type} {xs : List α} {i : Int} {x : α} (h0 : 0 ≤ i) (h : xs[i.toNat]? = some x) : atI xs i = some x := by
  have := atI_nat' h
  rwa [Int.toNat_of_nonneg h0] at this
end
end DL
set_option Elab.async false
set_option linter.all false
set_option maxRecDepth 100000
set_option maxHeartbeats 4000000
/-! DL2: statements and loops at the level of data. -/
namespace DL
open PySem PySem.Spec PyProof.Rows L2
variable [tsp : TabSpec]
def Go (c : Ctx) (t : TS) (ρ : Env) (D : Ends) : Prop := ∀ σ G H F, Sta c ρ σ G H F → t D σ H
def Nx (c : Ctx) (N : L2.St → Hp → Prop) (ρ : Env) : Prop := ∀ σ G H F, Sta c ρ σ G H F → N σ H
/-- what a return of an r does -/
def Rets (c : Ctx) (D : Ends) (r : R) : Prop := ∀ v G H, Ext c.B c.G0 c.H0 G H → r.p v G → D.rt v H
def Ctx.pin (c : Ctx) (g : Hp) : Ctx := { c with pins := g :: c.pins }
theorem Sta.unpin {c : Ctx} {g : Hp} {ρ : Env} {σ : L2.St} {G H : Hp} {F : Nat → Addr → Prop} (S : Sta (c.pin g) ρ σ G H F) : Sta c ρ σ G H F :=
  ⟨S.ext, S.len, S.at_, S.dis, S.out, fun g' h => S.pin g' (.tail _ h)⟩
theorem Sta.pinned {c : Ctx} {g : Hp} {ρ : Env} {σ : L2.St} {G H : Hp} {F : Nat → Addr → Prop} (S : Sta c ρ σ G H F) (e : Same g G) : Sta (c.pin g) ρ σ G H F :=
  ⟨S.ext, S.len, S.at_, S.dis, S.out, fun g' h => by cases h with | head => exact e | tail _ h => exact S.pin g' h⟩
theorem Sta.top {c : Ctx} {g : Hp} {ρ : Env} {σ : L2.St} {G H : Hp} {F : Nat → Addr → Prop} (S : Sta (c.pin g) ρ σ G H F) : Same g G := S.pin g (.head _)
/-! own objects -/
def ownH (P : HK) : SP := ⟨fun v G H F => ∃ p o, v = .ref p ∧ H p = some o ∧ P.p o G ∧ ∀ a, F a ↔ a = p,
  fun e k ⟨p, xs, h1, h2, h3, h4⟩ => ⟨p, xs, h1, by rw [k p ((h4 p).mpr rfl)]; exact h2, P.mono e h3, h4⟩⟩
abbrev ownL (rs : List R) : SP := ownH (HL rs)
abbrev ownD (kvs : List (Key × R)) : SP := ownH (HD kvs)
/-- a new object, not yet in the stable part -/
def EvH (c : Ctx) (te : TE) (ρ : Env) (P : HK) : Prop := ∀ σ G H F, Sta c ρ σ G H F → ∀ Q : VK, (∀ p o G' H' F', Sta c ρ σ G' H' F' → Nxt G H F G' H' F' → H' p = some o → G' p = none → (∀ i, ¬ F' i p) → H p = none → P.p o G' → Q (.ref p) H') → te σ H Q
abbrev EvN (c : Ctx) (te : TE) (ρ : Env) (rs : List R) : Prop := EvH c te ρ (HL rs)
section
variable {c : Ctx} {ρ : Env} {σ : L2.St} {G H G' H' : Hp} {F : Nat → Addr → Prop}
/-- what stands outside, owned by nobody, is put into the stable part -/
theorem Sta.freeze (S : Sta c ρ σ G H F) {p : Addr} {o : HO} (hp : H p = some o) (h0 : c.H0 p = none) (hF : ∀ i, ¬ F i p) (hg : G p = none) (ho : ∀ ps, o ≠ .tbl ps) : Sta c ρ σ (upd G p o) H F where
  ext := {
    keep := S.ext.keep
    tab := S.ext.tab
    live := S.ext.live
    sub := fun a u h => by
      have q : a ≠ p := fun z => by subst z; rw [S.ext.sub _ _ h] at hg; cases hg
      rw [upd_ne q]; exact S.ext.sub _ _ h
    le := ⟨fun a u h => by
      by_cases q : a = p
      · subst q; rw [upd_same] at h; rw [← h]; exact hp
      · rw [upd_ne q] at h; exact S.ext.le _ _ h, S.ext.le.nt.upd ho, S.ext.le.tb⟩
    new := fun a h g => by
      have q : a ≠ p := fun z => by subst z; exact h h0
      rw [upd_ne q]; exact S.ext.new a h g }
  len := S.len
  at_ := fun i s h => by
    obtain ⟨v, h1, h2⟩ := S.at_ i s h
    refine ⟨v, h1, s.mono (fun a u h => ?_) (fun a q => rfl) h2⟩
    have q : a ≠ p := fun z => by subst z; rw [h] at hg; cases hg
    rw [upd_ne q]; exact h
  dis := S.dis
  out := fun i a q => by
    obtain ⟨g, h, b⟩ := S.out i a q
    have z : a ≠ p := fun z => by subst z; exact hF i q
    exact ⟨by rw [upd_ne z]; exact g, h, b⟩
  pin := fun g h a u e => by
    have e' := S.pin g h _ _ e
    have q : a ≠ p := fun z => by subst z; rw [e'] at hg; cases hg
    rw [upd_ne q]; exact e'
theorem same_upd {p : Addr} {o : HO} (h : G p = none) : Same G (upd G p o) := fun a u e => by
  have q : a ≠ p := fun z => by subst z; rw [h] at e; cases e
  rw [upd_ne q]; exact e
theorem H0_none (S : Sta c ρ σ G H F) {p : Addr} (h : H p = none) : c.H0 p = none := S.ext.live p h
variable {te tb ta : TE} {rs : List R} {r ra rb rc : R} {P : HK}
theorem evh_ev (h : EvH c te ρ P) : Ev c te ρ (RH P) := fun σ G H F S Q k => h σ G H F S Q fun p xs G' H' F' S' n hp hg hF h0 q =>
  k _ _ _ _ (S'.freeze hp (H0_none S h0) hF hg (P.dat q).nt) ⟨n.sub.trans (same_upd hg), n.keep, n.live, fun a h g => by
    have z : a ≠ p := fun z => by subst z; exact h h0
    rw [upd_ne z]; exact n.new a h g⟩ ⟨p, xs, rfl, upd_same, P.mono (same_upd hg) q⟩
theorem evn_ev (h : EvN c te ρ rs) : Ev c te ρ (RLst rs) := evh_ev h
theorem evn_lst {tas : TA} (ha : EvA c tas ρ rs) (hl : rs.length ≤ 100000) : EvN c (tLst tas) ρ rs := fun σ G H F S Q k => by
  refine ha σ G H F S _ fun xs G1 H1 F1 S1 n1 qs => ?_
  refine ⟨sz_ok (by rw [← qs.length]; exact hl), fun p hp => ?_⟩
  have e : Ext noB G1 H1 G1 (upd H1 p (.lst xs)) := Ext.aside S1.le hp
  refine k p (.lst xs) _ _ F1 (S1.step e) (n1.trans (Nxt.of e)) upd_same ?_ (fun i q => (S1.out i p q).2.1.ne hp) (n1.live p hp) ⟨xs, rfl, qs⟩
  cases z : G1 p with
  | none => rfl
  | some u => rw [S1.le _ _ z] at hp; cases hp
theorem evn_nil : EvN c (tLst tNil) ρ [] := evn_lst ea_nil (by simp)
end
section
variable {c : Ctx} {ρ : Env} {D : Ends} {te ta ti : TE} {tt : TT} {t u tu tw : TS} {r : R} {rs : List R} {i : Nat} {P : HK}
theorem go_seq (h : Go c t ρ { D with nx := u D }) : Go c (tSeq t u) ρ D := h
theorem nx_go (h : Go c u ρ D) : Nx c (u D) ρ := h
theorem go_next (h : Nx c D.nx ρ) : Go c tNext ρ D := h
theorem go_break (h : Nx c D.bk ρ) : Go c tBreak ρ D := h
theorem go_cont (h : Nx c D.ct ρ) : Go c tCont ρ D := h
theorem go_ret (h : Ev c te ρ r) (k : Rets c D r) : Go c (tRet te) ρ D := fun σ G H F S => h σ G H F S _ fun v G' H' F' S' _ q => k v G' H' S'.ext q
theorem go_retN (k : Rets c D RNon) : Go c tRetN ρ D := fun σ G H F S => k _ G H S.ext rfl
/-- a return from a def that turns what it was handed -/
theorem go_retS (h : Ev c te ρ r) (k : ∀ σ G H F v, Sta c ρ σ G H F → r.p v G → D.rt v H) : Go c (tRet te) ρ D := fun σ G H F S => h σ G H F S _ fun v G' H' F' S' _ q => k σ G' H' F' v S' q
theorem go_asg (hi : i < ρ.length) (h : Ev c te ρ r) (k : Nx c D.nx (ρ.set i (some (im r)))) : Go c (tAsg te (gName i)) ρ D := fun σ G H F S => h σ G H F S _ fun v G' H' F' S' _ q => k _ _ _ _ (S'.set hi q)
theorem q_asg (hi : i < ρ.length) (h : Ev c te ρ r) (k : Go c u (ρ.set i (some (im r))) D) : Go c (tSeq (tAsg te (gName i)) u) ρ D := go_seq (go_asg hi h k)
theorem Sta.setX {α : Type} {P : α → Prop} {f : α → R} {σ : L2.St} {G H : Hp} {F : Nat → Addr → Prop} {v : V} (S : Sta c ρ σ G H F) (hi : i < ρ.length) (q : (exR P f).p v G) : ∃ x, P x ∧ Sta c (ρ.set i (some (im (f x)))) (σ.set i (some v)) G H (fun j a => j ≠ i ∧ F j a) := by
  obtain ⟨x, px, q⟩ := q
  exact ⟨x, px, S.set hi q⟩
theorem go_asgX {α : Type} {P : α → Prop} {f : α → R} (hi : i < ρ.length) (h : Ev c te ρ (exR P f)) (k : ∀ x, P x → Nx c D.nx (ρ.set i (some (im (f x))))) : Go c (tAsg te (gName i)) ρ D := fun σ G H F S => h σ G H F S _ fun v G' H' F' S' _ ⟨x, px, q⟩ => k x px _ _ _ _ (S'.set hi q)
theorem q_asgX {α : Type} {P : α → Prop} {f : α → R} (hi : i < ρ.length) (h : Ev c te ρ (exR P f)) (k : ∀ x, P x → Go c u (ρ.set i (some (im (f x)))) D) : Go c (tSeq (tAsg te (gName i)) u) ρ D := go_seq (go_asgX hi h k)
theorem go_asgN (hi : i < ρ.length) (h : EvH c te ρ P) (k : Nx c D.nx (ρ.set i (some (ownH P)))) : Go c (tAsg te (gName i)) ρ D := fun σ G H F S => h σ G H F S _ fun p xs G' H' F' S' n hp hg hF h0 q => by
  -- the slot's old things are let go, the new one is owned
  have S1 : Sta c (ρ.set i none) (σ.set i (some (.ref p))) G' H' F' := S'.forget
  have S2 : Sta c (ρ.set i none) (σ.set i (some (.ref p))) G' H' (fun j a => j ≠ i ∧ F' j a) := ⟨S1.ext, S1.len, fun j s e => by
    by_cases q : j = i
    · subst q; rw [List.getElem?_set_self hi] at e; cases e
    · obtain ⟨v, h1, h2⟩ := S1.at_ j s e
      have eF : (fun a => j ≠ i ∧ F' j a) = F' j := funext fun a => propext ⟨fun z => z.2, fun z => ⟨q, z⟩⟩
      exact ⟨v, h1, by rw [eF]; exact h2⟩, fun j k a x y => S1.dis j k a x.2 y.2, fun j a x => S1.out j a x.2, S1.pin⟩
  refine k _ G' H' (fun j a => if j = i then a = p else F' j a) ⟨S2.ext, by rw [S2.len]; simp, fun j s e => ?_, fun j k a x y => ?_, fun j a x => ?_, S2.pin⟩
  · by_cases z : j = i
    · subst z
      rw [List.getElem?_set_self hi] at e
      cases e
      have eF : (fun a => if j = j then a = p else F' j a) = (fun a => a = p) := funext fun a => if_pos rfl
      refine ⟨.ref p, List.getElem?_set_self (by rw [S'.len]; exact hi), ?_⟩
      rw [eF]
      exact ⟨p, xs, rfl, hp, q, fun a => Iff.rfl⟩
    · rw [List.getElem?_set_ne (Ne.symm z)] at e
      obtain ⟨v, h1, h2⟩ := S'.at_ j s e
      have eF : (fun a => if j = i then a = p else F' j a) = F' j := funext fun a => if_neg z
      exact ⟨v, by rw [List.getElem?_set_ne (Ne.symm z)]; exact h1, by rw [eF]; exact h2⟩
  · by_cases zj : j = i
    · by_cases zk : k = i
      · rw [zj, zk]
      · rw [if_pos zj] at x; rw [if_neg zk] at y; subst x; exact absurd y (hF k)
    · by_cases zk : k = i
      · rw [if_neg zj] at x; rw [if_pos zk] at y; subst y; exact absurd x (hF j)
      · rw [if_neg zj] at x; rw [if_neg zk] at y; exact S'.dis j k a x y
  · by_cases zj : j = i
    · rw [if_pos zj] at x; subst x
      exact ⟨hg, ⟨_, hp, P.dat q⟩, .inr (H0_none S h0)⟩
    · rw [if_neg zj] at x; exact S'.out j a x
theorem q_asgN (hi : i < ρ.length) (h : EvH c te ρ P) (k : Go c u (ρ.set i (some (ownH P))) D) : Go c (tSeq (tAsg te (gName i)) u) ρ D := go_seq (go_asgN hi h k)
theorem go_if {Φ : Bool → Prop} (h : EvP c tt ρ Φ) (h1 : Φ true → Go c tu ρ D) (h2 : Φ false → Go c tw ρ D) : Go c (tIfS tt tu tw) ρ D := fun σ G H F S => h σ G H F S _ fun b G' H' F' S' _ q => by
  cases b with
  | true => exact iteT (h1 q σ G' H' F' S')
  | false => exact iteF (h2 q σ G' H' F' S')
theorem go_ifT {b : Bool} (h : EvT c tt ρ b) (h1 : b = true → Go c tu ρ D) (h2 : b = false → Go c tw ρ D) : Go c (tIfS tt tu tw) ρ D := go_if h (fun e => h1 e.symm) (fun e => h2 e.symm)
theorem q_if {Φ : Bool → Prop} (h : EvP c tt ρ Φ) (h1 : Φ true → Go c tu ρ { D with nx := u D }) (h2 : Φ false → Go c tw ρ { D with nx := u D }) : Go c (tSeq (tIfS tt tu tw) u) ρ D := go_if h h1 h2
theorem q_ifT {b : Bool} (h : EvT c tt ρ b) (h1 : b = true → Go c tu ρ { D with nx := u D }) (h2 : b = false → Go c tw ρ { D with nx := u D }) : Go c (tSeq (tIfS tt tu tw) u) ρ D := go_ifT h h1 h2
theorem go_drop (h : Ev c te ρ r) (k : Nx c D.nx ρ) : Go c (tDrop te) ρ D := fun σ G H F S => h σ G H F S _ fun v G' H' F' S' _ q => k _ _ _ _ S'
theorem go_forget {i : Nat} (h : Go c t (ρ.set i none) D) : Go c t ρ D := fun σ G H F S => by
  have e : σ.set i (σ[i]?.getD none) = σ := by
    apply List.ext_getElem?
    intro j
    by_cases z : j = i
    · subst z
      by_cases hl : j < σ.length
      · rw [List.getElem?_set_self hl]; simp [hl]
      · rw [List.getElem?_eq_none (by rw [List.length_set]; omega), List.getElem?_eq_none (by omega)]
    · rw [List.getElem?_set_ne (Ne.symm z)]
  have := S.forget (i := i) (x := σ[i]?.getD none)
  rw [e] at this
  exact h σ G H F this
theorem go_weak {ρ' : Env} (w : ∀ σ G H F, Sta c ρ σ G H F → ∃ F', Sta c ρ' σ G H F') (h : Go c t ρ' D) : Go c t ρ D := fun σ G H F S => by
  obtain ⟨F', S'⟩ := w σ G H F S
  exact h σ G H F' S'
/-- an own list is from now on as it is -/
theorem Sta.freezeL {σ : L2.St} {G H : Hp} {F : Nat → Addr → Prop} (hρ : ρ[i]? = some (some (ownH P))) (hb : i ∉ c.bs) (S : Sta c ρ σ G H F) : ∃ G' F', Sta c (ρ.set i (some (im (RH P)))) σ G' H F' := by
  obtain ⟨v, h1, p, xs, rfl, h2, h3, h4⟩ := S.at_ i _ hρ
  have hi : i < ρ.length := (List.getElem?_eq_some_iff.mp hρ).1
  obtain ⟨hg, _, h0⟩ := S.out i p ((h4 p).mpr rfl)
  have h0' : c.H0 p = none := h0.elim (fun z => absurd z.2 hb) id
  have S1 : Sta c (ρ.set i none) (σ.set i (some (.ref p))) G H F := S.forget
  have S2 : Sta c (ρ.set i none) (σ.set i (some (.ref p))) G H (fun j a => j ≠ i ∧ F j a) := ⟨S1.ext, S1.len, fun j s e => by
    by_cases q : j = i
    · subst q; rw [List.getElem?_set_self hi] at e; cases e
    · obtain ⟨v, h1, h2⟩ := S1.at_ j s e
      have eF : (fun a => j ≠ i ∧ F j a) = F j := funext fun a => propext ⟨fun z => z.2, fun z => ⟨q, z⟩⟩
      exact ⟨v, h1, by rw [eF]; exact h2⟩, fun j k a x y => S1.dis j k a x.2 y.2, fun j a x => S1.out j a x.2, S1.pin⟩
  have S3 := S2.freeze h2 h0' (fun j z => z.1 (S.dis j i p z.2 ((h4 p).mpr rfl))) hg (P.dat h3).nt
  have S4 := S3.set (i := i) (v := .ref p) (r := RH P) (by rw [List.length_set]; exact hi) ⟨p, xs, rfl, upd_same, P.mono (same_upd hg) h3⟩
  have eσ : (σ.set i (some (V.ref p))).set i (some (.ref p)) = σ := by
    rw [List.set_set]
    apply List.ext_getElem?
    intro j
    by_cases z : j = i
    · subst z
      rw [List.getElem?_set_self (by rw [S.len]; exact hi), h1]
    · rw [List.getElem?_set_ne (Ne.symm z)]
  rw [eσ, List.set_set] at S4
  exact ⟨_, _, S4⟩
theorem go_freeze (i : Nat) {P : HK} (hρ : ρ[i]? = some (some (ownH P))) (hb : i ∉ c.bs) (h : Go c t (ρ.set i (some (im (RH P)))) D) : Go c t ρ D := fun σ G H F S => by
  obtain ⟨G', F', S'⟩ := S.freezeL hρ hb
  exact h σ G' H F' S'
/-! changes of an own list -/
theorem Sta.own_put {σ : L2.St} {G H : Hp} {F : Nat → Addr → Prop} {p : Addr} {P P' : HK} (S : Sta c ρ σ G H F) (hi : ρ[i]? = some (some (ownH P))) (h1 : σ[i]? = some (some (.ref p))) (hF : F i p) {o : HO} (hr : P'.p o G) : ∃ F', Sta c (ρ.set i (some (ownH P'))) σ G (upd H p o) F' := by
  have hl : i < ρ.length := (List.getElem?_eq_some_iff.mp hi).1
  obtain ⟨v, g1, p', xs', rfl, g2, g3, g4⟩ := S.at_ i _ hi
  rw [h1] at g1
  cases g1
  have eσ : σ.set i (some (V.ref p)) = σ := by
    apply List.ext_getElem?
    intro j
    by_cases z : j = i
    · subst z
      rw [List.getElem?_set_self (by rw [S.len]; exact hl), h1]
    · rw [List.getElem?_set_ne (Ne.symm z)]
  have S1 := S.turn (i := i) (v := .ref p) (s := ownH P') (G' := G) (H' := upd H p o) (F' := fun a => a = p) hl
    ⟨fun a _ h => by
      have q : a ≠ p := fun z => by subst z; rw [(S.out i a hF).1] at h; cases h
      rw [upd_ne q]; exact S.le _ _ h, S.le.nt, tab_put g2 (P.dat g3) S.le.tb⟩
    (Same.refl _) (tab_put g2 (P.dat g3)) (fun a _ n _ h => by
      have q : a ≠ p := fun z => by subst z; exact n hF
      rw [upd_ne q]; exact h)
    (fun a h => by
      by_cases q : a = p
      · subst q; rw [upd_same] at h; cases h
      · rw [upd_ne q] at h; exact h)
    (fun a _ g => g) (fun a e => by subst e; exact ⟨.inl hF, ⟨_, upd_same, P'.dat hr⟩, (S.out i a hF).1⟩)
    ⟨p, o, rfl, upd_same, hr, fun a => Iff.rfl⟩
  rw [eσ] at S1
  exact ⟨_, S1⟩
theorem go_app {K : PySem.W.Frag} (hi : ρ[i]? = some (some (ownL rs))) (h : Ev c te ρ r) (hl : rs.length < 100000) (k : Nx c D.nx (ρ.set i (some (ownL (rs ++ [r]))))) : Go c (tDrop (tBM K "list" rAppend (tVar i) (tCons te tNil))) ρ D := fun σ G H F S => by
  obtain ⟨v, h1, p, _, rfl, h2, ⟨xs, rfl, h3⟩, h4⟩ := S.at_ i _ hi
  refine ⟨_, h1, .inl ⟨rfl, xs, .inl (.inl h2)⟩, ?_⟩
  refine h σ G H F S _ fun y G1 H1 F1 S1 n1 qy => ?_
  obtain ⟨v', g1, p', _, e', g2, ⟨xs', rfl, g3⟩, g4⟩ := S1.at_ i _ hi
  rw [h1] at g1; cases g1; cases e'
  refine ⟨p, xs', y, rfl, rfl, g2, sz_lt (by rw [← g3.length]; exact hl), ?_⟩
  obtain ⟨F', S2⟩ := S1.own_put hi h1 ((g4 p).mpr rfl) (P' := HL _) ⟨_, rfl, (g3.append (.cons qy .nil))⟩
  exact k _ _ _ _ S2
theorem q_app {K : PySem.W.Frag} (hi : ρ[i]? = some (some (ownL rs))) (h : Ev c te ρ r) (hl : rs.length < 100000) (k : Go c u (ρ.set i (some (ownL (rs ++ [r])))) D) : Go c (tSeq (tDrop (tBM K "list" rAppend (tVar i) (tCons te tNil))) u) ρ D := go_seq (go_app hi h hl k)
/-- xs.extend(a new list) -/
theorem go_ext {K : PySem.W.Frag} {rs2 : List R} (hi : ρ[i]? = some (some (ownL rs))) (h : EvN c te ρ rs2) (hl : rs.length + rs2.length ≤ 100000) (k : Nx c D.nx (ρ.set i (some (ownL (rs ++ rs2))))) : Go c (tDrop (tBM K "list" rExtend (tVar i) (tCons te tNil))) ρ D := fun σ G H F S => by
  obtain ⟨v, h1, p, _, rfl, h2, ⟨xs, rfl, h3⟩, h4⟩ := S.at_ i _ hi
  refine ⟨_, h1, .inl ⟨rfl, xs, .inl (.inl h2)⟩, ?_⟩
  refine h σ G H F S _ fun q _ G1 H1 F1 S1 n1 hq _ _ _ ⟨ys, ey, qy⟩ => ?_
  subst ey
  obtain ⟨v', g1, p', _, e', g2, ⟨xs', rfl, g3⟩, g4⟩ := S1.at_ i _ hi
  rw [h1] at g1; cases g1; cases e'
  refine ⟨p, q, xs', ys, rfl, rfl, g2, hq, sz_ok (by rw [← g3.length, ← qy.length]; exact hl), ?_⟩
  obtain ⟨F', S2⟩ := S1.own_put hi h1 ((g4 p).mpr rfl) (P' := HL _) ⟨_, rfl, (g3.append qy)⟩
  exact k _ _ _ _ S2
/-- xs[i] = e -/
theorem go_setL {j : Nat} (hi : ρ[i]? = some (some (ownL rs))) (h : Ev c te ρ r) (hx : Ev c ti ρ (RInt (j : Int))) (hj : j < rs.length) (k : Nx c D.nx (ρ.set i (some (ownL (rs.set j r))))) : Go c (tAsg te (gSub (tVar i) ti rSetL)) ρ D := fun σ G H F S => by
  refine h σ G H F S _ fun y G1 H1 F1 S1 n1 qy => ?_
  obtain ⟨v, h1, _⟩ := S1.at_ i _ hi
  refine ⟨v, h1, ?_⟩
  refine hx σ G1 H1 F1 S1 _ fun x G2 H2 F2 S2 n2 qx => ?_
  obtain ⟨v', g1, p, _, rfl, g2, ⟨xs, rfl, g3⟩, g4⟩ := S2.at_ i _ hi
  rw [h1] at g1; cases g1
  refine ⟨p, xs, j, j, rfl, qx, g2, ?_, ?_⟩
  · rw [← g3.length]; unfold ixN; rw [if_pos (by omega), if_pos (by omega), Int.toNat_natCast]
  obtain ⟨F', S3⟩ := S2.own_put hi h1 ((g4 p).mpr rfl) (P' := HL _) ⟨_, rfl, (g3.set (i := j) (r.mono n2.sub qy))⟩
  exact k _ _ _ _ S3
theorem q_setL {j : Nat} (hi : ρ[i]? = some (some (ownL rs))) (h : Ev c te ρ r) (hx : Ev c ti ρ (RInt (j : Int))) (hj : j < rs.length) (k : Go c u (ρ.set i (some (ownL (rs.set j r)))) D) : Go c (tSeq (tAsg te (gSub (tVar i) ti rSetL)) u) ρ D := go_seq (go_setL hi h hx hj k)
/-- o[i] of a list, for o[i] op= e -/
def rGetL : V → V → Hp → VK → Prop := fun o i H Q => ∃ p xs k v, o = .ref p ∧ i = .int k ∧ H p = some (.lst xs) ∧ atI xs k = some v ∧ Q v H
/-- xs[i] += e -/
theorem go_augL {j : Nat} {f : Int → Int → Int} {a b : Int} (hi : ρ[i]? = some (some (ownL rs))) (hx : Ev c ti ρ (RInt (j : Int))) (hj : rs[j]? = some (RInt a)) (h : Ev c te ρ (RInt b)) (k : Nx c D.nx (ρ.set i (some (ownL (rs.set j (RInt (f a b))))))) : Go c (tAugS (tVar i) ti te rGetL (ipI f) rSetL) ρ D := fun σ G H F S => by
  obtain ⟨v, h1, _⟩ := S.at_ i _ hi
  refine ⟨v, h1, ?_⟩
  refine hx σ G H F S _ fun x G1 H1 F1 S1 n1 qx => ?_
  obtain ⟨v', g1, p, _, rfl, g2, ⟨xs, rfl, g3⟩, g4⟩ := S1.at_ i _ hi
  rw [h1] at g1; cases g1
  obtain ⟨y, hy, qy⟩ := g3.get hj
  refine ⟨p, xs, j, y, rfl, qx, g2, atI_nat' hy, ?_⟩
  refine h σ G1 H1 F1 S1 _ fun z G2 H2 F2 S2 n2 qz => ?_
  refine ⟨a, b, qy, qz, ?_⟩
  obtain ⟨v', e1, p', _, e', e2, ⟨xs', rfl, e3⟩, e4⟩ := S2.at_ i _ hi
  rw [h1] at e1; cases e1; cases e'
  refine ⟨p, xs', j, j, rfl, qx, e2, ?_, ?_⟩
  · have : j < rs.length := (List.getElem?_eq_some_iff.mp hj).1
    rw [← e3.length]; unfold ixN; rw [if_pos (by omega), if_pos (by omega), Int.toNat_natCast]
  obtain ⟨F', S3⟩ := S2.own_put hi h1 ((e4 p).mpr rfl) (P' := HL _) ⟨_, rfl, (e3.set (i := j) (show (RInt (f a b)).p (.int (f a b)) G2 from rfl))⟩
  exact k _ _ _ _ S3
theorem q_augL {j : Nat} {f : Int → Int → Int} {a b : Int} (hi : ρ[i]? = some (some (ownL rs))) (hx : Ev c ti ρ (RInt (j : Int))) (hj : rs[j]? = some (RInt a)) (h : Ev c te ρ (RInt b)) (k : Go c u (ρ.set i (some (ownL (rs.set j (RInt (f a b)))))) D) : Go c (tSeq (tAugS (tVar i) ti te rGetL (ipI f) rSetL) u) ρ D := go_seq (go_augL hi hx hj h k)
/-- name op= e -/
theorem go_aug {f : Int → Int → Int} {a b : Int} (hi : ρ[i]? = some (some (im (RInt a)))) (h : Ev c te ρ (RInt b)) (k : Nx c D.nx (ρ.set i (some (im (RInt (f a b)))))) : Go c (tAug i te (ipI f)) ρ D := fun σ G H F S => by
  obtain ⟨v, h1, rfl, _⟩ := S.at_ i _ hi
  refine ⟨_, h1, ?_⟩
  refine h σ G H F S _ fun y G1 H1 F1 S1 n1 qy => ?_
  exact ⟨a, b, rfl, qy, k _ _ _ _ (S1.set (List.getElem?_eq_some_iff.mp hi).1 rfl)⟩
theorem q_aug {f : Int → Int → Int} {a b : Int} (hi : ρ[i]? = some (some (im (RInt a)))) (h : Ev c te ρ (RInt b)) (k : Go c u (ρ.set i (some (im (RInt (f a b))))) D) : Go c (tSeq (tAug i te (ipI f)) u) ρ D := go_seq (go_aug hi h k)
end
end DL
set_option Elab.async false
set_option linter.all false
set_option maxRecDepth 100000
set_option maxHeartbeats 4000000
/-! DL3: what is walked, loops, comprehensions. -/
namespace DL
open PySem PySem.Spec PyProof.Rows L2
variable [tsp : TabSpec]
/-- an iterator over rs, while G stands -/
structure DW (J : It) (rs : List R) (G : Hp) : Prop where
  goes : ∀ i H, i < rs.length → Same G H → J.go i H
  stops : ∀ H, Same G H → J.stop rs.length H
  yields : ∀ (i : Nat) (G2 H : Hp) x H' (r : R), Same G G2 → Le G2 H → rs[i]? = some r → J.yld i H x H' → ∃ G3, Ext noB G2 H G3 H' ∧ r.p x G3
def EvI (c : Ctx) (wi : TI) (ρ : Env) (rs : List R) : Prop := ∀ σ G H F, Sta c ρ σ G H F → ∀ Rk : It → Hp → Prop, (∀ J G' H' F', Sta c ρ σ G' H' F' → Nxt G H F G' H' F' → DW J rs G' → Rk J H') → wi σ H Rk
/-- a target that takes an r -/
structure GoG (c : Ctx) (g : TG) (r : R) (ρ ρ2 : Env) (js : List Nat) : Prop where
  run : ∀ σ G H F x, Sta c ρ σ G H F → r.p x G → ∀ Q : L2.St → Hp → Prop, (∀ σ2 F2, Sta c ρ2 σ2 G H F2 → (∀ i, i ∉ js → σ2[i]? = σ[i]?) → (∀ a, (∀ i, ¬ F i a) → ∀ i, ¬ F2 i a) → Q σ2 H) → g x σ H Q
  agree : ∀ i, i ∉ js → ρ2[i]? = ρ[i]?
  len : ρ2.length = ρ.length
structure GoGs (c : Ctx) (g : TGs) (rs : List R) (ρ ρ2 : Env) (js : List Nat) : Prop where
  run : ∀ σ G H F xs, Sta c ρ σ G H F → Reps rs xs G → ∀ Q : L2.St → Hp → Prop, (∀ σ2 F2, Sta c ρ2 σ2 G H F2 → (∀ i, i ∉ js → σ2[i]? = σ[i]?) → (∀ a, (∀ i, ¬ F i a) → ∀ i, ¬ F2 i a) → Q σ2 H) → g xs σ H Q
  agree : ∀ i, i ∉ js → ρ2[i]? = ρ[i]?
  len : ρ2.length = ρ.length
section
variable {c : Ctx} {ρ ρ2 ρ3 : Env} {r : R} {rs : List R} {j : Nat}
theorem gg_name (hj : j < ρ.length) : GoG c (gName j) r ρ (ρ.set j (some (im r))) [j] where
  run := fun σ G H F x S q Q k => k _ _ (S.set hj q) (fun i hi => List.getElem?_set_ne (fun e => hi (by simp [e]))) fun a n i z => n i z.2
  agree := fun i hi => List.getElem?_set_ne (fun e => hi (by simp [e]))
  len := by simp
theorem ggs_nil : GoGs c gNil [] ρ ρ [] where
  run := fun σ G H F x S q Q k => by
    cases q
    exact ⟨rfl, k σ F S (fun _ _ => rfl) fun _ n => n⟩
  agree := fun _ _ => rfl
  len := rfl
theorem ggs_cons {g : TG} {gs : TGs} {js ks : List Nat} (h1 : GoG c g r ρ ρ2 js) (h2 : GoGs c gs rs ρ2 ρ3 ks) : GoGs c (gCons g gs) (r :: rs) ρ ρ3 (js ++ ks) where
  run := fun σ G H F x S q Q k => by
    cases q with
    | cons q qs =>
      refine ⟨_, _, rfl, h1.run σ G H F _ S q _ fun σ2 F2 S2 a2 k2 => ?_⟩
      refine h2.run σ2 G H F2 _ S2 qs _ fun σ3 F3 S3 a3 k3 => ?_
      exact k σ3 F3 S3 (fun i hi => by rw [List.mem_append, not_or] at hi; rw [a3 i hi.2, a2 i hi.1]) fun a n => k3 a (k2 a n)
  agree := fun i hi => by rw [List.mem_append, not_or] at hi; rw [h2.agree i hi.2, h1.agree i hi.1]
  len := by rw [h2.len, h1.len]
theorem gg_tup {gs : TGs} {n : Nat} {js : List Nat} (h : GoGs c gs rs ρ ρ2 js) (hn : rs.length = n) : GoG c (gTup c.K n gs) (RTup c.K rs) ρ ρ2 js where
  run := fun σ G H F x S ⟨a, xs, e, h1, h2⟩ Q k => ⟨a, xs, e, sqt_same S.le.same h1, by rw [← h2.length]; exact hn, h.run σ G H F xs S h2 Q k⟩
  agree := h.agree
  len := h.len
theorem gg_ex {α : Type} {P : α → Prop} {f : α → R} {g : TG} {js : List Nat} {ρ2 : Env} (h : ∀ x, P x → GoG c g (f x) ρ ρ2 js) (hx : ∃ x, P x) : GoG c g (exR P f) ρ ρ2 js where
  run := fun σ G H F x S ⟨y, py, q⟩ Q k => (h y py).run σ G H F x S q Q k
  agree := hx.elim fun x px => (h x px).agree
  len := hx.elim fun x px => (h x px).len
end
section
variable {c : Ctx} {ρ : Env} {D : Ends} {t tb u : TS} {wi : TI} {g : TG} {r : R} {rs : List R} {i : Nat}
/-- behind i turns -/
def inv (c : Ctx) (I : Nat → Env → Prop) (i : Nat) : L2.St → Hp → Prop := fun σ H => ∃ ρ, I i ρ ∧ ∃ G F, Sta c ρ σ G H F
theorem nx_inv {I : Nat → Env → Prop} (h : I i ρ) : Nx c (inv c I i) ρ := fun σ G H F S => ⟨ρ, h, G, F, S⟩
theorem go_for (I : Nat → Env → Prop) (hi : EvI c wi ρ rs) (h0 : I 0 ρ)
    (hs : ∀ Gl (i : Nat) r ρ', rs[i]? = some r → I i ρ' → ∃ ρ2 js, GoG (c.pin Gl) g r ρ' ρ2 js ∧ Go (c.pin Gl) tb ρ2 { D with nx := inv (c.pin Gl) I (i + 1), ct := inv (c.pin Gl) I (i + 1), bk := D.nx })
    (hd : ∀ ρ', I rs.length ρ' → Nx c D.nx ρ') : Go c (tFor wi g tb) ρ D := fun σ G H F S => by
  refine hi σ G H F S _ fun J Gl Hl Fl Sl nl w => ?_
  refine ⟨fun i m σ H => m = rs.length - i ∧ i ≤ rs.length ∧ inv (c.pin Gl) I i σ H, ⟨_, rfl, Nat.zero_le _, ρ, h0, Gl, Fl, Sl.pinned (Same.refl _)⟩, ?_⟩
  rintro i m σ1 H1 ⟨rfl, hle, ρ', hI, G1, F1, S1⟩
  by_cases hlt : i < rs.length
  · refine .inr ⟨w.goes i H1 hlt (S1.top.trans S1.le.same), inv (c.pin Gl) I (i + 1), fun σ' H' p => ⟨_, by omega, rfl, hlt, p⟩, fun x H2 y => ?_⟩
    obtain ⟨r, hr⟩ : ∃ r, rs[i]? = some r := ⟨rs[i], by simp [hlt]⟩
    obtain ⟨G3, e3, q⟩ := w.yields i G1 H1 x H2 r S1.top S1.le hr y
    obtain ⟨ρ2, js, hg, hb⟩ := hs Gl i r ρ' hr hI
    exact hg.run σ1 G3 H2 F1 x (S1.step e3) q _ fun σ2 F2 S2 _ _ => hb σ2 G3 H2 F2 S2
  · have e : i = rs.length := by omega
    subst e
    exact .inl ⟨w.stops H1 (S1.top.trans S1.le.same), hd ρ' hI σ1 G1 H1 F1 S1.unpin⟩
theorem q_for (I : Nat → Env → Prop) (hi : EvI c wi ρ rs) (h0 : I 0 ρ)
    (hs : ∀ Gl (i : Nat) r ρ', rs[i]? = some r → I i ρ' → ∃ ρ2 js, GoG (c.pin Gl) g r ρ' ρ2 js ∧ Go (c.pin Gl) tb ρ2 { D with nx := inv (c.pin Gl) I (i + 1), ct := inv (c.pin Gl) I (i + 1), bk := u D })
    (hd : ∀ ρ', I rs.length ρ' → Go c u ρ' D) : Go c (tSeq (tFor wi g tb) u) ρ D := go_seq (go_for I hi h0 hs hd)
/-- the invariant names the slots by the turn -/
theorem q_forE (E : Nat → Env) (hi : EvI c wi ρ rs) (h0 : E 0 = ρ)
    (hs : ∀ Gl (i : Nat) r, rs[i]? = some r → ∃ ρ2 js, GoG (c.pin Gl) g r (E i) ρ2 js ∧ Go (c.pin Gl) tb ρ2 { D with nx := inv (c.pin Gl) (fun i ρ => ρ = E i) (i + 1), ct := inv (c.pin Gl) (fun i ρ => ρ = E i) (i + 1), bk := u D })
    (hd : Go c u (E rs.length) D) : Go c (tSeq (tFor wi g tb) u) ρ D :=
  q_for (fun i ρ => ρ = E i) hi h0.symm (fun Gl i r ρ' hr e => by subst e; exact hs Gl i r hr) (fun ρ' e => by subst e; exact hd)
theorem go_while {tc : TT} (I : Nat → Env → Prop) (m : Nat) (h0 : I m ρ)
    (hs : ∀ m ρ', I m ρ' → ∃ Φ, EvP c tc ρ' Φ ∧ (Φ true → Go c tb ρ' { D with nx := fun σ H => ∃ m', m' < m ∧ inv c I m' σ H, ct := fun σ H => ∃ m', m' < m ∧ inv c I m' σ H, bk := D.nx }) ∧ (Φ false → Nx c D.nx ρ')) : Go c (tWhile tc tb) ρ D := fun σ G H F S => by
  refine ⟨fun m σ H => inv c I m σ H, ⟨m, ρ, h0, G, F, S⟩, ?_⟩
  rintro m σ1 H1 ⟨ρ', hI, G1, F1, S1⟩
  obtain ⟨Φ, hc, ht, hf⟩ := hs m ρ' hI
  refine hc σ1 G1 H1 F1 S1 _ fun b G2 H2 F2 S2 _ q => ?_
  cases b with
  | true => exact iteT ⟨_, fun σ' H' p => p, ht q σ1 G2 H2 F2 S2⟩
  | false => exact iteF (hf q σ1 G2 H2 F2 S2)
theorem q_while {tc : TT} (I : Nat → Env → Prop) (m : Nat) (h0 : I m ρ)
    (hs : ∀ m ρ', I m ρ' → ∃ Φ, EvP c tc ρ' Φ ∧ (Φ true → Go c tb ρ' { D with nx := fun σ H => ∃ m', m' < m ∧ inv c I m' σ H, ct := fun σ H => ∃ m', m' < m ∧ inv c I m' σ H, bk := u D }) ∧ (Φ false → Go c u ρ' D)) : Go c (tSeq (tWhile tc tb) u) ρ D := go_seq (go_while I m h0 hs)
theorem nx_while {I : Nat → Env → Prop} {m m' : Nat} (hm : m' < m) (h : I m' ρ) : Nx c (fun σ H => ∃ m', m' < m ∧ inv c I m' σ H) ρ := fun σ G H F S => ⟨m', hm, ρ, h, G, F, S⟩
end
/-! what is walked -/
section
variable {c : Ctx} {ρ : Env} {tl te : TE} {ta : TA} {rs as bs : List R} {K : PySem.W.Frag}
theorem ei_list (h : Ev c tl ρ (RLst rs)) : EvI c (iList c.K tl) ρ rs := fun σ G H F S Rk k => by
  refine h σ G H F S _ fun v G1 H1 F1 S1 n1 hv => ?_
  obtain ⟨a, xs, e, h1, h2⟩ := RLst.out hv
  have w := walk_list (K := c.K) (a := a) (xs := xs)
  refine ⟨a, e, ⟨xs, .of (S1.le _ _ h1)⟩, k _ G1 H1 F1 S1 n1 ⟨fun i H hi s => w.goes i H (by rw [← h2.length]; exact hi) (.of (s _ _ h1)), fun H s => by rw [h2.length]; exact w.stops H (.of (s _ _ h1)), fun i G2 H x H' r s1 s2 hr y => ?_⟩⟩
  have hi : i < xs.length := by rw [← h2.length]; exact (List.getElem?_eq_some_iff.mp hr).1
  obtain ⟨rfl, hx⟩ := w.yields i H x H' hi (.of ((s1.trans s2.same) _ _ h1)) y
  obtain ⟨x', hx', q⟩ := h2.get hr
  rw [hx] at hx'; cases hx'
  exact ⟨G2, Ext.refl s2, r.mono s1 q⟩
theorem ei_tup (h : Ev c tl ρ (RTup c.K rs)) : EvI c (iTup c.K tl) ρ rs := fun σ G H F S Rk k => by
  refine h σ G H F S _ fun v G1 H1 F1 S1 n1 ⟨a, xs, e, h1, h2⟩ => ?_
  have w := walk_tup (K := c.K) (a := a) (xs := xs)
  refine ⟨a, e, ⟨xs, sqt_same S1.le.same h1⟩, k _ G1 H1 F1 S1 n1 ⟨fun i H hi s => w.goes i H (by rw [← h2.length]; exact hi) (sqt_same s h1), fun H s => by rw [h2.length]; exact w.stops H (sqt_same s h1), fun i G2 H x H' r s1 s2 hr y => ?_⟩⟩
  have hi : i < xs.length := by rw [← h2.length]; exact (List.getElem?_eq_some_iff.mp hr).1
  obtain ⟨rfl, hx⟩ := w.yields i H x H' hi (sqt_same (s1.trans s2.same) h1) y
  obtain ⟨x', hx', q⟩ := h2.get hr
  rw [hx] at hx'; cases hx'
  exact ⟨G2, Ext.refl s2, r.mono s1 q⟩
abbrev rngs (lo : Int) (n : Nat) : List R := (List.range n).map fun k => RInt (lo + (k : Nat))
theorem dw_range {lo : Int} {n : Nat} {G : Hp} : DW (Itr lo n) (rngs lo n) G where
  goes := fun i H hi _ => by
    show i < n
    simpa using hi
  stops := fun H _ => by simp [Itr]
  yields := fun i G2 H x H' r s1 s2 hr y => by
    obtain ⟨rfl, rfl⟩ := y
    simp only [rngs, List.getElem?_map, Option.map_eq_some_iff] at hr
    obtain ⟨k, hk, rfl⟩ := hr
    have : k = i := by
      rw [List.getElem?_eq_some_iff] at hk
      obtain ⟨_, e⟩ := hk
      simpa using e.symm
    subst this
    exact ⟨G2, Ext.refl s2, rfl⟩
theorem ei_rng1 {n : Int} (h : EvA c ta ρ [RInt n]) (h1 : -100000 ≤ n ∧ n ≤ 100000) : EvI c (iRng1 ta) ρ (rngs 0 n.toNat) := fun σ G H F S Rk k => by
  refine h σ G H F S _ fun vs G1 H1 F1 S1 n1 q => ?_
  cases q with
  | cons q q' =>
    cases q'
    obtain rfl := q
    exact ⟨n, rfl, Int.le_trans (by decide) h1.1, Int.lt_of_le_of_lt h1.2 (by decide), k _ G1 H1 F1 S1 n1 dw_range⟩
theorem ei_rng2 {lo n : Int} (h : EvA c ta ρ [RInt lo, RInt n]) (h0 : -100000 ≤ lo ∧ lo ≤ 100000) (h1 : -100000 ≤ n ∧ n ≤ 100000) : EvI c (iRng2 ta) ρ (rngs lo (n - lo).toNat) := fun σ G H F S Rk k => by
  refine h σ G H F S _ fun vs G1 H1 F1 S1 n1 q => ?_
  cases q with
  | cons q q' =>
    cases q' with
    | cons q2 q3 =>
      cases q3
      obtain rfl := q
      obtain rfl := q2
      exact ⟨lo, n, rfl, ⟨Int.le_trans (by decide) h0.1, Int.lt_of_le_of_lt h0.2 (by decide), Int.le_trans (by decide) h1.1, Int.lt_of_le_of_lt h1.2 (by decide)⟩, k _ G1 H1 F1 S1 n1 dw_range⟩
abbrev signs (s : Str) : List R := s.cps.toList.map fun ch => RStr ⟨#[ch]⟩
theorem ei_str {s : Str} (h : Ev c te ρ (RStr s)) : EvI c (iStr te) ρ (signs s) := fun σ G H F S Rk k => by
  refine h σ G H F S _ fun v G1 H1 F1 S1 n1 q => ⟨s, q, k _ G1 H1 F1 S1 n1 ⟨fun i H hi _ => by (show i < s.cps.size); simpa using hi, fun H _ => by simp [Its], fun i G2 H x H' r s1 s2 hr y => ?_⟩⟩
  obtain ⟨rfl, ch, hc, rfl⟩ := y
  simp only [signs, List.getElem?_map, Option.map_eq_some_iff] at hr
  obtain ⟨k, hk, rfl⟩ := hr
  rw [Array.getElem?_toList, hc] at hk
  cases hk
  exact ⟨G2, Ext.refl s2, rfl⟩
theorem dw_pair {J : It} {xs ys : Nat → Option V} {n : Nat} {G0 : Hp} {P : Hp → Prop} (w : Walk J n P (YPair xs ys)) (hP : ∀ H, Same G0 H → P H) (hl : rs.length = n)
    (hx : ∀ (i : Nat) x y, i < n → xs i = some x → ys i = some y → ∃ ra rb, rs[i]? = some (RTup K [ra, rb]) ∧ ra.p x G0 ∧ rb.p y G0) : DW J rs G0 where
  goes := fun i H hi s => w.goes i H (by omega) (hP H s)
  stops := fun H s => by rw [hl]; exact w.stops H (hP H s)
  yields := fun i G2 H v H' r s1 s2 hr y => by
    have hi : i < n := by rw [← hl]; exact (List.getElem?_eq_some_iff.mp hr).1
    obtain ⟨T, x, z, rfl, hT, rfl, h1, h2⟩ := w.yields i H v H' hi (hP H (s1.trans s2.same)) y
    obtain ⟨ra, rb, e, q1, q2⟩ := hx i x z hi h1 h2
    rw [hr] at e; cases e
    have x1 : Ext noB G2 H (upd G2 T (.tup [x, z])) (upd H T (.tup [x, z])) := Ext.laid s2 hT
    exact ⟨_, x1, T, [x, z], rfl, .of upd_same, .cons (ra.mono (s1.trans x1.sub) q1) (.cons (rb.mono (s1.trans x1.sub) q2) .nil)⟩
abbrev enums (K : PySem.W.Frag) (rs : List R) : List R := (List.range rs.length).zipWith (fun i r => RTup K [RInt (i : Nat), r]) rs
theorem ei_enum (h : EvA c ta ρ [RLst rs]) : EvI c (iEnum c.K ta) ρ (enums c.K rs) := fun σ G H F S Rk k => by
  refine h σ G H F S _ fun vs G1 H1 F1 S1 n1 q => ?_
  cases q with
  | cons q q' =>
    cases q'
    obtain ⟨a, xs, rfl, h1, h2⟩ := RLst.out q
    refine ⟨a, xs, rfl, .of (S1.le _ _ h1), k _ G1 H1 F1 S1 n1 (dw_pair (K := c.K) (walk_enum (K := c.K) (a := a) (xs := xs)) (fun H s => .of (s _ _ h1)) (by simp [h2.length]) fun i x y hi e1 e2 => ?_)⟩
    obtain ⟨r, hr, q⟩ := h2.get2 e2
    cases e1
    refine ⟨RInt (i : Nat), r, ?_, rfl, q⟩
    simp only [enums, List.getElem?_zipWith, hr]
    rw [List.getElem?_range (by rw [h2.length]; exact hi)]
abbrev zips (K : PySem.W.Frag) (as bs : List R) : List R := as.zipWith (fun a b => RTup K [a, b]) bs
theorem ei_zip (h : EvA c ta ρ [RLst as, RLst bs]) : EvI c (RZ.iZipA c.K ta) ρ (zips c.K as bs) := fun σ G H F S Rk k => by
  refine h σ G H F S _ fun vs G1 H1 F1 S1 n1 q => ?_
  cases q with
  | cons q q' =>
    cases q' with
    | cons p p' =>
      cases p'
      obtain ⟨a, xs, rfl, h1, h2⟩ := RLst.out q
      obtain ⟨b, ys, rfl, h3, h4⟩ := RLst.out p
      refine ⟨a, b, xs, ys, rfl, .inl ⟨.of (S1.le _ _ h1), .of (S1.le _ _ h3), k _ G1 H1 F1 S1 n1 (dw_pair (K := c.K) (n := min xs.length ys.length) (walk_zip (K := c.K) (a := a) (b := b) rfl) (fun H s => ⟨.of (s _ _ h1), .of (s _ _ h3)⟩) (by simp [h2.length, h4.length]) fun i x y hi e1 e2 => ?_)⟩⟩
      obtain ⟨r, hr, q⟩ := h2.get2 e1
      obtain ⟨t, ht, p⟩ := h4.get2 e2
      exact ⟨r, t, by simp [zips, List.getElem?_zipWith, hr, ht], q, p⟩
end
/-! comprehensions -/
section
variable {c : Ctx} {ρ : Env} {wi : TI} {g : TG} {tt : TT} {te : TE} {vs : List Nat} {rs : List R}
theorem wipe_get (σ : L2.St) (i : Nat) : ∀ vs : List Nat, (wipe σ vs)[i]? = if i ∈ vs then (σ[i]?).map (fun _ => none) else σ[i]?
  | [] => by simp [wipe]
  | v :: vs => by
    unfold wipe
    by_cases z : i = v
    · subst z
      rw [if_pos (by simp)]
      by_cases hl : i < σ.length
      · rw [List.getElem?_set_self (by rw [wipe_length]; exact hl)]; simp [hl]
      · rw [List.getElem?_eq_none (by rw [List.length_set, wipe_length]; omega), List.getElem?_eq_none (by omega)]; rfl
    · rw [List.getElem?_set_ne (Ne.symm z), wipe_get σ i vs]
      by_cases hm : i ∈ vs
      · rw [if_pos hm, if_pos (by simp [hm])]
      · rw [if_neg hm, if_neg (by simp [hm, z])]
theorem wipe_agree {σ σ2 : L2.St} {js vs : List Nat} (h : ∀ i, i ∉ js → σ2[i]? = σ[i]?) (hl : σ2.length = σ.length) (hs : ∀ j ∈ js, j ∈ vs) : wipe σ2 vs = wipe σ vs := by
  apply List.ext_getElem?
  intro i
  rw [wipe_get, wipe_get]
  by_cases hm : i ∈ vs
  · rw [if_pos hm, if_pos hm]
    by_cases hi : i < σ.length
    · rw [List.getElem?_eq_getElem (h := by omega), List.getElem?_eq_getElem (h := hi)]; rfl
    · rw [List.getElem?_eq_none (by omega), List.getElem?_eq_none (by omega)]
  · rw [if_neg hm, if_neg hm, h i (fun z => hm (hs i z))]
theorem wipe_idem {σ : L2.St} {vs : List Nat} : wipe (wipe σ vs) vs = wipe σ vs :=
  wipe_agree (js := vs) (fun i hi => by rw [wipe_get, if_neg hi]) (wipe_length _ _) fun _ h => h
theorem Sta.wiped {σ : L2.St} {G H : Hp} {F : Nat → Addr → Prop} (S : Sta c ρ σ G H F) (hv : ∀ v ∈ vs, ∀ s, ρ[v]? ≠ some (some s)) : Sta c ρ (wipe σ vs) G H F where
  ext := S.ext
  len := by rw [wipe_length]; exact S.len
  at_ := fun i s e => by
    obtain ⟨v, h1, h2⟩ := S.at_ i s e
    refine ⟨v, ?_, h2⟩
    rw [wipe_get, if_neg (fun z => hv i z s e)]; exact h1
  dis := S.dis
  out := S.out
  pin := S.pin
/-- rs' so far -/
theorem evn_lc (out : Nat → List R) (hv : ∀ v ∈ vs, ∀ s, ρ[v]? ≠ some (some s)) (hi : EvI c wi ρ rs) (h0 : out 0 = [])
    (hs : ∀ Gl (i : Nat) r, rs[i]? = some r → ∃ ρ2 js Φ, GoG (c.pin Gl) g r ρ ρ2 js ∧ (∀ j ∈ js, j ∈ vs) ∧ EvP (c.pin Gl) tt ρ2 Φ ∧ (Φ true → ∃ r', Ev (c.pin Gl) te ρ2 r' ∧ out (i + 1) = out i ++ [r']) ∧ (Φ false → out (i + 1) = out i))
    (hl : ∀ i, i ≤ rs.length → (out i).length < 100000) : EvN c (tLc wi g tt te vs) ρ (out rs.length) := fun σ G H F S Q k => by
  refine hi σ G H F S _ fun J Gl Hl Fl Sl nl w => ?_
  intro D hD
  let Pv : Nat → Hp → Prop := fun i H1 => ∃ G1 F1 acc, Sta (c.pin Gl) ρ (wipe σ vs) G1 H1 F1 ∧ Nxt Gl Hl Fl G1 H1 F1 ∧ H1 D = some (.lst acc) ∧ G1 D = none ∧ (∀ j, ¬ F1 j D) ∧ Reps (out i) acc G1
  have hGD : Gl D = none := by
    cases z : Gl D with
    | none => rfl
    | some u => rw [Sl.le _ _ z] at hD; cases hD
  have hFD : ∀ j, ¬ Fl j D := fun j q => (Sl.out j D q).2.1.ne hD
  have xD : Ext noB Gl Hl Gl (upd Hl D (.lst [])) := Ext.aside Sl.le hD
  refine ⟨fun i m H => m = rs.length - i ∧ i ≤ rs.length ∧ Pv i H, ⟨rs.length, by simp, Nat.zero_le _, Gl, Fl, [], ?_, Nxt.of xD, upd_same, hGD, hFD, ?_⟩, ?_⟩
  · exact ((Sl.wiped hv).step xD).pinned (Same.refl _)
  · rw [h0]; exact .nil
  rintro i m H1 ⟨rfl, hle, G1, F1, acc, S1, n1, hacc, hg1, hf1, hr1⟩
  by_cases hlt : i < rs.length
  · refine .inr ⟨w.goes i H1 hlt (S1.top.trans S1.le.same), Pv (i + 1), fun H' p => ⟨_, by omega, rfl, hlt, p⟩, fun x H2 y => ?_⟩
    obtain ⟨r, hr⟩ : ∃ r, rs[i]? = some r := ⟨rs[i], by simp [hlt]⟩
    obtain ⟨G3, e3, q⟩ := w.yields i G1 H1 x H2 r S1.top S1.le hr y
    obtain ⟨ρ2, js, Φ, hg, hjs, htt, hyes, hno⟩ := hs Gl i r hr
    refine hg.run (wipe σ vs) G3 H2 F1 x (S1.step e3) q _ fun σ2 F2 S2 ag kp => ?_
    have hw : wipe σ2 vs = wipe (wipe σ vs) vs := wipe_agree ag (by rw [S2.len, hg.len, S1.len]) hjs
    rw [wipe_idem] at hw
    refine ⟨hw.trans wipe_idem.symm |>.trans wipe_idem, ?_⟩
    have nx2 : Nxt G1 H1 F1 G3 H2 F2 := ⟨e3.sub, fun a o t h n => ⟨e3.keep a o (fun z => z) t h, kp a n⟩, e3.live, e3.new⟩
    -- back to the state of the def
    have back : ∀ {G4 H4 F4}, Sta (c.pin Gl) ρ2 σ2 G4 H4 F4 → Sta (c.pin Gl) ρ (wipe σ vs) G4 H4 F4 := fun {G4 H4 F4} S4 => {
      ext := S4.ext
      len := S1.len
      at_ := fun j s e => by
        have hj : j ∉ vs := fun z => hv j z s e
        have hj2 : j ∉ js := fun z => hj (hjs j z)
        obtain ⟨v, h1, h2⟩ := S4.at_ j s (by rw [hg.agree j hj2]; exact e)
        exact ⟨v, by rw [← ag j hj2]; exact h1, h2⟩
      dis := S4.dis
      out := S4.out
      pin := S4.pin }
    refine htt σ2 G3 H2 F2 S2 _ fun b G4 H4 F4 S4 n4 qb => ?_
    have n14 := nx2.trans n4
    have d4 := n14.keep D _ (fun _ z => by cases z) hacc hf1
    have g4 : G4 D = none := n14.new D (by rw [hacc]; simp) hg1
    cases b with
    | false =>
      refine iteF ⟨G4, F4, acc, back S4, n1.trans n14, d4.1, g4, d4.2, ?_⟩
      rw [hno qb]; exact hr1.mono n14.sub
    | true =>
      refine iteT ?_
      obtain ⟨r', hte, ho⟩ := hyes qb
      refine hte σ2 G4 H4 F4 S4 _ fun z G5 H5 F5 S5 n5 qz => ?_
      have n15 := n14.trans n5
      have d5 := n15.keep D _ (fun _ z => by cases z) hacc hf1
      have g5 : G5 D = none := n15.new D (by rw [hacc]; simp) hg1
      refine ⟨acc, d5.1, sz_lt (by rw [← hr1.length]; exact hl i hle), ?_⟩
      have neD : ∀ a u, G5 a = some u → a ≠ D := fun a u h z => by subst z; rw [g5] at h; cases h
      have S6 : Sta (c.pin Gl) ρ (wipe σ vs) G5 (upd H5 D (.lst (acc ++ [z]))) F5 := {
        ext := {
          tab := fun t => tab_put d5.1 trivial ((back S5).ext.tab t)
          keep := fun a o nb nt h => by
            have h5 := (back S5).ext.keep a o nb nt h
            have q : a ≠ D := fun z => by
              subst z
              have h' : c.H0 a = some o := h
              rw [Sl.ext.live a hD] at h'; cases h'
            rw [upd_ne q]; exact h5
          live := fun a h => by
            by_cases q : a = D
            · subst q; rw [upd_same] at h; cases h
            · rw [upd_ne q] at h; exact S5.ext.live a h
          sub := S5.ext.sub
          le := ⟨fun a u h => by rw [upd_ne (neD a u h)]; exact S5.ext.le a u h, S5.ext.le.nt, tab_put d5.1 trivial S5.ext.le.tb⟩
          new := S5.ext.new }
        len := S1.len
        at_ := fun j s e => by
          obtain ⟨v, h1, h2⟩ := (back S5).at_ j s e
          refine ⟨v, h1, s.mono (Same.refl _) (fun a q => ?_) h2⟩
          exact upd_ne fun z => by subst z; exact d5.2 j q
        dis := S5.dis
        out := fun j a q => by
          obtain ⟨h1, h2, h3⟩ := S5.out j a q
          have z : a ≠ D := fun z => by subst z; exact d5.2 j q
          exact ⟨h1, by obtain ⟨o, e, d⟩ := h2; exact ⟨o, by rw [upd_ne z]; exact e, d⟩, h3⟩
        pin := S5.pin }
      refine ⟨G5, F5, acc ++ [z], S6, ?_, upd_same, g5, d5.2, ?_⟩
      · have nn := n1.trans n15
        refine ⟨nn.sub, fun a o t h n => ?_, fun a h => ?_, nn.new⟩
        · have q : a ≠ D := ne_of_none h hD
          rw [upd_ne q]; exact nn.keep a o t h n
        · by_cases q : a = D
          · subst q; exact hD
          · rw [upd_ne q] at h; exact nn.live a h
      · rw [ho]; exact (hr1.mono n15.sub).append (.cons qz .nil)
  · have e : i = rs.length := by omega
    subst e
    have S1' := S1.unpin
    have S2 : Sta c ρ σ G1 H1 F1 := {
      ext := S1'.ext
      len := S.len
      at_ := fun j s e => by
        obtain ⟨v, h1, h2⟩ := S1'.at_ j s e
        have hj : j ∉ vs := fun z => hv j z s e
        rw [wipe_get, if_neg hj] at h1
        exact ⟨v, h1, h2⟩
      dis := S1'.dis
      out := S1'.out
      pin := S1'.pin }
    exact .inl ⟨w.stops H1 (S1.top.trans S1.le.same), k D _ G1 H1 F1 S2 (nl.trans n1) hacc hg1 hf1 (nl.live D hD) ⟨acc, rfl, hr1⟩⟩
theorem ep_yes : EvP c tYes ρ (fun b => b = true) := fun σ G H F S Q k => k true G H F S (Nxt.refl _ _ _) rfl
/-- [e for x in ..]: each element by its place -/
theorem evn_map {j : Nat} {rs' : List R} (hj : ρ[j]? = some none) (hi : EvI c wi ρ rs) (hl : rs'.length = rs.length) (hb : rs.length < 100000)
    (hs : ∀ Gl (i : Nat) r, rs[i]? = some r → ∃ r', rs'[i]? = some r' ∧ Ev (c.pin Gl) te (ρ.set j (some (im r))) r') : EvN c (tLc wi (gName j) tYes te [j]) ρ rs' := by
  have h := evn_lc (te := te) (tt := tYes) (g := gName j) (vs := [j]) (fun i => rs'.take i) (fun v hv s e => by
    rw [List.mem_singleton] at hv; subst hv; rw [hj] at e; cases e) hi (by simp) (fun Gl i r hr => by
    obtain ⟨r', h1, h2⟩ := hs Gl i r hr
    refine ⟨_, _, _, gg_name (List.getElem?_eq_some_iff.mp hj).1, fun _ z => z, ep_yes, fun _ => ⟨r', h2, ?_⟩, fun z => by cases z⟩
    rw [List.take_add_one, h1]; rfl) (fun i hi => by rw [List.length_take]; omega)
  rw [← hl, List.take_length] at h
  exact h
end
end DL
set_option Elab.async false
set_option linter.all false
set_option maxRecDepth 100000
set_option maxHeartbeats 4000000
/-! DL4: values of builtins, dicts, own lists read, promises. -/
namespace DL
open PySem PySem.Spec PyProof.Rows L2
variable [tsp : TabSpec]
/-! names of operators -/
abbrev oAdd : R2 := rI0 fun i j => .int (i + j)
abbrev oSub : R2 := rI0 fun i j => .int (i - j)
abbrev oMul : R2 := rI CMul fun i j => .int (i * j)
abbrev oFdiv : R2 := rI CDiv fun i j => .int (i / j)
abbrev oMod : R2 := rI (fun _ j => 0 < j) fun i j => .int (i % j)
abbrev oPow : R2 := rI CPow fun i j => .int (i ^ j.toNat)
abbrev oLt : R2 := rI0 fun i j => .bl (decide (i < j))
abbrev oLe : R2 := rI0 fun i j => .bl (decide (i ≤ j))
abbrev oGt : R2 := rI0 fun i j => .bl (decide (j < i))
abbrev oGe : R2 := rI0 fun i j => .bl (decide (j ≤ i))
abbrev oAddS : R2 := fun x y H Q => ∃ i j, x = .str i ∧ y = .str j ∧ i.length + j.length ≤ sizeLine ∧ Q (.str (i ++ j)) H
abbrev rLenV (K : PySem.W.Frag) : List V → Hp → VK → Prop := fun xs H Q => ∃ x n, xs = [x] ∧ LenV K x H n ∧ Q (.int n) H
abbrev rMax2 : List V → Hp → VK → Prop := fun xs H Q => ∃ i j, xs = [.int i, .int j] ∧ Q (.int (if j > i then j else i)) H
abbrev rMin2 : List V → Hp → VK → Prop := fun xs H Q => ∃ i j, xs = [.int i, .int j] ∧ Q (.int (if j < i then j else i)) H
abbrev rListOf (K : PySem.W.Frag) : List V → Hp → VK → Prop := fun xs H Q => ∃ p ys, xs = [.ref p] ∧ (SqL K H p ys ∨ SqT K H p ys) ∧ ∀ l, H l = none → Q (.ref l) (upd H l (.lst ys))
/-! what does not hang on the heap -/
def Sc (r : R) : Prop := ∀ v G G', r.p v G → r.p v G'
theorem sc_v {x : V} : Sc (RV0 x) := fun _ _ _ h => h
theorem sc_int {i : Int} : Sc (RInt i) := fun _ _ _ h => h
theorem sc_str {i : Str} : Sc (RStr i) := fun _ _ _ h => h
theorem sc_bl {i : Bool} : Sc (RBl i) := fun _ _ _ h => h
theorem sc_non : Sc RNon := fun _ _ _ h => h
theorem sc_ex {α : Type} {P : α → Prop} {f : α → R} (h : ∀ x, Sc (f x)) : Sc (exR P f) := fun v G G' ⟨x, px, q⟩ => ⟨x, px, h x v G G' q⟩
/-! an own object, read -/
section
variable {c : Ctx} {ρ : Env} {te tb ta : TE} {tas : TA} {rs : List R} {r ra rb rc : R} {P : HK} {i : Nat}
theorem Sta.view {σ : L2.St} {G H : Hp} {F : Nat → Addr → Prop} (S : Sta c ρ σ G H F) (hi : ρ[i]? = some (some (ownH P))) : ∃ p o, σ[i]? = some (some (.ref p)) ∧ H p = some o ∧ P.p o G ∧ F i p ∧ Same G (upd G p o) ∧ Le (upd G p o) H := by
  obtain ⟨v, h1, p, o, rfl, h2, h3, h4⟩ := S.at_ i _ hi
  have hF := (h4 p).mpr rfl
  have hg := (S.out i p hF).1
  refine ⟨p, o, h1, h2, h3, hF, same_upd hg, ⟨fun a u e => ?_, S.le.nt.upd (P.dat h3).nt, S.le.tb⟩⟩
  by_cases z : a = p
  · subst z; rw [upd_same] at e; rw [← e]; exact h2
  · rw [upd_ne z] at e; exact S.le _ _ e
theorem Ext.back {G G1 H G' H' : Hp} (nt : NoTbl G) (e : Same G G1) (x : Ext noB G1 H G' H') : Ext noB G H G H' := ⟨x.keep, x.live, Same.refl _, ⟨e.trans (x.sub.trans x.le.same), nt, x.le.tb⟩, fun _ _ g => g, x.tab⟩
theorem ev_opO1 {o : R2} (hi : ρ[i]? = some (some (ownH P))) (hb : Ev c tb ρ rb) (hr : RV2 o (RH P) rb rc) (hs : Sc rc) : Ev c (tOp o (tVar i) tb) ρ rc := fun σ G H F S Q k => by
  obtain ⟨p, u, h1, _⟩ := S.view hi
  refine ⟨_, h1, ?_⟩
  refine hb σ G H F S _ fun y G2 H2 F2 S2 n2 qy => ?_
  obtain ⟨p', u, h1', h2, h3, hF, e1, e2⟩ := S2.view hi
  rw [h1] at h1'; cases h1'
  exact hr _ y (upd G2 p u) H2 e2 ⟨p, u, rfl, upd_same, P.mono e1 h3⟩ (rb.mono e1 qy) Q fun z G3 H3 e q => k z G2 H3 F2 (S2.step (e.back S2.le.nt e1)) (n2.trans (Nxt.of (e.back S2.le.nt e1))) (hs _ _ _ q)
theorem ev_opO2 {o : R2} (hi : ρ[i]? = some (some (ownH P))) (ha : Ev c ta ρ ra) (hr : RV2 o ra (RH P) rc) (hs : Sc rc) : Ev c (tOp o ta (tVar i)) ρ rc := fun σ G H F S Q k => by
  refine ha σ G H F S _ fun y G2 H2 F2 S2 n2 qy => ?_
  obtain ⟨p, u, h1, h2, h3, hF, e1, e2⟩ := S2.view hi
  refine ⟨_, h1, ?_⟩
  exact hr y _ (upd G2 p u) H2 e2 (ra.mono e1 qy) ⟨p, u, rfl, upd_same, P.mono e1 h3⟩ Q fun z G3 H3 e q => k z G2 H3 F2 (S2.step (e.back S2.le.nt e1)) (n2.trans (Nxt.of (e.back S2.le.nt e1))) (hs _ _ _ q)
theorem ev_cbO {o : List V → Hp → VK → Prop} (hi : ρ[i]? = some (some (ownH P))) (hr : RVc o [RH P] rc) (hs : Sc rc) : Ev c (tCB o (tCons (tVar i) tNil)) ρ rc := fun σ G H F S Q k => by
  obtain ⟨p, u, h1, h2, h3, hF, e1, e2⟩ := S.view hi
  refine ⟨_, h1, ?_⟩
  exact hr _ (upd G p u) H e2 (.cons ⟨p, u, rfl, upd_same, P.mono e1 h3⟩ .nil) Q fun z G3 H3 e q => k z G H3 F (S.step (e.back S.le.nt e1)) (Nxt.of (e.back S.le.nt e1)) (hs _ _ _ q)
theorem ev_ixO {K : PySem.W.Frag} {n : Int} (hi : ρ[i]? = some (some (ownL rs))) (hx : Ev c tb ρ (RInt n)) (e : atI rs n = some r) : Ev c (tOp (rIxL K) (tVar i) tb) ρ r := fun σ G H F S Q k => by
  obtain ⟨p, u, h1, _⟩ := S.view hi
  refine ⟨_, h1, ?_⟩
  refine hx σ G H F S _ fun y G2 H2 F2 S2 n2 qy => ?_
  obtain ⟨p', u, h1', h2, ⟨xs, rfl, h3⟩, hF, e1, e2⟩ := S2.view hi
  rw [h1] at h1'; cases h1'
  obtain ⟨v, h5, h6⟩ := atI_get h3 e
  exact ⟨p, xs, n, v, rfl, qy, .of h2, h5, k v G2 H2 F2 S2 n2 h6⟩
end
/-! values -/
section
variable {K : PySem.W.Frag} {rs rs' : List R} {r ra rb : R} {a b : Int}
theorem rv_add : RV2 oAdd (RInt a) (RInt b) (RInt (a + b)) := rv_I0
theorem rv_sub : RV2 oSub (RInt a) (RInt b) (RInt (a - b)) := rv_I0
theorem rv_mul (h : CMul a b) : RV2 oMul (RInt a) (RInt b) (RInt (a * b)) := rv_I h
theorem rv_fdiv (h : 0 < b ∧ b < 1073741824) : RV2 oFdiv (RInt a) (RInt b) (RInt (a / b)) := rv_I h
theorem rv_mod (h : 0 < b) : RV2 oMod (RInt a) (RInt b) (RInt (a % b)) := rv_I (C := fun _ j => 0 < j) h
theorem rv_pow (h : CPow a b) : RV2 oPow (RInt a) (RInt b) (RInt (a ^ b.toNat)) := rv_I h
theorem rv_lt : RV2 oLt (RInt a) (RInt b) (RBl (decide (a < b))) := rv_I0
theorem rv_le : RV2 oLe (RInt a) (RInt b) (RBl (decide (a ≤ b))) := rv_I0
theorem rv_gt : RV2 oGt (RInt a) (RInt b) (RBl (decide (b < a))) := rv_I0
theorem rv_ge : RV2 oGe (RInt a) (RInt b) (RBl (decide (b ≤ a))) := rv_I0
theorem rv_addS {x y : Str} (h : x.length + y.length ≤ 100000) : RV2 oAddS (RStr x) (RStr y) (RStr (x ++ y)) := fun u v G H e hu hv Q k => ⟨x, y, hu, hv, sz_ok h, k _ G H (Ext.refl e) rfl⟩
theorem reps_one {r : R} {vs : List V} {G : Hp} (h : Reps [r] vs G) : ∃ v, vs = [v] ∧ r.p v G := by
  cases h with
  | cons q t => cases t; exact ⟨_, rfl, q⟩
theorem reps_two {r r2 : R} {vs : List V} {G : Hp} (h : Reps [r, r2] vs G) : ∃ v v2, vs = [v, v2] ∧ r.p v G ∧ r2.p v2 G := by
  cases h with
  | cons q t => obtain ⟨v, rfl, p⟩ := reps_one t; exact ⟨_, _, rfl, q, p⟩
theorem reps_three {r r2 r3 : R} {vs : List V} {G : Hp} (h : Reps [r, r2, r3] vs G) : ∃ v v2 v3, vs = [v, v2, v3] ∧ r.p v G ∧ r2.p v2 G ∧ r3.p v3 G := by
  cases h with
  | cons q t => obtain ⟨v, v2, rfl, p, p2⟩ := reps_two t; exact ⟨_, _, _, rfl, q, p, p2⟩
theorem rv_lenL : RVc (rLenV K) [RLst rs] (RInt (rs.length : Nat)) := fun vs G H e q Q k => by
  obtain ⟨v, rfl, q1⟩ := reps_one q
  obtain ⟨p, xs, rfl, h1, h2⟩ := RLst.out q1
  exact ⟨_, _, rfl, .inl ⟨xs, .of (e _ _ h1), rfl⟩, k _ G H (Ext.refl e) (by rw [h2.length]; rfl)⟩
theorem rv_lenT : RVc (rLenV K) [RTup K rs] (RInt (rs.length : Nat)) := fun vs G H e q Q k => by
  obtain ⟨v, rfl, p, xs, rfl, h1, h2⟩ := reps_one q
  exact ⟨_, _, rfl, .inr ⟨xs, sqt_same e.same h1, rfl⟩, k _ G H (Ext.refl e) (by rw [h2.length]; rfl)⟩
theorem rv_lenQ : RVc (rLenV K) [RSeq K rs] (RInt (rs.length : Nat)) := fun vs G H e q Q k => by
  obtain ⟨v, rfl, p, xs, rfl, h1, h2⟩ := reps_one q
  exact ⟨_, _, rfl, .inl ⟨xs, e.seq h1, rfl⟩, k _ G H (Ext.refl e) (by rw [h2.length]; rfl)⟩
theorem rv_lenS {s : Str} (h : s.length ≤ 100000) : RVc (rLenV K) [RStr s] (RInt (s.length : Nat)) := fun vs G H e q Q k => by
  obtain ⟨v, rfl, rfl⟩ := reps_one q
  exact ⟨_, _, rfl, ⟨sz_ok h, rfl⟩, k _ G H (Ext.refl e) rfl⟩
abbrev lI (ns : List Int) : List R := ns.map RInt
abbrev lS (ns : List Str) : List R := ns.map RStr
abbrev lB (ns : List Bool) : List R := ns.map RBl
theorem reps_ints : ∀ {ns : List Int} {xs : List V} {G : Hp}, Reps (lI ns) xs G → xs = ns.map V.int
  | [], _, _, h => by cases h; rfl
  | n :: ns, _, _, h => by
    cases h with
    | cons q t => rw [reps_ints t]; rw [show _ = V.int n from q]; rfl
theorem reps_strs : ∀ {ns : List Str} {xs : List V} {G : Hp}, Reps (lS ns) xs G → xs = ns.map V.str
  | [], _, _, h => by cases h; rfl
  | n :: ns, _, _, h => by
    cases h with
    | cons q t => rw [reps_strs t]; rw [show _ = V.str n from q]; rfl
theorem reps_bls : ∀ {ns : List Bool} {xs : List V} {G : Hp}, Reps (lB ns) xs G → xs = ns.map V.bl
  | [], _, _, h => by cases h; rfl
  | n :: ns, _, _, h => by
    cases h with
    | cons q t => rw [reps_bls t]; rw [show _ = V.bl n from q]; rfl
theorem ints_reps {G : Hp} : ∀ (ns : List Int), Reps (lI ns) (ns.map V.int) G
  | [] => .nil
  | _ :: ns => .cons rfl (ints_reps ns)
theorem strs_reps {G : Hp} : ∀ (ns : List Str), Reps (lS ns) (ns.map V.str) G
  | [] => .nil
  | _ :: ns => .cons rfl (strs_reps ns)
theorem rv_sum {ns : List Int} : RVc (rSum K) [RLst (lI ns)] (RInt ns.sum) := fun vs G H e q Q k => by
  obtain ⟨v, rfl, q1⟩ := reps_one q
  obtain ⟨p, xs, rfl, h1, h2⟩ := RLst.out q1
  rw [reps_ints h2] at h1
  exact ⟨p, ns, rfl, .of (e _ _ h1), k _ G H (Ext.refl e) rfl⟩
/-- the greatest of a list, 0 of none -/
def lmax : List Int → Int
  | [] => 0
  | [x] => x
  | x :: y :: r => max x (lmax (y :: r))
def lmin : List Int → Int
  | [] => 0
  | [x] => x
  | x :: y :: r => min x (lmin (y :: r))
theorem lmax_mem : ∀ {ns : List Int}, ns ≠ [] → lmax ns ∈ ns
  | [], h => absurd rfl h
  | [x], _ => by simp [lmax]
  | x :: y :: r, _ => by
    have ih := lmax_mem (ns := y :: r) (by simp)
    simp only [lmax]
    by_cases h : x ≤ lmax (y :: r)
    · rw [Int.max_eq_right h]; exact .tail _ ih
    · rw [Int.max_eq_left (by omega)]; exact .head _
theorem lmax_ge : ∀ {ns : List Int} {x : Int}, x ∈ ns → x ≤ lmax ns
  | [], _, h => by cases h
  | [y], x, h => by simp at h; subst h; exact Int.le_refl _
  | y :: z :: r, x, h => by
    simp only [lmax]
    cases h with
    | head => omega
    | tail _ h => have := lmax_ge h; omega
theorem lmin_mem : ∀ {ns : List Int}, ns ≠ [] → lmin ns ∈ ns
  | [], h => absurd rfl h
  | [x], _ => by simp [lmin]
  | x :: y :: r, _ => by
    have ih := lmin_mem (ns := y :: r) (by simp)
    simp only [lmin]
    by_cases h : x ≤ lmin (y :: r)
    · rw [Int.min_eq_left h]; exact .head _
    · rw [Int.min_eq_right (by omega)]; exact .tail _ ih
theorem lmin_le : ∀ {ns : List Int} {x : Int}, x ∈ ns → lmin ns ≤ x
  | [], _, h => by cases h
  | [y], x, h => by simp at h; subst h; exact Int.le_refl _
  | y :: z :: r, x, h => by
    simp only [lmin]
    cases h with
    | head => omega
    | tail _ h => have := lmin_le h; omega
theorem rv_max {ns : List Int} (hn : ns ≠ []) : RVc (rMax K) [RLst (lI ns)] (RInt (lmax ns)) := fun vs G H e q Q k => by
  obtain ⟨v, rfl, q1⟩ := reps_one q
  obtain ⟨p, xs, rfl, h1, h2⟩ := RLst.out q1
  rw [reps_ints h2] at h1
  refine ⟨p, ns, rfl, .of (e _ _ h1), List.length_pos_iff.mpr hn, fun m hm hy => ?_⟩
  have : m = lmax ns := Int.le_antisymm (lmax_ge hm) (hy _ (lmax_mem hn))
  exact k _ G H (Ext.refl e) (by rw [this]; rfl)
theorem rv_min {ns : List Int} (hn : ns ≠ []) : RVc (rMin K) [RLst (lI ns)] (RInt (lmin ns)) := fun vs G H e q Q k => by
  obtain ⟨v, rfl, q1⟩ := reps_one q
  obtain ⟨p, xs, rfl, h1, h2⟩ := RLst.out q1
  rw [reps_ints h2] at h1
  refine ⟨p, ns, rfl, .of (e _ _ h1), List.length_pos_iff.mpr hn, fun m hm hy => ?_⟩
  have : m = lmin ns := Int.le_antisymm (hy _ (lmin_mem hn)) (lmin_le hm)
  exact k _ G H (Ext.refl e) (by rw [this]; rfl)
theorem rv_max2 : RVc rMax2 [RInt a, RInt b] (RInt (max a b)) := fun vs G H e q Q k => by
  obtain ⟨v, v2, rfl, rfl, rfl⟩ := reps_two q
  have z : (if b > a then b else a) = max a b := by split <;> omega
  exact ⟨a, b, rfl, by rw [z]; exact k _ G H (Ext.refl e) rfl⟩
theorem rv_min2 : RVc rMin2 [RInt a, RInt b] (RInt (min a b)) := fun vs G H e q Q k => by
  obtain ⟨v, v2, rfl, rfl, rfl⟩ := reps_two q
  have z : (if b < a then b else a) = min a b := by split <;> omega
  exact ⟨a, b, rfl, by rw [z]; exact k _ G H (Ext.refl e) rfl⟩
theorem rv_all {bs : List Bool} : RVc (rAll K) [RLst (lB bs)] (RBl (bs.all id)) := fun vs G H e q Q k => by
  obtain ⟨v, rfl, q1⟩ := reps_one q
  obtain ⟨p, xs, rfl, h1, h2⟩ := RLst.out q1
  rw [reps_bls h2] at h1
  exact ⟨p, bs, rfl, .of (e _ _ h1), k _ G H (Ext.refl e) rfl⟩
theorem rv_any {bs : List Bool} : RVc (rAny K) [RLst (lB bs)] (RBl (bs.any id)) := fun vs G H e q Q k => by
  obtain ⟨v, rfl, q1⟩ := reps_one q
  obtain ⟨p, xs, rfl, h1, h2⟩ := RLst.out q1
  rw [reps_bls h2] at h1
  exact ⟨p, bs, rfl, .of (e _ _ h1), k _ G H (Ext.refl e) rfl⟩
/-! isinstance -/
def TyR (K : PySem.W.Frag) (r : R) (t : String) : Prop := ∀ v G, r.p v G → TyX K G v (.type t)
theorem ty_int : TyR K (RInt a) "int" := fun v G h => by rw [show v = _ from h]; exact .base (.int _)
theorem ty_str {s : Str} : TyR K (RStr s) "str" := fun v G h => by rw [show v = _ from h]; exact .base (.str _)
theorem ty_bl {s : Bool} : TyR K (RBl s) "bool" := fun v G h => by rw [show v = _ from h]; exact .base (.bl _)
theorem ty_non : TyR K RNon "NoneType" := fun v G h => by rw [show v = _ from h]; exact .base .non
theorem ty_lst : TyR K (RLst rs) "list" := fun v G h => by
  obtain ⟨p, xs, rfl, h1, h2⟩ := RLst.out h
  exact .base (.lst h1)
theorem ty_dic {kvs : List (Key × R)} : TyR K (RDic kvs) "dict" := fun v G h => by
  obtain ⟨p, xs, rfl, h1, h2⟩ := RDic.out h
  exact .base (.dK h1)
theorem tyx_same {G H : Hp} {v : V} {t : String} (e : Same G H) (h : TyX K G v (.type t)) : TyX K H v (.type t) := by
  cases h with
  | base h =>
    cases h with
    | non => exact .base .non
    | bl x => exact .base (.bl x)
    | int x => exact .base (.int x)
    | str x => exact .base (.str x)
    | flt x => exact .base (.flt x)
    | lst q => exact .base (.lst (e _ _ q))
    | frz q => exact .base (.frz (e _ _ q))
    | tup q => exact .base (.tup (e _ _ q))
    | dK q => exact .base (.dK (e _ _ q))
    | dT q => exact .base (.dT (e _ _ q))
  | byt b => exact .byt b
  | set q => exact .set (e _ _ q)
  | kList q z => exact .kList q z
  | kTuple q z => exact .kTuple q z
  | kDict q z => exact .kDict q z
  | fTuple q => exact .fTuple (e _ _ q)
  | fDict q => exact .fDict (e _ _ q)
theorem rv_isi {t n : String} {b : Bool} (h : TyR K r t) (hb : kitB t n = some b) : RVc (rIsi K) [r, RV0 (.ty n)] (RBl b) := fun vs G H e q Q k => by
  obtain ⟨v, v2, rfl, q1, rfl⟩ := reps_two q
  exact ⟨v, .ty n, _, _, b, rfl, .ty n, tyx_same e.same (h v G q1), kit_ty hb, k _ G H (Ext.refl e) rfl⟩
end
/-! new lists -/
def RVcN (o : List V → Hp → VK → Prop) (rs out : List R) : Prop := ∀ vs G H, Le G H → Reps rs vs G → ∀ Q : VK, (∀ p xs, H p = none → Reps out xs G → Q (.ref p) (upd H p (.lst xs))) → o vs H Q
def RV2N (o : R2) (ra rb : R) (out : List R) : Prop := ∀ x y G H, Le G H → ra.p x G → rb.p y G → ∀ Q : VK, (∀ p xs, H p = none → Reps out xs G → Q (.ref p) (upd H p (.lst xs))) → o x y H Q
section
variable {c : Ctx} {ρ : Env} {te tb ta : TE} {tas : TA} {rs out : List R} {r ra rb rc : R}
theorem evh_new {σ : L2.St} {G H G1 H1 : Hp} {F F1 : Nat → Addr → Prop} {P : HK} {p : Addr} {u : HO} {Q : VK} (S1 : Sta c ρ σ G1 H1 F1) (n1 : Nxt G H F G1 H1 F1) (hp : H1 p = none) (hu : P.p u G1)
    (k : ∀ p o G' H' F', Sta c ρ σ G' H' F' → Nxt G H F G' H' F' → H' p = some o → G' p = none → (∀ i, ¬ F' i p) → H p = none → P.p o G' → Q (.ref p) H') : Q (.ref p) (upd H1 p u) := by
  have e : Ext noB G1 H1 G1 (upd H1 p u) := Ext.aside S1.le hp
  refine k p u _ _ F1 (S1.step e) (n1.trans (Nxt.of e)) upd_same ?_ (fun i q => (S1.out i p q).2.1.ne hp) (n1.live p hp) hu
  cases z : G1 p with
  | none => rfl
  | some u => rw [S1.le _ _ z] at hp; cases hp
theorem evn_cb {o : List V → Hp → VK → Prop} (ha : EvA c tas ρ rs) (hr : RVcN o rs out) : EvN c (tCB o tas) ρ out := fun σ G H F S Q k => by
  refine ha σ G H F S _ fun xs G1 H1 F1 S1 n1 qs => ?_
  exact hr xs G1 H1 S1.le qs Q fun p ys hp qy => evh_new (P := HL out) S1 n1 hp ⟨ys, rfl, qy⟩ k
theorem evn_op {o : R2} (ha : Ev c ta ρ ra) (hb : Ev c tb ρ rb) (hr : RV2N o ra rb out) : EvN c (tOp o ta tb) ρ out := fun σ G H F S Q k => by
  refine ha σ G H F S _ fun x G1 H1 F1 S1 n1 qx => ?_
  refine hb σ G1 H1 F1 S1 _ fun y G2 H2 F2 S2 n2 qy => ?_
  exact hr x y G2 H2 S2.le (ra.mono n2.sub qx) qy Q fun p ys hp qy => evh_new (P := HL out) S2 (n1.trans n2) hp ⟨ys, rfl, qy⟩ k
theorem rn_listL {K : PySem.W.Frag} : RVcN (rListOf K) [RLst rs] rs := fun vs G H e q Q k => by
  obtain ⟨v, rfl, q1⟩ := reps_one q
  obtain ⟨p, xs, rfl, h1, h2⟩ := RLst.out q1
  exact ⟨p, xs, rfl, .inl (.of (e _ _ h1)), fun l hl => k l xs hl h2⟩
theorem rn_listT {K : PySem.W.Frag} : RVcN (rListOf K) [RTup K rs] rs := fun vs G H e q Q k => by
  obtain ⟨v, rfl, p, xs, rfl, h1, h2⟩ := reps_one q
  exact ⟨p, xs, rfl, .inr (sqt_same e.same h1), fun l hl => k l xs hl h2⟩
theorem rn_cat {rs2 : List R} (h : rs.length + rs2.length ≤ 100000) : RV2N rCat (RLst rs) (RLst rs2) (rs ++ rs2) := fun x y G H e hx hy Q k => by
  obtain ⟨p, xs, rfl, h1, h2⟩ := RLst.out hx
  obtain ⟨p2, ys, rfl, h3, h4⟩ := RLst.out hy
  exact ⟨p, p2, xs, ys, rfl, rfl, e _ _ h1, e _ _ h3, sz_ok (by rw [← h2.length, ← h4.length]; exact h), fun l hl => k l _ hl (h2.append h4)⟩
theorem reps_rep {r : R} {x : V} {G : Hp} (h : r.p x G) : ∀ n : Nat, Reps (List.replicate n r) (List.replicate n x) G
  | 0 => .nil
  | n + 1 => .cons h (reps_rep h n)
theorem rn_rep {n : Int} (h : -100000 ≤ n ∧ n ≤ 100000) : RV2N rRep (RLst [r]) (RInt n) (List.replicate n.toNat r) := fun x y G H e hx hy Q k => by
  obtain ⟨p, xs, rfl, h1, h2⟩ := RLst.out hx
  obtain ⟨v, rfl, q⟩ := reps_one h2
  refine ⟨p, n, [v], rfl, hy, e _ _ h1, Int.le_trans (by decide) h.1, Int.lt_of_le_of_lt h.2 (by decide), sz_ok (by simp; omega), fun l hl => ?_⟩
  have ef : (List.replicate n.toNat [v]).flatten = List.replicate n.toNat v := by simp
  rw [ef]
  exact k l _ hl (reps_rep q _)
theorem evn_listRg {n : Int} (h : Ev c te ρ (RInt n)) (h1 : 0 ≤ n ∧ n ≤ 100000) : EvN c (tLstRg (tRg1 te)) ρ (rngs 0 n.toNat) := fun σ G H F S Q k => by
  refine h σ G H F S _ fun x G1 H1 F1 S1 n1 qx => ?_
  refine ⟨n, qx, ⟨by decide, by decide, Int.le_trans (by decide) h1.1, Int.lt_of_le_of_lt h1.2 (by decide), by omega⟩, fun q hq => ?_⟩
  refine evh_new (P := HL _) S1 n1 hq ⟨_, rfl, ?_⟩ k
  have : ∀ (l : List Nat), Reps (l.map fun k => RInt (0 + (k : Nat))) (l.map fun i => V.int (0 + (i : Nat))) G1 := fun l => by
    induction l with
    | nil => exact .nil
    | cons a l ih => exact .cons rfl ih
  have e0 : (n - 0).toNat = n.toNat := by omega
  unfold rgV rngs
  rw [e0]
  exact this _
end
/-! promises -/
section
/-- a value for data -/
def spP {I : Type} (as : I → List R) (pre : I → Prop) (res : I → R) : Sp := fun vs H Q _ => ∃ (i : I) (G : Hp), Le G H ∧ Reps (as i) vs G ∧ pre i ∧ ∀ v G' H', Ext noB G H G' H' → (res i).p v G' → Q v H'
theorem spP_ok {I : Type} {as : I → List R} {pre : I → Prop} {res : I → R} (i : I) (h : pre i) : SpOk (spP as pre res) (as i) (res i) := fun E vs G H e q Q k => ⟨i, G, e, q, h, k⟩
theorem spP_len {I : Type} {as : I → List R} {pre : I → Prop} {res : I → R} {n : Nat} (h : ∀ i, (as i).length = n) (vs : List V) (H : Hp) (Q : VK) (E : XK) (q : spP as pre res vs H Q E) : vs.length = n := by
  obtain ⟨i, G, _, q, _⟩ := q
  rw [← q.length, h]
/-- a new object for data -/
def spN {I : Type} (as : I → List R) (pre : I → Prop) (out : I → HK) : Sp := fun vs H Q _ => ∃ (i : I) (G : Hp), Le G H ∧ Reps (as i) vs G ∧ pre i ∧ ∀ p o G' H', Ext noB G H G' H' → H p = none → G' p = none → H' p = some o → (out i).p o G' → Q (.ref p) H'
theorem spN_len {I : Type} {as : I → List R} {pre : I → Prop} {out : I → HK} {n : Nat} (h : ∀ i, (as i).length = n) (vs : List V) (H : Hp) (Q : VK) (E : XK) (q : spN as pre out vs H Q E) : vs.length = n := by
  obtain ⟨i, G, _, q, _⟩ := q
  rw [← q.length, h]
def SpNew (sp : Sp) (rs : List R) (P : HK) : Prop := ∀ E vs G H, Le G H → Reps rs vs G → ∀ Q : VK, (∀ p o G' H', Ext noB G H G' H' → H p = none → G' p = none → H' p = some o → P.p o G' → Q (.ref p) H') → sp vs H Q E
theorem spN_ok {I : Type} {as : I → List R} {pre : I → Prop} {out : I → HK} (i : I) (h : pre i) : SpNew (spN as pre out) (as i) (out i) := fun E vs G H e q Q k => ⟨i, G, e, q, h, k⟩
theorem Sta.start {K : PySem.W.Frag} {G H : Hp} {rs : List R} {vs : List V} {N : List Str} (e : Le G H) (q : Reps rs vs G) : Sta ⟨K, noB, G, H, [], []⟩ (rs.map (fun r => some (im r)) ++ List.replicate (N.length - rs.length) none) (L2.start N vs) G H (fun _ _ => False) where
  ext := Ext.refl e
  len := by unfold L2.start; rw [List.length_append, List.length_append, List.length_map, List.length_map, List.length_replicate, List.length_replicate, q.length]
  at_ := fun i s h => by
    unfold L2.start
    have hl : i < rs.length := by
      by_cases z : i < rs.length
      · exact z
      · rw [List.getElem?_append_right (by simp; omega), List.getElem?_replicate] at h
        split at h <;> cases h
    rw [List.getElem?_append_left (by simpa using hl), List.getElem?_map] at h
    obtain ⟨r, hr⟩ : ∃ r, rs[i]? = some r := ⟨rs[i], by simp [hl]⟩
    rw [hr] at h
    cases h
    obtain ⟨v, hv, qv⟩ := q.get hr
    refine ⟨v, ?_, qv, fun _ z => z⟩
    rw [List.getElem?_append_left (by simp; rw [← q.length]; exact hl), List.getElem?_map, hv]
    rfl
  dis := fun _ _ _ z => z.elim
  out := fun _ _ z => z.elim
  pin := fun g h => by cases h
/-- a def's body by its data -/
theorem body_P {I : Type} {as : I → List R} {pre : I → Prop} {res : I → R} {K : PySem.W.Frag} {t : TS} {N : List Str}
    (h : ∀ i, pre i → ∀ (c : Ctx) (D : Ends), c.K = K → c.bs = [] → Rets c D (res i) → (∀ H, D.rt .non H → ∀ σ, D.nx σ H) → Go c t ((as i).map (fun r => some (im r)) ++ List.replicate (N.length - (as i).length) none) D)
    (vs : List V) (H : Hp) (Q : VK) (E : XK) (q : spP as pre res vs H Q E) : t { nx := fun _ H' => Q .non H', rt := Q } (L2.start N vs) H := by
  obtain ⟨i, G, e, q, hp, k⟩ := q
  exact h i hp ⟨K, noB, G, H, [], []⟩ _ rfl rfl (fun v G' H' x r => k v G' H' x r) (fun H h _ => h) _ _ _ _ (Sta.start e q)
variable {c : Ctx} {ρ : Env} {tas : TA} {rs : List R} {ta : TE} {ra : R}
theorem evh_call {sp : Sp} {dvs : List V} {E : XK} {P : HK} (ha : EvA c tas ρ rs) (hr : SpNew sp (rs ++ dvs.map RV0) P) : EvH c (tCall sp dvs E tas) ρ P := fun σ G H F S Q k => by
  refine ha σ G H F S _ fun xs G1 H1 F1 S1 n1 qs => ?_
  refine hr E _ G1 H1 S1.le (qs.append (Reps.vals dvs G1)) Q fun p o G' H' x h0 hg hp hP => ?_
  exact k p o G' H' F1 (S1.step x) (n1.trans (Nxt.of x)) hp hg (fun i q => (S1.out i p q).2.1.ne h0) (n1.live p h0) hP
theorem evh_call0 {sp : Sp} {E : XK} {P : HK} (ha : EvA c tas ρ rs) (hr : SpNew sp rs P) : EvH c (tCall sp [] E tas) ρ P := evh_call ha (by simpa using hr)
theorem evh_meth0 {C : Addr} {m : Str} {sp : Sp} {E : XK} {P : HK} (ho : Ev c ta ρ ra) (hi : IsIns C m ra) (ha : EvA c tas ρ rs) (hr : SpNew sp (ra :: rs) P) : EvH c (tMeth C m sp [] E ta tas) ρ P := fun σ G H F S Q k => by
  refine ho σ G H F S _ fun x G1 H1 F1 S1 n1 qx => ?_
  obtain ⟨a, dx, fs, rfl, h1, h2⟩ := hi x G1 qx
  refine ⟨a, dx, fs, rfl, S1.le _ _ h1, h2, ?_⟩
  refine ha σ G1 H1 F1 S1 _ fun xs G2 H2 F2 S2 n2 qs => ?_
  refine hr E _ G2 H2 S2.le (.cons (ra.mono n2.sub qx) (by simpa using qs)) Q fun p o G' H' x h0 hg hp hP => ?_
  exact k p o G' H' F2 (S2.step x) (n1.trans (n2.trans (Nxt.of x))) hp hg (fun i q => (S2.out i p q).2.1.ne h0) (n1.live p (n2.live p h0)) hP
/-- a return of a new object -/
def RetsN (c : Ctx) (D : Ends) (P : HK) : Prop := ∀ p o G H, Ext c.B c.G0 c.H0 G H → c.H0 p = none → G p = none → H p = some o → P.p o G → D.rt (.ref p) H
theorem go_retN' {D : Ends} {P : HK} {te : TE} (h : EvH c te ρ P) (k : RetsN c D P) : Go c (tRet te) ρ D := fun σ G H F S => h σ G H F S _ fun p o G' H' F' S' n hp hg _ h0 q => k p o G' H' S'.ext (H0_none S h0) hg hp q
/-- return of an own name -/
theorem go_retO {D : Ends} {P : HK} {i : Nat} (hi : ρ[i]? = some (some (ownH P))) (hb : i ∉ c.bs) (k : RetsN c D P) : Go c (tRet (tVar i)) ρ D := fun σ G H F S => by
  obtain ⟨p, o, h1, h2, h3, hF, _⟩ := S.view hi
  obtain ⟨hg, _, h0⟩ := S.out i p hF
  exact ⟨_, h1, k p o G H S.ext (h0.elim (fun z => absurd z.2 hb) id) hg h2 h3⟩
theorem body_N {I : Type} {as : I → List R} {pre : I → Prop} {out : I → HK} {K : PySem.W.Frag} {t : TS} {N : List Str}
    (h : ∀ i, pre i → ∀ (c : Ctx) (D : Ends), c.K = K → c.bs = [] → RetsN c D (out i) → Go c t ((as i).map (fun r => some (im r)) ++ List.replicate (N.length - (as i).length) none) D)
    (vs : List V) (H : Hp) (Q : VK) (E : XK) (q : spN as pre out vs H Q E) : t { nx := fun _ H' => Q .non H', rt := Q } (L2.start N vs) H := by
  obtain ⟨i, G, e, q, hp, k⟩ := q
  exact h i hp ⟨K, noB, G, H, [], []⟩ _ rfl rfl (fun p o G' H' x h0 hg hp hP => k p o G' H' x h0 hg hp hP) _ _ _ _ (Sta.start e q)
theorem retsN_rets {D : Ends} {P : HK} (h : Rets c D (RH P)) : RetsN c D P := fun p o G H x h0 hg hp hP => by
  refine h _ (upd G p o) H ⟨x.keep, x.live, fun a u e => ?_, ⟨fun a u e => ?_, x.le.nt.upd (P.dat hP).nt, x.le.tb⟩, fun a q g => ?_, x.tab⟩ ⟨p, o, rfl, upd_same, P.mono (same_upd hg) hP⟩
  · exact same_upd hg a u (x.sub a u e)
  · by_cases z : a = p
    · subst z; rw [upd_same] at e; rw [← e]; exact hp
    · rw [upd_ne z] at e; exact x.le a u e
  · have z : a ≠ p := fun z => by subst z; exact q h0
    rw [upd_ne z]; exact x.new a q g
end
/-! dicts -/
def KeyR (r : R) (k : Key) : Prop := ∀ v G, r.p v G → v = kV k
theorem key_str {s : Str} : KeyR (RStr s) (.inr s) := fun _ _ h => h
theorem key_int {i : Int} : KeyR (RInt i) (.inl i) := fun _ _ h => h
section
variable {κ : Type} [DecidableEq κ]
def lookR (kvs : List (κ × R)) (k : κ) : Option R := (kvs.find? fun q => decide (q.1 = k)).map (·.2)
def putR (kvs : List (κ × R)) (k : κ) (r : R) : List (κ × R) := if (kvs.any fun q => decide (q.1 = k)) = true then kvs.map (fun q => if q.1 = k then (q.1, r) else q) else kvs ++ [(k, r)]
theorem kreps_look {kvs : List (κ × R)} {xs : List (κ × V)} {G : Hp} (h : KReps kvs xs G) (k : κ) : (lookR kvs k = none ∧ valV xs k = none) ∨ ∃ r v, lookR kvs k = some r ∧ valV xs k = some v ∧ r.p v G := by
  induction h with
  | nil => exact .inl ⟨rfl, rfl⟩
  | @cons p q ps qs h t ih =>
    obtain ⟨e, hv⟩ := h
    by_cases z : p.1 = k
    · refine .inr ⟨p.2, q.2, ?_, valV_pos (e ▸ z), hv⟩
      unfold lookR; rw [List.find?_cons, decide_eq_true z]; rfl
    · have z2 : ¬ q.1 = k := fun y => z (e.trans y)
      have e1 : lookR (p :: ps) k = lookR ps k := by unfold lookR; rw [List.find?_cons, decide_eq_false z]
      rw [e1, valV_neg z2]; exact ih
theorem kreps_any {kvs : List (κ × R)} {xs : List (κ × V)} {G : Hp} (h : KReps kvs xs G) (k : κ) : (kvs.any fun q => decide (q.1 = k)) = xs.any fun q => decide (q.1 = k) := by
  induction h with
  | nil => rfl
  | @cons p q ps qs h t ih => rw [List.any_cons, List.any_cons, ih, h.1]
theorem KReps.append {kvs kvs2 : List (κ × R)} {xs xs2 : List (κ × V)} {G : Hp} (h : KReps kvs xs G) (h2 : KReps kvs2 xs2 G) : KReps (kvs ++ kvs2) (xs ++ xs2) G := by
  induction h with
  | nil => exact h2
  | cons q t ih => exact .cons q ih
theorem KReps.put {kvs : List (κ × R)} {xs : List (κ × V)} {G : Hp} (h : KReps kvs xs G) {k : κ} {r : R} {v : V} (hv : r.p v G) : KReps (putR kvs k r) (putK xs k v) G := by
  unfold putR putK
  rw [kreps_any h]
  split
  · rename_i hh
    clear hh
    induction h with
    | nil => exact .nil
    | @cons p q ps qs h t ih =>
      obtain ⟨e, hq⟩ := h
      refine .cons ?_ ih
      show (if p.1 = k then (p.1, r) else p).1 = (if q.1 = k then (q.1, v) else q).1 ∧ R.p (if p.1 = k then (p.1, r) else p).2 (if q.1 = k then (q.1, v) else q).2 G
      rw [← e]
      split
      · exact ⟨rfl, hv⟩
      · exact ⟨e, hq⟩
  · exact KReps.append h (.cons ⟨rfl, hv⟩ .nil)
theorem KReps.length {kvs : List (κ × R)} {xs : List (κ × V)} {G : Hp} (h : KReps kvs xs G) : kvs.length = xs.length := Paired.length h
end
section
variable {c : Ctx} {ρ : Env} {td ty tv : TE} {kvs : List (Key × R)} {k : Key} {rk r : R} {i : Nat} {D : Ends} {u : TS}
theorem ev_dget (hd : Ev c td ρ (RDic kvs)) (hy : Ev c ty ρ rk) (hk : KeyR rk k) (h : lookR kvs k = some r) : Ev c (tDGet td ty) ρ r := fun σ G H F S Q kk => by
  refine hd σ G H F S _ fun x G1 H1 F1 S1 n1 qx => ?_
  refine hy σ G1 H1 F1 S1 _ fun y G2 H2 F2 S2 n2 qy => ?_
  obtain ⟨a, xs, rfl, h1, h2⟩ := RDic.out ((RDic kvs).mono n2.sub qx)
  rw [hk y G2 qy]
  rcases kreps_look h2 k with ⟨z, _⟩ | ⟨r', v, z, hv, q⟩
  · rw [h] at z; cases z
  · rw [h] at z; cases z
    refine ⟨a, v, rfl, ?_, kk v G2 H2 F2 S2 (n1.trans n2) q⟩
    rw [← hv]; exact .k (S2.le _ _ h1)
theorem ev_din (hy : Ev c ty ρ rk) (hd : Ev c td ρ (RDic kvs)) (hk : KeyR rk k) : Ev c (tDIn ty td) ρ (RBl (lookR kvs k).isSome) := fun σ G H F S Q kk => by
  refine hy σ G H F S _ fun y G1 H1 F1 S1 n1 qy => ?_
  refine hd σ G1 H1 F1 S1 _ fun x G2 H2 F2 S2 n2 qx => ?_
  obtain ⟨a, xs, rfl, h1, h2⟩ := RDic.out qx
  rw [hk y G1 qy]
  refine ⟨a, valV xs k, rfl, .k (S2.le _ _ h1), kk _ G2 H2 F2 S2 (n1.trans n2) ?_⟩
  rcases kreps_look h2 k with ⟨z, z2⟩ | ⟨r', v, z, hv, q⟩
  · rw [z, z2]; rfl
  · rw [z, hv]; rfl
theorem ev_dnotin (hy : Ev c ty ρ rk) (hd : Ev c td ρ (RDic kvs)) (hk : KeyR rk k) : Ev c (tDNotIn ty td) ρ (RBl (!(lookR kvs k).isSome)) := fun σ G H F S Q kk => by
  refine hy σ G H F S _ fun y G1 H1 F1 S1 n1 qy => ?_
  refine hd σ G1 H1 F1 S1 _ fun x G2 H2 F2 S2 n2 qx => ?_
  obtain ⟨a, xs, rfl, h1, h2⟩ := RDic.out qx
  rw [hk y G1 qy]
  refine ⟨a, valV xs k, rfl, .k (S2.le _ _ h1), kk _ G2 H2 F2 S2 (n1.trans n2) ?_⟩
  rcases kreps_look h2 k with ⟨z, z2⟩ | ⟨r', v, z, hv, q⟩
  · rw [z, z2]; rfl
  · rw [z, hv]; rfl
theorem evh_dnew : EvH c tDNewK ρ (HD []) := fun σ G H F S Q k => fun p hp => evh_new (P := HD []) S (Nxt.refl _ _ _) hp ⟨[], rfl, .nil⟩ k
/-- d[k] = v of an own dict -/
theorem go_dput (hi : ρ[i]? = some (some (ownD kvs))) (hv : Ev c tv ρ r) (hy : Ev c ty ρ rk) (hk : KeyR rk k) (hl : kvs.length < 100000) (kk : Nx c D.nx (ρ.set i (some (ownD (putR kvs k r))))) : Go c (sDPut (tVar i) ty tv) ρ D := fun σ G H F S => by
  refine hv σ G H F S _ fun v G1 H1 F1 S1 n1 qv => ?_
  obtain ⟨p, o, h1, _⟩ := S1.view hi
  refine ⟨_, h1, ?_⟩
  refine hy σ G1 H1 F1 S1 _ fun y G2 H2 F2 S2 n2 qy => ?_
  obtain ⟨p', o, h1', h2, ⟨xs, rfl, h3⟩, hF, _⟩ := S2.view hi
  rw [h1] at h1'; cases h1'
  rw [hk y G2 qy]
  obtain ⟨F', S3⟩ := S2.own_put hi h1 hF (P' := HD (putR kvs k r)) ⟨_, rfl, KReps.put h3 (r.mono n2.sub qv)⟩
  exact ⟨p, _, rfl, .k h2 (sz_lt (by rw [← h3.length]; exact hl)), kk _ _ _ _ S3⟩
theorem q_dput (hi : ρ[i]? = some (some (ownD kvs))) (hv : Ev c tv ρ r) (hy : Ev c ty ρ rk) (hk : KeyR rk k) (hl : kvs.length < 100000) (kk : Go c u (ρ.set i (some (ownD (putR kvs k r)))) D) : Go c (tSeq (sDPut (tVar i) ty tv) u) ρ D := go_seq (go_dput hi hv hy hk hl kk)
end
end DL
set_option Elab.async false
set_option linter.all false
set_option maxRecDepth 100000
set_option maxHeartbeats 4000000
/-! DLX1: rules of my own: globals, lists unpacked, dicts with tuple keys walked. -/
namespace DL
open PySem PySem.Spec PyProof.Rows L2
section
variable {X : Cx} {x : Str} {pos : Pos}
theorem pe_gint {i : Int} (hg : Gl X x) (h : ∃ t, X.mg x = some (.int i t)) (hd : (x == ("__debug__" : Str)) = false := by decide) : PE X (.Name x pos) (tC (.int i)) := by
  obtain ⟨t, h⟩ := h
  exact pe_glob hg h ⟨t, rfl⟩ hd
theorem pe_gstr {i : Str} (hg : Gl X x) (h : ∃ t, X.mg x = some (.str i t)) (hd : (x == ("__debug__" : Str)) = false := by decide) : PE X (.Name x pos) (tC (.str i)) := by
  obtain ⟨t, h⟩ := h
  exact pe_glob hg h ⟨t, rfl⟩ hd
/-- a dict that an expression gives is locked from then on -/
def tLockV (te : TE) : TE := fun σ H Q => te σ H fun x H1 => ∃ d u, x = .ref d ∧ H1 d = some u ∧ Mut (some u) ∧ ∀ od, Q x (upd H1 d (.frz od u))
theorem pe_lockV {e : Expr} {te : TE} (h : PE X e te) : PE X e (tLockV te) := by
  refine ⟨fun pins s σ H Q I hw => ?_⟩
  refine thn (h.run pins s σ H _ I hw) fun v s1 ⟨y, H1, I1, r, d, u, e1, hd, mu, q⟩ => ?_
  obtain ⟨od, I2⟩ := I1.lock hd mu
  exact ⟨y, _, I2, r, q od⟩
/-- xs[k], for xs[k] op= .. -/
theorem get_list : PGet X rGetL := by
  intro pins s σ H o i ov iv Q I ro ri h
  obtain ⟨p, xs, k, v, rfl, rfl, hq, he, q⟩ := h
  cases ro
  obtain ⟨t, rfl⟩ := ri
  obtain ⟨its, r, pl, hz⟩ := I.list (SqL.of hq)
  obtain ⟨j, h1, h2, h3, h4, h5⟩ := L2.atI_get he
  obtain ⟨w, ew, rw'⟩ := r.get h2
  have hl := r.length
  have hn := line63
  have fin : EP X pins σ Q w s := ⟨v, H, I, rw', q⟩
  by_cases h0 : 0 ≤ k
  · have hj : k.toNat = j := by
      rw [seqIndex_of h0 h5] at h1
      exact Option.some.inj h1
    exact wpAny_getItem_list pl.isList h0 (by omega) (by rw [hj]; simpa using ew) fin
  · have hj : (k + (its.toArray.size : Int)).toNat = j := by
      rw [seqIndex_neg (by omega) h4] at h1
      rw [List.size_toArray, ← hl]
      exact Option.some.inj h1
    exact wpAny_getItem_list_neg pl.isList (by omega) (by rw [List.size_toArray] <;> omega) (by omega) (by rw [hj]; simpa using ew) fin
end
/-! a, b, .. = a list -/
section
variable {prog : Program} {w : World} {A : Around} {E : Value → Shared → Prop} {s : Shared}
theorem draw_list {it t : Addr} {items : Array Value} (hne : t ≠ it) : ∀ (n i : Nat) (s : Shared) (Q : List Value → Shared → Prop), s.heap.IsListIter it t i → s.heap.IsList t items → i + n ≤ items.size →
    (∀ h', h'.IsListIter it t (i + n) → Heap.SameBut it s.heap h' → Q ((items.toList.drop i).take n) { s with heap := h' }) → wpAny (model prog w) A (draw (.ref it) n) Q E s
  | 0, i, s, Q, hit, _, _, hQ => by
    show wpAny _ _ (pure []) Q E s
    exact wpAny_pure (by simpa using hQ s.heap hit (Heap.SameBut.refl ..))
  | n + 1, i, s, Q, hit, ht, hle, hQ => by
    have hlt : i < items.size := by omega
    show wpAny _ _ (pyNext (.ref it) >>= _) Q E s
    refine wpAny_bind (wpAny_pyNext_list_item hit ht (x := items[i]) (by simp [hlt]) fun h₁ hit₁ hs₁ => ?_)
    refine wpAny_bind (wpAny_holding (draw_list hne n (i + 1) _ _ hit₁ (ht.extBut hs₁.extBut hne) (by omega) fun h₂ hit₂ hs₂ => wpAny_pure ?_))
    have hd : items.toList.drop i = items[i] :: items.toList.drop (i + 1) := by simp [List.drop_eq_getElem_cons, hlt]
    have := hQ h₂ (by rw [show i + (n + 1) = i + 1 + n by omega]; exact hit₂) (hs₁.trans hs₂)
    rw [hd, List.take_succ_cons] at this
    exact this
theorem unpackItems_list {t : Addr} {items : Array Value} {Q : List Value → Shared → Prop} (hh : A.handled = none) (ht : s.heap.IsList t items)
    (hQ : ∀ h', Heap.ExtBut s.heap.objs.size s.heap h' → Q items.toList { s with heap := h' }) : wpAny (model prog w) A (unpackItems (.ref t) items.size none) Q E s := by
  have hlt : t ≠ s.heap.objs.size := by obtain ⟨o, ho, _⟩ := ht; exact Nat.ne_of_lt (Heap.lt_size ho)
  unfold unpackItems
  refine wpAny_bind ?_
  · unfold notIterableAtAll
    refine wpAny_bind (wpAny_specialOf ht.typeIs F.slot_list_iter.lookup ?_)
    refine wpAny_pure ?_
    simp only [Bool.false_eq_true, if_false]
    refine wpAny_bind (wpAny_holding (wpAny_pyIter_list ht ?_))
    refine wpAny_bind (wpAny_holding (draw_list hlt items.size 0 _ _ ⟨_, Heap.get?_push_size _ rfl, rfl, rfl⟩ (ht.push _) (by omega) fun h₁ hit₁ hs₁ => ?_))
    have hall : List.take items.size (List.drop 0 items.toList) = items.toList := by
      rw [List.drop_zero]; exact List.take_of_length_le (by simp)
    rw [hall]
    rw [if_neg (by simp)]
    have ht₁ : h₁.IsList t items := (ht.push _).extBut hs₁.extBut hlt
    refine wpAny_bind (wpAny_holding (wpAny_pyNext_list_end hh hit₁ ht₁ (by simp) fun h₂ he₂ => ?_))
    simp only [Option.isSome_none, Bool.false_eq_true, if_false]
    refine wpAny_pure (hQ h₂ fun b o hb e => he₂ b o hb (hs₁.extBut b o hb (Heap.get?_push_of_some _ e)))
theorem assign_Tuple_list {env : PySem.Env} {elts : List Expr} {x1 : Nat} {pos : Pos} {t : Addr} {items : Array Value} {Q : Unit → Shared → Prop} (hh : A.handled = none) (ht : s.heap.IsList t items)
    (hn : (assignEach elts env).length = items.size) (hstar : (assignEach elts env).findIdx? (·.1) = none)
    (h : ∀ h', Heap.ExtBut s.heap.objs.size s.heap h' → wpAny (model prog w) A (assignInOrder ((assignEach elts env).map (·.2)) items.toList) Q E { s with heap := h' }) :
    wpAny (model prog w) A (assign (.Tuple elts x1 pos) env (.ref t)) Q E s := by
  rw [assign_Tuple]
  refine wpAny_bind (wpAny_standAt ?_)
  unfold unpack
  rw [hn, hstar]
  exact wpAny_bind (wpAny_holding (unpackItems_list hh ht h))
end
def gLst (K : PySem.W.Frag) (n : Nat) (t : TGs) : TG := fun v σ H Q => ∃ a xs, v = .ref a ∧ SqL K H a xs ∧ xs.length = n ∧ t xs σ H Q
theorem pg_lst {X : Cx} {pos : Pos} {es : List Expr} {k : Nat} {t : TGs} {n : Nat} (hc : X.calm = true) (h : PGs X es t)
    (hn : (assignEach es X.env).length = n := by rfl) (hst : (assignEach es X.env).findIdx? (·.1) = none := by rfl) : PG X (.Tuple es k pos) (gLst X.K n t) := by
  refine ⟨fun pins s σ H v u Q I r hw => ?_⟩
  obtain ⟨a, xs, e1, hq, hl, hw⟩ := hw
  subst e1
  cases r
  obtain ⟨its, rv, ht, hz⟩ := I.list hq
  refine assign_Tuple_list (I.ok.hd hc) ht.isList (by simp [hn, ← hl, rv.length]) hst fun h' hx => ?_
  have I1 : Inv X pins σ H { s with heap := h' } := I.kept (t' := s.toks) fun b o e => hx b o (Nat.ne_of_lt (Heap.lt_size e)) e
  exact h.run pins _ σ H xs _ Q I1 (by simpa using rv) hw
theorem gg_lst [TabSpec] {c : Ctx} {ρ ρ2 : Env} {rs : List R} {gs : TGs} {n : Nat} {js : List Nat} (h : GoGs c gs rs ρ ρ2 js) (hn : rs.length = n) : GoG c (gLst c.K n gs) (RLst rs) ρ ρ2 js where
  run := fun σ G H F x S q Q k => by
    obtain ⟨a, xs, e, h1, h2⟩ := RLst.out q
    exact ⟨a, xs, e, .of (S.le _ _ h1), by rw [← h2.length]; exact hn, h.run σ G H F xs S h2 Q k⟩
  agree := h.agree
  len := h.len
/-! dicts with tuple keys, walked -/
section
variable {X : Cx} {pins : List (Addr × Obj)} {σ : L2.St} {H : Hp} {s : Shared} {d : Addr} {o : Obj}
theorem Inv.frzT2 {kvs : List (List Key × V)} (I : Inv X pins σ H s) (h : H d = some (.frz o (.dT kvs))) :
    (d == sysModules) = false ∧ s.heap.get? d = some o ∧ o.ExactDict ∧ ∃ (es : Array DictEntry) (ep : Nat), o.data = .dict es ep ∧ es.size = kvs.length ∧
      ∀ (i : Nat) (k : List Key) (v : V), kvs[i]? = some (k, v) → ∃ (en : DictEntry) (q : Addr), es[i]? = some en ∧ en.key = .ref q ∧ H q = some (.tup (k.map kV)) ∧ RelV v en.val := by
  obtain ⟨hd, z, hs, xs, pr, o', es, ep, ho, hx, hdt, he, _⟩ := I.hok d _ h
  rw [hd] at ho
  cases ho
  refine ⟨hs, hd, hx, es, ep, hdt, ?_, fun i k v e => ?_⟩
  · have l1 : es.size = xs.length := size_of_entries he
    have l2 : kvs.length = xs.length := Paired.length pr
    omega
  · obtain ⟨b, hb, e1, e2, e3⟩ := paired_get pr e
    have q := entry_at he i
    rw [hb] at q
    exact ⟨_, b.2.1, q, rfl, e2, e3⟩
end
/-- the values of a locked dict with tuple keys; its pairs, each a new tuple -/
def ItdT (d : Addr) (o : Obj) (kvs : List (List Key × V)) : It :=
  ⟨fun i H => H d = some (.frz o (.dT kvs)) ∧ i < kvs.length, fun i H x H' => H' = H ∧ ∃ k, kvs[i]? = some (k, x), fun i H => H d = some (.frz o (.dT kvs)) ∧ kvs.length ≤ i⟩
def ItiT (d : Addr) (o : Obj) (kvs : List (List Key × V)) : It :=
  ⟨fun i H => H d = some (.frz o (.dT kvs)) ∧ i < kvs.length, fun i H x H' => ∃ (T q : Addr) (k : List Key) (v : V), kvs[i]? = some (k, v) ∧ x = .ref T ∧ H T = none ∧ H q = some (.tup (k.map kV)) ∧ H' = upd H T (.tup [.ref q, v]), fun i H => H d = some (.frz o (.dT kvs)) ∧ kvs.length ≤ i⟩
section
variable {P : Program} {w : World} {K : PySem.W.Frag} {tg : Expr} {d : Addr} {o : Obj} {es : Array DictEntry} {ep : Nat}
theorem turn_valsT {kvs : List (List Key × V)} (it : Addr) (hod : o.data = .dict es ep) : Turn P w K tg (ItdT d o kvs) [it] it (fun i h => h.IsValIter it d i kvs.length ep) where
  mem := by simp
  obj := fun i h st b hb => by
    have e : b = it := by simpa using hb
    subst e
    obtain ⟨oi, e, c, dd⟩ := st
    exact ⟨oi, e, fun v z => by rw [dd] at z; cases z⟩
  keep := fun i h h' st k => st.at fun oi e => k it (by simp) oi e
  item := by
    intro X hP hw hK hc i pins s σ H E I hf st hg
    subst hP hw hK
    obtain ⟨hd, hi⟩ := hg
    obtain ⟨f0, f1, f2, f3, f4, f5⟩ := hf it (by simp)
    obtain ⟨hs, hgd, hx, es', ep', hdt, hsz, ent⟩ := Inv.frzT2 I hd
    obtain ⟨rfl, rfl⟩ := dict_ep hod hdt
    obtain ⟨⟨k, v⟩, hkv⟩ : ∃ p, kvs[i]? = some p := ⟨kvs[i], List.getElem?_eq_getElem hi⟩
    obtain ⟨en, q, hen, hkey, hq, rv⟩ := ent i k v hkv
    rw [← hsz] at st
    have hlt : i < es'.size := by rw [hsz]; exact hi
    refine wpAny_pyNext_values_item_raw st ⟨o, hgd, hx, hdt⟩ hlt fun h' st' sb => ?_
    have I1 : Inv X pins σ H { s with heap := h' } := I.turned (t' := s.toks) (fun b ob hb e => (sb.2 b hb).trans e) f0 f1 f3 f4 f5
    obtain ⟨oi, e, c, dd⟩ := id st'
    have ee : es'[i] = en := by rw [Array.getElem?_eq_getElem hlt] at hen; exact Option.some.inj hen
    refine ⟨_, rfl, go_of (s := { s with heap := h' }) e c dd (by decide) ⟨v, H, I1, by rw [ee]; exact rv, ⟨rfl, k, hkv⟩, ?_, fun b hb => (hf b hb).1⟩⟩
    show h'.IsValIter it d (i + 1) kvs.length _
    rw [← hsz]
    exact st'
  done := by
    intro X hP hw hK hc i pins s σ H E I hf st hg
    subst hP hw hK
    obtain ⟨hd, hi⟩ := hg
    obtain ⟨f0, f1, f2, f3, f4, f5⟩ := hf it (by simp)
    obtain ⟨hs, hgd, hx, es', ep', hdt, hsz, ent⟩ := Inv.frzT2 I hd
    obtain ⟨rfl, rfl⟩ := dict_ep hod hdt
    rw [← hsz] at st
    exact wpAny_pyNext_values_end_raw (I.ok.hd hc) st ⟨o, hgd, hx, hdt⟩ (by omega) fun h' eb => ⟨rfl, I.turned (t' := s.toks) (fun b ob hb e => eb b ob hb e) f0 f1 f3 f4 f5⟩
  self := fun A i s Q E st h => wpAny_pyIter_valiter st h
theorem turn_itemsT {kvs : List (List Key × V)} {elts : List Expr} {kk : Nat} {tpos : Pos} (it : Addr) (hod : o.data = .dict es ep) :
    Turn P w K (.Tuple elts kk tpos) (ItiT d o kvs) [it] it (fun i h => ∃ ok ov, IsItemIter h it d i kvs.length ep ok ov) where
  mem := by simp
  obj := fun i h st b hb => by
    have e : b = it := by simpa using hb
    subst e
    obtain ⟨ok, ov, e⟩ := st
    exact ⟨_, e, fun v z => nomatch z⟩
  keep := fun i h h' st k => let ⟨ok, ov, e⟩ := st; ⟨ok, ov, k it (by simp) _ e⟩
  item := by
    intro X hP hw hK hc i pins s σ H E I hf st hg
    subst hP hw hK
    obtain ⟨hd, hi⟩ := hg
    obtain ⟨hs, hgd, hx, es', ep', hdt, hsz, ent⟩ := Inv.frzT2 I hd
    obtain ⟨rfl, rfl⟩ := dict_ep hod hdt
    obtain ⟨⟨k, v⟩, hkv⟩ : ∃ p, kvs[i]? = some p := ⟨kvs[i], List.getElem?_eq_getElem hi⟩
    obtain ⟨en, q, hen, hkey, hq, rv⟩ := ent i k v hkv
    obtain ⟨ok, ov, he⟩ := st
    rw [← hsz] at he
    have hlt : it < s.heap.objs.size := Heap.lt_size he
    have hie : i < es'.size := by rw [hsz]; exact hi
    have ee : es'[i] = en := by rw [Array.getElem?_eq_getElem hie] at hen; exact Option.some.inj hen
    refine DT.nextI he ⟨o, hgd, hx, hdt⟩ hie fun h' ho hT hz hk => ?_
    rw [ee, hkey] at ho hT
    refine ⟨_, rfl, wpAny_letOwnedTupleGo_items (s := { s with heap := h' }) ho fun h'' he' sb => ?_⟩
    have hT2 : h''.get? s.heap.objs.size = some { cls := .type "tuple", data := .seq #[.ref q, en.val] } := (sb.2 _ (Nat.ne_of_gt hlt)).trans hT
    have new : ObjOk X.prog X.w (upd H s.heap.objs.size (.tup [.ref q, v])) h'' s.heap.objs.size (.tup [.ref q, v]) :=
      ⟨by show 2 ≤ sizeLine; decide, [.ref q, en.val], .cons rfl (.cons rv .nil), ⟨_, hT2, rfl, _, rfl⟩⟩
    have I1 : Inv X pins σ (upd H s.heap.objs.size (.tup [.ref q, v])) { s with heap := h'' } :=
      I.turnedNew (t' := s.toks) (ch := [it]) (fun b ob hb e => (sb.2 b (by simpa using hb)).trans (hk b ob (by simpa using hb) e)) hf (Nat.le_refl _) new
    refine ⟨.ref s.heap.objs.size, _, I1, rfl, ⟨_, q, k, v, hkv, rfl, I.hok.fresh (Nat.le_refl _), hq, rfl⟩, ⟨.ref q, en.val, ?_⟩, fun b hb => ?_⟩
    · rw [← hsz]; exact he'
    · have e : b = it := by simpa using hb
      rw [e, upd_ne (Nat.ne_of_lt hlt)]
      exact (hf it (by simp)).1
  done := by
    intro X hP hw hK hc i pins s σ H E I hf st hg
    subst hP hw hK
    obtain ⟨hd, hi⟩ := hg
    obtain ⟨f0, f1, f2, f3, f4, f5⟩ := hf it (by simp)
    obtain ⟨hs, hgd, hx, es', ep', hdt, hsz, ent⟩ := Inv.frzT2 I hd
    obtain ⟨rfl, rfl⟩ := dict_ep hod hdt
    obtain ⟨ok, ov, he⟩ := st
    rw [← hsz] at he
    exact DT.endI (I.ok.hd hc) he ⟨o, hgd, hx, hdt⟩ (by omega) fun h' eb => ⟨rfl, I.turned (t' := s.toks) (fun b ob hb e => eb b ob hb e) f0 f1 f3 f4 f5⟩
  self := fun A i s Q E st h => let ⟨_, _, e⟩ := st; PySem.W.kcp_self e h
end
def iValsT (td : TE) : TI := fun σ H R => td σ H fun x H1 => ∃ d o kvs, x = .ref d ∧ H1 d = some (.frz o (.dT kvs)) ∧ R (ItdT d o kvs) H1
def iItemsT (td : TE) : TI := fun σ H R => td σ H fun x H1 => ∃ d o kvs, x = .ref d ∧ H1 d = some (.frz o (.dT kvs)) ∧ R (ItiT d o kvs) H1
section
variable {X : Cx} {tg e : Expr} {td : TE} {apos cpos : Pos}
theorem pi_valuesT (he : PE X e td) (hbase : attributeBase e "values" X.env (eval e X.env) = eval e X.env := by rfl) (hline : (apos.endLine == cpos.line) = true := by rfl) : PI X tg (.Call (.Attribute e "values" apos) [] [] cpos) (iValsT td) := by
  refine ⟨fun pins s σ H R I h => ?_⟩
  refine wpAny_Call_method (T := "dict") (id := "dict.values") hbase rfl hline F.plainAttrs_dict F.slot_dict_values F.type_dict_values (thn (he.run pins s σ H _ I h) fun u s1 ⟨x, H1, I1, rx, d, o, kvs, ex, hd, q⟩ => ?_)
  subst ex
  obtain rfl : u = Value.ref d := rx
  obtain ⟨hs, hgd, hx, es, ep, hdt, hsz, ent⟩ := Inv.frzT2 I1 hd
  have raw : s1.heap.DictRaw d es ep := ⟨o, hgd, hx, hdt⟩
  refine ⟨raw.typeIs, (fun a e => by cases e; exact ⟨o, hgd, hx.2.1⟩), ?_⟩
  have I2 : Inv X pins σ H1 { s1 with heap := s1.heap.push { cls := .type "dict_values", data := .fields #[.ref d] } } := I1.kept (t' := s1.toks) fun b o q => Heap.get?_push_of_some _ q
  have fin : wpAny (model X.prog X.w) X.A (pyIter (.ref s1.heap.objs.size)) (PIE X pins σ tg R) X.xe { s1 with heap := s1.heap.push { cls := .type "dict_values", data := .fields #[.ref d] } } := by
    refine wpAny_pyIter_values_raw (d := d) ⟨_, Heap.get?_push_size _ rfl, rfl, rfl⟩ (raw.at fun o q => Heap.get?_push_of_some _ q) (pi_one (tk := s1.toks) I2 _ (turn_valsT _ hdt) ⟨_, Heap.get?_push_size _ rfl, rfl, ?_⟩ q)
    rw [hsz] <;> rfl
  show wpAny _ _ (callWith cpos (.builtin "dict.values") [.ref d] [] []) _ X.xe s1
  exact method_meetsIn F.slot_dict_values F.entry_dict_values rfl (PySem.evalArgs_none ⟨rfl, raw.typeIs, F.args_dict_values_1 _, _, meets_dict_values_raw d hs, ⟨es, ep, raw⟩, fin⟩)
theorem pi_itemsT {elts : List Expr} {kk : Nat} {tpos : Pos} (he : PE X e td) (hbase : attributeBase e "items" X.env (eval e X.env) = eval e X.env := by rfl) (hline : (apos.endLine == cpos.line) = true := by rfl) :
    PI X (.Tuple elts kk tpos) (.Call (.Attribute e "items" apos) [] [] cpos) (iItemsT td) := by
  refine ⟨fun pins s σ H R I h => ?_⟩
  refine wpAny_Call_method (T := "dict") (id := "dict.items") hbase rfl hline F.plainAttrs_dict F.slot_dict_items F.type_dict_items (thn (he.run pins s σ H _ I h) fun u s1 ⟨x, H1, I1, rx, d, o, kvs, ex, hd, q⟩ => ?_)
  subst ex
  obtain rfl : u = Value.ref d := rx
  obtain ⟨hs, hgd, hx, es, ep, hdt, hsz, ent⟩ := Inv.frzT2 I1 hd
  have raw : s1.heap.DictRaw d es ep := ⟨o, hgd, hx, hdt⟩
  refine ⟨raw.typeIs, (fun a e => by cases e; exact ⟨o, hgd, hx.2.1⟩), ?_⟩
  have I2 : Inv X pins σ H1 { s1 with heap := s1.heap.push { cls := .type "dict_items", data := .fields #[.ref d] } } := I1.kept (t' := s1.toks) fun b o q => Heap.get?_push_of_some _ q
  have fin : wpAny (model X.prog X.w) X.A (pyIter (.ref s1.heap.objs.size)) (PIE X pins σ (.Tuple elts kk tpos) R) X.xe { s1 with heap := s1.heap.push { cls := .type "dict_items", data := .fields #[.ref d] } } := by
    refine wpAny_pyIter_items_raw (d := d) ⟨_, Heap.get?_push_size _ rfl, rfl, rfl⟩ (raw.at fun o q => Heap.get?_push_of_some _ q) (pi_one (tk := s1.toks) I2 _ (turn_itemsT _ hdt) ⟨.none, .none, ?_⟩ q)
    rw [← hsz]
    exact Heap.get?_push_size _ rfl
  show wpAny _ _ (callWith cpos (.builtin "dict.items") [.ref d] [] []) _ X.xe s1
  exact method_meetsIn F.slot_dict_items F.entry_dict_items rfl (PySem.evalArgs_none ⟨rfl, raw.typeIs, F.args_dict_items_1 _, _, meets_dict_items_raw d hs, ⟨es, ep, raw⟩, fin⟩)
end
end DL
set_option Elab.async false
set_option linter.all false
set_option maxRecDepth 100000
set_option maxHeartbeats 4000000
/-! DL5: fields, borrowed lists, promises with a borrowed list, views, locks. -/
namespace DL
open PySem PySem.Spec PyProof.Rows L2
variable [tsp : TabSpec]
/-! fields -/
/-- r stands for instances of the class C, the field f an rf -/
def HasFld (C : Addr) (f : Str) (r rf : R) : Prop := ∀ v G, r.p v G → ∃ a dx fs y, v = .ref a ∧ G a = some (.ins C dx fs) ∧ fs.lookup f = some y ∧ rf.p y G
section
variable {c : Ctx} {ρ : Env} {te ta : TE} {tas : TA} {r ra rf rc : R} {rs : List R} {i : Nat} {C : Addr} {f : Str}
theorem ev_fld (h : Ev c te ρ r) (hf : HasFld C f r rf) (hc : Cls c.K C) (hn : NoAttr c.K C f) : Ev c (tFld c.K te f) ρ rf := fun σ G H F S Q k => by
  refine h σ G H F S _ fun v G1 H1 F1 S1 n1 q => ?_
  obtain ⟨a, dx, fs, y, rfl, h1, h2, h3⟩ := hf v G1 q
  exact ⟨a, C, dx, fs, y, rfl, S1.le _ _ h1, hc, hn, h2, k y G1 H1 F1 S1 n1 h3⟩
/-! a borrowed list -/
/-- three whole numbers -/
def HState : HK := ⟨fun o _ => ∃ x y z : Int, o = .lst [.int x, .int y, .int z], fun ⟨_, _, _, e⟩ => by rw [e]; trivial, fun _ h => h⟩
/-- a promise: the first argument is a borrowed P, the others are rs; P stands behind it as one again -/
def SpOkB (P : HK) (sp : Sp) (rs : List R) (rc : R) : Prop := ∀ E st o ws G H, Le G H → G st = none → H st = some o → P.p o G → Reps rs ws G → ∀ Q : VK,
  (∀ v G' H' o', Ext (fun a => a = st) G H G' H' → G' st = none → H' st = some o' → P.p o' G' → rc.p v G' → Q v H') → sp (.ref st :: ws) H Q E
/-- an own P, at an address that stays -/
structure OwnSP (s : SP) (P : HK) : Prop where
  opn : ∀ v G H F, s.p v G H F → ∃ p o, v = .ref p ∧ H p = some o ∧ P.p o G ∧ ∀ a, F a ↔ a = p
  cls : ∀ p G H F G' H' o', s.p (.ref p) G H F → H' p = some o' → P.p o' G' → s.p (.ref p) G' H' (fun a => a = p)
theorem ownH_own (P : HK) : OwnSP (ownH P) P := ⟨fun v G H F h => h, fun p G H F G' H' o' _ h hP => ⟨p, o', rfl, h, hP, fun a => Iff.rfl⟩⟩
def ownAt (st : Addr) (P : HK) : SP := ⟨fun v G H F => v = .ref st ∧ ∃ o, H st = some o ∧ P.p o G ∧ ∀ a, F a ↔ a = st,
  fun e k ⟨h1, o, h2, h3, h4⟩ => ⟨h1, o, by rw [k st ((h4 st).mpr rfl)]; exact h2, P.mono e h3, h4⟩⟩
theorem ownAt_own (st : Addr) (P : HK) : OwnSP (ownAt st P) P := ⟨fun v G H F ⟨h1, o, h2, h3, h4⟩ => ⟨st, o, h1, h2, h3, h4⟩, fun p G H F G' H' o' ⟨h1, _⟩ h hP => by
  cases h1
  exact ⟨rfl, o', h, hP, fun a => Iff.rfl⟩⟩
theorem ev_callB {s : SP} {P : HK} (hs : OwnSP s P) {sp : Sp} {E : XK} (hi : ρ[i]? = some (some s)) (ha : EvA c tas ρ rs) (hr : SpOkB P sp rs rc) : Ev c (tCall sp [] E (tCons (tVar i) tas)) ρ rc := fun σ G H F S Q k => by
  obtain ⟨v0, h1, _⟩ := S.at_ i _ hi
  refine ⟨_, h1, ?_⟩
  refine ha σ G H F S _ fun vs G1 H1 F1 S1 n1 qs => ?_
  obtain ⟨v1, h1', hsp⟩ := S1.at_ i _ hi
  rw [h1] at h1'; cases h1'
  obtain ⟨p, o', rfl, h2, h3, hFF⟩ := hs.opn _ _ _ _ hsp
  have hF := (hFF p).mpr rfl
  have hg : G1 p = none := (S1.out i p hF).1
  have hil : i < ρ.length := (List.getElem?_eq_some_iff.mp hi).1
  rw [List.append_nil]
  refine hr E p o' vs G1 H1 S1.le hg h2 h3 qs Q fun v G' H' u x g' h' hP hv => ?_
  have T := S1.turn (i := i) (v := .ref p) (s := s) (G' := G') (H' := H') (F' := fun a => a = p) hil x.le x.sub x.tab
    (fun a o n nt e => x.keep a o (fun z => n (by rw [z]; exact hF)) nt e) x.live x.new
    (fun a e => by subst e; exact ⟨.inl hF, ⟨u, h', P.dat hP⟩, g'⟩) (hs.cls _ _ _ _ _ _ _ hsp h' hP)
  have eσ : σ.set i (some (V.ref p)) = σ := by
    apply List.ext_getElem?
    intro j
    by_cases z : j = i
    · subst z; rw [List.getElem?_set_self (by rw [S.len]; exact hil), h1]
    · rw [List.getElem?_set_ne (Ne.symm z)]
  have eρ : ρ.set i (some s) = ρ := by
    apply List.ext_getElem?
    intro j
    by_cases z : j = i
    · subst z; rw [List.getElem?_set_self hil, hi]
    · rw [List.getElem?_set_ne (Ne.symm z)]
  rw [eσ, eρ] at T
  refine k v G' H' _ T (n1.trans ⟨x.sub, fun a o nt e nF => ⟨x.keep a o (fun z => nF i (by rw [z]; exact hF)) nt e, fun j => ?_⟩, x.live, x.new⟩) hv
  show ¬ (if j = i then a = p else F1 j a)
  by_cases z : j = i
  · rw [if_pos z]; intro y; subst y; exact nF i hF
  · rw [if_neg z]; exact nF j
end
/-- the promise of a def that borrows its first argument -/
def spB {I : Type} (P : HK) (as : I → List R) (pre : I → Prop) (res : I → R) : Sp := fun vs H Q _ => ∃ (i : I) (G : Hp) (st : Addr) (o : HO) (ws : List V), vs = .ref st :: ws ∧ Le G H ∧ G st = none ∧ H st = some o ∧ P.p o G ∧ Reps (as i) ws G ∧ pre i ∧
  ∀ v G' H' o', Ext (fun a => a = st) G H G' H' → G' st = none → H' st = some o' → P.p o' G' → (res i).p v G' → Q v H'
theorem spB_ok {I : Type} {P : HK} {as : I → List R} {pre : I → Prop} {res : I → R} (i : I) (h : pre i) : SpOkB P (spB P as pre res) (as i) (res i) := fun E st o ws G H e g ho hP q Q k => ⟨i, G, st, o, ws, rfl, e, g, ho, hP, q, h, k⟩
theorem spB_len {I : Type} {P : HK} {as : I → List R} {pre : I → Prop} {res : I → R} {n : Nat} (h : ∀ i, (as i).length = n) (vs : List V) (H : Hp) (Q : VK) (E : XK) (q : spB P as pre res vs H Q E) : vs.length = n + 1 := by
  obtain ⟨i, G, st, o, ws, rfl, _, _, _, _, q, _⟩ := q
  rw [List.length_cons, ← q.length, h]
/-- what a return of an r does, the borrowed thing in slot 0 -/
def RetsB (c : Ctx) (D : Ends) (st : Addr) (P : HK) (r : R) : Prop := ∀ σ ρ G H F v, ρ[0]? = some (some (ownAt st P)) → Sta c ρ σ G H F → r.p v G → D.rt v H
theorem Sta.startB {K : PySem.W.Frag} {P : HK} {G H : Hp} {rs : List R} {st : Addr} {o : HO} {ws : List V} {N : List Str} (e : Le G H) (g : G st = none) (ho : H st = some o) (hP : P.p o G) (q : Reps rs ws G) :
    Sta ⟨K, fun a => a = st, G, H, [0], []⟩ (some (ownAt st P) :: (rs.map (fun r => some (im r)) ++ List.replicate (N.length - rs.length - 1) none)) (L2.start N (.ref st :: ws)) G H (fun i a => i = 0 ∧ a = st) where
  ext := Ext.refl e
  len := by unfold L2.start; simp only [List.length_append, List.length_map, List.length_replicate, List.length_cons, q.length]; omega
  at_ := fun i s h => by
    unfold L2.start
    cases i with
    | zero =>
      simp at h; subst h
      exact ⟨.ref st, rfl, rfl, o, ho, hP, fun a => ⟨fun z => z.2, fun z => ⟨rfl, z⟩⟩⟩
    | succ i =>
      have h' : (rs.map (fun r => some (im r)) ++ List.replicate (N.length - rs.length - 1) none)[i]? = some (some s) := h
      have hl : i < rs.length := by
        by_cases z : i < rs.length
        · exact z
        · rw [List.getElem?_append_right (by simp; omega), List.getElem?_replicate] at h'
          split at h' <;> cases h'
      rw [List.getElem?_append_left (by simpa using hl), List.getElem?_map] at h'
      obtain ⟨r, hr⟩ : ∃ r, rs[i]? = some r := ⟨rs[i], by simp [hl]⟩
      rw [hr] at h'
      cases h'
      obtain ⟨v, hv, qv⟩ := q.get hr
      refine ⟨v, ?_, qv, fun _ z => by cases z.1⟩
      show (((V.ref st :: ws).map some) ++ List.replicate (N.length - (V.ref st :: ws).length) none)[i + 1]? = _
      rw [List.getElem?_append_left (by simp; rw [← q.length]; omega)]
      show (ws.map some)[i]? = _
      rw [List.getElem?_map, hv]; rfl
  dis := fun i j a x y => x.1.trans y.1.symm
  out := fun i a ⟨h1, h2⟩ => by subst h1 h2; exact ⟨g, ⟨o, ho, P.dat hP⟩, .inl ⟨rfl, by simp⟩⟩
  pin := fun g h => by cases h
theorem body_B {I : Type} {P : HK} {as : I → List R} {pre : I → Prop} {res : I → R} {K : PySem.W.Frag} {t : TS} {N : List Str}
    (h : ∀ i, pre i → ∀ (c : Ctx) (D : Ends) (st : Addr), c.K = K → c.bs = [0] → RetsB c D st P (res i) → (∀ H, D.rt .non H → ∀ σ, D.nx σ H) → Go c t (some (ownAt st P) :: ((as i).map (fun r => some (im r)) ++ List.replicate (N.length - (as i).length - 1) none)) D)
    (vs : List V) (H : Hp) (Q : VK) (E : XK) (q : spB P as pre res vs H Q E) : t { nx := fun _ H' => Q .non H', rt := Q } (L2.start N vs) H := by
  obtain ⟨i, G, st, o, ws, rfl, e, g, ho, hP, q, hp, k⟩ := q
  refine h i hp ⟨K, fun a => a = st, G, H, [0], []⟩ _ st rfl rfl (fun σ ρ G' H' F v h0 S r => ?_) (fun H h _ => h) _ _ _ _ (Sta.startB e g ho hP q)
  obtain ⟨v0, h1, e1, o', h2, h3, hF⟩ := S.at_ 0 _ h0
  exact k v G' H' o' S.ext (S.out 0 st ((hF st).mpr rfl)).1 h2 h3 r
theorem go_retB {c : Ctx} {ρ : Env} {D : Ends} {te : TE} {r : R} {st : Addr} {P : HK} (h : Ev c te ρ r) (h0 : ρ[0]? = some (some (ownAt st P))) (k : RetsB c D st P r) : Go c (tRet te) ρ D := fun σ G H F S => h σ G H F S _ fun v G' H' F' S' _ q => k _ _ _ _ _ v h0 S' q
end DL
set_option Elab.async false
set_option linter.all false
set_option maxRecDepth 100000
set_option maxHeartbeats 4000000
/-! DLX8: names of built-ins, of rules. -/
namespace DL
open PySem PySem.Spec PyProof.Rows L2
theorem bt_len : bootBuiltins "len" = some (.builtin "len") := by decide +kernel
theorem bt_sum : bootBuiltins "sum" = some (.builtin "sum") := by decide +kernel
theorem bt_max : bootBuiltins "max" = some (.builtin "max") := by decide +kernel
theorem bt_min : bootBuiltins "min" = some (.builtin "min") := by decide +kernel
theorem bt_all : bootBuiltins "all" = some (.builtin "all") := by decide +kernel
theorem bt_any : bootBuiltins "any" = some (.builtin "any") := by decide +kernel
theorem bt_isinstance : bootBuiltins "isinstance" = some (.builtin "isinstance") := by decide +kernel
theorem bt_sorted : bootBuiltins "sorted" = some (.builtin "sorted") := by decide +kernel
theorem bt_int : bootBuiltins "int" = some (.type "int") := by decide +kernel
theorem bt_bool : bootBuiltins "bool" = some (.type "bool") := by decide +kernel
theorem bt_str : bootBuiltins "str" = some (.type "str") := by decide +kernel
theorem bt_list : bootBuiltins "list" = some (.type "list") := by decide +kernel
theorem bt_dict : bootBuiltins "dict" = some (.type "dict") := by decide +kernel
theorem bt_tuple : bootBuiltins "tuple" = some (.type "tuple") := by decide +kernel
abbrev rTupleOf (K : PySem.W.Frag) : List V → Hp → VK → Prop := fun xs H Q => ∃ p ys, xs = [.ref p] ∧ ((SqL K H p ys ∧ ∀ l, H l = none → Q (.ref l) (upd H l (.tup ys))) ∨ (SqT K H p ys ∧ Q (.ref p) H))
abbrev rDictD : List V → Hp → VK → Prop := fun xs H Q => ∃ (a : Addr) (kvs : List (Key × V)), xs = [.ref a] ∧ Rd H a (.dK kvs) ∧ ∀ p, H p = none → Q (.ref p) (upd H p (.dK kvs))
abbrev rInsert : V → List V → Hp → VK → Prop := fun x vs H Q => ∃ (l : Addr) (xs : List V) (i : Int) (y : V), x = .ref l ∧ vs = [.int i, y] ∧ H l = some (.lst xs) ∧ xs.length < sizeLine ∧ 0 ≤ i ∧ i < 2 ^ 63 ∧
    Q .non (upd H l (.lst (xs.take i.toNat ++ [y] ++ xs.drop i.toNat)))
abbrev rJoin (K : PySem.W.Frag) : V → List V → Hp → VK → Prop := fun x xs H Q => ∃ a p, ∃ ys : List Str, x = .str a ∧ xs = [.ref p] ∧ (SqL K H p (ys.map V.str) ∨ SqT K H p (ys.map V.str)) ∧
    (ys.map (·.length)).sum + ys.length * a.length ≤ 16777216 ∧ Q (.str (Txt.join a ys)) H
abbrev rLenD : List V → Hp → VK → Prop := fun xs H Q => ∃ a kvs, xs = [V.ref a] ∧ H a = some (.dK kvs) ∧ Q (.int kvs.length) H
abbrev rLenDT : List V → Hp → VK → Prop := L2.rLenT
abbrev rListOfD : List V → Hp → VK → Prop := fun xs H Q => ∃ (a : Addr) (kvs : List (Key × V)), xs = [.ref a] ∧ Rd H a (.dK kvs) ∧ ∀ p, H p = none → Q (.ref p) (upd H p (.lst (kvs.map fun kv => kV kv.1)))
end DL
set_option Elab.async false
set_option linter.all false
set_option maxRecDepth 100000
set_option maxHeartbeats 4000000
/-! DL6: chains, texts, slices, more rules by values. -/
namespace DL
open PySem PySem.Spec PyProof.Rows L2
variable [tsp : TabSpec]
section
variable {c : Ctx} {ρ : Env} {ta tb tc te : TE} {tas : TA} {r ra rb rc : R} {rs : List R} {i : Nat} {P : HK} {K : PySem.W.Frag}
theorem ev_chain {o o' : R2} {a b : Bool} (h1 : Ev c ta ρ ra) (h2 : Ev c tb ρ rb) (h3 : Ev c tc ρ rc) (r1 : RV2 o ra rb (RBl a)) (r2 : RV2 o' rb rc (RBl b)) : Ev c (tChain o o' ta tb tc) ρ (RBl (a && b)) := fun σ G H F S Q k => by
  refine h1 σ G H F S _ fun x G1 H1 F1 S1 n1 qx => ?_
  refine h2 σ G1 H1 F1 S1 _ fun y G2 H2 F2 S2 n2 qy => ?_
  refine r1 x y G2 H2 S2.le (ra.mono n2.sub qx) qy _ fun z G3 H3 e q => ⟨a, q, ?_⟩
  have S3 := S2.step e
  cases a with
  | true =>
    refine iteT (h3 σ G3 H3 F2 S3 _ fun u G4 H4 F4 S4 n4 qu => ?_)
    exact r2 y u G4 H4 S4.le (rb.mono (e.sub.trans n4.sub) qy) qu Q fun z G5 H5 e5 q5 => k z G5 H5 F4 (S4.step e5) (n1.trans (n2.trans ((Nxt.of e).trans (n4.trans (Nxt.of e5))))) q5
  | false => exact iteF (k _ G3 H3 F2 S3 (n1.trans (n2.trans (Nxt.of e))) rfl)
theorem spok_ex {α : Type} {Pa : α → Prop} {f : α → R} {sp : Sp} (h : ∀ x, Pa x → SpOk sp (f x :: rs) rc) : SpOk sp (exR Pa f :: rs) rc := fun E vs G H e q Q k => by
  cases q with
  | cons qx qs =>
    obtain ⟨x, px, qx⟩ := qx
    exact h x px E _ G H e (.cons qx qs) Q k
theorem rv_ixS {z : Str} {n : Int} {ch : Nat} (hz : z.length ≤ 100000) (h : atI z.cps.toList n = some ch) : RV2 rIxS (RStr z) (RInt n) (RStr ⟨#[ch]⟩) := fun x y G H e hx hy Q k =>
  ⟨z, n, ch, hx, hy, sz_ok hz, h, k _ G H (Ext.refl e) rfl⟩
theorem rv_inS {ch : Nat} {z : Str} : RV2 rInS (RStr ⟨#[ch]⟩) (RStr z) (RBl (decide (ch ∈ z.cps.toList))) := fun x y G H e hx hy Q k => ⟨ch, z, hx, hy, k _ G H (Ext.refl e) rfl⟩
/-- s[:n] -/
theorem ev_slS {z : Str} {n : Int} (h : Ev c te ρ (RStr z)) (hn : Ev c ta ρ (RInt n)) (hz : z.length ≤ 100000) : Ev c (tSl rSlS te tNoPart (tPart ta)) ρ (RStr (cutS z none (some n))) := fun σ G H F S Q k => by
  refine h σ G H F S _ fun x G1 H1 F1 S1 n1 qx => ?_
  refine hn σ G1 H1 F1 S1 _ fun y G2 H2 F2 S2 n2 qy => ?_
  exact ⟨n, qy, z, qx, sz_ok hz, k _ G2 H2 F2 S2 (n1.trans n2) rfl⟩
/-- a list of texts, joined by nothing -/
theorem ev_joinN {ss : List Str} {a : Str} (h : EvN c te ρ (lS ss)) (ha : Ev c ta ρ (RStr a)) (hz : (ss.map (·.length)).sum + ss.length * a.length ≤ 16777216) : Ev c (tM1 (rJoin c.K) ta te) ρ (RStr (Txt.join a ss)) := fun σ G H F S Q k => by
  refine ha σ G H F S _ fun x G1 H1 F1 S1 n1 qx => ?_
  refine ⟨⟨a, qx⟩, ?_⟩
  refine h σ G1 H1 F1 S1 _ fun p o G2 H2 F2 S2 n2 hp hg hF h0 ⟨ys, ey, qy⟩ => ?_
  subst ey
  have e := reps_strs qy
  subst e
  exact ⟨a, p, ss, qx, rfl, .inl (.inl (.inl hp)), hz, k _ G2 H2 F2 S2 (n1.trans n2) rfl⟩
end
end DL
set_option Elab.async false
set_option linter.all false
set_option maxRecDepth 100000
set_option maxHeartbeats 4000000
/-! DLX2: enumerate over the keys of a dict. -/
namespace DL
open PySem PySem.Spec PyProof.Rows L2
open Builtin
section
variable {prog : Program} {w : World} {A : Around} {E : Value → Shared → Prop} {s : Shared}
theorem nextOf_keys_item {it d : Addr} {i ep : Nat} {es : Array DictEntry} {Q : Value → Shared → Prop} (hit : s.heap.IsKeyIter it d i es.size ep)
    (hm : s.heap.DictRaw d es ep) (hlt' : i < es.size)
    (hQ : ∀ h', h'.IsKeyIter it d (i + 1) es.size ep → Heap.SameBut it s.heap h' → Q es[i].key { s with heap := h' }) :
    wpAny (model prog w) A (Builtin.SmallTypes.nextOf (.ref it)) Q E s := by
  obtain ⟨o, ho, hc, hd⟩ := id hit
  obtain ⟨od, hod, hcd, hdd⟩ := id hm
  unfold Builtin.SmallTypes.nextOf
  refine wpAny_bind (wpAny_callSpecial?_slot (name := Str.ofString "__next__") hit.typeIs F.slot_dict_keyiterator_next
    (wpAny_call_entry F.slot_dict_keyiterator_next hit.typeIs F.entry_dict_keyiterator_next ?_ (F.args_dict_keyiterator_next_1 _)))
  refine wpAny_bind (wpAny_pure ?_)
  refine wpAny_bind ?_
  refine wpAny_bind ?_
  first | refine wpAny_bind (wpAny_typeNameOfWhole_keyiter hit.typeIs (wpAny_pure ?_)) | refine wpAny_bind (wpAny_typeNameOf_keyiter hit.typeIs (wpAny_pure ?_))
  refine wpAny_bind (wpAny_fieldsOf ho hd ?_)
  have hown : Builtin.Dict_items.ownsTuple "dict_keyiterator" = false := by decide
  simp only [hown, Bool.false_eq_true, if_false]
  show wpAny _ _ (if (Value.ref d == Value.none) = true then _ else _) _ _ s
  rw [if_neg (show ¬ ((Value.ref d == Value.none) = true) from Bool.false_ne_true)]
  refine wpAny_bind (wpAny_pure ?_)
  refine wpAny_bind (wpAny_dictEntries hod hdd ?_)
  rw [if_neg (by simp)]
  refine wpAny_bind (wpAny_pure ?_)
  refine wpAny_bind (wpAny_dictEpoch hod hdd ?_)
  rw [if_neg (by simp)]
  refine wpAny_pure ?_
  simp only [show ¬ ((i : Int) < 0) from by omega, if_false, Int.toNat_natCast, Array.getElem?_eq_getElem hlt']
  refine wpAny_bind ?_
  first | refine wpAny_bind (wpAny_typeNameOfWhole_keyiter hit.typeIs (wpAny_pure ?_)) | refine wpAny_bind (wpAny_typeNameOf_keyiter hit.typeIs (wpAny_pure ?_))
  refine wpAny_bind (wpAny_isOneOf_keyiter hit.typeIs ?_)
  show wpAny _ _ (setField (.ref it) 1 (rawInt ((i : Int) + 1)) >>= _) _ _ s
  refine wpAny_bind (wpAny_setField ho hd (by simp) ?_)
  have hit' : (s.heap.update it (Obj.mapFields (·.setIfInBounds 1 (rawInt ((i : Int) + 1))))).IsKeyIter it d (i + 1) es.size ep :=
    ⟨_, Heap.get?_update_self _ ho (Obj.isFreed_of_fields (Obj.data_mapFields hd _)), (Obj.cls_mapFields ..).trans hc, by rw [Obj.data_mapFields hd]; simp [rawInt]⟩
  refine wpAny_bind (wpAny_holding ?_)
  refine wpAny_bind (wpAny_isOneOf_keyiter (s := { s with heap := s.heap.update it (Obj.mapFields (·.setIfInBounds 1 (rawInt ((i : Int) + 1)))) }) hit'.typeIs ?_)
  show wpAny _ _ (pure es[i].key) _ _ _
  exact wpAny_pure (wpAny_pure ⟨_, rfl, wpAny_pure (hQ _ hit' (Heap.SameBut.update ..))⟩)
theorem nextOf_keys_end {it d : Addr} {i ep : Nat} {es : Array DictEntry} {Q : Value → Shared → Prop} (hh : A.handled = none) (hit : s.heap.IsKeyIter it d i es.size ep)
    (hm : s.heap.DictRaw d es ep) (hge : es.size ≤ i)
    (hE : ∀ h' e, Heap.ExtBut it s.heap h' → (∃ o, h'.get? e = some o ∧ o.cls = .type "StopIteration") → E (.ref e) { s with heap := h' }) :
    wpAny (model prog w) A (Builtin.SmallTypes.nextOf (.ref it)) Q E s := by
  obtain ⟨o, ho, hc, hd⟩ := id hit
  obtain ⟨od, hod, hcd, hdd⟩ := id hm
  unfold Builtin.SmallTypes.nextOf
  refine wpAny_bind (wpAny_callSpecial?_slot (name := Str.ofString "__next__") hit.typeIs F.slot_dict_keyiterator_next
    (wpAny_call_entry F.slot_dict_keyiterator_next hit.typeIs F.entry_dict_keyiterator_next ?_ (F.args_dict_keyiterator_next_1 _)))
  refine wpAny_bind (wpAny_pure ?_)
  refine wpAny_bind ?_
  refine wpAny_bind ?_
  first | refine wpAny_bind (wpAny_typeNameOfWhole_keyiter hit.typeIs (wpAny_pure ?_)) | refine wpAny_bind (wpAny_typeNameOf_keyiter hit.typeIs (wpAny_pure ?_))
  refine wpAny_bind (wpAny_fieldsOf ho hd ?_)
  have hown : Builtin.Dict_items.ownsTuple "dict_keyiterator" = false := by decide
  simp only [hown, Bool.false_eq_true, if_false]
  show wpAny _ _ (if (Value.ref d == Value.none) = true then _ else _) _ _ s
  rw [if_neg (show ¬ ((Value.ref d == Value.none) = true) from Bool.false_ne_true)]
  refine wpAny_bind (wpAny_pure ?_)
  refine wpAny_bind (wpAny_dictEntries hod hdd ?_)
  rw [if_neg (by simp)]
  refine wpAny_bind (wpAny_pure ?_)
  refine wpAny_bind (wpAny_dictEpoch hod hdd ?_)
  rw [if_neg (by simp)]
  refine wpAny_pure ?_
  simp only [show ¬ ((i : Int) < 0) from by omega, if_false, Int.toNat_natCast, Array.getElem?_eq_none hge]
  refine wpAny_bind ?_
  first | refine wpAny_bind (wpAny_typeNameOfWhole_keyiter hit.typeIs (wpAny_pure ?_)) | refine wpAny_bind (wpAny_typeNameOf_keyiter hit.typeIs (wpAny_pure ?_))
  show wpAny _ _ (setField (.ref it) 0 .none >>= _) _ _ s
  refine wpAny_bind (wpAny_setField ho hd (by simp) ?_)
  show wpAny _ _ (newExc (.type "StopIteration") [] >>= _) _ _ _
  refine wpAny_bind ?_
  simp only [newExc, newTuple]
  refine wpAny_bind (wpAny_newObj_type ?_ (by size_fits))
  refine wpAny_bind (m := firstArgMember _ _) (wpAny_of_eq (a := Value.none) (by first | rfl | (simp only [firstArgMember]; rfl)) ?_)
  refine wpAny_newObj_type ?_ (by size_fits)
  simp only [raiseNew]
  refine wpAny_bind (wpAny_handled ?_)
  rw [show A.in1.handled = none from hh]
  refine wpAny_bind (wpAny_pure (wpAny_throw ?_))
  exact hE _ _ (((Heap.SameBut.update ..).extBut.push _).push _) ⟨_, Heap.get?_push_size _ rfl, rfl⟩
end
theorem Draws.keys {prog : Program} {w : World} {A : Around} (hh : A.handled = none) (it d : Addr) (hne : d ≠ it) (es : Array DictEntry) (ep : Nat) :
    Draws prog w A it [it, d] es.size (fun i v => ∃ h : i < es.size, v = es[i].key) (fun i h => h.IsKeyIter it d i es.size ep ∧ h.DictRaw d es ep) where
  live := fun _ _ st => let ⟨o, ho, _⟩ := st.1; ⟨o, ho⟩
  frame := fun _ _ _ st hk => ⟨st.1.at fun o e => hk it (by simp) o e, st.2.at fun o e => hk d (by simp) o e⟩
  item := fun i s Q E hi st hQ => by
    refine nextOf_keys_item st.1 st.2 hi fun h' hit' hs' => ?_
    exact hQ _ h' s.toks ⟨hi, rfl⟩ ⟨hit', st.2.at fun o e => hs'.extBut d o hne e⟩ hs'
  done := fun s Q E st hE => nextOf_keys_end hh st.1 st.2 (Nat.le_refl _) hE
set_option maxHeartbeats 1000000 in
theorem meets_enumerate_new1 {v : Value} {o : Obj} {H : Heap → Prop} (B : Begins v o H) :
    Meets (Builtin.«enumerate.__new__» ⟨[.type "enumerate", v], []⟩) (fun _ R s => H s.heap ∧
      R (.ok (.ret (.ref (s.heap.push o).objs.size))) { s with heap := (s.heap.push o).push { cls := .type "enumerate", data := .fields #[.none, .bool false, .ref s.heap.objs.size, rawInt 0, .none, .none] } }) :=
  .of_wp fun prog w A R s h => by
    obtain ⟨hp, g, d, tk, os⟩ := s; obtain ⟨h1, h⟩ := h
    have hsub := sub_enumerate
    have q1 : ∀ {A' : Around} {E : Value → Shared → Prop} {Q : Value → Shared → Prop}, Q (.ref hp.objs.size) ⟨hp.push o, g, d, tk, os⟩ → wpAny (model prog w) A' (pyIter v) Q E ⟨hp, g, d, tk, os⟩ :=
      fun q => B.iter prog w _ _ ⟨hp, g, d, tk, os⟩ _ h1 q
    wp_walk using q1
    refine wpAny_stack_any fun st => wpAny_pure ?_
    split
    · rename_i c _ _ _ _ _
      cases (c == Value.type "enumerate")
      · wp_walk using q1
        exact ⟨_, rfl, h⟩
      · wp_walk using q1
        exact ⟨_, rfl, h⟩
    · wp_walk using q1
      exact ⟨_, rfl, h⟩
section
variable {prog : Program} {w : World} {A : Around} {E : Value → Shared → Prop} {s : Shared}
theorem enum_begins1 {v : Value} {o : Obj} {H : Heap → Prop} {Q : Value → Shared → Prop} (B : Begins v o H) (h1 : H s.heap)
    (h : ∀ h', IsEnum h' (s.heap.objs.size + 1) s.heap.objs.size 0 .none → h'.get? s.heap.objs.size = some o → h'.objs.size = s.heap.objs.size + 2 →
      (∀ b o, s.heap.get? b = some o → h'.get? b = some o) → Q (.ref (s.heap.objs.size + 1)) { s with heap := h' }) :
    wpAny (model prog w) A (call (.type "enumerate") [v]) Q E s := by
  refine callType_new F.called_enumerate (by decide) (F.typeCall_enumerate_1 _) (F.newCall_enumerate_1 _) (fun obj => F.args_object_init_2 obj _) F.entry_enumerate_new
    (meets_enumerate_new1 B) ⟨h1, ?_⟩
  have hz : (s.heap.push o).objs.size = s.heap.objs.size + 1 := Heap.size_push ..
  show _ ∧ _
  rw [hz]
  have he : IsEnum ((s.heap.push o).push { cls := .type "enumerate", data := .fields #[.none, .bool false, .ref s.heap.objs.size, rawInt 0, .none, .none] }) (s.heap.objs.size + 1) s.heap.objs.size 0 .none := by
    have := Heap.get?_push_size (s.heap.push o) (o := { cls := .type "enumerate", data := .fields #[.none, .bool false, .ref s.heap.objs.size, rawInt 0, .none, .none] }) rfl
    rw [hz] at this; exact this
  refine ⟨⟨_, he, rfl⟩, h _ he (Heap.get?_push_of_some _ (Heap.get?_push_size _ B.free)) (by rw [Heap.size_push, hz]) fun b o x => Heap.get?_push_of_some _ (Heap.get?_push_of_some _ x)⟩
end
theorem begins_dict (d : Addr) (es : Array DictEntry) (ep : Nat) (hd : (d == sysModules) = false) :
    Begins (.ref d) { cls := .type "dict_keyiterator", data := .fields #[.ref d, .int 0 0, .int es.size 0, .int ep 0] } fun h => h.DictRaw d es ep where
  iter := fun prog w A E s Q hl h => wpAny_pyIter_dict_raw hd hl h
  keeps := fun h h' x hk => x.at fun o e => hk d o e
  free := rfl
theorem enum_end_keys {prog : Program} {w : World} {A : Around} {E : Value → Shared → Prop} {s : Shared} {e it d : Addr} {j ep : Nat} {es : Array DictEntry} {i : Int} {old : Value} {Q : Option Value → Shared → Prop} (hh : A.handled = none)
    (he : IsEnum s.heap e it i old) (hit : s.heap.IsKeyIter it d j es.size ep) (hm : s.heap.DictRaw d es ep) (hge : es.size ≤ j)
    (hQ : ∀ h', Heap.ExtBut it s.heap h' → Q none { s with heap := h' }) : wpAny (model prog w) A (pyNext (.ref e)) Q E s := by
  have hT : s.TypeIs (.ref e) "enumerate" := ⟨_, he, rfl⟩
  unfold pyNext
  refine wpAny_bind (wpAny_attempt (wpAny_callSpecial?_slot (name := Str.ofString "__next__") hT F.slot_enumerate_next
    (wpAny_call_entry F.slot_enumerate_next hT F.entry_enumerate_next ?_ (F.args_enumerate_next_1 _))))
  show wpAny _ _ (field (.ref e) 2 >>= _) _ _ _
  refine wpAny_bind (wpAny_field he rfl (x := .ref it) rfl ?_)
  refine wpAny_bind (nextOf_keys_end (show A.in1.handled = none from hh) hit hm hge fun h' x he' hx' => ?_)
  obtain ⟨o, ho, hc⟩ := hx'
  refine wpAny_bind (wpAny_isInstance (T := "StopIteration") (b := true) ⟨o, ho, hc⟩ isSubtype_stop ?_)
  exact wpAny_pure (hQ _ he')
/-- enumerate of a locked dict: its keys, each in a new pair -/
def ItkE (d : Addr) (o : Obj) (kvs : List (Key × V)) : It :=
  ⟨fun i H => H d = some (.frz o (.dK kvs)) ∧ i < kvs.length, fun i H x H' => ∃ (T : Addr) (k : Key) (v : V), kvs[i]? = some (k, v) ∧ x = .ref T ∧ H T = none ∧ H' = upd H T (.tup [.int (i : Nat), kV k]), fun i H => H d = some (.frz o (.dK kvs)) ∧ kvs.length ≤ i⟩
theorem turn_enumD {P : Program} {w : World} {K : PySem.W.Frag} {elts : List Expr} {kk : Nat} {tpos : Pos} {d : Addr} {o : Obj} {es : Array DictEntry} {ep : Nat} {kvs : List (Key × V)} (e it : Addr) (hod : o.data = .dict es ep) (hdi : d ≠ it) (hde : d ≠ e) :
    Turn P w K (.Tuple elts kk tpos) (ItkE d o kvs) [e, it] e (fun i h => (∃ old, IsEnum h e it ((i : Nat) : Int) old) ∧ h.IsKeyIter it d i kvs.length ep ∧ e ≠ it) where
  mem := by simp
  obj := fun i h st b hb => by
    obtain ⟨⟨old, he⟩, ⟨o, ho, hc, hd⟩, _⟩ := st
    have e' : b = e ∨ b = it := by simpa using hb
    rcases e' with z | z
    · rw [z]; exact ⟨_, he, fun v q => nomatch q⟩
    · rw [z]; exact ⟨o, ho, fun v q => by rw [hd] at q; cases q⟩
  keep := fun i h h' st k => let ⟨⟨old, he⟩, hi, hne⟩ := st; ⟨⟨old, k e (by simp) _ he⟩, hi.at fun o q => k it (by simp) o q, hne⟩
  item := by
    intro X hP hw hK hc i pins s σ H E I hf st hg
    subst hP hw hK
    obtain ⟨⟨old, he⟩, hit, hne⟩ := st
    obtain ⟨hd, hi⟩ := hg
    obtain ⟨hs, hgd, hx, es', ep', vs, hdt, hsz, kv, hm⟩ := I.frzK hd
    obtain ⟨rfl, rfl⟩ := dict_ep hod hdt
    obtain ⟨⟨k, v⟩, hkv⟩ : ∃ p, kvs[i]? = some p := ⟨kvs[i], List.getElem?_eq_getElem hi⟩
    have hel : e < s.heap.objs.size := Heap.lt_size he
    have hil : it < s.heap.objs.size := by obtain ⟨_, q, _⟩ := hit; exact Heap.lt_size q
    rw [← hsz] at hit
    have hie : i < es'.size := by rw [hsz]; exact hi
    -- the key's own value
    obtain ⟨u, hu, ru⟩ := kv_get kv hkv
    have hkey : keyIs k (es'[i]).key = true := by
      obtain ⟨o', es2, h1, h2, h3, h4, h5, _⟩ := hm
      rw [hgd] at h1; cases h1
      rw [hdt] at h3; cases h3
      have q := h5.get? (e := es'[i]) (by simp [hie]) hu
      exact q.1
    refine wpAny_pyNext_enum_itemD (Draws.keys (A := X.A.in1) (I.ok.hd hc) it d hdi es' ep') he ⟨hit, ⟨o, hgd, hx, hdt⟩⟩ hie hne (by simp [hne, Ne.symm hde]) fun x h' tk hP ho hst hT hsz' hk => ?_
    obtain ⟨_, rfl⟩ := hP
    refine ⟨_, rfl, wpAny_letOwnedTupleGo_enum (s := { s with heap := h', toks := tk + 1 }) ho fun h'' he' sb => ?_⟩
    have hT2 : h''.get? s.heap.objs.size = some { cls := .type "tuple", data := .seq #[.int i tk, es'[i].key] } := (sb.2 _ (Nat.ne_of_gt hel)).trans hT
    have new : ObjOk X.prog X.w (upd H s.heap.objs.size (.tup [.int (i : Nat), kV k])) h'' s.heap.objs.size (.tup [.int (i : Nat), kV k]) :=
      ⟨by show 2 ≤ sizeLine; decide, [.int i tk, es'[i].key], .cons ⟨_, rfl⟩ (.cons (relV_key hkey) .nil), ⟨_, hT2, rfl, _, rfl⟩⟩
    have I1 : Inv X pins σ (upd H s.heap.objs.size (.tup [.int (i : Nat), kV k])) { s with heap := h'', toks := tk + 1 } :=
      I.turnedNew (ch := [e, it]) (fun b ob hb q => (sb.2 b (fun z => hb (by simp [z]))).trans (hk b ob (fun z => hb (by simp [z])) (fun z => hb (by simp [z])) q)) hf (Nat.le_refl _) new
    refine ⟨.ref s.heap.objs.size, _, I1, rfl, ⟨_, k, v, hkv, rfl, I.hok.fresh (Nat.le_refl _), rfl⟩, ⟨⟨es'[i].key, ?_⟩, ?_, hne⟩, fun b hb => ?_⟩
    · have e1 : ((i + 1 : Nat) : Int) = (i : Int) + 1 := by omega
      rw [e1]; exact he'
    · rw [← hsz]; exact hst.1.at fun o q => (sb.2 it (Ne.symm hne)).trans q
    · have hb' : b < s.heap.objs.size := by
        have e' : b = e ∨ b = it := by simpa using hb
        rcases e' with z | z
        · rw [z]; exact hel
        · rw [z]; exact hil
      rw [upd_ne (Nat.ne_of_lt hb')]
      exact (hf b hb).1
  done := by
    intro X hP hw hK hc i pins s σ H E I hf st hg
    subst hP hw hK
    obtain ⟨⟨old, he⟩, hit, hne⟩ := st
    obtain ⟨hd, hi⟩ := hg
    obtain ⟨hs, hgd, hx, es', ep', vs, hdt, hsz, kv, hm⟩ := I.frzK hd
    obtain ⟨rfl, rfl⟩ := dict_ep hod hdt
    obtain ⟨f0, f1, f2, f3, f4, f5⟩ := hf it (by simp)
    rw [← hsz] at hit
    refine enum_end_keys (I.ok.hd hc) he hit ⟨o, hgd, hx, hdt⟩ (by omega) fun h' eb => ⟨rfl, I.turned (t' := s.toks) (fun b ob hb q => eb b ob hb q) f0 f1 f3 f4 f5⟩
  self := fun A i s Q E st h => let ⟨⟨_, he⟩, _⟩ := st; wpAny_pyIter_enum he h
def iEnumD (ta : TA) : TI := fun σ H R => ta σ H fun vs H1 => ∃ d o kvs, vs = [.ref d] ∧ H1 d = some (.frz o (.dK kvs)) ∧ R (ItkE d o kvs) H1
theorem pi_enumD {X : Cx} {e : Expr} {ta : TA} {p pos tpos : Pos} {elts : List Expr} {kk : Nat} (hg : Gl X "enumerate") (hm : X.mg "enumerate" = none) (ha : PA X [e] ta) (hs : starEach [e] X.env = [(false, eval e X.env)] := by rfl) :
    PI X (.Tuple elts kk tpos) (.Call (.Name "enumerate" p) [e] [] pos) (iEnumD ta) := by
  refine ⟨fun pins s σ H R I h => ?_⟩
  refine Call_ (ld_blt I hg hm boot_enumerate (PyProof.Rows.callWith_type1 (thn (ha.run pos pins s σ H _ I h) fun us s1 ⟨vs, H1, I1, r1, q1⟩ => ?_) hs rfl))
  obtain ⟨d, o, kvs, ex, hd, q⟩ := q1
  subst ex
  cases r1 with
  | cons r rr =>
    cases rr
    cases r
    obtain ⟨hsm, hgd, hx, es, ep, vs, hdt, hsz, kv, hmm⟩ := I1.frzK hd
    have raw : s1.heap.DictRaw d es ep := ⟨o, hgd, hx, hdt⟩
    have hdl : d < s1.heap.objs.size := Heap.lt_size hgd
    refine enum_begins1 (begins_dict d es ep hsm) raw fun h' he hit hz hk => wpAny_pyIter_enum he ?_
    have I2 : Inv X pins σ H1 { s1 with heap := h' } := I1.kept (t' := s1.toks) hk
    refine ⟨s1.heap.objs.size + 1, [s1.heap.objs.size + 1, s1.heap.objs.size], _, _, H1, rfl, I2, turn_enumD (s1.heap.objs.size + 1) s1.heap.objs.size hdt (Nat.ne_of_lt hdl) (Nat.ne_of_lt (Nat.lt_succ_of_lt hdl)), ⟨⟨.none, he⟩, ⟨_, hit, rfl, ?_⟩, Nat.succ_ne_self _⟩, fun b hb => ?_, q⟩
    · rw [hsz] <;> rfl
    · have e' : b = s1.heap.objs.size + 1 ∨ b = s1.heap.objs.size := by simpa using hb
      have hle : s1.heap.objs.size ≤ b := by
        rcases e' with z | z
        · rw [z]; exact Nat.le_add_right _ _
        · rw [z]; exact Nat.le_refl _
      exact I1.fpOk hle (I1.hok.fresh hle)
end DL
set_option Elab.async false
set_option linter.all false
set_option maxRecDepth 100000
set_option maxHeartbeats 4000000
/-! DLX3: exceptions: the base class's __init__ by its name, isinstance of a caught one that has a dict. -/
namespace DL
open PySem PySem.Spec PyProof.Rows L2
section
variable {X : Cx} {o e : Expr} {es : List Expr} {to te : TE} {ta : TA} {p1 p2 pos : Pos}
/-- what an own exception class without own __init__ must say, so that C.__init__(self, ..) is ValueError's -/
def cinB (K : PySem.W.Frag) (C : Addr) : Bool :=
  PySem.W.readsIn K C (.type "type") && (decide (PySem.W.specialIn K (.ref C) "__getattribute__" = some (some (.builtin "type.__getattribute__"))) &&
  (match PySem.W.findCls K (.ref C) (.type "type") "__init__" with
  | some (.val (.builtin "ValueError.__init__")) => true
  | _ => false))
theorem pe_cinit {x : Str} {C0 : Addr} {pl : Sem Bool} (hg : Gl X x) (hm : X.mg x = some (.ref C0)) (hB : cinB X.K C0 = true) (ha : PA X (e :: es) ta)
    (hdb : (x == ("__debug__" : Str)) = false := by decide)
    (hc : eval (.Call (.Attribute (.Name x p1) "__init__" p2) (e :: es) [] pos) X.env = (do
      let ov ← eval (.Name x p1) X.env
      standAt p2.atName
      let (f, first) ← holding [ov] (getMethod ov "__init__" pl)
      callWith pos f first (backTo pos (starEach (e :: es) X.env)) (backToKw pos (keywordEach [] X.env))) := by rfl)
    (he : starEach (e :: es) X.env = (false, eval e X.env) :: starEach es X.env := by rfl) (hpl : (backTo pos (starEach es X.env)).any (·.1) = false := by rfl) :
    PE X (.Call (.Attribute (.Name x p1) "__init__" p2) (e :: es) [] pos) (tVeI X.K ta) := by
  refine ⟨fun pins s σ H Q I h => ?_⟩
  unfold cinB at hB
  obtain ⟨h1, hB⟩ := Bool.and_eq_true_iff.mp hB
  obtain ⟨h2, h3⟩ := Bool.and_eq_true_iff.mp hB
  have h2 := of_decide_eq_true h2
  have h3 : PySem.W.findCls X.K (.ref C0) (.type "type") "__init__" = some (.val (.builtin "ValueError.__init__")) := by
    split at h3
    · assumption
    · cases h3
  refine PySem.W.methodCall_KW (ld_glob I hg hm ?_ hdb) hc
  refine PySem.W.method_cls I.kIn h2 (PySem.W.cls_value I.kIn h1 h3 (by decide +kernel) ?_)
  show wpAny _ _ (callWith pos (Value.builtin "ValueError.__init__") [] (backTo pos (starEach (e :: es) X.env)) []) _ _ _
  refine PyProof.Rows.callWith_method1 (thn (ha.run pos pins _ σ H _ (I.tok _) h) fun us s1 ⟨vs, H1, I1, r1, a, C, ws, ev, hl, T, ea, q⟩ => ?_) he hpl
  subst ev
  cases r1 with
  | @cons _ u0 _ ur ra rw' =>
    obtain rfl : u0 = Value.ref a := ra
    have hlen : ur.length ≤ sizeLine := by
      rw [← Paired.length rw', sizeLine_eq]
      omega
    exact oinit_ok T I1 ea hlen fun s' J => ⟨.non, H1, J, rfl, q⟩
/-- isinstance(e, c), isinstance(e, (c1, c2)), e the exception that the suite holds, with its dict -/
def isxB (K : PySem.W.Frag) (D : Addr) : Bool := xfB K D && ((PySem.W.clsIn K D).isSome && (decide (PySem.W.findIn K (.ref D) "__class__" = some (some (.builtin "object.__class__"))) &&
  (decide (PySem.W.specialIn K (.builtin "object.__class__") "__get__" = some (some (.builtin "getset_descriptor.__get__"))) && (decide (PySem.W.takesIn K (.builtin "object.__class__") = some true) &&
  decide (PySem.W.mroIn K D (.type "object") = some true)))))
def rIsX (K : PySem.W.Frag) (a : Addr) (cls : Value) (d : Option Addr) : List V → Hp → VK → Prop := fun xs H Q => ∃ (D dd : Addr) (fs : List (Str × V)) (c : V) (b : Bool), xs = [.ref a, c] ∧ cls = .ref D ∧ d = some dd ∧ H dd = some (.xd fs) ∧
  ((∃ cv, ClsV c cv ∧ PySem.W.kitOne K (.ref D) cv = some b) ∨ ∃ tp cs us, c = .ref tp ∧ H tp = some (.tup cs) ∧ Paired ClsV cs us ∧ PySem.W.kitAny K (.ref D) us = some b) ∧ isxB K D = true ∧ Q (.bl b) H
theorem call_isX {a : Addr} {oe : Obj} {cls : Value} {d : Option Addr} {pn : List (Addr × Obj)} (hz : Zc cls d oe) (hf : ∃ vs, oe.data = .fields vs) : CallR (X.suite a ((a, oe) :: pn)) (.builtin "isinstance") (rIsX X.K a cls d) := by
  intro pins s σ H xs us Q I r h
  obtain ⟨D, dd, fs, c, b, rfl, rfl, rfl, ea, hcs, hB, q⟩ := h
  obtain ⟨u1, u2, rfl, r1, r2⟩ := vals2 r
  cases (show u1 = Value.ref a from r1)
  unfold isxB at hB
  obtain ⟨hX, hB⟩ := Bool.and_eq_true_iff.mp hB
  obtain ⟨h1, hB⟩ := Bool.and_eq_true_iff.mp hB
  obtain ⟨h2, hB⟩ := Bool.and_eq_true_iff.mp hB
  obtain ⟨h3, hB⟩ := Bool.and_eq_true_iff.mp hB
  obtain ⟨h4, h5⟩ := Bool.and_eq_true_iff.mp hB
  have h2 := of_decide_eq_true h2
  have h3 := of_decide_eq_true h3
  have h4 := of_decide_eq_true h4
  have h5 := of_decide_eq_true h5
  have T := xfB_ok hX
  obtain ⟨ha, _⟩ := I.pin (a, oe) (List.mem_append_left _ List.mem_cons_self)
  obtain ⟨vs, hd⟩ := hf
  obtain ⟨mA, hns, hr⟩ := (show ObjOk X.prog X.w H s.heap dd (.xd fs) from I.hok dd _ ea)
  obtain ⟨od, ho, hl⟩ := lookIn_ns hns
  have J : PySem.W.InstAt s.heap a oe D (some od) := ⟨ha, hz.1, by unfold PySem.W.notCls; rw [hd] <;> rfl, by rw [hz.2]; exact ho⟩
  have Z : PySem.W.KitX X.K (.ref a) (.ref D) (fun h => PySem.W.InstAt h a oe D (some od)) := PySem.W.kitx_exc h1 T.ga T.gg T.exC h2 h3 h4 h5
  rcases hcs with ⟨cv, k, e⟩ | ⟨tp, cs, ws, rfl, hT, k, e⟩
  · have e2 := k.eq r2
    subst e2
    exact PySem.W.kia_one Z I.kIn J e (fun z => nomatch z) fun tk => ⟨.bl b, H, I.tok tk, rfl, q⟩
  · cases (show u2 = Value.ref tp from r2)
    obtain ⟨_, its, rv, o, g1, g2, n, g3⟩ := (show ObjOk X.prog X.w H s.heap tp (.tup cs) from I.hok tp _ hT)
    have e3 := ClsV.all k rv
    subst e3
    obtain ⟨oc, od', dt, sl⟩ := o
    simp only at g2 g3
    subst g2 g3
    exact PySem.W.kia_tup Z I.kIn J g1 e (fun z => nomatch z) fun tk => ⟨.bl b, H, I.tok tk, rfl, q⟩
end
/-- what an own exception class with an own __init__ and the field found must say -/
def oexB (K : PySem.W.Frag) (C : Addr) : Bool := match K.lookup C with
  | some ⟨.type "type", _, .cls cd, sl⟩ => (match cd.mro, sl.toList with
    | .ref C' :: bm, [_, _, _, _, some (.builtin n), _] => C' == C && (n == "ValueError.__new__" && (!cd.hasDel && (cd.hasDict && PySem.HandSPX.refsVE bm)))
    | _, _ => false)
  | _ => false
theorem oexB_ok {K : PySem.W.Frag} {C : Addr} (q : oexB K C = true) : ∃ nm q N bs bm sn sub ab col dd k0 k1 k2 k3 k5, K.lookup C = some (excClassObj nm q C N bs bm true sn sub ab col dd k0 k1 k2 k3 k5 "ValueError.__new__") ∧ PySem.HandSPX.refsVE bm = true := by
  unfold oexB at q
  split at q
  · rename_i dd cd sl ho
    split at q
    · rename_i C' bm k0 k1 k2 k3 n k5 hm hs
      simp only [Bool.and_eq_true, beq_iff_eq, Bool.not_eq_true'] at q
      obtain ⟨rfl, rfl, hdel, hdict, ht⟩ := q
      obtain ⟨nm, bs, mro, ns, qn, hd, sn, sub, ab, col, del⟩ := cd
      dsimp only at hm hdel hdict
      subst hm hdel hdict
      have hsl : sl = #[k0, k1, k2, k3, some (.builtin "ValueError.__new__"), k5] := by
        obtain ⟨l⟩ := sl
        simp only at hs
        rw [hs]
      subst hsl
      exact ⟨nm, qn, ns, bs, bm, sn, sub, ab, col, dd, k0, k1, k2, k3, k5, ho, ht⟩
    · cases q
  · cases q
def exB (K : PySem.W.Frag) (C fI : Addr) : Bool := oexB K C && (decide (PySem.W.findIn K (.ref C) "__setattr__" = some (some (.builtin "object.__setattr__"))) && (decide (PySem.W.subIn K (.ref C) (.type "BaseException") = some true) &&
  (decide (PySem.W.typeIn K (.ref C) = some (.type "type")) && (PySem.W.keepIn K (.ref C) && (decide (PySem.W.findIn K (.ref C) "__init__" = some (some (.ref fI))) && (decide (PySem.W.typeIn K (.ref fI) = some (.type "function")) &&
  (decide (PySem.W.findIn K (.ref C) "found" = some none) && isxB K C)))))))
structure ExOk (K : PySem.W.Frag) (C fI : Addr) : Prop where
  o : OexC K C
  i : PySem.W.findIn K (.ref C) "__init__" = some (some (.ref fI))
  t : PySem.W.typeIn K (.ref fI) = some (.type "function")
  n : PySem.W.findIn K (.ref C) "found" = some none
  x : XfC K C
  is : isxB K C = true
theorem exB_ok {K : PySem.W.Frag} {C fI : Addr} (h : exB K C fI = true) : ExOk K C fI := by
  unfold exB at h
  obtain ⟨h1, h⟩ := Bool.and_eq_true_iff.mp h
  obtain ⟨h2, h⟩ := Bool.and_eq_true_iff.mp h
  obtain ⟨h3, h⟩ := Bool.and_eq_true_iff.mp h
  obtain ⟨h4, h⟩ := Bool.and_eq_true_iff.mp h
  obtain ⟨h5, h⟩ := Bool.and_eq_true_iff.mp h
  obtain ⟨h6, h⟩ := Bool.and_eq_true_iff.mp h
  obtain ⟨h7, h⟩ := Bool.and_eq_true_iff.mp h
  obtain ⟨h8, h9⟩ := Bool.and_eq_true_iff.mp h
  exact ⟨⟨oexB_ok h1, of_decide_eq_true h2, of_decide_eq_true h3, of_decide_eq_true h4, h5⟩, of_decide_eq_true h6, of_decide_eq_true h7, of_decide_eq_true h8, xfB_ok (Bool.and_eq_true_iff.mp h9).1, h9⟩
/-- try: .. except C as n: .. -/
def tTry (K : PySem.W.Frag) (C : Addr) (i : Nat) (tb : WX → TS) (ts : Addr → Value → Option Addr → TS) : TS := fun D σ H => tb (wAs K (.ref C) i ts (fun _ _ _ _ => False) D) D σ H
end DL
set_option Elab.async false
set_option linter.all false
set_option maxRecDepth 100000
set_option maxHeartbeats 4000000
/-! DLX4: in, ==, != of what is no flat thing. -/
namespace DL
open PySem PySem.Spec PyProof.Rows L2
section
variable {X : Cx}
/-- x in texts, x flat or a list -/
def rInX (K : PySem.W.Frag) (neg : Bool) : R2 := fun x y H Q => rIn K neg x y H Q ∨ ∃ (p a : Addr) (ss : List Str) (zs : List V), y = .ref p ∧ (SqL K H p (ss.map V.str) ∨ SqT K H p (ss.map V.str)) ∧ x = .ref a ∧ SqL K H a zs ∧ Q (.bl neg) H
theorem strs_at {A : Around} {s : Shared} {a : Addr} {items : Array Value} (hl : s.heap.IsList a items) (hu : A.units < cLine) : ∀ {ss : List Str} {us : List Value}, Vals (ss.map V.str) us → ∀ u ∈ us, SeqAt.EqAt A s u (.ref a) false
  | [], _, .nil => fun u hu => by cases hu
  | x :: ss, u :: us, .cons r t => fun u' hm => by
    rcases List.mem_cons.mp hm with rfl | hm
    · obtain ⟨t', rfl⟩ := (show ∃ t, u' = Value.str x t from r)
      exact SeqAt.EqAt.str_list x t' hl hu
    · exact strs_at hl hu t u' hm
theorem any_false (us : List Value) : (us.toArray.any fun _ => false) = false := by simp
theorem op_inX (hu : X.A.units + 1 < cLine) : OpR X (compareOp .In) (rInX X.K false) := by
  intro pins s σ H x y v u Q I rx ry h
  rcases h with h | ⟨p, a, ss, zs, rfl, hp, rfl, ha, q⟩
  · exact op_in_seq pins s σ H x y v u Q I rx ry h
  · cases ry; cases rx
    obtain ⟨ws, _, pa, _⟩ := I.list ha
    rcases hp with hp | hp
    · obtain ⟨its, r, pl, _⟩ := I.list hp
      refine SeqAt.in_listAt (fun _ => false) pl.isList (fun w hw => strs_at pa.isList (A := X.A.in1) hu r w (by simpa using hw)) ⟨.bl false, H, I, ?_, q⟩
      rw [any_false]; rfl
    · obtain ⟨its, r, pl, _⟩ := I.tuple hp
      refine SeqAt.in_tupleAt (fun _ => false) pl (fun w hw => strs_at pa.isList (A := X.A.in1) hu r w (by simpa using hw)) ⟨.bl false, H, I, ?_, q⟩
      rw [any_false]; rfl
theorem op_notInX (hu : X.A.units + 1 < cLine) : OpR X (compareOp .NotIn) (rInX X.K true) := by
  intro pins s σ H x y v u Q I rx ry h
  rcases h with h | ⟨p, a, ss, zs, rfl, hp, rfl, ha, q⟩
  · exact op_notIn_seq pins s σ H x y v u Q I rx ry h
  · cases ry; cases rx
    obtain ⟨ws, _, pa, _⟩ := I.list ha
    rcases hp with hp | hp
    · obtain ⟨its, r, pl, _⟩ := I.list hp
      refine SeqAt.notIn_listAt (fun _ => false) pl.isList (fun w hw => strs_at pa.isList (A := X.A.in1) hu r w (by simpa using hw)) ⟨.bl true, H, I, ?_, q⟩
      rw [any_false]; rfl
    · obtain ⟨its, r, pl, _⟩ := I.tuple hp
      refine SeqAt.notIn_tupleAt (fun _ => false) pl (fun w hw => strs_at pa.isList (A := X.A.in1) hu r w (by simpa using hw)) ⟨.bl true, H, I, ?_, q⟩
      rw [any_false]; rfl
/-- x == a text, x flat or a list -/
def rEqX (K : PySem.W.Frag) : R2 := fun x y H Q => rEq x y H Q ∨ ∃ (a : Addr) (s : Str) (zs : List V), x = .ref a ∧ y = .str s ∧ SqL K H a zs ∧ Q (.bl false) H
theorem op_eqX (hu : X.A.units + 1 < cLine) : OpR X (compareOp .Eq) (rEqX X.K) := by
  intro pins s σ H x y v u Q I rx ry h
  rcases h with h | ⟨a, z, zs, rfl, rfl, ha, q⟩
  · exact op_eq pins s σ H x y v u Q I rx ry h
  · cases rx
    obtain ⟨t, rfl⟩ := (show ∃ t, u = Value.str z t from ry)
    obtain ⟨ws, _, pa, _⟩ := I.list ha
    exact SeqAt.RcAt.list_str z t pa.isList (A := X.A) (by omega) _ _ _ _ ⟨.bl false, H, I, rfl, q⟩
/-- (s, v) != (s, v), the same v -/
def rNeTag (K : PySem.W.Frag) : R2 := fun x y H Q => ∃ (a b : Addr) (s : Str) (v : V), x = .ref a ∧ y = .ref b ∧ SqT K H a [.str s, v] ∧ SqT K H b [.str s, v] ∧ ((∃ c, v = .ref c) ∨ flatV v = true) ∧ Q (.bl false) H
theorem eqV_self {v : V} (h : flatV v = true) : eqV v v = true := by
  cases v <;> simp_all [eqV, flatV]
theorem op_neTag (hu : X.A.units + 1 < cLine) : OpR X (compareOp .NotEq) (rNeTag X.K) := by
  intro pins s σ H x y v u Q I rx ry h
  obtain ⟨a, b, z, w, rfl, rfl, ha, hb, hw, q⟩ := h
  cases rx; cases ry
  obtain ⟨us, r1, p1, _⟩ := I.tuple ha
  obtain ⟨ws, r2, p2, _⟩ := I.tuple hb
  obtain ⟨u1, u2, rfl, a1, a2⟩ := vals2 r1
  obtain ⟨w1, w2, rfl, b1, b2⟩ := vals2 r2
  obtain ⟨t1, rfl⟩ := (show ∃ t, u1 = Value.str z t from a1)
  obtain ⟨t2, rfl⟩ := (show ∃ t, w1 = Value.str z t from b1)
  have e2 : SeqAt.EqAt X.A.in1 s u2 w2 true := by
    rcases hw with ⟨c, rfl⟩ | hf
    · cases (show u2 = Value.ref c from a2)
      cases (show w2 = Value.ref c from b2)
      exact SeqAt.EqAt.same _
    · rw [← eqV_self hf]; exact eqAt_V a2 b2 hf hf
  refine SeqAt.RcNeAt.tuples (e := fun _ => true) p1 p2 (A := X.A) (by omega) (fun j h1 h2 => ?_) _ _ _ _ ?_
  · have h1' : j < 2 := by simpa using h1
    match j, h1' with
    | 0, _ => simpa using SeqAt.EqAt.str_str z t1 z t2
    | 1, _ => exact e2
  · exact ⟨.bl false, H, I, (by rfl : Value.bool _ = Value.bool false), q⟩
end
end DL
set_option Elab.async false
set_option linter.all false
set_option maxRecDepth 100000
set_option maxHeartbeats 4000000
/-! DLX5: dicts with a key of another kind (None, a tuple beside texts). -/
namespace DL
open PySem PySem.Spec PyProof.Rows L2
section
variable {prog : Program} {w : World} {A : Around} {E : Value → Shared → Prop} {s : Shared}
theorem quiet_val {v : Value} (h : carriedByValue v = true) (n : Nat) {Q : Bool → Shared → Prop} (q : Q true s) : wpAny (model prog w) A (eqIsQuiet n v) Q E s := by
  rw [eqIsQuiet_byValue n h]; exact wpAny_pure q
/-- a tuple is looked for among ints and texts -/
theorem dictFind_tup {d t : Addr} {o : Obj} {es : Array DictEntry} {ep : Nat} {ks : List Key} {h : Int} {Q : Option Nat → Shared → Prop} (hu : A.units < cLine) (hkey : (tupleKind (mixKind prog w)).is s.heap ks t)
    (ho : s.heap.get? d = some o) (hd : o.data = .dict es ep) (hk : KeysOf (mixKind prog w) es) (hn : Q none s) : wpAny (model prog w) A (dictFind d (.ref t) h) Q E s := by
  have hv : ∀ e ∈ es, (∃ i tk, e.key = .int i tk) ∨ ∃ x tk, e.key = .str x tk := fun e he => by
    obtain ⟨k, h1, _⟩ := hk e he
    rcases keyIs_shape (show keyIs k e.key = true from h1) with ⟨i, tk, _, e1⟩ | ⟨x, tk, _, e1⟩
    · exact .inl ⟨i, tk, e1⟩
    · exact .inr ⟨x, tk, e1⟩
  have hby : ∀ e ∈ es, carriedByValue e.key = true := fun e he => by
    rcases hv e he with ⟨i, tk, e1⟩ | ⟨x, tk, e1⟩ <;> rw [e1] <;> rfl
  have hT : ∃ items, s.heap.IsTuple t items := by
    obtain ⟨ob, items, n, h1, h2, h3, _⟩ := hkey
    exact ⟨items, ob, h1, h2, n, h3⟩
  obtain ⟨items, hT⟩ := hT
  have heq : ∀ e ∈ es, SeqAt.EqAt A s e.key (.ref t) false := fun e he => by
    rcases hv e he with ⟨i, tk, e1⟩ | ⟨x, tk, e1⟩ <;> rw [e1]
    · exact SeqAt.EqAt.int_tuple i tk hT hu
    · exact SeqAt.EqAt.str_tuple x tk hT hu
  have hany : ¬ (es.any fun e => e.key == Value.ref t && e.hash != h) = true := by
    rw [← Array.any_toList, List.any_eq_true]
    rintro ⟨e, hin, hc⟩
    rcases hv e (Array.mem_toList_iff.mp hin) with ⟨i, tk, e1⟩ | ⟨x, tk, e1⟩ <;> rw [e1] at hc <;> simp at hc
  have hst : ∀ v ∈ (placesWithHash es.size (fun i => es[i]?.map (·.hash)) h).filterMap (fun i => es[i]?.map (·.key)), carriedByValue v = true := by
    intro v hv'
    obtain ⟨i, _, hi⟩ := List.mem_filterMap.mp hv'
    cases hei : es[i]? with
    | none => rw [hei] at hi; cases hi
    | some e =>
      rw [hei] at hi
      obtain rfl : e.key = v := by simpa using hi
      exact hby e (Array.mem_of_getElem? hei)
  have tell : ∀ {Q' : Bool → Shared → Prop} (stored : List Value), (∀ v ∈ stored, carriedByValue v = true) → Q' false s → wpAny (model prog w) A (tableMayTell (.ref t) stored) Q' E s := by
    intro Q' stored hs q
    unfold tableMayTell
    split
    · exact wpAny_pure q
    · refine wpAny_bind ((tupleKind (mixKind prog w)).quiet hkey ?_)
      simp only [Bool.not_true, Bool.false_eq_true, if_false]
      refine wpAny_bind ?_
      refine wpAny_forIn_list _ (fun rest r s' => s' = s ∧ r = (none, ()) ∧ ∀ v ∈ rest, carriedByValue v = true) _ ?_ ?_ _ _ ⟨rfl, rfl, hs⟩
      · rintro x rest r s' ⟨rfl, rfl, hr⟩
        refine wpAny_bind (quiet_val (hr x List.mem_cons_self) 8 ?_)
        simp only [Bool.not_true, Bool.false_eq_true, if_false]
        exact wpAny_pure ⟨rfl, rfl, fun v hv => hr v (List.mem_cons_of_mem _ hv)⟩
      · rintro r s' ⟨rfl, rfl, _⟩
        exact wpAny_pure q
  unfold dictFind
  try with_reducible refine wpAny_holding ?_
  refine wpAny_bind (wpAny_dictEntries ho hd ?_)
  dsimp only
  rw [if_neg (show ¬ ((Value.ref t :: (placesWithHash es.size (fun i => es[i]?.map (·.hash)) h).filterMap (fun i => es[i]?.map (·.key))).all carriedByValue) = true by simp [carriedByValue])]
  rw [if_neg hany]
  by_cases hone : (((placesWithHash es.size (fun i => es[i]?.map (·.hash)) h).filterMap (fun i => es[i]?.map (·.key))) == [Value.ref t]) = true <;>
  (first | rw [if_pos hone] | rw [if_neg hone]) <;> (first | refine wpAny_bind (wpAny_pure ?_) | refine wpAny_bind (tell _ hst ?_)) <;> (
    rw [if_neg (by simp)]
    refine wpAny_bind ?_
    refine wpAny_forIn_list _
      (fun rest b s' => s' = s ∧ b = ((none : Option (Option Nat)), (none : Option Nat))) _ ?_ ?_ _ _ ⟨rfl, rfl⟩
    · rintro x rest b s' ⟨rfl, rfl⟩
      cases hex : es[x]? with
      | none => exact wpAny_pure ⟨rfl, rfl⟩
      | some e =>
        dsimp only
        by_cases hh : (e.hash == h) = true
        · rw [if_pos hh]
          refine wpAny_bind (wpAny_dictEpoch ho hd (wpAny_bind (heq e (Array.mem_of_getElem? hex) _ _ _ _ (wpAny_bind (wpAny_dictEpoch ho hd ?_)))))
          show wpAny _ _ (if (ep != ep) = true then _ else _) _ E _
          rw [if_neg (by simp)]
          simp only [Bool.false_eq_true, if_false]
          refine wpAny_bind (wpAny_rule ?_)
          first | rw [if_neg (by simp)] | skip
          first
            | exact wpAny_pure ⟨rfl, rfl⟩
            | exact wpAny_bind (wpAny_pure (wpAny_pure ⟨rfl, rfl⟩))
        · rw [if_neg hh]
          exact wpAny_pure ⟨rfl, rfl⟩
    · rintro b s' ⟨rfl, rfl⟩
      exact wpAny_pure hn)
theorem dictSet_tup {d t : Addr} {o : Obj} {es : Array DictEntry} {ep : Nat} {ks : List Key} {v : Value} {Q : Unit → Shared → Prop} (hu : A.units < cLine) (hkey : (tupleKind (mixKind prog w)).is s.heap ks t)
    (ho : s.heap.get? d = some o) (hc : o.ExactDict) (hd : o.data = .dict es ep) (hk : KeysOf (mixKind prog w) es) (hz : es.size ≤ sizeLine)
    (hQ : ∀ h' tk es', h'.DictRaw d es' (ep + 1) → es'.size = es.size + 1 → Heap.SameBut d s.heap h' → Q () { s with heap := h', toks := tk }) : wpAny (model prog w) A (dictSet d (.ref t) v) Q E s := by
  unfold dictSet
  try with_reducible refine wpAny_holding ?_
  refine wpAny_bind ((tupleKind (mixKind prog w)).pyHash hu hkey ?_)
  unfold dictSetHashed
  try with_reducible refine wpAny_holding ?_
  refine wpAny_bind (dictFind_tup (s := { s with toks := s.toks + (tupleKind (mixKind prog w)).draws ks }) hu hkey ho hd hk ?_)
  refine wpAny_bind (wpAny_rule (wpAny_updateDictKeys (hz := hz) (s := { s with toks := s.toks + (tupleKind (mixKind prog w)).draws ks }) ho hd (hQ _ _ (es.push _) ⟨_, Heap.get?_update_self _ ho (Obj.isFreed_of_dict (Obj.data_mapDictKeys hd _)), hc.mapDictKeys _, Obj.data_mapDictKeys hd _⟩ (by simp) (Heap.SameBut.update ..))))
end
/-- at d: a dict of n pairs; keys of any kind -/
def MixO (d : Addr) (n : Nat) : HO := .ext fun h => (d == sysModules) = false ∧ n ≤ sizeLine + 1 ∧ ∃ es ep, h.DictRaw d es ep ∧ es.size = n
/-- at d: {None: v} -/
def NonO (P : Program) (w : World) (d : Addr) : HO := .ext fun h => (d == sysModules) = false ∧ ∃ v, h.DictOf (leafKind P w) d [(.none, v)]
section
variable {P : Program} {w : World} {H : Hp} {h : Heap} {d : Addr}
theorem mix_ok {n : Nat} {es : Array DictEntry} {ep : Nat} (hd : (d == sysModules) = false) (hn : n ≤ sizeLine + 1) (hr : h.DictRaw d es ep) (hs : es.size = n) : ObjOk P w H h d (MixO d n) :=
  ⟨⟨hd, hn, es, ep, hr, hs⟩, let ⟨o, e, _⟩ := hr; ⟨o, e⟩, fun _ _ ⟨a, b, es, ep, ⟨o, e, c⟩, s⟩ st => ⟨a, b, es, ep, ⟨o, st o e, c⟩, s⟩⟩
theorem non_ok {P' : Program} {w' : World} {v : Value} (hd : (d == sysModules) = false) (hr : h.DictOf (leafKind P' w') d [(.none, v)]) : ObjOk P w H h d (NonO P' w' d) :=
  ⟨⟨hd, v, hr⟩, let ⟨o, _, _, e, _⟩ := hr; ⟨o, e⟩, fun _ _ ⟨a, v, o, es, ep, e, c⟩ st => ⟨a, v, o, es, ep, st o e, c⟩⟩
theorem mix_at {n : Nat} (ok : HOk P w H h) (e : H d = some (MixO d n)) : (d == sysModules) = false ∧ n ≤ sizeLine + 1 ∧ ∃ es ep, h.DictRaw d es ep ∧ es.size = n := (show ObjOk P w H h d (MixO d n) from ok d _ e).1
theorem non_at {P' : Program} {w' : World} (ok : HOk P w H h) (e : H d = some (NonO P' w' d)) : (d == sysModules) = false ∧ ∃ v, h.DictOf (leafKind P' w') d [(.none, v)] := (show ObjOk P w H h d (NonO P' w' d) from ok d _ e).1
end
/-- dict pairs of the kind of ints and texts, read as the wider kind -/
def toLeaf : Key → Leaf
  | .inl i => .num i
  | .inr x => .text x
theorem toLeaf_inj {a b : Key} (h : toLeaf a = toLeaf b) : a = b := by
  cases a <;> cases b <;> simp_all [toLeaf]
theorem toLeaf_is {k : Key} {v : Value} (h : keyIs k v = true) : Leaf.isOf (toLeaf k) v = true := by
  rcases keyIs_shape h with ⟨i, t, rfl, rfl⟩ | ⟨x, t, rfl, rfl⟩
  · simp [toLeaf, Leaf.isOf]
  · exact h
theorem toLeaf_hash (w : World) (k : Key) : (toLeaf k).key.hash w = keyH w k := by
  cases k with
  | inl i => rfl
  | inr x => rfl
theorem leaf_pairs {prog : Program} {w : World} {es : List DictEntry} {kvs : List (Key × Value)} (h : Pairs (mixKind prog w) es kvs) : Pairs (leafKind prog w) es (kvs.map fun p => (toLeaf p.1, p.2)) := by
  induction h with
  | nil => exact .nil
  | cons h1 h2 _ ih => exact .cons (toLeaf_is h1) h2 ih
theorem leaf_dict {prog : Program} {w : World} {h : Heap} {d : Addr} {kvs : List (Key × Value)} (x : h.DictOf (mixKind prog w) d kvs) : h.DictOf (leafKind prog w) d (kvs.map fun p => (toLeaf p.1, p.2)) := by
  obtain ⟨o, es, ep, h1, h2, h3, h4, h5, h6⟩ := x
  refine ⟨o, es, ep, h1, h2, h3, fun e he => ?_, leaf_pairs h5, ?_⟩
  · obtain ⟨k, k1, k2⟩ := h4 e he
    exact ⟨toLeaf k, toLeaf_is k1, by rw [k2]; exact (toLeaf_hash w k).symm⟩
  · rw [List.map_map]
    have : (List.map ((fun x => x.1) ∘ fun p : Key × Value => (toLeaf p.1, p.2)) kvs) = (kvs.map (·.1)).map toLeaf := by rw [List.map_map]; rfl
    rw [this]
    exact List.Pairwise.map _ (fun a b hab q => hab (toLeaf_inj q)) h6
theorem leaf_none_new {kvs : List (Key × Value)} {v : Value} : stored (kvs.map fun p => (toLeaf p.1, p.2)) Leaf.none v = (kvs.map fun p => (toLeaf p.1, p.2)) ++ [(Leaf.none, v)] := by
  unfold stored
  rw [if_neg]
  simp only [List.any_map, List.any_eq_true]
  rintro ⟨⟨k, x⟩, _, hk⟩
  cases k <;> simp [toLeaf] at hk
section
variable {X : Cx} {o i e value : Expr} {pos pos' : Pos} {td ty tv : TE}
/-- d[y] = v, y a key as ever, or None, or a tuple of ints and texts -/
def sDPutO (K : PySem.W.Frag) (td ty tv : TE) : TS := fun D σ H => tv σ H fun v H1 => td σ H1 fun x H2 => ty σ H2 fun y H3 => ∃ a, x = .ref a ∧
  ((∃ H4, DPut H3 a y v H4 ∧ D.nx σ H4) ∨ ∃ kvs, H3 a = some (.dK kvs) ∧ (y = .non ∨ ∃ (t : Addr) (ks : List Key), y = .ref t ∧ H3 t = some (.tup (ks.map kV))) ∧ D.nx σ (upd H3 a (MixO a (kvs.length + 1))))
theorem ps_dputO (hu : X.A.units + 1 < cLine) (ho : PE X o td) (hi : PE X i ty) (hv : PE X value tv) (hs : swapsWith value (some (.Subscript o i pos')) pos.line X.env = pure false := by rfl) :
    PS X (.Assign [.Subscript o i pos'] value pos) (sDPutO X.K td ty tv) := by
  refine ⟨fun pins s σ H D I h => ?_⟩
  refine wpAny_Assign_Subscript (thn (hv.run pins s σ H _ I h) fun r s1 ⟨v, H1, I1, rv, q1⟩ => thn (ho.run pins s1 σ H1 _ I1 q1) fun u s2 ⟨x, H2, I2, rx, q2⟩ => thn (hi.run pins s2 σ H2 _ I2 q2) fun iv s3 ⟨y, H3, I3, ry, a, ex, q3⟩ => ?_) hs
  subst ex
  obtain rfl : u = Value.ref a := rx
  rcases q3 with ⟨H4, g, q3⟩ | ⟨kvs, ea, hy, q3⟩
  · exact d_setItem hu I3 g ry rv fun s4 I4 => ⟨σ, H4, I4, q3⟩
  obtain ⟨z, hd, vs, rel, dd⟩ := dk_of I3.hok ea
  have hz : vs.length ≤ sizeLine := by rw [← rel.length]; exact z
  rcases hy with rfl | ⟨t, ks, rfl, et⟩
  · cases (show iv = Value.none from ry)
    refine wpAny_setItem_pairs (knd := leafKind X.prog X.w) (k := Leaf.none) (hsz := by rw [List.length_map]; exact hz) rfl (leaf_dict dd) fun h' dd' hs' => ?_
    rw [leaf_none_new] at dd'
    obtain ⟨ob, es, ep, h1, h2, h3, h4, h5, h6⟩ := dd'
    have hlen := h5.length
    have hz2 : es.size = kvs.length + 1 := by rw [← Array.length_toList, hlen, List.length_append, List.length_map, ← rel.length]; rfl
    exact ⟨σ, _, d_write I3 (by rw [ea]; exact True.intro) hs' ⟨ob, h1⟩ (mix_ok hd (by omega) ⟨ob, h1, h2, h3⟩ hz2), q3⟩
  · cases (show iv = Value.ref t from ry)
    obtain ⟨ob, es, ep, h1, h2, h3, h4, h5, h6⟩ := id dd
    have hes : es.size = kvs.length := by rw [← Array.length_toList, h5.length, ← rel.length]
    have hT : s3.TypeIs (.ref a) "dict" := ⟨ob, h1, h2.1⟩
    unfold setItem
    try with_reducible refine wpAny_holding ?_
    refine wpAny_bind (wpAny_sequenceKey hT (by decide) ?_)
    refine wpAny_bind (wpAny_callSpecial?_slot (name := Str.ofString "__setitem__") hT PySem.F.slot_dict_setitem
      (wpAny_call_entry PySem.F.slot_dict_setitem hT PySem.F.entry_dict_setitem ?_ (args_dict_setitem _ _ _)))
    show wpAny _ _ (Builtin.Dict.notOrdered "__setitem__" ⟨[.ref a, .ref t, r], []⟩ >>= _) _ _ s3
    refine wpAny_bind (wpAny_notOrdered_dict hT ?_)
    show wpAny _ _ (dictSet a (.ref t) r >>= _) _ _ s3
    refine wpAny_bind (dictSet_tup (A := X.A.in1) hu (key_of I3.hok et) h1 h2 h3 h4 (by omega) fun h' tk es' hr hsz' hs' => wpAny_pure ⟨.none, rfl, wpAny_pure ?_⟩)
    obtain ⟨ob', hob', _⟩ := id hr
    exact ⟨σ, _, d_write I3 (by rw [ea]; exact True.intro) hs' ⟨ob', hob'⟩ (mix_ok hd (by omega) hr (by omega)), q3⟩
/-- {None: e} -/
def tDispN (P : Program) (w : World) (tk tv : TE) : TE := fun σ H Q => ∀ p, H p = none → tPairs [(tk, tv)] σ (upd H p (.dK [])) fun ps H2 => ∃ y, ps = [(.non, y)] ∧ H2 p = some (.dK []) ∧ Q (.ref p) (upd H2 p (NonO P w p))
theorem pe_dispN {k v : Expr} {tk : TE} (hk : PE X k tk) (hv : PE X v tv) : PE X (.Dict [some k] [v] pos) (tDispN X.prog X.w tk tv) := by
  refine ⟨fun pins s σ H Q I q => ?_⟩
  have hn := I.hok.fresh (Nat.le_refl s.heap.objs.size)
  have I1 := I.laid (a := s.heap.objs.size) (o := .dK []) (h' := s.heap.push { cls := .type "dict", data := .dict #[] }) (t' := s.toks) (fun _ _ q => Heap.get?_push_of_some _ q) (Nat.le_refl _) (dk_empty s.heap I.big)
  refine wpAny_Dict_walk (knd := leafKind X.prog X.w) rfl rfl (by simp) (by simp) (thn ((pps_cons (pos := pos) hk hv pps_nil).run pins _ σ _ _ I1 (q _ hn)) fun ws s2 ⟨ps, H2, I2, rel, y, ep, e, q2⟩ => ?_)
  subst ep
  cases rel with
  | @cons _ b _ bs r t =>
    cases t
    obtain ⟨b1, b2⟩ := b
    obtain ⟨r1, r2⟩ := r
    cases (show b1 = Value.none from r1)
    obtain ⟨z, hd, vs0, r0, dd⟩ := dk_of I2.hok e
    cases r0
    refine ⟨[(Leaf.none, b2)], ⟨rfl, rfl, True.intro⟩, leaf_dict dd, fun h' dd' hs => ⟨.ref s.heap.objs.size, _, ?_, rfl, q2⟩⟩
    have he : ∃ q, h'.get? s.heap.objs.size = some q := let ⟨q, _, _, hq, _⟩ := dd'; ⟨q, hq⟩
    exact d_write I2 (by rw [e]; exact True.intro) hs he (non_ok hd dd')
/-- a value that may be such a dict -/
def OddD (P : Program) (w : World) (H : Hp) (a : Addr) (n : Nat) : Prop := H a = some (MixO a n) ∨ (H a = some (NonO P w a) ∧ n = 1)
theorem odd_at {pins : List (Addr × Obj)} {σ : L2.St} {H : Hp} {s : Shared} {a : Addr} {n : Nat} (I : Inv X pins σ H s) (h : OddD X.prog X.w H a n) : (a == sysModules) = false ∧ n ≤ sizeLine + 1 ∧ ∃ es ep, s.heap.DictRaw a es ep ∧ es.size = n := by
  rcases h with h | ⟨h, rfl⟩
  · exact mix_at I.hok h
  · obtain ⟨hd, v, ob, es, ep, h1, h2, h3, h4, h5, h6⟩ := non_at I.hok h
    exact ⟨hd, by rw [sizeLine_eq]; omega, es, ep, ⟨ob, h1, h2, h3⟩, by rw [← Array.length_toList, h5.length]; rfl⟩
/-- isinstance(x, T), x such a dict too -/
def rIsiO (P : Program) (w : World) (K : PySem.W.Frag) : List V → Hp → VK → Prop := fun xs H Q => rIsi K xs H Q ∨ ∃ (a : Addr) (n : Nat) (c : V) (u : Value) (b : Bool), xs = [.ref a, c] ∧ OddD P w H a n ∧ ClsV c u ∧ PySem.W.kitOne K (.type "dict") u = some b ∧ Q (.bl b) H
theorem call_isiO : CallR X (.builtin "isinstance") (rIsiO X.prog X.w X.K) := by
  intro pins s σ H xs us Q I r h
  rcases h with h | ⟨a, n, c, u, b, rfl, ho, k, e, q⟩
  · exact call_isi pins s σ H xs us Q I r h
  · obtain ⟨u1, u2, rfl, r1, r2⟩ := vals2 r
    have e2 := k.eq r2
    subst e2
    cases (show u1 = Value.ref a from r1)
    obtain ⟨_, _, es, ep, ⟨ob, h1, h2, _⟩, _⟩ := odd_at I ho
    exact PySem.W.kia_one PySem.W.kitx_dict I.kIn ⟨ob, h1, h2.1⟩ e (fun z => nomatch z) fun tk => ⟨.bl b, H, I.tok tk, rfl, q⟩
theorem meets_dict_lenR {prog : Program} {w : World} (d : Addr) (hd : (d == sysModules) = false) :
    MeetsIn prog w (Builtin.«dict.__len__» ⟨[.ref d], []⟩) (fun _ R s => ∃ es ep, s.heap.DictRaw d es ep ∧ R (.ok (.ret (.int es.size s.toks))) { s with toks := s.toks + 1 }) :=
  .of_wp fun A R s ⟨es, ep, ⟨o, ho, hc, hdat⟩, h⟩ => by
    show wpAny _ _ (dictSize d >>= _) _ _ s
    unfold dictSize
    refine wpAny_bind (wpAny_bind (wpAny_dictEntries ho hdat (wpAny_pure ?_)))
    show wpAny _ _ (Builtin.Dict.pendingCount d >>= _) _ _ s
    refine wpAny_bind (wpAny_pendingCount_other hd ?_)
    refine wpAny_ret_mkInt ?_
    rw [Nat.add_zero]; exact h
theorem wpAny_len_body_dictR {prog : Program} {w : World} {A : Around} {E : Value → Shared → Prop} {s : Shared} {d : Addr} {es : Array DictEntry} {ep : Nat} {Q : Value → Shared → Prop} (hd : (d == sysModules) = false) (hm : s.heap.DictRaw d es ep) (hfit : (es.size : Int) < 2 ^ 63)
    (h : Q (.int es.size (s.toks + 1)) { s with toks := s.toks + 1 + 1 }) : wpAny (model prog w) A (Builtin.«len» ⟨[.ref d], []⟩) (fun fin s' => ∃ r, fin = .done (.ret r) ∧ Q r s') E s := by
  have hT : s.TypeIs (.ref d) "dict" := let ⟨o, a, b, _⟩ := hm; ⟨o, a, b.1⟩
  unfold Builtin.«len»
  refine wpAny_bind (m := oneArg "len" _) (wpAny_pure ?_)
  refine wpAny_bind (m := callSpecial? (.ref d) (Str.ofString "__len__")) (wpAny_callSpecial?_slot (name := Str.ofString "__len__") hT PySem.F.slot_dict_len
    (call_meetsIn PySem.F.slot_dict_len hT PySem.F.entry_dict_len (PySem.F.args_dict_len_1 _) (meets_dict_lenR d hd) ⟨es, ep, hm, ?_⟩))
  show wpAny _ _ _ _ _ { s with toks := s.toks + 1 }
  refine wpAny_bind (wpAny_holding (wpAny_pure ?_))
  refine wpAny_bind (wpAny_letGo ?_)
  show wpAny _ _ (if ((es.size : Nat) : Int) < 0 then _ else _) _ _ _
  rw [if_neg (by omega)]
  show wpAny _ _ (if ((es.size : Nat) : Int) ≥ 2 ^ 63 then _ else _) _ _ _
  rw [if_neg (by omega)]
  exact wpAny_bind (wpAny_mkInt (wpAny_pure ⟨_, rfl, h⟩))
/-- len(x), x a dict -/
def rLenO (P : Program) (w : World) : List V → Hp → VK → Prop := fun xs H Q => (∃ a kvs, xs = [V.ref a] ∧ H a = some (.dK kvs) ∧ Q (.int kvs.length) H) ∨ ∃ (a : Addr) (n : Nat), xs = [.ref a] ∧ OddD P w H a n ∧ Q (.int n) H
theorem call_lenO : CallR X (.builtin "len") (rLenO X.prog X.w) := by
  intro pins s σ H xs us Q I r h
  rcases h with h | ⟨a, n, rfl, ho, q⟩
  · exact call_lenD pins s σ H xs us Q I r h
  · obtain ⟨u, rfl, ru⟩ := vals1 r
    cases (show u = Value.ref a from ru)
    obtain ⟨hd, hz, es, ep, hr, hs⟩ := odd_at I ho
    refine Calls.call_function_entry kind_len plain_len entry_len (args_len1 _) (wpAny_len_body_dictR hd hr (by rw [hs]; rw [sizeLine_eq] at hz; omega) ?_)
    exact ⟨.int n, H, I.tok _, ⟨_, by rw [hs]⟩, q⟩
/-- y in x, x a dict -/
def tDInO (P : Program) (w : World) (ty td : TE) : TE := fun σ H Q => ty σ H fun y H1 => td σ H1 fun x H2 => ∃ a, x = .ref a ∧ ((∃ o, DGet H2 a y o ∧ Q (.bl o.isSome) H2) ∨ (∃ z, y = .str z ∧ H2 a = some (NonO P w a) ∧ Q (.bl false) H2))
theorem pc_dinO (hu : X.A.units + 1 < cLine) (hi : PE X i ty) (ho : PE X o td) : PC X .In i o (tDInO X.prog X.w ty td) := by
  refine ⟨fun pins s σ H Q I h => ?_⟩
  refine thn (hi.run pins s σ H _ I h) fun iv s1 ⟨y, H1, I1, ry, q1⟩ => thn (ho.run pins s1 σ H1 _ I1 q1) fun u s2 ⟨x, H2, I2, rx, a, ex, q2⟩ => ?_
  subst ex
  obtain rfl : u = Value.ref a := rx
  rcases q2 with ⟨ov, g, q2⟩ | ⟨z, rfl, ea, q2⟩
  · exact d_in hu I2 g ry fun s3 I3 => ⟨.bl ov.isSome, H2, I3, rfl, q2⟩
  · obtain ⟨t, rfl⟩ := (show ∃ t, iv = Value.str z t from ry)
    obtain ⟨hd, v, dd⟩ := non_at I2.hok ea
    refine wpAny_in_of (knd := leafKind X.prog X.w) (k := Leaf.text z) (by show Leaf.isOf (.text z) (.str z t) = true; simp [Leaf.isOf, Value.isStrOf]) hd dd.mapOf ?_
    have e : valueAt [(Leaf.none, v)] (Leaf.text z) = none := by simp [valueAt]
    rw [e]
    exact ⟨.bl false, H2, I2.tok _, rfl, q2⟩
end
end DL
set_option Elab.async false
set_option linter.all false
set_option maxRecDepth 100000
set_option maxHeartbeats 4000000
/-! DLX6: sorted(xs, key=lambda x: ..), the key a call that may make things. -/
namespace DL
open PySem PySem.Spec PyProof.Rows L2
section
variable {X : Cx} {pins : List (Addr × Obj)} {σ : L2.St} {H : Hp} {s : Shared}
/-- two untracked records have turned; one is tracked from now on -/
theorem turned2 {h' : Heap} {t' : Nat} {a kS : Addr} {ob : HO} (I : L2.Inv X pins σ H s) (k : ∀ b o, b ≠ a → b ≠ kS → s.heap.get? b = some o → h'.get? b = some o)
    (ha : FpOk X pins H a) (hk : FpOk X pins H kS) (new : ObjOk X.prog X.w (upd H a ob) h' a ob) : L2.Inv X pins σ (upd H a ob) { s with heap := h', toks := t' } := by
  obtain ⟨a0, a1, a2, a3, a4, a5⟩ := ha
  obtain ⟨k0, k1, k2, k3, k4, k5⟩ := hk
  have ne : ∀ b o, b ∉ [a, kS] → s.heap.get? b = some o → h'.get? b = some o := fun b o hb e => k b o (fun z => hb (by simp [z])) (fun z => hb (by simp [z])) e
  have nn : ∀ b, H b = none → b ∉ [a, kS] → upd H a ob b = none := fun b n hb => by rw [upd_ne (fun z => hb (by simp [z]))]; exact n
  have ns : ∀ b u, H b = some u → b ≠ a := fun b u e z => by rw [z, a0] at e; cases e
  have nk : ∀ b u, H b = some u → b ≠ kS := fun b u e z => by rw [z, k0] at e; cases e
  refine I.step (g' := s.gens) (d' := s.drawn) (ch := [a, kS]) (fun b hb => ?_) (fun b o _ _ hc e _ => ne b o hc e) (fun b o _ _ hc e _ => ⟨o.slots, ne b o hc e⟩) (fun b o hc _ n => nn b n hc)
    (fun b o hc e => ⟨o, ne b o hc e⟩) (fun b xs e => by rw [upd_ne (ns b _ e)]; exact e) (fun b o u e => by rw [upd_ne (ns b _ e)]; exact e) (fun b ps e => ⟨#[], by rw [upd_ne (ns b _ e), e]; simp⟩) (fun m hm => ?_) (fun b u e => ?_) I.bare
  · rcases (by simpa using hb : b = a ∨ b = kS) with rfl | rfl
    · exact ⟨a3, a1, a4, a5⟩
    · exact ⟨k3, k1, k4, k5⟩
  · obtain ⟨o, es, ep, ho, r⟩ := hm
    exact ⟨o, es, ep, k _ o (Ne.symm a1) (Ne.symm k1) ho, r⟩
  · by_cases z : b = a
    · subst z; rw [upd_same] at e; cases e; exact new
    · rw [upd_ne z] at e
      refine (I.hok b u e).stay (fun c v hc q => ?_) (fun c q => by rw [upd_ne (ns c _ q)]; exact q) fun c xs q => by rw [upd_ne (ns c _ q)]; exact q
      rcases hc with y | y
      · rw [y] at q ⊢; exact k b v z (nk b u e) q
      · exact k c v (ns c _ y) (nk c _ y) q
/-- the keys, one after the other -/
def turnsG (g : V → Hp → VK → Prop) : List V → Hp → (List Int → Hp → Prop) → Prop
  | [], H, Q => Q [] H
  | x :: xs, H, Q => g x H fun v H1 => ∃ i, v = .int i ∧ turnsG g xs H1 fun is H2 => Q (i :: is) H2
/-- untracked objects that are known -/
def Knows (X : Cx) (L : List (Addr × Obj)) (H : Hp) (s : Shared) : Prop := ∀ p ∈ L, s.heap.get? p.1 = some p.2 ∧ H p.1 = none ∧ p.1 ∉ frs X.stack
/-- behind a call: what nobody tracks is kept -/
def KeptU (X : Cx) (H H' : Hp) (h h' : Heap) : Prop := ∀ b o, h.get? b = some o → H b = none → b ∉ frs X.stack → h'.get? b = some o ∧ H' b = none
theorem Knows.kept {L : List (Addr × Obj)} {H H' : Hp} {s s' : Shared} (k : Knows X L H s) (u : KeptU X H H' s.heap s'.heap) : Knows X L H' s' := fun p hp => by
  obtain ⟨h1, h2, h3⟩ := k p hp
  obtain ⟨h4, h5⟩ := u p.1 p.2 h1 h2 h3
  exact ⟨h4, h5, h3⟩
def TurnOk (X : Cx) (pins : List (Addr × Obj)) (σ : L2.St) (A : Around) (f : Value) (L : List (Addr × Obj)) (g : V → Hp → VK → Prop) : Prop := ∀ (x : V) (v : Value) (H : Hp) (s : Shared) (Qg : VK), L2.Inv X pins σ H s → Knows X L H s → L2.RelV x v → g x H Qg →
  wpAny (model X.prog X.w) A (call f [v]) (fun u s' => ∃ y H', L2.Inv X pins σ H' s' ∧ KeptU X H H' s.heap s'.heap ∧ L2.RelV y u ∧ Qg y H') (fun _ _ => False) s
theorem FpOk.kept {b : Addr} {o : Obj} {H H' : Hp} {h h' : Heap} (f : FpOk X pins H b) (u : KeptU X H H' h h') (e : h.get? b = some o) (hb : b ∉ frs X.stack) : FpOk X pins H' b := ⟨(u b o e f.1 hb).2, f.2⟩
theorem alike_ints : ∀ is : List Int, PySem.W.AllAlike (is.map PyData.int) := fun is d hd d' hd' => by
  obtain ⟨i, _, rfl⟩ := List.mem_map.mp hd
  obtain ⟨j, _, rfl⟩ := List.mem_map.mp hd'
  rfl
theorem sortable_ints (is : List Int) : PySem.W.Sortable (is.map PyData.int) := .inr fun d hd => by
  obtain ⟨i, _, rfl⟩ := List.mem_map.mp hd
  exact ⟨(fun z => nomatch z), (fun xs z => nomatch z)⟩
theorem reads_ints {h : Heap} : ∀ {us : List Value} {is : List Int}, IntsAre us is → PySem.W.EachIs (fun v k => ∃ as, Reads h v k as) us (is.map PyData.int)
  | _, _, .nil => PySem.W.EachIs.nil
  | _, _, .cons n t h => PySem.W.EachIs.cons ⟨_, .int n t⟩ (reads_ints h)
theorem vals_at {xs : List V} {vs : List Value} (r : Vals xs vs) {j : Nat} {v : Value} (h : vs[j]? = some v) : ∃ x, xs[j]? = some x ∧ L2.RelV x v := by
  induction r generalizing j with
  | nil => simp at h
  | cons a _ ih =>
    cases j with
    | zero => simp at h; subst h; exact ⟨_, rfl, a⟩
    | succ j => exact ih (by simpa using h)
theorem drop_cons {α : Type} {l : List α} {j : Nat} {x : α} (h : l[j]? = some x) : l.drop j = x :: l.drop (j + 1) := by
  obtain ⟨h1, h2⟩ := List.getElem?_eq_some_iff.mp h
  rw [List.drop_eq_getElem_cons h1, h2]
/-- what is known of the sort's two own lists -/
structure SortSt2 (X : Cx) (pins : List (Addr × Obj)) (σ : L2.St) (L : List (Addr × Obj)) (a kS : Addr) (e1 : Nat) (H : Hp) (s : Shared) (is : List Int) : Prop where
  inv : L2.Inv X pins σ H s
  kn : Knows X L H s
  fa : FpOk X pins H a
  fk : FpOk X pins H kS
  atk : ∃ (kA : Array Value) (e : Nat), s.heap.get? kS = some (seqObj "list" kA e) ∧ IntsAre kA.toList is
  ata : s.heap.get? a = some (seqObj "list" #[] e1)
open PySem.W PySem.Calls in
theorem keyI_rest {A : Around} {f : Value} {L : List (Addr × Obj)} {g : V → Hp → VK → Prop} {a kS : Addr} {e1 : Nat} {vs : List Value} {xs : List V} {P : PySem.Fin → Shared → Prop} {E : Value → Shared → Prop} {Q : List Int → Hp → Prop}
    (T : SortSt2 X pins σ L a kS e1 H s []) (hka : kS ≠ a) (nfa : a ∉ frs X.stack) (nfk : kS ∉ frs X.stack) (nL : ∀ p ∈ L, p.1 ≠ kS) (r : Vals xs vs) (hZ : vs.length ≤ sizeLine) (hu : A.units + 64 < cLine)
    (turn : TurnOk X pins σ A f L g) (q : turnsG g xs H Q)
    (h : ∀ is H' s' h3 tk c out, SortSt2 X pins σ L a kS e1 H' s' is → Q is H' → is.length = vs.length → (∀ b o, b ≠ a → b ≠ kS → s'.heap.get? b = some o → h3.get? b = some o) → h3.get? a = some (seqObj "list" (List.toArray out) c) →
      KeyedOut false (is.map PyData.int) vs out → P (.done (.ret .none)) { s' with heap := h3, toks := tk }) :
    wpAny (model X.prog X.w) A (ksk_rest a f false vs.toArray e1 (.ref kS)) P E s := by
  unfold ksk_rest
  refine wpAny_bind (wpAny_rule ?_)
  first
    | rw [List.forIn_toArray]
    | (rw [← Array.forIn_toList]; simp only [List.toList_toArray])
    | rw [← Array.forIn_toList]
  refine wpAny_bind (ksk_fold (fun i s' => ∃ Hj is, SortSt2 X pins σ L a kS e1 Hj s' is ∧ is.length = i ∧ turnsG g (xs.drop i) Hj fun rest H' => Q (is ++ rest) H') vs 0 s ⟨H, [], T, rfl, by simpa using q⟩ ?step ?done)
  case step =>
    rintro j x s' hx ⟨Hj, is, S, hl, hq⟩
    simp only [Nat.zero_add] at hl hq ⊢
    obtain ⟨y, hy, ry⟩ := vals_at r hx
    rw [drop_cons hy] at hq
    have hj : j < vs.length := (List.getElem?_eq_some_iff.mp hx).1
    obtain ⟨kA, e, nk, hI⟩ := S.atk
    refine wpAny_bind (wpAny_attempt (wpAny_mono (turn y x Hj s' _ S.inv S.kn ry hq) (fun v s'' he => ?_) fun _ _ hF => hF.elim))
    obtain ⟨z, H2, I2, ku, rz, i, rfl, hq2⟩ := he
    obtain ⟨t, rfl⟩ := (show ∃ t, v = Value.int i t from rz)
    try dsimp only
    obtain ⟨nk2, hk2⟩ := ku _ _ nk S.fk.1 nfk
    obtain ⟨na2, ha2⟩ := ku _ _ S.ata S.fa.1 nfa
    have hz : kA.size ≤ vs.length := by
      have h1 := hI.length
      rw [Array.length_toList] at h1
      omega
    have s1 := Heap.SameBut.update s''.heap kS (Obj.mapSeq (·.push (Value.int i t)))
    obtain ⟨c2, hc2⟩ : ∃ c2, (s''.heap.update kS (Obj.mapSeq (·.push (Value.int i t)))).get? kS = some (seqObj "list" (kA.push (Value.int i t)) c2) := ⟨_, get?_update_seq nk2 (·.push (Value.int i t))⟩
    refine wpAny_bind (listUpdate_at nk2 rfl ?_ (Nat.le_trans hz hZ) (Nat.le_trans (Nat.le_of_eq (Array.size_push ..)) (Nat.succ_le_succ (Nat.le_trans hz hZ))))
    have fk2 : FpOk X pins H2 kS := ⟨hk2, S.fk.2⟩
    have fa2 : FpOk X pins H2 a := ⟨ha2, S.fa.2⟩
    have I3 : L2.Inv X pins σ H2 { s'' with heap := s''.heap.update kS (Obj.mapSeq (·.push (Value.int i t))) } := I2.turned (t' := s''.toks) (it := kS) (fun b o hb e => (s1.2 b hb).trans e) fk2.1 fk2.2.1 fk2.2.2.2.1 fk2.2.2.2.2.1 fk2.2.2.2.2.2
    refine wpAny_pure ⟨rfl, H2, is ++ [i], ⟨I3, fun p hp => ?_, fa2, fk2, ⟨_, c2, hc2, ?_⟩, (s1.2 a hka.symm).trans na2⟩, by simp [hl], ?_⟩
    · obtain ⟨h1, h2, h3⟩ := (S.kn.kept ku) p hp
      exact ⟨(s1.2 p.1 (nL p hp)).trans h1, h2, h3⟩
    · have ea : (kA.push (Value.int i t)).toList = kA.toList ++ [Value.int i t] := by simp
      rw [ea]; exact ksk_snoc hI
    · simpa using hq2
  case done =>
    rintro s' ⟨Hj, is, S, hl, hq⟩
    simp only [Nat.zero_add] at hl hq
    rw [List.drop_eq_nil_of_le (by rw [r.length]; exact Nat.le_refl _)] at hq
    have hq' : Q is Hj := by simpa [turnsG] using hq
    obtain ⟨kA, e, nk, hI⟩ := S.atk
    try dsimp only
    refine wpAny_bind (listItems_at nk rfl ?_)
    have hsz : kA.size = vs.length := by
      have h1 := hI.length
      rw [Array.length_toList] at h1
      omega
    obtain ⟨G, g1, g2⟩ := restrict s'.heap fun b => decide (b ≠ kS ∧ b ≠ a)
    have kp : KeepsBut a G s'.heap := fun b o hb e => by
      by_cases z : b = kS
      · have := g2 b (by simp [z]); rw [this] at e; cases e
      · have := g1 b (by simp [z, hb]); rw [this] at e; exact e
    have hkS : G.get? kS = none := g2 kS (by simp)
    have hal := alike_ints is
    refine keyH_end (κ := dataKind s'.heap (is.map PyData.int)) (h₁ := G) kp hkS nk S.ata hka (SortsAt.data (reads_ints hI) hal (sortable_ints is) (fun d hd => ?_)) hsz hZ fun h3 tk3 c k3 n3 => h is Hj s' h3 tk3 c _ S hq' hl (fun b o ha hk e => k3 b o ha ?_) n3 ⟨s'.heap, kA.toList, hal, rfl, reads_ints hI⟩
    · obtain ⟨i, _, rfl⟩ := List.mem_map.mp hd
      show A.units + 0 < cLine
      omega
    · rw [g1 b (by simp [ha, hk])]; exact e
end
end DL
set_option Elab.async false
set_option linter.all false
set_option maxRecDepth 100000
set_option maxHeartbeats 4000000
/-! DLX7: sorted(xs, key=lambda x: ..): the lambda, the rule. -/
namespace DL
open PySem PySem.Spec PyProof.Rows L2
section
variable {X : Cx} {pins : List (Addr × Obj)} {σ : L2.St} {H : Hp} {s : Shared}
theorem not_frs (I : L2.Inv X pins σ H s) {f : Addr} (hf : s.heap.objs.size ≤ f) : f ∉ frs X.stack := fun z => by
  rcases List.mem_cons.mp (I.stkSub _ z) with e | e
  · have h1 := I.lt
    rw [← e] at h1
    exact Nat.lt_irrefl _ (Nat.lt_of_lt_of_le h1 hf)
  · exact I.nofs hf e
/-- what the making of a lambda leaves -/
structure LamNew (T : List (Addr × Str)) (q : Str) (H H1 : Hp) (c' : Addr) : Prop where
  ext : LamX.ExtN H H1
  live : ∀ a, H1 a = none → H a = none
  tabs : LamX.Tabs T H1
  code : H1 c' = some (LamX.CodeO c' q)
open LamX in
theorem lam_make3 {T : List (Addr × Str)} {c P : Addr} {params : Arguments} {body : Expr} {scope : Scope} {pos : Pos} {E : Value → Shared → Prop} {Q : Value → Shared → Prop} (I : L2.Inv X pins σ H s) (TB : TabB X.base X.mg c P) (hcode : X.env.code = .ref c)
    (hm : (P, X.env.qual ++ "<lambda>") ∈ T) (hu : ∀ p ∈ T, p.1 = P → p.2 = X.env.qual ++ "<lambda>") (hT : Tabs T H) (hdef : defaultsOf params X.env = ([], [])) (hfree : ∀ y ∈ scope.names, y.2 = .free → ∃ c, X.env.cells.lookup y.1 = some c)
    (h : ∀ (f c' : Addr) (pm ctv : Value) (H1 : Hp) (s' : Shared), L2.Inv X pins σ H1 s' → LamNew T (X.env.qual ++ "<lambda>") H H1 c' →
      s'.heap.get? f = some (PySem.W.kla_obj "<lambda>" (X.env.qual ++ "<lambda>") params body scope (cloFrom X.env.cells scope.names []) pm c' ctv) → H1 f = none → f ∉ frs X.stack → Q (.ref f) s') :
    wpAny (model X.prog X.w) X.A (eval (.Lambda params body scope pos) X.env) Q E s := by
  obtain ⟨ps, hP, ht, ha⟩ := hT _ hm
  refine PySem.W.kla_eval hdef ?_
  have bP : s.heap.BuiltinsAt X.mg P := TB.bm.keeps I.bk
  have hP' : s.heap.get? P = some { cls := .none, data := .fields ps } := I.hok P _ hP
  cases hc : codeAmong pos ps.toList with
  | none =>
    refine PySem.W.kla_makeFunction (mg := X.mg) (c := c) (P := P) (ps := ps) (closure_ok hfree) I.ok.glob (I.mod.glob.keeps I.bk) hcode (TB.code.keeps I.bk) hP' ht hc TB.gP bP fun c' ctv h' tk hx hge hlt hrec htb => ?_
    obtain ⟨c2, oc, vs, t, e2, hoc, hd, hv⟩ := hrec
    cases e2
    have hsz : s.heap.objs.size ≤ h'.objs.size := Nat.le_trans hge (Nat.le_of_lt hlt)
    have nC : H c' = none := I.hok.fresh hge
    have I1 := inv_table (t' := tk) (more := #[rawInt pos.line, rawInt pos.col, .ref c']) (h' := h'.push (PySem.W.kla_obj "<lambda>" (X.env.qual ++ "<lambda>") params body scope (cloFrom X.env.cells scope.names []) ((X.mg "__name__").getD .none) c' ctv)) I hP
      (fun b o hb e => Heap.get?_push_of_some _ (hx b o hb e)) (Heap.get?_push_of_some _ htb) hge ⟨oc, vs, t, Heap.get?_push_of_some _ hoc, hd, hv⟩
    have hE : ExtN H (upd (upd H P (.tbl (ps ++ #[rawInt pos.line, rawInt pos.col, .ref c']))) c' (CodeO c' (X.env.qual ++ "<lambda>"))) := fun b o e n => by
      rw [upd_ne (ne_of_none e nC), upd_ne (fun z => n ps (Option.some.inj (e.symm.trans (by rw [z]; exact hP))))]
      exact e
    have eL : (ps ++ #[rawInt pos.line, rawInt pos.col, .ref c']).toList = ps.toList ++ [rawInt pos.line, rawInt pos.col, .ref c'] := by simp
    refine h h'.objs.size c' ((X.mg "__name__").getD .none) ctv _ _ I1 ⟨hE, fun b hb => ?_, fun p hp => ?_, upd_same⟩ (Heap.get?_push_size _ rfl) ?_ (not_frs I hsz)
    · by_cases z : b = c'
      · rw [z, upd_same] at hb; cases hb
      · rw [upd_ne z] at hb
        by_cases z2 : b = P
        · rw [z2, upd_same] at hb; cases hb
        · rw [upd_ne z2] at hb; exact hb
    · by_cases hb : p.1 = P
      · rw [hu p hp hb, hb]
        refine ⟨_, by rw [upd_ne (ne_of_none hP nC), upd_same], by rw [eL]; exact PySem.TriplesOk_snoc _ _ _ _ ht, fun p' cv hcv => ?_⟩
        rw [eL] at hcv
        rcases among_app _ ht hcv with z | z
        · obtain ⟨c0, e1, e2⟩ := ha p' cv z
          exact ⟨c0, e1, hE _ _ e2 codeO_ne⟩
        · exact ⟨c', z, upd_same⟩
      · obtain ⟨ps', a1, a2, a3⟩ := hT p hp
        refine ⟨ps', by rw [upd_ne (ne_of_none a1 nC), upd_ne hb]; exact a1, a2, fun p' cv hcv => ?_⟩
        obtain ⟨c0, e1, e2⟩ := a3 p' cv hcv
        exact ⟨c0, e1, hE _ _ e2 codeO_ne⟩
    · have n1 : h'.objs.size ≠ c' := Nat.ne_of_gt hlt
      have n2 : h'.objs.size ≠ P := Nat.ne_of_gt (Nat.lt_of_lt_of_le (Heap.lt_size hP') hsz)
      rw [upd_ne n1, upd_ne n2]
      exact I.hok.fresh hsz
  | some cv =>
    obtain ⟨c', e, hco⟩ := ha pos cv hc
    subst e
    refine PySem.W.kla_makeFunctionHit (mg := X.mg) (c := c) (P := P) (ps := ps) (closure_ok hfree) I.ok.glob (I.mod.glob.keeps I.bk) hcode (TB.code.keeps I.bk) hP' ht hc bP fun ctv h' tk hx hsz => ?_
    have I1 : L2.Inv X pins σ H { s with heap := h'.push (PySem.W.kla_obj "<lambda>" (X.env.qual ++ "<lambda>") params body scope (cloFrom X.env.cells scope.names []) ((X.mg "__name__").getD .none) c' ctv), toks := tk } := I.kept fun b o e => Heap.get?_push_of_some _ (hx b o e)
    exact h h'.objs.size c' ((X.mg "__name__").getD .none) ctv H _ I1 ⟨ExtN.refl H, fun _ z => z, hT, hco⟩ (Heap.get?_push_size _ rfl) (I.hok.fresh hsz) (not_frs I hsz)
end
/-- a lambda with parameters, called -/
theorem lam_run {P : Program} {w : World} {K : PySem.W.Frag} {mg : Str → Option Value} {base : Heap} {CX : CXT} {N ps fr : List Str} {F : NdefX.NF} {f : Addr} {k : Nat} {bodyE : Expr} {params : Arguments} {pm ctv : Value} {A : Around} {outer : List PySem.Env} {s : Shared} {H : Hp} {us : List Value} {vs : List V} {ws : List (Option V)} {Q : VK} {E : XK} {tb : TE}
    (S : NdefX.NScope N ps fr F.scope) (hb : bindArgs (PySem.W.kla_fn F.name F.qual params bodyE F.scope F.cl pm (.ref F.c) ctv) ⟨us, []⟩ = pure (ps.zip us)) (hr : Room (k + 1) A) (e0 : Env0 P w K mg base A outer s H)
    (ho : s.heap.get? f = some (PySem.W.kla_obj F.name F.qual params bodyE F.scope F.cl pm F.c ctv)) (hc : H F.c = some (LamX.CodeO F.c F.qual)) (C : NdefX.CellsAt F.cl fr ws s.heap H) (r : Vals vs us) (hl : vs.length = ps.length)
    (hbody : Room k (A.deeper (NdefX.envF F f s.heap.objs.size)) → PE (NdefX.ncx CX P w K mg base N F f A outer s H E) bodyE tb) (hq : tb (NdefX.startF N vs ws) H Q) : codeAny (model P w) A (.call (.ref f) ⟨us, []⟩) (CR CX outer P w H s Q E) s := by
  have lim : s.heap.NoLimit := e0.mod.nolimit.keeps fun b o e => (e0.bs b o e).1
  obtain ⟨⟨oc, vt, t, hoc, hdc, hvc⟩, _, _⟩ := e0.hok F.c _ hc
  refine PySem.W.kla_callFunE hr.depth ho rfl S.co S.gen rfl ⟨F.c, oc, vt, t, rfl, hoc, hdc, hvc⟩ ?_
  rw [hb]
  refine wpAny_pure (wpAny_newFunctionEnv S.nocell (fun ⟨n, _⟩ hy => S.par n (List.of_mem_zip hy).1) (fun h₁ hns hsb => ⟨lim.fresh _ hsb, ?_⟩) S.kind)
  show codeAny _ _ (.expr bodyE (NdefX.envF F f s.heap.objs.size)) _ _
  have kp : ∀ b o, s.heap.get? b = some o → h₁.get? b = some o := fun b o e => hsb.extBut b o (Nat.ne_of_lt (Heap.lt_size e)) (Heap.get?_push_of_some _ e)
  have I : L2.Inv (NdefX.ncx CX P w K mg base N F f A outer s H E) [] (NdefX.startF N vs ws) H { s with heap := h₁, toks := s.toks + (ps.zip us).length } := NdefX.inv_startN S hr.hd e0 hl r C hns kp
  refine PySem.W.kla_codeExpr (wpAny_mono ((hbody (hr.deeper _)).run [] _ _ H Q I hq) (fun v s' h' => ?_) fun e s' h' => h')
  obtain ⟨w', H', J', rv, q⟩ := h'
  exact ⟨w', H', J'.os, J'.bare, J'.base, J'.hok, rv, q⟩
section
variable {X : Cx} {pins : List (Addr × Obj)} {σ : L2.St}
theorem lam_turn {N fr : List Str} {F : NdefX.NF} {f : Addr} {k : Nat} {bodyE : Expr} {params : Arguments} {pm ctv : Value} {A : Around} {js : List Nat} {tb : TE} {x₀ : Str}
    (S : NdefX.NScope N [x₀] fr F.scope) (hb : ∀ u, bindArgs (PySem.W.kla_fn F.name F.qual params bodyE F.scope F.cl pm (.ref F.c) ctv) ⟨[u], []⟩ = pure ([x₀].zip [u])) (hr : Room (k + 1) A) (hA : A.frames = X.A.frames)
    (cp : X.Ok → NdefX.Caps X F.cl fr js)
    (hbody : ∀ (A : Around) (outer : List PySem.Env) (s : Shared) (H : Hp), Room k (A.deeper (NdefX.envF F f s.heap.objs.size)) → PE (NdefX.ncx L2.CX0 X.prog X.w X.K X.mg X.base N F f A outer s H E0) bodyE tb) :
    TurnOk X pins σ A (.ref f) [(f, PySem.W.kla_obj F.name F.qual params bodyE F.scope F.cl pm F.c ctv)] (fun x H Q => H F.c = some (LamX.CodeO F.c F.qual) ∧ tb (NdefX.startF N [x] (js.map (NdefX.slotAt σ))) H Q) := by
  intro x v H s Qg I kn rx ⟨hc, hq⟩
  obtain ⟨ho, _, _⟩ := kn _ (List.mem_singleton.mpr rfl)
  have e0 : Env0 X.prog X.w X.K X.mg X.base A X.stack s H := ⟨hA.trans I.ok.frames, I.ok.mod, I.bs, Nat.le_trans I.ok.bsz I.sz, I.stack, I.stkFree, I.hok, I.bare⟩
  refine wpAny_call (codeAny_mono (lam_run (CX := L2.CX0) (us := [v]) (vs := [x]) (E := E0) S (hb v) hr e0 ho hc (NdefX.cells_of I (cp I.ok)) (.cons rx .nil) rfl (fun hr' => hbody A X.stack s H hr') hq) fun r s' hq' => ?_)
  cases r with
  | error e => exact (show False from hq').elim
  | ok fl =>
    cases fl with
    | ret u =>
      obtain ⟨y, H', os, bare, un, hok, r, q⟩ := (show CE X.stack X.prog X.w H s Qg u s' from hq')
      have J : EP X pins σ (fun z H2 => z = y ∧ H2 = H' ) u s' := I.after ⟨y, H', os, bare, un, hok, r, rfl, rfl⟩
      obtain ⟨z, H2, J2, r2, e1, e2⟩ := J
      subst e1 e2
      exact ⟨_, _, J2, fun b o e n nb => ⟨un.keep b o e n nb (by simp), un.free b o e n (by simp)⟩, r2, q⟩
    | next => exact False.elim hq'
    | brk => exact False.elim hq'
    | cont => exact False.elim hq'
/-- the items by their keys, stably -/
def sortZ (is : List Int) (xs : List V) : List V := ((is.zip xs).mergeSort fun a b => decide (a.1 ≤ b.1)).map (·.2)
theorem zip_fst : ∀ {is : List Int} {xs : List V}, is.length = xs.length → ((is.zip xs).map fun b => PyData.int b.1) = is.map PyData.int
  | [], [], _ => rfl
  | i :: is, x :: xs, h => by simp [zip_fst (is := is) (xs := xs) (by simpa using h)]
theorem vals_each : ∀ {is : List Int} {xs : List V} {vs : List Value}, is.length = xs.length → Vals xs vs → PySem.W.EachIs (fun (v : Value) (b : Int × V) => L2.RelV b.2 v) vs (is.zip xs)
  | [], _, _, _, .nil => PySem.W.EachIs.nil
  | i :: is, _, _, h, .cons r t => PySem.W.EachIs.cons r (vals_each (by simpa using h) t)
theorem each_vals : ∀ {bs : List (Int × V)} {vs : List Value}, PySem.W.EachIs (fun (v : Value) (b : Int × V) => L2.RelV b.2 v) vs bs → Vals (bs.map (·.2)) vs
  | _, _, .nil => .nil
  | _, _, .cons r t => .cons r (each_vals t)
open PySem.W PySem.Calls in
theorem keyI_tree {s : Shared} {H : Hp} {A : Around} {f : Value} {L : List (Addr × Obj)} {g : V → Hp → VK → Prop} {vs : List Value} {xs : List V} {P : PySem.Fin → Shared → Prop} {E : Value → Shared → Prop} {Q : List Int → Hp → Prop}
    (I : L2.Inv X pins σ H s) (kn : Knows X L H s) (r : Vals xs vs) (hZ : vs.length ≤ sizeLine) (hu : A.units + 64 < cLine) (turn : TurnOk X pins σ A f L g) (q : turnsG g xs H Q)
    (h : ∀ is H' s', is.length = xs.length → Q is H' → H' (s.heap.objs.size + 1) = none → L2.Inv X pins σ (upd H' (s.heap.objs.size + 1) (.lst (sortZ is xs))) s' → P (.done (.ret .none)) s') :
    wpAny (model X.prog X.w) A (ksk_tree (s.heap.objs.size + 1) f false) P E { s with heap := copyHeap s.heap vs } := by
  have ho : (copyHeap s.heap vs).get? (s.heap.objs.size + 1) = some (seqObj "list" vs.toArray 0) := copyHeap_at s.heap vs
  have ha : s.heap.objs.size + 1 < (copyHeap s.heap vs).objs.size := Heap.lt_size ho
  obtain ⟨e1, ho1⟩ : ∃ e1, ((copyHeap s.heap vs).update (s.heap.objs.size + 1) (Obj.mapSeq fun _ => (#[] : Array Value))).get? (s.heap.objs.size + 1) = some (seqObj "list" #[] e1) := ⟨_, get?_update_seq ho fun _ => #[]⟩
  have hkS : (((copyHeap s.heap vs).update (s.heap.objs.size + 1) (Obj.mapSeq fun _ => (#[] : Array Value))).push (seqObj "tuple" vs.toArray 0)).objs.size = (copyHeap s.heap vs).objs.size + 1 := by rw [size_push', Heap.size_update]
  unfold ksk_tree
  refine wpAny_bind (listItems_at ho rfl ?_)
  refine wpAny_bind (listUpdate_at ho rfl ?_ (by rw [List.size_toArray]; exact hZ) (Nat.zero_le _))
  refine wpAny_bind (seqEpoch_at ho1 rfl ?_)
  refine wpAny_bind (wpAny_newTuple ?_ (by show vs.length ≤ _; exact hZ))
  refine wpAny_bind (wpAny_newList ?_ (Nat.zero_le _))
  refine wpAny_holding ?_
  have old : ∀ b o, s.heap.get? b = some o → (sortingHeap (copyHeap s.heap vs) (s.heap.objs.size + 1) vs).get? b = some o := fun b o e => sorting_copy_old e
  have hge : s.heap.objs.size ≤ (((copyHeap s.heap vs).update (s.heap.objs.size + 1) (Obj.mapSeq fun _ => (#[] : Array Value))).push (seqObj "tuple" vs.toArray 0)).objs.size := by rw [hkS]; omega
  have nH : ∀ b, s.heap.objs.size ≤ b → H b = none := fun b hb => I.hok.fresh hb
  have hka : (((copyHeap s.heap vs).update (s.heap.objs.size + 1) (Obj.mapSeq fun _ => (#[] : Array Value))).push (seqObj "tuple" vs.toArray 0)).objs.size ≠ s.heap.objs.size + 1 := by rw [hkS]; omega
  have I2 : L2.Inv X pins σ H { s with heap := sortingHeap (copyHeap s.heap vs) (s.heap.objs.size + 1) vs } := I.kept (t' := s.toks) old
  have hlx : xs.length = vs.length := r.length
  refine keyI_rest (X := X) (pins := pins) (σ := σ) (H := H) (L := L) (g := g) (xs := xs) (vs := vs) (Q := Q) (s := { s with heap := sortingHeap (copyHeap s.heap vs) (s.heap.objs.size + 1) vs }) ⟨I2, fun p hp => ?_, I.fpOk (Nat.le_succ _) (nH _ (Nat.le_succ _)), I.fpOk hge (nH _ hge), ⟨#[], 0, Heap.get?_push_size _ rfl, .nil⟩, Heap.get?_push_of_some _ (Heap.get?_push_of_some _ ho1)⟩
    hka (not_frs I (Nat.le_succ _)) (not_frs I hge) (fun p hp => ?_) r hZ hu turn q fun is H' s' h3 tk c out S hq hl k3 n3 ko => ?_
  · obtain ⟨h1, h2, h3⟩ := kn p hp
    exact ⟨old _ _ h1, h2, h3⟩
  · obtain ⟨h1, _, _⟩ := kn p hp
    exact Nat.ne_of_lt (Nat.lt_of_lt_of_le (Heap.lt_size h1) hge)
  · have hlis : is.length = xs.length := hl.trans hlx.symm
    refine h is H' _ hlis hq S.fa.1 ?_
    have e2 := keyedOut_each (R := fun (v : Value) (b : Int × V) => L2.RelV b.2 v) (bs := is.zip xs) (vs := vs) (out := out) (rev := false) (fun b => PyData.int b.1) (by rw [zip_fst hlis]; exact ko) (vals_each hlis r)
    rw [dataLe_int (fun b : Int × V => b.1)] at e2
    have e3 : Vals (sortZ is xs) out := each_vals e2
    have hz : (sortZ is xs).length ≤ sizeLine := by
      unfold sortZ
      rw [List.length_map, List.length_mergeSort, List.length_zip, hlis, hlx]; omega
    exact turned2 S.inv k3 S.fa S.fk ⟨hz, out, c, e3, n3⟩
end
theorem extN_seq {K : PySem.W.Frag} {H H' : Hp} {a : Addr} {xs : List V} (e : LamX.ExtN H H') (h : SqL K H a xs) : SqL K H' a xs := by
  rcases h with (h | ⟨o, h⟩) | h
  · exact .inl (.inl (e _ _ h fun _ z => nomatch z))
  · exact .inl (.inr ⟨o, e _ _ h fun _ z => nomatch z⟩)
  · exact .inr h
abbrev lamF (X : Cx) (params : Arguments) (scope : Scope) (c' : Addr) : NdefX.NF := ⟨"<lambda>", X.env.qual ++ "<lambda>", params, [], scope, cloFrom X.env.cells scope.names [], c'⟩
/-- sorted(xs, key=lambda x: b): q the lambda's name, N its names, js where the captured ones stand -/
def tSortL (K : PySem.W.Frag) (T : List (Addr × Str)) (q : Str) (N : List Str) (js : List Nat) (ta : TA) (tb : TE) : TE := fun σ H Q => ta σ H fun vs H1 => ∃ a xs, vs = [.ref a] ∧ LamX.Tabs T H1 ∧ SqL K H1 a xs ∧
  ∀ c' H2, LamNew T q H1 H2 c' → turnsG (fun x H' Q' => H' c' = some (LamX.CodeO c' q) ∧ tb (NdefX.startF N [x] (js.map (NdefX.slotAt σ))) H' Q') xs H2 fun is H3 => is.length = xs.length → ∀ l, H3 l = none → Q (.ref l) (upd H3 l (.lst (sortZ is xs)))
section
variable {X : Cx}
theorem pe_sortLam {T : List (Addr × Str)} {c P : Addr} {params : Arguments} {body e : Expr} {scope : Scope} {x₀ : Str} {N fr : List Str} {js : List Nat} {k : Nat} {ta : TA} {tb : TE} {p lpos kpos pos : Pos}
    (hg : Gl X "sorted") (hm : X.mg "sorted" = none) (hv : bootBuiltins "sorted" = some (.builtin "sorted")) (ha : PA X [e] ta) (TB : LamX.TabB X.base X.mg c P) (hcode : X.env.code = .ref c) (hmT : (P, X.env.qual ++ "<lambda>") ∈ T) (hu : ∀ p ∈ T, p.1 = P → p.2 = X.env.qual ++ "<lambda>")
    (S : NdefX.NScope N [x₀] fr scope) (hfree : ∀ y ∈ scope.names, y.2 = .free → X.env.scope.names.lookup y.1 = some .cell ∨ X.env.scope.names.lookup y.1 = some .free) (hfr : ∀ y ∈ fr, (y, NameKind.free) ∈ scope.names) (hjs : js.map (fun j => X.N[j]?) = fr.map some)
    (hr : Room (k + 3) X.A) (hdef : defaultsOf params X.env = ([], []))
    (hb : ∀ (q : Str) (cl : List (Str × Addr)) (pm cv ctv u : Value), bindArgs (PySem.W.kla_fn "<lambda>" q params body scope cl pm cv ctv) ⟨[u], []⟩ = pure ([x₀].zip [u]))
    (hbody : ∀ (A : Around) (outer : List PySem.Env) (s : Shared) (H : Hp) (f c' : Addr), Room k (A.deeper (NdefX.envF (lamF X params scope c') f s.heap.objs.size)) → PE (NdefX.ncx L2.CX0 X.prog X.w X.K X.mg X.base N (lamF X params scope c') f A outer s H E0) body tb)
    (he : backTo pos (starEach [e] X.env) = (false, eval e X.env) :: backTo pos (starEach [] X.env) := by rfl) (hpl : (backTo pos (starEach [e] X.env)).any (·.1) = false := by rfl) :
    PE X (.Call (.Name "sorted" p) [e] [⟨some "key", .Lambda params body scope lpos, kpos⟩] pos) (tSortL X.K T (X.env.qual ++ "<lambda>") N js ta tb) := by
  refine ⟨fun pins s σ H Q I h => ?_⟩
  refine wpAny_Call_Name_kw (ld_blt I hg hm hv ?_ (by decide) (by decide))
  refine PyProof.Rows.callWith_kw (thn (ha.run pos pins _ σ H _ (I.tok _) h) fun us s1 ⟨vs, H1, I1, r1, a, xs, ev, hT, hs, q⟩ => ?_) he hpl
  subst ev
  obtain ⟨u, rfl, ru⟩ := vals1 r1
  cases (show u = Value.ref a from ru)
  have hfr' : ∀ y ∈ scope.names, y.2 = .free → ∃ c, X.env.cells.lookup y.1 = some c := fun y hy e => (hfree y hy e).elim (fun z => I.ok.has _ (.inl z)) fun z => I.ok.has _ (.inr z)
  show wpAny _ _ (evalAll [do let v ← eval (.Lambda params body scope lpos) X.env; standAt pos; pure v]) _ _ s1
  refine wpAny_evalAll_cons (wpAny_bind (lam_make3 I1 TB hcode hmT hu hT hdef hfr' fun f c' pm ctv H2 s2 I2 ln hf hfn hfrs => wpAny_bind (wpAny_standAt (wpAny_pure (wpAny_evalAll_nil ?_)))))
  show wpAny _ _ (call (.builtin "sorted") [.ref a] [(Str.ofString "key", .ref f)]) _ _ s2
  obtain ⟨its, rv, pl, hz⟩ := I2.list (extN_seq ln.ext hs)
  have hzi : its.length ≤ sizeLine := by rw [← rv.length]; exact hz
  have hr2 : Room (k + 1) X.A.in1.in1 := (hr.in1).in1
  have turn := lam_turn (X := X) (pins := pins) (σ := σ) (F := lamF X params scope c') (f := f) (js := js) (fr := fr) (N := N) (pm := pm) (ctv := ctv) (params := params) (bodyE := body) (tb := tb) (A := X.A.in1.in1) S (fun u => hb _ _ _ _ _ u) hr2 rfl
    (fun ok => NdefX.Caps.made ok hfree hfr hjs) (fun A outer s H hr' => hbody A outer s H f c' hr')
  refine PySem.W.sorted_of_sort pl.isList hzi (PyProof.Rows.ksk_s1 _ _) (fun _ => PyProof.Rows.ksk_l1 _ _) fun E' => ?_
  rw [PyProof.Rows.ksk_t1]
  refine keyI_tree (X := X) (pins := pins) (σ := σ) (H := H2) I2 (L := _) (fun p hp => ?_) rv hzi (by have := hr2.un; omega) turn (q c' H2 ln) fun is H' s' hl hq hn J => ⟨rfl, ⟨.ref (s2.heap.objs.size + 1), _, J, rfl, hq hl _ hn⟩⟩
  cases List.mem_singleton.mp hp
  exact ⟨hf, hfn, hfrs⟩
end
end DL
set_option Elab.async false
set_option linter.all false
set_option maxRecDepth 100000
set_option maxHeartbeats 4000000
/-! DL7: more statements. -/
namespace DL
open PySem PySem.Spec PyProof.Rows L2
variable [tsp : TabSpec]
section
variable {c : Ctx} {ρ : Env} {D : Ends} {te ta tb : TE} {tt : TT} {u tu : TS} {tas : TA} {r ra rb rc : R} {rs : List R} {i : Nat} {b : Bool}
/-- a test that fails: on -/
theorem q_no (h : EvT c tt ρ b) (e : b = false) (k : Go c u ρ D) : Go c (tSeq (tIfS tt tu tNext) u) ρ D := q_ifT h (fun z => by rw [e] at z; cases z) fun _ => go_next (D := { D with nx := u D }) (nx_go k)
theorem q_no1 (h : EvT c tt ρ b) (e : b = false) (k : Nx c D.nx ρ) : Go c (tIfS tt tu tNext) ρ D := go_ifT h (fun z => by rw [e] at z; cases z) fun _ => go_next k
/-- a test, the block ends by a return -/
theorem q_may (h : EvT c tt ρ b) (h1 : b = true → Go c tu ρ { D with nx := u D }) (k : b = false → Go c u ρ D) : Go c (tSeq (tIfS tt tu tNext) u) ρ D := q_ifT h h1 fun e => go_next (D := { D with nx := u D }) (nx_go (k e))
theorem q_drop (h : Ev c te ρ r) (k : Go c u ρ D) : Go c (tSeq (tDrop te) u) ρ D := go_seq (go_drop h (nx_go k))
/-- e of an R that may be this or that -/
theorem ev_ex {α : Type} {Pa : α → Prop} {f : α → R} (x : α) (h : Pa x) (e : Ev c te ρ (f x)) : Ev c te ρ (exR Pa f) := ev_weak e fun v G q => ⟨x, h, q⟩
/-- a def that ends with None -/
theorem nx_non (k : ∀ H, D.rt .non H → ∀ σ, D.nx σ H) (hr : Rets c D RNon) : Nx c D.nx ρ := fun σ G H F S => k _ (hr _ _ _ S.ext rfl) σ
theorem eaOf {r : R} (h : Ev c te ρ r) : EvA c (tCons te tNil) ρ [r] := ea_cons h ea_nil
theorem Nx.inv {N : L2.St → Hp → Prop} {I : Nat → Env → Prop} {i : Nat} (e : N = inv c I i) (h : I i ρ) : Nx c N ρ := e ▸ nx_inv h
end
end DL
set_option Elab.async false
set_option linter.all false
set_option maxRecDepth 100000
set_option maxHeartbeats 4000000
/-! DL8: locks, values of a locked dict. -/
namespace DL
open PySem PySem.Spec PyProof.Rows L2
variable [tsp : TabSpec]
/-- neither a table nor a thing told by a def of one's own -/
def Dat2 : HO → Prop
  | .tbl _ => False
  | .ext _ => False
  | _ => True
theorem Dat.two {o : HO} (h : Dat o) : Dat2 o := by cases o <;> first | trivial | exact h
theorem tab_put2 {H : Hp} {p : Addr} {o o' : HO} (hp : H p = some o') (hd : Dat2 o') {T : List (Addr × Str)} : LamX.Tabs T H → LamX.Tabs T (upd H p o) := fun t x hx => by
  obtain ⟨ps, h1, h2, h3⟩ := t x hx
  refine ⟨ps, ?_, h2, fun pos cv hc => ?_⟩
  · rw [upd_ne (fun z => by subst z; rw [h1] at hp; cases hp; exact hd)]; exact h1
  · obtain ⟨c, e1, e2⟩ := h3 pos cv hc
    refine ⟨c, e1, ?_⟩
    rw [upd_ne (fun z => by subst z; rw [e2] at hp; cases hp; exact hd)]; exact e2
/-- a locked thing -/
def RFz (u : HO) : R := ⟨fun v G => ∃ d o, v = .ref d ∧ G d = some (.frz o u), fun e ⟨d, o, h1, h2⟩ => ⟨d, o, h1, e _ _ h2⟩⟩
/-- an expression that runs while d is locked -/
theorem lockE_run {te : TE} {K : PySem.W.Frag} {N : List Str} {vs : List V} {rs : List R} {r : R} {G H : Hp} {d : Addr} {u : HO} (e : Le G H) (hu : G d = some u) (dd : Dat u) (hm : Mut (some u)) (q : ∀ od, Reps rs vs (upd G d (.frz od u)))
    (sc : Sc r) (h : ∀ c : Ctx, c.K = K → Ev c te (rs.map (fun r => some (im r)) ++ List.replicate (N.length - rs.length) none) r) {Q : VK} (k : ∀ v G' H', Ext noB G H G' H' → r.p v G' → Q v H') : tLockE te (L2.start N vs) H Q := by
  refine ⟨d, u, e _ _ hu, hm, fun od => ?_⟩
  have hHd : H d = some u := e _ _ hu
  have e1 : Le (upd G d (.frz od u)) (upd H d (.frz od u)) := ⟨fun a o z => by
    by_cases y : a = d
    · subst y; rw [upd_same] at z ⊢; exact z
    · rw [upd_ne y] at z ⊢; exact e _ _ z, e.nt.upd (fun _ z => by cases z), tab_put2 hHd dd.two e.tb⟩
  refine h ⟨K, noB, upd G d (.frz od u), upd H d (.frz od u), [], []⟩ rfl _ _ _ _ (Sta.start e1 (q od)) _ fun v G2 H2 F2 S2 n2 qv => ?_
  have x : Ext noB (upd G d (.frz od u)) (upd H d (.frz od u)) G2 H2 := S2.ext
  have h2 : H2 d = some (.frz od u) := x.keep d _ (fun z => z) (fun _ z => by cases z) upd_same
  refine ⟨h2, k v G _ ⟨fun a o _ nt z => ?_, fun a z => ?_, Same.refl _, ⟨fun a o z => ?_, e.nt, tab_put2 h2 trivial x.le.tb⟩, fun a _ g => g, fun t => tab_put2 h2 trivial x.le.tb⟩ (sc _ _ _ qv)⟩
  · by_cases y : a = d
    · subst y; rw [upd_same, ← hHd]; exact z
    · rw [upd_ne y]; exact x.keep a o (fun z => z) nt (by rw [upd_ne y]; exact z)
  · by_cases y : a = d
    · subst y; rw [upd_same] at z; cases z
    · rw [upd_ne y] at z
      have := x.live a z
      rwa [upd_ne y] at this
  · by_cases y : a = d
    · subst y; rw [upd_same, ← hu]; exact z
    · rw [upd_ne y]; exact x.le _ _ (x.sub _ _ (by rw [upd_ne y]; exact z))
theorem dw_vals {kvs : List (Key × R)} {xs : List (Key × V)} {G : Hp} {d : Addr} {o : Obj} (h : G d = some (.frz o (.dK xs))) (q : KReps kvs xs G) : DW (Itd d o xs) (kvs.map (·.2)) G where
  goes := fun i H hi s => ⟨s _ _ h, by rw [← q.length]; simpa using hi⟩
  stops := fun H s => ⟨s _ _ h, by rw [← q.length]; simp⟩
  yields := fun i G2 H x H' r s1 s2 hr y => by
    obtain ⟨rfl, k, hk⟩ := y
    refine ⟨G2, Ext.refl s2, ?_⟩
    simp only [List.getElem?_map, Option.map_eq_some_iff] at hr
    obtain ⟨p, hp, rfl⟩ := hr
    have : ∀ {kvs : List (Key × R)} {xs : List (Key × V)} {i : Nat}, KReps kvs xs G → kvs[i]? = some p → xs[i]? = some (k, x) → p.2.p x G := by
      intro kvs xs i q
      induction q generalizing i with
      | nil => intro z; cases z
      | cons q _ ih =>
        cases i with
        | zero => intro z y; cases z; cases y; exact q.2
        | succ i => exact ih
    exact p.2.mono s1 (this q hp hk)
theorem dw_valsT {kvs : List (List Key × R)} {xs : List (List Key × V)} {G : Hp} {d : Addr} {o : Obj} (h : G d = some (.frz o (.dT xs))) (q : KReps kvs xs G) : DW (ItdT d o xs) (kvs.map (·.2)) G where
  goes := fun i H hi s => ⟨s _ _ h, by rw [← q.length]; simpa using hi⟩
  stops := fun H s => ⟨s _ _ h, by rw [← q.length]; simp⟩
  yields := fun i G2 H x H' r s1 s2 hr y => by
    obtain ⟨rfl, k, hk⟩ := y
    refine ⟨G2, Ext.refl s2, ?_⟩
    simp only [List.getElem?_map, Option.map_eq_some_iff] at hr
    obtain ⟨p, hp, rfl⟩ := hr
    have : ∀ {kvs : List (List Key × R)} {xs : List (List Key × V)} {i : Nat}, KReps kvs xs G → kvs[i]? = some p → xs[i]? = some (k, x) → p.2.p x G := by
      intro kvs xs i q
      induction q generalizing i with
      | nil => intro z; cases z
      | cons q _ ih =>
        cases i with
        | zero => intro z y; cases z; cases y; exact q.2
        | succ i => exact ih
    exact p.2.mono s1 (this q hp hk)
theorem kreps_ints {κ : Type} {G : Hp} : ∀ ns : List (κ × Int), KReps (ns.map fun p => (p.1, RInt p.2)) (ns.map fun p => (p.1, V.int p.2)) G
  | [] => .nil
  | _ :: ns => .cons ⟨rfl, rfl⟩ (kreps_ints ns)
section
variable {c : Ctx} {ρ : Env} {td : TE}
/-- the values of a locked dict: numbers -/
theorem ei_vals {ns : List (Key × Int)} (h : Ev c td ρ (RFz (.dK (ns.map fun p => (p.1, V.int p.2))))) : EvI c (iVals td) ρ (lI (ns.map (·.2))) := fun σ G H F S Rk k => by
  refine h σ G H F S _ fun v G1 H1 F1 S1 n1 ⟨d, o, hv, hd⟩ => ⟨d, o, _, hv, S1.le _ _ hd, ?_⟩
  have := dw_vals hd (kreps_ints ns)
  refine k _ _ _ _ S1 n1 ?_
  simp only [List.map_map] at this
  simp only [lI, List.map_map]
  exact this
theorem ei_valsT {ns : List (List Key × Int)} (h : Ev c td ρ (RFz (.dT (ns.map fun p => (p.1, V.int p.2))))) : EvI c (iValsT td) ρ (lI (ns.map (·.2))) := fun σ G H F S Rk k => by
  refine h σ G H F S _ fun v G1 H1 F1 S1 n1 ⟨d, o, hv, hd⟩ => ⟨d, o, _, hv, S1.le _ _ hd, ?_⟩
  have := dw_valsT hd (kreps_ints ns)
  refine k _ _ _ _ S1 n1 ?_
  simp only [List.map_map] at this
  simp only [lI, List.map_map]
  exact this
/-- numbers, each by itself, in a comprehension -/
theorem evn_ints {j : Nat} {ns : List Int} {wi : TI} (hj : ρ[j]? = some none) (hi : EvI c wi ρ (lI ns)) (hb : ns.length < 100000) : EvN c (tLc wi (gName j) tYes (tVar j) [j]) ρ (lI ns) :=
  evn_map hj hi rfl (by simpa using hb) fun Gl i r hr => ⟨r, hr, ev_var (by rw [List.getElem?_set_self (List.getElem?_eq_some_iff.mp hj).1])⟩
end
/-- a new tuple -/
def RTp (rs : List R) : R := ⟨fun v G => ∃ a xs, v = .ref a ∧ G a = some (.tup xs) ∧ Reps rs xs G, fun e ⟨a, xs, h1, h2, h3⟩ => ⟨a, xs, h1, e _ _ h2, h3.mono e⟩⟩
theorem RTp.tup {K : PySem.W.Frag} {rs : List R} {v : V} {G : Hp} (h : (RTp rs).p v G) : (RTup K rs).p v G := by
  obtain ⟨a, xs, h1, h2, h3⟩ := h
  exact ⟨a, xs, h1, .of h2, h3⟩
theorem reps_keys : ∀ {ks : List Str} {xs : List V} {G : Hp}, Reps (lS ks) xs G → xs = (ks.map (Sum.inr : Str → Key)).map kV
  | [], _, _, h => by cases h; rfl
  | n :: ns, _, _, h => by
    cases h with
    | cons q t => rw [reps_keys t]; rw [show _ = V.str n from q]; rfl
section
variable {c : Ctx} {ρ : Env} {tas : TA} {td ty : TE} {rs : List R}
theorem ev_tp (ha : EvA c tas ρ rs) (hl : rs.length ≤ 100000) : Ev c (tTup tas) ρ (RTp rs) := fun σ G H F S Q k => by
  refine ha σ G H F S _ fun xs G1 H1 F1 S1 n1 qs => ?_
  refine ⟨sz_ok (by rw [← qs.length]; exact hl), fun p hp => ?_⟩
  have e : Ext noB G1 H1 (upd G1 p (.tup xs)) (upd H1 p (.tup xs)) := Ext.laid S1.le hp
  exact k _ _ _ F1 (S1.step e) (n1.trans (Nxt.of e)) ⟨p, xs, rfl, upd_same, qs.mono e.sub⟩
/-- a dict with tuple keys, concrete -/
def RDTV (xs : List (List Key × V)) : R := ⟨fun v G => ∃ a, v = .ref a ∧ G a = some (.dT xs), fun e ⟨a, h1, h2⟩ => ⟨a, h1, e _ _ h2⟩⟩
theorem ev_dinT {ks : List Str} {xs : List (List Key × V)} (hy : Ev c ty ρ (RTp (lS ks))) (hd : Ev c td ρ (RDTV xs)) : Ev c (tDIn ty td) ρ (RBl (valV xs (ks.map Sum.inr)).isSome) := fun σ G H F S Q k => by
  refine hy σ G H F S _ fun v G1 H1 F1 S1 n1 ⟨b, ys, e1, e2, e3⟩ => ?_
  refine hd σ G1 H1 F1 S1 _ fun u G2 H2 F2 S2 n2 ⟨a, e4, e5⟩ => ?_
  refine ⟨a, _, e4, .inr ⟨xs, ks.map Sum.inr, b, .inl (S2.le _ _ e5), e1, ?_, rfl⟩, k _ G2 H2 F2 S2 (n1.trans n2) rfl⟩
  rw [← reps_keys e3]
  exact S2.le _ _ (n2.sub _ _ e2)
theorem rv_lenDT {xs : List (List Key × V)} : RVc rLenDT [RDTV xs] (RInt (xs.length : Nat)) := fun vs G H e q Q k => by
  obtain ⟨v, rfl, a, rfl, h2⟩ := reps_one q
  exact ⟨a, xs, rfl, e _ _ h2, k _ G H (Ext.refl e) rfl⟩
theorem rv_lenD {kvs : List (Key × R)} : RVc rLenD [RDic kvs] (RInt (kvs.length : Nat)) := fun vs G H e q Q k => by
  obtain ⟨v, rfl, q1⟩ := reps_one q
  obtain ⟨a, xs, rfl, h1, h2⟩ := RDic.out q1
  exact ⟨a, xs, rfl, e _ _ h1, k _ G H (Ext.refl e) (by rw [h2.length]; rfl)⟩
/-- list(d): the keys -/
theorem rn_listD {kvs : List (Key × R)} {ks : List Str} (hk : kvs.map (·.1) = ks.map Sum.inr) : RVcN rListOfD [RDic kvs] (lS ks) := fun vs G H e q Q k => by
  obtain ⟨v, rfl, q1⟩ := reps_one q
  obtain ⟨a, xs, rfl, h1, h2⟩ := RDic.out q1
  have ex : xs.map (·.1) = ks.map (Sum.inr : Str → Key) := by
    rw [← hk]; clear hk h1 q1 q
    induction h2 with
    | nil => rfl
    | cons q _ ih => rw [List.map_cons, List.map_cons, ih, q.1]
  refine ⟨a, xs, rfl, .inl (e _ _ h1), fun p hp => k p _ hp ?_⟩
  have : (xs.map fun kv => kV kv.1) = ks.map V.str := by
    have := congrArg (List.map kV) ex
    rw [List.map_map, List.map_map] at this
    exact this
  rw [this]
  exact strs_reps ks
end
/-! own things of many addresses -/
section
variable {c : Ctx} {ρ : Env} {σ : L2.St} {G H : Hp} {F : Nat → Addr → Prop} {i : Nat}
theorem Sta.letgo (S : Sta c ρ σ G H F) {x : Option V} : Sta c (ρ.set i none) (σ.set i x) G H (fun j a => j ≠ i ∧ F j a) := by
  have S1 : Sta c (ρ.set i none) (σ.set i x) G H F := S.forget
  exact ⟨S1.ext, S1.len, fun j s e => by
    by_cases q : j = i
    · subst q
      by_cases hi : j < ρ.length
      · rw [List.getElem?_set_self hi] at e; cases e
      · rw [List.getElem?_eq_none (by rw [List.length_set]; omega)] at e; cases e
    · obtain ⟨v, h1, h2⟩ := S1.at_ j s e
      have eF : (fun a => j ≠ i ∧ F j a) = F j := funext fun a => propext ⟨fun z => z.2, fun z => ⟨q, z⟩⟩
      exact ⟨v, h1, by rw [eF]; exact h2⟩, fun j k a x y => S1.dis j k a x.2 y.2, fun j a x => S1.out j a x.2, S1.pin⟩
/-- a slot gets an own thing -/
theorem Sta.setOwn (S : Sta c ρ σ G H F) (hi : i < ρ.length) {v : V} {s : SP} {F0 : Addr → Prop} (hF : ∀ a, F0 a → G a = none ∧ Held H a ∧ c.H0 a = none ∧ ∀ j, ¬ F j a) (h : s.p v G H F0) : Sta c (ρ.set i (some s)) (σ.set i (some v)) G H (fun j a => if j = i then F0 a else F j a) := by
  have S2 := S.letgo (i := i) (x := some v)
  refine ⟨S2.ext, by rw [S2.len]; simp, fun j t e => ?_, fun j k a x y => ?_, fun j a x => ?_, S2.pin⟩
  · by_cases z : j = i
    · subst z
      rw [List.getElem?_set_self hi] at e
      cases e
      have eF : (fun a => if j = j then F0 a else F j a) = F0 := funext fun a => if_pos rfl
      refine ⟨v, List.getElem?_set_self (by rw [S.len]; exact hi), ?_⟩
      rw [eF]; exact h
    · rw [List.getElem?_set_ne (Ne.symm z)] at e
      obtain ⟨u, h1, h2⟩ := S.at_ j t e
      have eF : (fun a => if j = i then F0 a else F j a) = F j := funext fun a => if_neg z
      exact ⟨u, by rw [List.getElem?_set_ne (Ne.symm z)]; exact h1, by rw [eF]; exact h2⟩
  · by_cases zj : j = i
    · by_cases zk : k = i
      · rw [zj, zk]
      · rw [if_pos zj] at x; rw [if_neg zk] at y; exact absurd y ((hF a x).2.2.2 k)
    · by_cases zk : k = i
      · rw [if_neg zj] at x; rw [if_pos zk] at y; exact absurd x ((hF a y).2.2.2 j)
      · rw [if_neg zj] at x; rw [if_neg zk] at y; exact S.dis j k a x y
  · by_cases zj : j = i
    · rw [if_pos zj] at x
      obtain ⟨h1, h2, h3, _⟩ := hF a x
      exact ⟨h1, h2, .inr h3⟩
    · rw [if_neg zj] at x; exact S.out j a x
theorem set_same (S : Sta c ρ σ G H F) {v : V} (h : σ[i]? = some (some v)) : σ.set i (some v) = σ := by
  apply List.ext_getElem?
  intro j
  by_cases z : j = i
  · subst z
    rw [List.getElem?_set_self (List.getElem?_eq_some_iff.mp h).1, h]
  · rw [List.getElem?_set_ne (Ne.symm z)]
end
/-! may-be things -/
def SubR (r r' : R) : Prop := ∀ v G, r.p v G → r'.p v G
theorem SubR.refl (r : R) : SubR r r := fun _ _ h => h
theorem sub_ex {α : Type} {Pa : α → Prop} {f : α → R} {r : R} (x : α) (h : Pa x) (e : SubR r (f x)) : SubR r (exR Pa f) := fun v G q => ⟨x, h, e v G q⟩
def AllSub : List R → R → Prop
  | [], _ => True
  | r :: rs, rc => SubR r rc ∧ AllSub rs rc
theorem AllSub.at : ∀ {rs : List R} {rc r : R} {i : Nat}, AllSub rs rc → rs[i]? = some r → SubR r rc
  | [], _, _, _, _, h => by simp at h
  | x :: rs, rc, r, 0, ⟨h, _⟩, e => by cases e; exact h
  | x :: rs, rc, r, i + 1, ⟨_, h⟩, e => AllSub.at h e
/-- a list indexed by a digit -/
theorem rv_ixD {K : PySem.W.Frag} {rs : List R} {rc : R} {n : Int} (h : AllSub rs rc) (hn : n ≤ rs.length) : RV2 (rIxL K) (RLst rs) (exR (fun d : Int => 0 ≤ d ∧ d < n) RInt) rc := fun x y G H e hx ⟨d, ⟨h0, h1⟩, hy⟩ Q k => by
  have hl : d.toNat < rs.length := by omega
  have e1 : rs[d.toNat]? = some rs[d.toNat] := List.getElem?_eq_getElem hl
  exact rv_ixL (atI_int h0 e1) x y G H e hx hy Q fun z G' H' e' q => k z G' H' e' (h.at e1 z G' q)
theorem spokB_ex {α : Type} {Pa : α → Prop} {f : α → R} {sp : Sp} {P : HK} {rs : List R} {rc : R} (h : ∀ x, Pa x → SpOkB P sp (f x :: rs) rc) : SpOkB P sp (exR Pa f :: rs) rc := fun E st o ws G H e g ho hP q Q k => by
  cases q with
  | cons qx qs =>
    obtain ⟨x, px, qx⟩ := qx
    exact h x px E st o _ G H e g ho hP (.cons qx qs) Q k
theorem spokB_weak {sp : Sp} {P : HK} {rs : List R} {rc rc' : R} (h : SpOkB P sp rs rc) (w : SubR rc rc') : SpOkB P sp rs rc' := fun E st o ws G H e g ho hP q Q k => h E st o ws G H e g ho hP q Q fun v G' H' o' x g' h' p' qv => k v G' H' o' x g' h' p' (w v G' qv)
section
variable {c : Ctx} {ρ : Env} {σ : L2.St} {G H : Hp} {F : Nat → Addr → Prop} {i : Nat}
/-- one of the things that slot i owns is changed -/
theorem Sta.own_upd (S : Sta c ρ σ G H F) {s s' : SP} {v : V} {q : Addr} {old o' : HO} (hi : ρ[i]? = some (some s)) (h1 : σ[i]? = some (some v)) (hq : F i q) (ho : H q = some old) (d : Dat old) (d' : Dat o') (h : s'.p v G (upd H q o') (F i)) : ∃ F', Sta c (ρ.set i (some s')) σ G (upd H q o') F' := by
  have hl : i < ρ.length := (List.getElem?_eq_some_iff.mp hi).1
  have gq := (S.out i q hq).1
  have S1 := S.turn (i := i) (v := v) (s := s') (G' := G) (H' := upd H q o') (F' := F i) hl
    ⟨fun a _ e => by rw [upd_ne (fun z => by subst z; rw [gq] at e; cases e)]; exact S.le _ _ e, S.le.nt, tab_put ho d S.le.tb⟩
    (Same.refl _) (tab_put ho d) (fun a _ n _ e => by rw [upd_ne (fun z => by subst z; exact n hq)]; exact e)
    (fun a e => by
      by_cases z : a = q
      · subst z; rw [upd_same] at e; cases e
      · rw [upd_ne z] at e; exact e)
    (fun a _ g => g) (fun a e => ⟨.inl e, by
      by_cases z : a = q
      · subst z; exact ⟨o', upd_same, d'⟩
      · obtain ⟨u, hu, du⟩ := (S.out i a e).2.1
        exact ⟨u, by rw [upd_ne z]; exact hu, du⟩, (S.out i a e).1⟩) h
  rw [set_same S h1] at S1
  exact ⟨_, S1⟩
end
end DL
set_option Elab.async false
set_option linter.all false
set_option maxRecDepth 100000
set_option maxHeartbeats 4000000
/-! DL9: pop, == of data, slices, in, index, sorted pairs. -/
namespace DL
open PySem PySem.Spec PyProof.Rows L2
variable [tsp : TabSpec]
section
variable {c : Ctx} {ρ : Env} {D : Ends} {te tn ta to : TE} {u : TS} {rs : List R} {r : R} {i j : Nat} {K : PySem.W.Frag}
/-- x = xs.pop(k), k one of the places -/
theorem go_popX (hi : ρ[i]? = some (some (ownL rs))) (hj : j < ρ.length) (h : Ev c te ρ (exR (fun d : Int => 0 ≤ d ∧ d < rs.length) RInt)) (hl : rs.length ≤ 100000)
    (kx : ∀ k r, rs[k]? = some r → Nx c D.nx ((ρ.set i (some (ownL (rs.eraseIdx k)))).set j (some (im r)))) : Go c (tAsg (tBM K "list" rPopAt (tVar i) (tCons te tNil)) (gName j)) ρ D := fun σ G H F S => by
  obtain ⟨v, h1, p, _, rfl, h2, ⟨xs, rfl, h3⟩, h4⟩ := S.at_ i _ hi
  refine ⟨_, h1, .inl ⟨rfl, xs, .inl (.inl h2)⟩, ?_⟩
  refine h σ G H F S _ fun y G1 H1 F1 S1 n1 ⟨d, hd, qy⟩ => ?_
  obtain rfl : y = .int d := qy
  obtain ⟨v', g1, p', _, e', g2, ⟨xs', rfl, g3⟩, g4⟩ := S1.at_ i _ hi
  rw [h1] at g1; cases g1; cases e'
  have hk : d.toNat < rs.length := by omega
  obtain ⟨x, hx, qx⟩ := g3.get (List.getElem?_eq_getElem hk)
  refine ⟨p, xs', d, d.toNat, x, rfl, rfl, g2, by omega, by omega, ?_, hx, ?_⟩
  · unfold seqIndex?
    have hd0 : ¬ d < 0 := by omega
    simp only [if_neg hd0]
    rw [if_pos]
    rw [← g3.length]
    simp; omega
  obtain ⟨F', S2⟩ := S1.own_put hi h1 ((g4 p).mpr rfl) (P' := HL (rs.eraseIdx d.toNat)) ⟨_, rfl, g3.eraseIdx⟩
  exact kx d.toNat _ (List.getElem?_eq_getElem hk) _ _ _ _ (S2.set (by rw [List.length_set]; exact hj) qx)
/-! == of data -/
def DpR (K : PySem.W.Frag) (r : R) (d : PyData) : Prop := ∀ v G H, Same G H → r.p v G → Dp K H v d
theorem dp_str {s : Str} : DpR K (RStr s) (.str s) := fun v G H _ h => by rw [show v = _ from h]; exact .str s
theorem dp_int {s : Int} : DpR K (RInt s) (.int s) := fun v G H _ h => by rw [show v = _ from h]; exact .int s
theorem dp_non : DpR K RNon .none := fun v G H _ h => by rw [show v = _ from h]; exact .non
def DpsR (K : PySem.W.Frag) (rs : List R) (ds : List PyData) : Prop := Paired (fun r d => DpR K r d) rs ds
theorem dps_all {rs : List R} {ds : List PyData} (h : DpsR K rs ds) : ∀ {xs : List V} {G H : Hp}, Same G H → Reps rs xs G → DpAll K H xs ds := by
  induction h with
  | nil => intro xs G H _ q; cases q; exact .nil
  | cons h _ ih => intro xs G H e q; cases q with | cons q t => exact .cons (h _ _ _ e q) (ih e t)
theorem dp_lst {rs : List R} {ds : List PyData} (h : DpsR K rs ds) : DpR K (RLst rs) (.list ds) := fun v G H e q => by
  obtain ⟨a, xs, rfl, h1, h2⟩ := RLst.out q
  exact .lst (.of (e _ _ h1)) (dps_all h e h2)
theorem dp_tup {rs : List R} {ds : List PyData} (h : DpsR K rs ds) : DpR K (RTup K rs) (.tuple ds) := fun v G H e ⟨a, xs, e1, h1, h2⟩ => by
  subst e1
  exact .tup (sqt_same e h1) (dps_all h e h2)
theorem dps_strs : ∀ ns : List Str, DpsR K (lS ns) (ns.map PyData.str)
  | [] => .nil
  | _ :: ns => .cons dp_str (dps_strs ns)
theorem dps_ints : ∀ ns : List Int, DpsR K (lI ns) (ns.map PyData.int)
  | [] => .nil
  | _ :: ns => .cons dp_int (dps_ints ns)
theorem rv_eqD {ra rb : R} {da db : PyData} (ha : DpR K ra da) (hb : DpR K rb db) (sa : SeqAt.shaped da = true) (sb : SeqAt.shaped db = true) : RV2 (rEqD K) ra rb (RBl (PyData.eqv da db)) := fun x y G H e hx hy Q k =>
  ⟨da, db, ha _ _ _ e.same hx, hb _ _ _ e.same hy, sa, sb, k _ G H (Ext.refl e) rfl⟩
theorem rv_neD {ra rb : R} {da db : PyData} (ha : DpR K ra da) (hb : DpR K rb db) (sa : SeqAt.shaped da = true) (sb : SeqAt.shaped db = true) : RV2 (rNeD K) ra rb (RBl (!PyData.eqv da db)) := fun x y G H e hx hy Q k =>
  ⟨da, db, ha _ _ _ e.same hx, hb _ _ _ e.same hy, sa, sb, k _ G H (Ext.refl e) rfl⟩
theorem shaped_strs {ns : List Str} (h : ∀ s ∈ ns, PyData.strOk s = true) : SeqAt.shaped (.list (ns.map PyData.str)) = true ∧ PyData.canLayAll0 (ns.map PyData.str) = true ∧ PyData.depthAll (ns.map PyData.str) = 0 := by
  have h1 : PyData.canLayAll0 (ns.map PyData.str) = true := by
    induction ns with
    | nil => rfl
    | cons s ns ih =>
      show (PyData.strOk s && PyData.canLayAll0 (ns.map PyData.str)) = true
      rw [h s (by simp), ih fun t ht => h t (.tail _ ht)]; rfl
  have h2 : PyData.depthAll (ns.map PyData.str) = 0 := by
    clear h h1
    induction ns with
    | nil => rfl
    | cons s ns ih =>
      show max 0 (PyData.depthAll (ns.map PyData.str)) = 0
      rw [ih]; rfl
  refine ⟨?_, h1, h2⟩
  show (PyData.canLayAll0 (ns.map PyData.str) && decide (PyData.depthAll (ns.map PyData.str) + 1 ≤ 64)) = true
  rw [h1, h2]; rfl
theorem shaped_ints (ns : List Int) : SeqAt.shaped (.list (ns.map PyData.int)) = true := by
  have h1 : PyData.canLayAll0 (ns.map PyData.int) = true := by
    induction ns with
    | nil => rfl
    | cons s ns ih => exact ih
  have h2 : PyData.depthAll (ns.map PyData.int) = 0 := by
    induction ns with
    | nil => rfl
    | cons s ns ih =>
      show max 0 (PyData.depthAll (ns.map PyData.int)) = 0
      rw [ih (by simp_all [PyData.canLayAll0, PyData.canLay0])]; rfl
  show (PyData.canLayAll0 (ns.map PyData.int) && decide (PyData.depthAll (ns.map PyData.int) + 1 ≤ 64)) = true
  rw [h1, h2]; rfl
theorem eqv_nil {ds : List PyData} : PyData.eqv (.list ds) (.list []) = decide (ds = []) := by
  cases ds with
  | nil => rfl
  | cons d ds => rfl
/-- xs != [] -/
theorem rv_neNilS {ns : List Str} (h : ∀ s ∈ ns, PyData.strOk s = true) : RV2 (rNeD K) (RLst (lS ns)) (RLst []) (RBl (!decide (ns = []))) := fun x y G H e hx hy Q k =>
  rv_neD (dp_lst (dps_strs ns)) (dp_lst (rs := []) .nil) (shaped_strs h).1 rfl x y G H e hx hy Q fun z G' H' e' q => k z G' H' e' (by
    rw [eqv_nil] at q
    rw [show z = _ from q]
    show V.bl _ = V.bl _
    congr 2; simp)
theorem rv_eqNilS {ns : List Str} (h : ∀ s ∈ ns, PyData.strOk s = true) : RV2 (rEqD K) (RLst (lS ns)) (RLst []) (RBl (decide (ns = []))) := fun x y G H e hx hy Q k =>
  rv_eqD (dp_lst (dps_strs ns)) (dp_lst (rs := []) .nil) (shaped_strs h).1 rfl x y G H e hx hy Q fun z G' H' e' q => k z G' H' e' (by
    rw [eqv_nil] at q
    rw [show z = _ from q]
    show V.bl _ = V.bl _
    congr 1; simp)
theorem rv_eqNilI {ns : List Int} : RV2 (rEqD K) (RLst (lI ns)) (RLst []) (RBl (decide (ns = []))) := fun x y G H e hx hy Q k =>
  rv_eqD (dp_lst (dps_ints ns)) (dp_lst (rs := []) .nil) (shaped_ints ns) rfl x y G H e hx hy Q fun z G' H' e' q => k z G' H' e' (by
    rw [eqv_nil] at q
    rw [show z = _ from q]
    show V.bl _ = V.bl _
    congr 1; simp)
/-! slices -/
theorem cutV_take {xs : List V} {n : Int} (h : 0 ≤ n) : cutV xs none (some n) = xs.take n.toNat := by
  unfold cutV HT.sIx
  simp only [if_neg (show ¬ n < 0 by omega)]
  rw [List.drop_zero, Nat.sub_zero]
  by_cases z : n.toNat ≤ xs.length
  · rw [Nat.min_eq_left z]
  · rw [Nat.min_eq_right (by omega), List.take_of_length_le (Nat.le_refl _), List.take_of_length_le (by omega)]
theorem cutV_drop {xs : List V} {n : Int} (h : 0 ≤ n) : cutV xs (some n) none = xs.drop n.toNat := by
  unfold cutV HT.sIx
  simp only [if_neg (show ¬ n < 0 by omega)]
  by_cases z : n.toNat ≤ xs.length
  · rw [Nat.min_eq_left z, List.take_of_length_le (by simp)]
  · rw [Nat.min_eq_right (by omega), Nat.sub_self, List.take_zero, List.drop_of_length_le (by omega)]
theorem evn_take {n : Int} (h : Ev c te ρ (RLst rs)) (hn : Ev c tn ρ (RInt n)) (h0 : 0 ≤ n) : EvN c (tSl (rSlL c.K) te tNoPart (tPart tn)) ρ (rs.take n.toNat) := fun σ G H F S Q k => by
  refine h σ G H F S _ fun x G1 H1 F1 S1 n1 qx => ?_
  obtain ⟨a, xs, rfl, h1, h2⟩ := RLst.out qx
  refine hn σ G1 H1 F1 S1 _ fun y G2 H2 F2 S2 n2 qy => ?_
  refine ⟨n, qy, a, xs, rfl, .of (S2.le _ _ (n2.sub _ _ h1)), fun p hp => ?_⟩
  rw [cutV_take h0]
  exact evh_new (P := HL (rs.take n.toNat)) S2 (n1.trans n2) hp ⟨_, rfl, (h2.mono n2.sub).take⟩ k
theorem evn_drop {n : Int} (h : Ev c te ρ (RLst rs)) (hn : Ev c tn ρ (RInt n)) (h0 : 0 ≤ n) : EvN c (tSl (rSlL c.K) te (tPart tn) tNoPart) ρ (rs.drop n.toNat) := fun σ G H F S Q k => by
  refine h σ G H F S _ fun x G1 H1 F1 S1 n1 qx => ?_
  obtain ⟨a, xs, rfl, h1, h2⟩ := RLst.out qx
  refine hn σ G1 H1 F1 S1 _ fun y G2 H2 F2 S2 n2 qy => ?_
  refine ⟨n, qy, a, xs, rfl, .of (S2.le _ _ (n2.sub _ _ h1)), fun p hp => ?_⟩
  rw [cutV_drop h0]
  exact evh_new (P := HL (rs.drop n.toNat)) S2 (n1.trans n2) hp ⟨_, rfl, (h2.mono n2.sub).drop⟩ k
/-! in, index -/
theorem inV_str {s : Str} : ∀ ns : List Str, inV (.str s) (ns.map V.str) = decide (s ∈ ns)
  | [] => by simp [inV]
  | n :: ns => by
    have ih := inV_str (s := s) ns
    unfold inV at ih ⊢
    rw [List.map_cons, List.any_cons, ih]
    show ((n == s) || decide (s ∈ ns)) = decide (s ∈ n :: ns)
    by_cases z : n = s
    · subst z; simp
    · rw [beq_false_of_ne z]
      have : (s ∈ n :: ns) ↔ s ∈ ns := ⟨fun h => by cases h with | head => exact absurd rfl z | tail _ h => exact h, .tail _⟩
      simp [this]
theorem flat_strs (ns : List Str) : (ns.map V.str).all flatV = true := by simp [flatV]
theorem rv_inNS {neg : Bool} {s : Str} {ns : List Str} : RV2 (rIn K neg) (RStr s) (RLst (lS ns)) (RBl (if neg then !decide (s ∈ ns) else decide (s ∈ ns))) := fun x y G H e hx hy Q k => by
  obtain rfl : x = .str s := hx
  obtain ⟨p, xs, rfl, h1, h2⟩ := RLst.out hy
  rw [reps_strs h2] at h1
  refine ⟨p, _, rfl, .inl (.of (e _ _ h1)), rfl, flat_strs ns, ?_⟩
  rw [inV_str]
  exact k _ G H (Ext.refl e) rfl
theorem rv_inX {neg : Bool} {ra rb rc : R} (h : RV2 (rIn K neg) ra rb rc) : RV2 (rInX K neg) ra rb rc := fun x y G H e hx hy Q k => .inl (h x y G H e hx hy Q k)
theorem ev_index {ns : List Str} {s : Str} {j : Nat} (ho : Ev c to ρ (RLst (lS ns))) (ha : Ev c ta ρ (RStr s)) (hj : ns[j]? = some s) (hf : ∀ m, m < j → ns[m]? ≠ some s) : Ev c (tBM K "list" (rIndex K) to (tCons ta tNil)) ρ (RInt (j : Nat)) := fun σ G H F S Q k => by
  refine ho σ G H F S _ fun x G1 H1 F1 S1 n1 qx => ?_
  obtain ⟨p, xs, rfl, h1, h2⟩ := RLst.out qx
  refine ⟨.inl ⟨rfl, xs, .inl (.inl (S1.le _ _ h1))⟩, ?_⟩
  refine ha σ G1 H1 F1 S1 _ fun y G2 H2 F2 S2 n2 qy => ?_
  obtain rfl : y = .str s := qy
  rw [reps_strs h2] at h1
  refine ⟨p, _, _, j, .str s, rfl, rfl, .of (S2.le _ _ (n2.sub _ _ h1)), rfl, flat_strs ns, by simp [hj], by simp [eqV], fun m z hm hz => ?_, k _ G2 H2 F2 S2 (n1.trans n2) rfl⟩
  simp only [List.getElem?_map, Option.map_eq_some_iff] at hz
  obtain ⟨t, ht, rfl⟩ := hz
  show (t == s) = false
  exact beq_false_of_ne fun e => hf m hm (by rw [ht, e])
end
end DL
set_option Elab.async false
set_option linter.all false
set_option maxRecDepth 100000
set_option maxHeartbeats 4000000
/-! DL10: puts of may-be values, calls with an own list. -/
namespace DL
open PySem PySem.Spec PyProof.Rows L2
variable [tsp : TabSpec]
section
variable {c : Ctx} {ρ : Env} {D : Ends} {te ta td ty tv : TE} {u : TS} {rs : List R} {r ra rb rc rk : R} {i j : Nat} {P : HK} {kvs : List (Key × R)} {k : Key}
/-- d[k] = v of an own dict, v this or that -/
theorem go_dputX {α : Type} {Pa : α → Prop} {f : α → R} (hi : ρ[i]? = some (some (ownD kvs))) (hv : Ev c tv ρ (exR Pa f)) (hy : Ev c ty ρ rk) (hk : KeyR rk k) (hl : kvs.length < 100000)
    (kk : ∀ x, Pa x → Nx c D.nx (ρ.set i (some (ownD (putR kvs k (f x)))))) : Go c (sDPut (tVar i) ty tv) ρ D := fun σ G H F S => by
  refine hv σ G H F S _ fun v G1 H1 F1 S1 n1 ⟨x, px, qv⟩ => ?_
  obtain ⟨p, o, h1, _⟩ := S1.view hi
  refine ⟨_, h1, ?_⟩
  refine hy σ G1 H1 F1 S1 _ fun y G2 H2 F2 S2 n2 qy => ?_
  obtain ⟨p', o, h1', h2, ⟨xs, rfl, h3⟩, hF, _⟩ := S2.view hi
  rw [h1] at h1'; cases h1'
  rw [hk y G2 qy]
  obtain ⟨F', S3⟩ := S2.own_put hi h1 hF (P' := HD (putR kvs k (f x))) ⟨_, rfl, KReps.put h3 ((f x).mono n2.sub qv)⟩
  exact ⟨p, _, rfl, .k h2 (sz_lt (by rw [← h3.length]; exact hl)), kk x px _ _ _ _ S3⟩
/-- f(e, x), x an own thing that stays as it is -/
theorem ev_callO2 {sp : Sp} {E : XK} (hi : ρ[i]? = some (some (ownH P))) (ha : Ev c ta ρ ra) (hr : SpOk sp [ra, RH P] rc) (hs : Sc rc) : Ev c (tCall sp [] E (tCons ta (tCons (tVar i) tNil))) ρ rc := fun σ G H F S Q k => by
  refine ha σ G H F S _ fun y G2 H2 F2 S2 n2 qy => ?_
  obtain ⟨p, u, h1, h2, h3, hF, e1, e2⟩ := S2.view hi
  refine ⟨_, h1, ?_⟩
  exact hr E _ (upd G2 p u) H2 e2 (.cons (ra.mono e1 qy) (.cons ⟨p, u, rfl, upd_same, P.mono e1 h3⟩ .nil)) Q fun z G3 H3 e q => k z G2 H3 F2 (S2.step (e.back S2.le.nt e1)) (n2.trans (Nxt.of (e.back S2.le.nt e1))) (hs _ _ _ q)
/-- max of three -/
theorem rv_max3 {a b d : Int} : RVc (rNuC3 nuMax3) [RInt a, RInt b, RInt d] (RInt (max (max a b) d)) := fun vs G H e q Q k => by
  obtain ⟨v, v2, v3, rfl, h1, h2, h3⟩ := reps_three q
  rw [show v = .int a from h1, show v2 = .int b from h2, show v3 = .int d from h3]
  have m2 : ∀ x y : Int, nuMax2 (.int x) (.int y) = some (.int (max x y)) := fun x y => by
    show (some (decide (x < y))).map _ = _
    by_cases z : x < y
    · rw [decide_eq_true z, Int.max_eq_right (by omega)]; rfl
    · rw [decide_eq_false z, Int.max_eq_left (by omega)]; rfl
  refine ⟨_, _, _, _, rfl, ?_, k _ G H (Ext.refl e) rfl⟩
  show (nuMax2 (.int a) (.int b)).bind _ = _
  rw [m2]
  exact m2 _ _
end
section
variable {κ : Type} [DecidableEq κ]
theorem putR_new {kvs : List (κ × R)} {k : κ} {r : R} (h : ∀ p ∈ kvs, p.1 ≠ k) : putR kvs k r = kvs ++ [(k, r)] := by
  unfold putR
  rw [if_neg]
  rw [List.any_eq_true]
  rintro ⟨p, hp, e⟩
  exact h p hp (by simpa using e)
end
end DL
set_option Elab.async false
set_option linter.all false
set_option maxRecDepth 100000
set_option maxHeartbeats 4000000
/-! DL11: things aside; all of a thing put into the stable part; own lists of lists. -/
namespace DL
open PySem PySem.Spec PyProof.Rows L2
variable [tsp : TabSpec]
section
variable {c : Ctx} {ρ : Env} {σ : L2.St} {G H : Hp} {F : Nat → Addr → Prop} {D : Ends} {u : TS} {tn tx : TE} {i j s : Nat}
/-- a thing that nobody owns, outside of the stable part, is changed -/
theorem Sta.aside (S : Sta c ρ σ G H F) {p : Addr} {o o' : HO} (hp : H p = some o) (d : Dat o) (g : G p = none) (f : ∀ j, ¬ F j p) (h0 : c.H0 p = none) : Sta c ρ σ G (upd H p o') F where
  ext := {
    tab := fun t => tab_put hp d (S.ext.tab t)
    keep := fun a o nb nt h => by
      have h5 := S.ext.keep a o nb nt h
      have q : a ≠ p := fun z => by subst z; rw [h0] at h; cases h
      rw [upd_ne q]; exact h5
    live := fun a h => by
      by_cases q : a = p
      · subst q; rw [upd_same] at h; cases h
      · rw [upd_ne q] at h; exact S.ext.live a h
    sub := S.ext.sub
    le := ⟨fun a u h => by rw [upd_ne (fun z => by subst z; rw [g] at h; cases h)]; exact S.ext.le a u h, S.ext.le.nt, tab_put hp d S.ext.le.tb⟩
    new := S.ext.new }
  len := S.len
  at_ := fun j s e => by
    obtain ⟨v, h1, h2⟩ := S.at_ j s e
    exact ⟨v, h1, s.mono (Same.refl _) (fun a q => upd_ne fun z => by subst z; exact f j q) h2⟩
  dis := S.dis
  out := fun j a q => by
    obtain ⟨h1, ⟨o, e, d⟩, h3⟩ := S.out j a q
    exact ⟨h1, ⟨o, by rw [upd_ne (fun z => by subst z; exact f j q)]; exact e, d⟩, h3⟩
  pin := S.pin
open Classical in
noncomputable def gadd (G H : Hp) (X : Addr → Prop) : Hp := fun a => if X a then H a else G a
theorem gadd_in {X : Addr → Prop} {a : Addr} (h : X a) : gadd G H X a = H a := if_pos h
theorem gadd_out {X : Addr → Prop} {a : Addr} (h : ¬ X a) : gadd G H X a = G a := if_neg h
theorem gadd_same {X : Addr → Prop} (h : ∀ a, X a → G a = none) : Same G (gadd G H X) := fun a o e => by
  rw [gadd_out (fun z => by rw [h a z] at e; cases e)]; exact e
theorem Sta.freezeAll (S : Sta c ρ σ G H F) {X : Addr → Prop} (hX : ∀ a, X a → G a = none ∧ Held H a ∧ c.H0 a = none ∧ ∀ j, ¬ F j a) : Sta c ρ σ (gadd G H X) H F := by
  have sm : Same G (gadd G H X) := gadd_same fun a z => (hX a z).1
  refine ⟨⟨S.ext.keep, S.ext.live, S.ext.sub.trans sm, ⟨fun a o e => ?_, fun a ps e => ?_, S.le.tb⟩, fun a h g => ?_, S.ext.tab⟩, S.len, fun i s e => ?_, S.dis, fun i a q => ?_, fun g h => (S.pin g h).trans sm⟩
  · by_cases z : X a
    · rw [gadd_in z] at e; exact e
    · rw [gadd_out z] at e; exact S.le _ _ e
  · by_cases z : X a
    · rw [gadd_in z] at e
      obtain ⟨o, h, d⟩ := (hX a z).2.1
      rw [e] at h; cases h; exact d
    · rw [gadd_out z] at e; exact S.le.nt a ps e
  · rw [gadd_out (fun z => h (hX a z).2.2.1)]; exact S.ext.new a h g
  · obtain ⟨v, h1, h2⟩ := S.at_ i s e
    exact ⟨v, h1, s.mono sm (fun _ _ => rfl) h2⟩
  · obtain ⟨h1, h2, h3⟩ := S.out i a q
    exact ⟨by rw [gadd_out (fun z => (hX a z).2.2.2 i q)]; exact h1, h2, h3⟩
/-- own lists of texts in an own list -/
def ownLL (lss : List (List Str)) : SP := ⟨fun v G H F => ∃ (p : Addr) (ls : List Addr), v = .ref p ∧ H p = some (.lst (ls.map V.ref)) ∧ ls.Nodup ∧ p ∉ ls ∧ lss.length = ls.length ∧ (∀ (i : Nat) (ss : List Str) (l : Addr), lss[i]? = some ss → ls[i]? = some l → H l = some (.lst (ss.map V.str))) ∧ ∀ a, F a ↔ a = p ∨ a ∈ ls,
  fun e k ⟨p, ls, h1, h2, h3, h4, h5, h6, h7⟩ => ⟨p, ls, h1, by rw [k p ((h7 p).mpr (.inl rfl))]; exact h2, h3, h4, h5, fun i ss l e1 e2 => by rw [k l ((h7 l).mpr (.inr (List.mem_of_getElem? e2)))]; exact h6 i ss l e1 e2, h7⟩⟩
/-- [[] for x in range(n)] -/
theorem q_mkLL {n : Int} (hs : s < ρ.length) (hj : ρ[j]? = some none) (hn : Ev c tn ρ (RInt n)) (h0 : 0 ≤ n ∧ n ≤ 1000) (kx : Go c u (ρ.set s (some (ownLL (List.replicate n.toNat [])))) D) :
    Go c (tSeq (tAsg (tLc (iRng1 (tCons tn tNil)) (gName j) tYes (tLst tNil) [j]) (gName s)) u) ρ D := go_seq fun σ G H F S => by
  have hjl : j < ρ.length := (List.getElem?_eq_some_iff.mp hj).1
  have hv : ∀ v ∈ [j], ∀ s, ρ[v]? ≠ some (some s) := fun v hv s e => by
    rw [List.mem_singleton] at hv; subst hv; rw [hj] at e; cases e
  show tLc (iRng1 (tCons tn tNil)) (gName j) tYes (tLst tNil) [j] σ H _
  refine ei_rng1 (ea_cons hn ea_nil) (by omega) σ G H F S _ fun J Gl Hl Fl Sl nl w => ?_
  intro Dd hD
  have none_of : ∀ {G1 H1 : Hp}, Le G1 H1 → ∀ a, H1 a = none → G1 a = none := fun {G1 H1} le a h => by
    cases z : G1 a with
    | none => rfl
    | some u => rw [le _ _ z] at h; cases h
  have hFD : ∀ j, ¬ Fl j Dd := fun j q => (Sl.out j Dd q).2.1.ne hD
  let Pv : Nat → Hp → Prop := fun i H1 => ∃ (G1 : Hp) (ls : List Addr), Sta (c.pin Gl) ρ (wipe σ [j]) G1 H1 Fl ∧ Same Gl G1 ∧ H1 Dd = some (.lst (ls.map V.ref)) ∧ G1 Dd = none ∧ ls.length = i ∧ ls.Nodup ∧ Dd ∉ ls ∧ ∀ l ∈ ls, H1 l = some (.lst []) ∧ G1 l = none ∧ (∀ k, ¬ Fl k l) ∧ c.H0 l = none
  have h0D : c.H0 Dd = none := H0_none Sl hD
  refine ⟨fun i m H => m = n.toNat - i ∧ i ≤ n.toNat ∧ Pv i H, ⟨n.toNat, by simp, Nat.zero_le _, Gl, [], ((Sl.wiped hv).step (Ext.aside Sl.le hD)).pinned (Same.refl _), Same.refl _, upd_same, none_of Sl.le Dd hD, rfl, List.nodup_nil, by simp, fun l h => by simp at h⟩, ?_⟩
  rintro i m H1 ⟨rfl, hle, G1, ls, S1, sm, hacc, gD, hl, nd, nm, hls⟩
  have hrl : (rngs 0 n.toNat).length = n.toNat := by simp [rngs]
  by_cases hlt : i < n.toNat
  · refine .inr ⟨w.goes i H1 (by omega) (sm.trans S1.le.same), Pv (i + 1), fun H' p => ⟨_, by omega, rfl, hlt, p⟩, fun x H2 y => ?_⟩
    have hr : (rngs 0 n.toNat)[i]? = some (RInt (0 + (i : Nat))) := by simp [rngs, hlt]
    obtain ⟨G3, e3, q⟩ := w.yields i G1 H1 x H2 _ sm S1.le hr y
    show wipe ((wipe σ [j]).set j (some x)) [j] = wipe σ [j] ∧ _
    refine ⟨by simp [wipe, List.set_set], ?_⟩
    refine iteT (B := Pv (i + 1) H2) ?_
    refine ⟨by show 0 ≤ sizeLine; decide, fun l hln => ?_⟩
    have S3 := S1.step e3
    have D3 := e3.keep Dd _ (fun z => z) (fun _ z => by cases z) hacc
    have gD3 := e3.new Dd (by rw [hacc]; simp) gD
    have neD : Dd ≠ l := fun z => by subst z; rw [D3] at hln; cases hln
    have S4 := S3.step (Ext.aside (o := .lst []) S3.le hln)
    have D4 : (upd H2 l (.lst [])) Dd = some (.lst (ls.map V.ref)) := by rw [upd_ne neD]; exact D3
    refine ⟨ls.map V.ref, D4, sz_lt (by rw [List.length_map]; omega), ?_⟩
    have S5 := S4.aside (o' := .lst (ls.map V.ref ++ [V.ref l])) D4 trivial gD3 hFD h0D
    refine ⟨G3, ls ++ [l], S5, sm.trans e3.sub, by rw [upd_same, List.map_append]; rfl, gD3, by simp [hl], ?_, ?_, fun k hk => ?_⟩
    · refine List.nodup_append.mpr ⟨nd, by simp, fun a ha b hb => ?_⟩
      obtain rfl : b = l := by simpa using hb
      intro z; subst z
      have := e3.keep a _ (fun z => z) (fun _ z => by cases z) (hls a ha).1
      rw [hln] at this; cases this
    · rw [List.mem_append, not_or]; exact ⟨nm, by simpa using neD⟩
    · have hk' : k ≠ Dd := fun z => by
        subst z
        rcases List.mem_append.mp hk with z | z
        · exact nm z
        · exact neD (by simpa using z)
      rw [upd_ne hk']
      rcases List.mem_append.mp hk with z | z
      · obtain ⟨k1, k2, k3, k4⟩ := hls k z
        have kk := e3.keep k _ (fun z => z) (fun _ z => by cases z) k1
        exact ⟨by rw [upd_ne (fun y => by subst y; rw [hln] at kk; cases kk)]; exact kk, e3.new k (by rw [k1]; simp) k2, k3, k4⟩
      · obtain rfl : k = l := by simpa using z
        exact ⟨upd_same, none_of S3.le k hln, fun j q => (S3.out j k q).2.1.ne hln, S3.ext.live k hln⟩
  · have e : i = n.toNat := by omega
    subst e
    have S1' := S1.unpin
    have S2 : Sta c ρ σ G1 H1 Fl := ⟨S1'.ext, Sl.len, fun k s e => by
      obtain ⟨v, h1, h2⟩ := S1'.at_ k s e
      have hk : k ∉ [j] := fun z => hv k z s e
      rw [wipe_get, if_neg hk] at h1
      exact ⟨v, h1, h2⟩, S1'.dis, S1'.out, S1'.pin⟩
    refine .inl ⟨by rw [← hrl]; exact w.stops H1 (sm.trans S1.le.same), ?_⟩
    refine kx _ _ _ _ (S2.setOwn (s := ownLL (List.replicate n.toNat [])) (v := .ref Dd) (F0 := fun b => b = Dd ∨ b ∈ ls) hs (fun b z => ?_) ⟨Dd, ls, rfl, hacc, nd, nm, by simp [hl], fun i ss l e1 e2 => ?_, fun b => Iff.rfl⟩)
    · rcases z with rfl | z
      · exact ⟨gD, ⟨_, hacc, trivial⟩, h0D, hFD⟩
      · obtain ⟨k1, k2, k3, k4⟩ := hls b z
        exact ⟨k2, ⟨_, k1, trivial⟩, k4, k3⟩
    · have : ss = [] := by
        have := List.mem_of_getElem? e1
        exact (List.mem_replicate.mp this).2
      subst this
      exact (hls l (List.mem_of_getElem? e2)).1
/-- xs[k].append(e) -/
theorem go_llApp {lss : List (List Str)} {ss : List Str} {k : Nat} {n : Str} (hρ : ρ[s]? = some (some (ownLL lss))) (hx : Ev c tx ρ (RInt (k : Nat))) (hk : lss[k]? = some ss) (hl : ss.length < 100000) (hi : ρ[i]? = some (some (im (RStr n))))
    (kx : Nx c D.nx (ρ.set s (some (ownLL (lss.set k (ss ++ [n])))))) : Go c (tDrop (tBM c.K "list" rAppend (tOp (rIxL c.K) (tVar s) tx) (tCons (tVar i) tNil))) ρ D := fun σ G H F S => by
  obtain ⟨v, h1, p, ls, rfl, _⟩ := S.at_ s _ hρ
  refine ⟨_, h1, ?_⟩
  refine hx σ G H F S _ fun y G1 H1 F1 S1 n1 qy => ?_
  obtain rfl : y = .int (k : Nat) := qy
  obtain ⟨v', h1', p', ls, e', hp, nd, nm, hlen, hat, hF⟩ := S1.at_ s _ hρ
  rw [h1] at h1'; cases h1'; cases e'
  have kl : k < ls.length := by rw [← hlen]; exact (List.getElem?_eq_some_iff.mp hk).1
  have hlk : ls[k]? = some ls[k] := List.getElem?_eq_getElem kl
  have hHl := hat k ss _ hk hlk
  obtain ⟨w, s2, rfl, _⟩ := S1.at_ i _ hi
  refine ⟨p, ls.map V.ref, (k : Nat), .ref ls[k], rfl, rfl, .of hp, atI_nat' (by rw [List.getElem?_map, hlk]; rfl), .inl ⟨rfl, _, .inl (.inl hHl)⟩, _, s2, ?_⟩
  refine ⟨_, _, _, rfl, rfl, hHl, sz_lt (by rw [List.length_map]; exact hl), ?_⟩
  have hm : ls[k] ∈ ls := List.getElem_mem kl
  have hpn : p ≠ ls[k] := fun z => nm (by rw [z]; exact hm)
  have hat' : ∀ (i' : Nat) (ss' : List Str) (l : Addr), (lss.set k (ss ++ [n]))[i']? = some ss' → ls[i']? = some l → (upd H1 ls[k] (.lst (ss.map V.str ++ [V.str n]))) l = some (.lst (ss'.map V.str)) := fun i' ss' l e1 e2 => by
    by_cases z : i' = k
    · subst z
      rw [hlk] at e2; cases e2
      rw [List.getElem?_set_self (by rw [hlen]; exact kl)] at e1
      cases e1
      rw [upd_same]; simp
    · rw [List.getElem?_set_ne (Ne.symm z)] at e1
      have ne : l ≠ ls[k] := fun y => by
        obtain ⟨l1, e3⟩ := List.getElem?_eq_some_iff.mp e2
        rw [← e3] at y
        have := List.pairwise_iff_getElem.mp nd
        rcases Nat.lt_or_gt_of_ne z with q | q
        · exact this i' k l1 kl q y
        · exact this k i' kl l1 q y.symm
      rw [upd_ne ne]
      exact hat i' ss' l e1 e2
  obtain ⟨F', S3⟩ := S1.own_upd (s' := ownLL (lss.set k (ss ++ [n]))) hρ h1 ((hF _).mpr (.inr hm)) hHl trivial (o' := .lst (ss.map V.str ++ [V.str n])) trivial ⟨p, ls, rfl, by rw [upd_ne hpn]; exact hp, nd, nm, by rw [List.length_set]; exact hlen, hat', hF⟩
  exact kx _ _ _ _ S3
theorem go_freezeLL {t : TS} {lss : List (List Str)} (s : Nat) (hρ : ρ[s]? = some (some (ownLL lss))) (hb : s ∉ c.bs) (hg : Go c t (ρ.set s (some (im (RLst (lss.map fun ss => RLst (ss.map RStr)))))) D) : Go c t ρ D := fun σ G H F S => by
  obtain ⟨v0, h1, p, ls, rfl, hp, nd, nm, hlen, hat, hF⟩ := S.at_ s _ hρ
  have hi : s < ρ.length := (List.getElem?_eq_some_iff.mp hρ).1
  have out : ∀ b, (b = p ∨ b ∈ ls) → G b = none ∧ Held H b ∧ c.H0 b = none ∧ ∀ j, ¬ (j ≠ s ∧ F j b) := fun b z => by
    have Fb := (hF b).mpr z
    obtain ⟨gb, hd, h0⟩ := S.out s b Fb
    exact ⟨gb, hd, h0.elim (fun z => absurd z.2 hb) id, fun j z => z.1 (S.dis j s b z.2 Fb)⟩
  have S2 := S.letgo (i := s) (x := some (.ref p))
  have S3 := S2.freezeAll (X := fun b => b = p ∨ b ∈ ls) out
  have rp : Reps (lss.map fun ss => RLst (ss.map RStr)) (ls.map V.ref) (gadd G H fun b => b = p ∨ b ∈ ls) := by
    have : ∀ (lss : List (List Str)) (ls' : List Addr), lss.length = ls'.length → (∀ l ∈ ls', l ∈ ls) → (∀ (i : Nat) (ss : List Str) (l : Addr), lss[i]? = some ss → ls'[i]? = some l → H l = some (.lst (ss.map V.str))) → Reps (lss.map fun ss => RLst (ss.map RStr)) (ls'.map V.ref) (gadd G H fun b => b = p ∨ b ∈ ls) := by
      intro lss
      induction lss with
      | nil => intro ls' e _ _; cases ls' with
        | nil => exact .nil
        | cons => cases e
      | cons ss lss ih => intro ls' e hm h; cases ls' with
        | nil => cases e
        | cons l ls' =>
          refine .cons (RLst.mk ⟨l, _, rfl, ?_, strs_reps ss⟩) (ih ls' (by simpa using e) (fun x hx => hm x (.tail _ hx)) fun i ss' l' e1 e2 => h (i + 1) ss' l' e1 e2)
          rw [gadd_in (X := fun b => b = p ∨ b ∈ ls) (.inr (hm l (.head _)))]
          exact h 0 ss l rfl rfl
    exact this lss ls hlen (fun _ h => h) hat
  have S6 := S3.set (i := s) (v := .ref p) (r := RLst (lss.map fun ss => RLst (ss.map RStr))) (by rw [List.length_set]; exact hi) (RLst.mk ⟨p, _, rfl, by rw [gadd_in (X := fun b => b = p ∨ b ∈ ls) (.inl rfl)]; exact hp, rp⟩)
  rw [List.set_set, List.set_set, set_same S h1] at S6
  exact hg _ _ _ _ S6
end
/-! promises with two ways -/
end DL
set_option Elab.async false
set_option linter.all false
set_option maxRecDepth 100000
set_option maxHeartbeats 4000000
/-! DL12: own lists changed by may-be values; tuples cut, joined. -/
namespace DL
open PySem PySem.Spec PyProof.Rows L2
variable [tsp : TabSpec]
theorem ty_tup {K : PySem.W.Frag} {rs : List R} : TyR K (RTup K rs) "tuple" := fun v G ⟨a, xs, e, h, _⟩ => by
  subst e
  rcases h with (h | ⟨o, h⟩) | ⟨o, its, n, h1, h2, _⟩
  · exact .base (.tup h)
  · exact .fTuple h
  · exact .kTuple h1 h2
theorem Reps.reverse {rs : List R} {xs : List V} {G : Hp} (h : Reps rs xs G) : Reps rs.reverse xs.reverse G := by
  induction h with
  | nil => exact .nil
  | cons q _ ih =>
    rw [List.reverse_cons, List.reverse_cons]
    exact ih.append (.cons q .nil)
section
variable {c : Ctx} {ρ : Env} {D : Ends} {te tn ta ti : TE} {u : TS} {rs rs2 : List R} {r : R} {i j : Nat} {K : PySem.W.Frag}
/-- xs[i] = e, e this or that -/
theorem go_setLX {α : Type} {Pa : α → Prop} {f : α → R} {j : Nat} (hi : ρ[i]? = some (some (ownL rs))) (h : Ev c te ρ (exR Pa f)) (hx : Ev c ti ρ (RInt (j : Int))) (hj : j < rs.length) (k : ∀ x, Pa x → Nx c D.nx (ρ.set i (some (ownL (rs.set j (f x)))))) : Go c (tAsg te (gSub (tVar i) ti rSetL)) ρ D := fun σ G H F S => by
  refine h σ G H F S _ fun y G1 H1 F1 S1 n1 ⟨x0, px, qy⟩ => ?_
  obtain ⟨v, h1, _⟩ := S1.at_ i _ hi
  refine ⟨v, h1, ?_⟩
  refine hx σ G1 H1 F1 S1 _ fun x G2 H2 F2 S2 n2 qx => ?_
  obtain ⟨v', g1, p, _, rfl, g2, ⟨xs, rfl, g3⟩, g4⟩ := S2.at_ i _ hi
  rw [h1] at g1; cases g1
  refine ⟨p, xs, j, j, rfl, qx, g2, ?_, ?_⟩
  · rw [← g3.length]; unfold ixN; rw [if_pos (by omega), if_pos (by omega), Int.toNat_natCast]
  obtain ⟨F', S3⟩ := S2.own_put hi h1 ((g4 p).mpr rfl) (P' := HL _) ⟨_, rfl, (g3.set (i := j) ((f x0).mono n2.sub qy))⟩
  exact k x0 px _ _ _ _ S3
/-- xs.insert(n, e), e this or that -/
theorem go_insX {α : Type} {Pa : α → Prop} {f : α → R} {n : Int} (hi : ρ[i]? = some (some (ownL rs))) (hn : Ev c tn ρ (RInt n)) (h : Ev c te ρ (exR Pa f)) (h0 : 0 ≤ n ∧ n ≤ 100000) (hl : rs.length < 100000) (k : ∀ x, Pa x → Nx c D.nx (ρ.set i (some (ownL (rs.take n.toNat ++ [f x] ++ rs.drop n.toNat))))) :
    Go c (tDrop (tBM K "list" rInsert (tVar i) (tCons tn (tCons te tNil)))) ρ D := fun σ G H F S => by
  obtain ⟨v, h1, p, _, rfl, h2, ⟨xs, rfl, h3⟩, h4⟩ := S.at_ i _ hi
  refine ⟨_, h1, .inl ⟨rfl, xs, .inl (.inl h2)⟩, ?_⟩
  refine hn σ G H F S _ fun z G1 H1 F1 S1 n1 qz => ?_
  obtain rfl : z = .int n := qz
  refine h σ G1 H1 F1 S1 _ fun y G2 H2 F2 S2 n2 ⟨x0, px, qy⟩ => ?_
  obtain ⟨v', g1, p', _, e', g2, ⟨xs', rfl, g3⟩, g4⟩ := S2.at_ i _ hi
  rw [h1] at g1; cases g1; cases e'
  refine ⟨p, xs', n, y, rfl, rfl, g2, sz_lt (by rw [← g3.length]; exact hl), h0.1, by omega, ?_⟩
  obtain ⟨F', S3⟩ := S2.own_put hi h1 ((g4 p).mpr rfl) (P' := HL _) ⟨_, rfl, ((g3.take (i := n.toNat)).append (.cons qy .nil)).append (g3.drop (i := n.toNat))⟩
  exact k x0 px _ _ _ _ S3
/-- xs.reverse() -/
theorem go_rev (hi : ρ[i]? = some (some (ownL rs))) (k : Nx c D.nx (ρ.set i (some (ownL rs.reverse)))) : Go c (tDrop (tBM0 K "list" rReverse (tVar i))) ρ D := fun σ G H F S => by
  obtain ⟨v, h1, p, _, rfl, h2, ⟨xs, rfl, h3⟩, h4⟩ := S.at_ i _ hi
  refine ⟨_, h1, .inl ⟨rfl, xs, .inl (.inl h2)⟩, p, xs, rfl, rfl, h2, ?_⟩
  obtain ⟨F', S3⟩ := S.own_put hi h1 ((h4 p).mpr rfl) (P' := HL _) ⟨_, rfl, h3.reverse⟩
  exact k _ _ _ _ S3
/-- t[:n] -/
theorem ev_takeT {n : Int} (h : Ev c te ρ (RTup c.K rs)) (hn : Ev c tn ρ (RInt n)) (h0 : 0 ≤ n) (hl : n < rs.length) : Ev c (tSl (rSlT c.K) te tNoPart (tPart tn)) ρ (RTup c.K (rs.take n.toNat)) := fun σ G H F S Q k => by
  refine h σ G H F S _ fun x G1 H1 F1 S1 n1 qx => ?_
  refine hn σ G1 H1 F1 S1 _ fun y G2 H2 F2 S2 n2 qy => ?_
  obtain ⟨a, xs, rfl, h1, h2⟩ := (RTup c.K rs).mono n2.sub qx
  have hxl := h2.length
  refine ⟨n, qy, a, xs, rfl, sqt_same S2.le.same h1, fun ⟨_, z⟩ => ?_, fun p hp => ?_⟩
  · simp only [HT.sIx, if_neg (show ¬ n < 0 by omega)] at z
    omega
  rw [cutV_take h0]
  have e : Ext noB G2 H2 (upd G2 p (.tup (xs.take n.toNat))) (upd H2 p (.tup (xs.take n.toNat))) := Ext.laid S2.le hp
  exact k _ _ _ F2 (S2.step e) ((n1.trans n2).trans (Nxt.of e)) ⟨p, _, rfl, .of upd_same, (h2.mono e.sub).take⟩
theorem rv_catT (h1 : rs ≠ []) (h2 : rs2 ≠ []) (hl : rs.length + rs2.length ≤ 100000) : RV2 (rCatT K) (RTup K rs) (RTup K rs2) (RTup K (rs ++ rs2)) := fun x y G H e hx hy Q k => by
  obtain ⟨a, xs, rfl, h3, h4⟩ := hx
  obtain ⟨b, ys, rfl, h5, h6⟩ := hy
  have l1 := h4.length
  have l2 := h6.length
  refine ⟨a, b, xs, ys, rfl, rfl, sqt_same e.same h3, sqt_same e.same h5, fun z => h1 (List.eq_nil_of_length_eq_zero (by rw [l1, z]; rfl)), sz_ok (by omega), fun z => absurd (List.eq_nil_of_length_eq_zero (by rw [l2, z]; rfl)) h2, fun _ p hp => ?_⟩
  have e1 : Ext noB G H (upd G p (.tup (xs ++ ys))) (upd H p (.tup (xs ++ ys))) := Ext.laid e hp
  exact k _ _ _ e1 ⟨p, _, rfl, .of upd_same, (h4.mono e1.sub).append (h6.mono e1.sub)⟩
theorem rv_tupOfL : RVc (rTupleOf K) [RLst rs] (RTup K rs) := fun vs G H e q Q k => by
  obtain ⟨v, rfl, q1⟩ := reps_one q
  obtain ⟨p, xs, rfl, h1, h2⟩ := RLst.out q1
  refine ⟨p, xs, rfl, .inl ⟨.of (e _ _ h1), fun l hl => ?_⟩⟩
  have e1 : Ext noB G H (upd G l (.tup xs)) (upd H l (.tup xs)) := Ext.laid e hl
  exact k _ _ _ e1 ⟨l, _, rfl, .of upd_same, h2.mono e1.sub⟩
/-- an element of enumerate(xs) -/
theorem enum_at2 {rs : List R} {i : Nat} {r : R} (h : (enums K rs)[i]? = some r) : i < rs.length ∧ ∃ r0, rs[i]? = some r0 ∧ r = RTup K [RInt (i : Nat), r0] := by
  unfold enums at h
  rw [List.getElem?_zipWith] at h
  by_cases z : i < rs.length
  · rw [List.getElem?_range z, List.getElem?_eq_getElem z] at h
    exact ⟨z, rs[i], List.getElem?_eq_getElem z, (Option.some.inj h).symm⟩
  · rw [List.getElem?_eq_none (l := rs) (by omega)] at h
    cases hh : (List.range rs.length)[i]? <;> rw [hh] at h <;> cases h
theorem inV_no {x : V} (hx : ∀ t, eqV (.str t) x = false) : ∀ ns : List Str, inV x (ns.map V.str) = false
  | [] => rfl
  | n :: ns => by
    have ih := inV_no hx ns
    unfold inV at ih ⊢
    rw [List.map_cons, List.any_cons, ih, hx]; rfl
end
end DL
set_option Elab.async false
set_option linter.all false
set_option maxRecDepth 100000
set_option maxHeartbeats 4000000
/-! DL13: dicts with an odd key; what is popped; the very value of a name. -/
namespace DL
open PySem PySem.Spec PyProof.Rows L2
variable [tsp : TabSpec]
section
variable {κ : Type} [DecidableEq κ]
def dropR (kvs : List (κ × R)) (k : κ) : List (κ × R) := kvs.filter fun kv => decide (kv.1 ≠ k)
theorem KReps.drop {kvs : List (κ × R)} {xs : List (κ × V)} {G : Hp} (h : KReps kvs xs G) {k : κ} : KReps (dropR kvs k) (dropK xs k) G := by
  induction h with
  | nil => exact .nil
  | @cons p q ps qs h t ih =>
    obtain ⟨e, hv⟩ := h
    unfold dropR dropK at ih ⊢
    by_cases z : p.1 = k
    · rw [List.filter_cons_of_neg (by simpa using z), List.filter_cons_of_neg (by rw [← e]; simpa using z)]
      exact ih
    · rw [List.filter_cons_of_pos (by simpa using z), List.filter_cons_of_pos (by rw [← e]; simpa using z)]
      exact .cons ⟨e, hv⟩ ih
theorem look_drop {kvs : List (κ × R)} {k : κ} : lookR (dropR kvs k) k = none := by
  unfold lookR dropR
  rw [List.find?_eq_none.mpr]; · rfl
  intro p hp
  simpa using (List.mem_filter.mp hp).2
theorem look_put {r : R} {k k' : κ} : ∀ {kvs : List (κ × R)}, (lookR kvs k).isSome = true → lookR (putR kvs k r) k' = if k' = k then some r else lookR kvs k' := fun {kvs} hs => by
  have hany : (kvs.any fun q => decide (q.1 = k)) = true := by
    unfold lookR at hs
    cases hf : kvs.find? fun q => decide (q.1 = k) with
    | none => rw [hf] at hs; cases hs
    | some p => exact List.any_eq_true.mpr ⟨p, List.mem_of_find?_eq_some hf, List.find?_some (p := fun q : κ × R => decide (q.1 = k)) hf⟩
  unfold putR
  rw [if_pos hany]
  clear hs
  by_cases e : k' = k
  · rw [if_pos e]
    subst e
    induction kvs with
    | nil => cases hany
    | cons p kvs ih =>
      unfold lookR at ih ⊢
      rw [List.map_cons, List.find?_cons]
      by_cases z : p.1 = k'
      · rw [if_pos z, decide_eq_true z]; rfl
      · rw [if_neg z, decide_eq_false z]
        exact ih (by rw [List.any_cons, decide_eq_false z] at hany; exact hany)
  · rw [if_neg e]
    clear hany
    induction kvs with
    | nil => rfl
    | cons p kvs ih =>
      unfold lookR at ih ⊢
      rw [List.map_cons, List.find?_cons, List.find?_cons]
      by_cases z : p.1 = k
      · rw [if_pos z]
        dsimp only
        rw [decide_eq_false (show ¬ p.1 = k' from fun y => e (y.symm.trans z))]
        exact ih
      · rw [if_neg z]
        by_cases y : p.1 = k'
        · rw [decide_eq_true y]
        · rw [decide_eq_false y]; exact ih
theorem put_length {r : R} {k : κ} {kvs : List (κ × R)} (hs : (lookR kvs k).isSome = true) : (putR kvs k r).length = kvs.length := by
  have hany : (kvs.any fun q => decide (q.1 = k)) = true := by
    unfold lookR at hs
    cases hf : kvs.find? fun q => decide (q.1 = k) with
    | none => rw [hf] at hs; cases hs
    | some p => exact List.any_eq_true.mpr ⟨p, List.mem_of_find?_eq_some hf, List.find?_some (p := fun q : κ × R => decide (q.1 = k)) hf⟩
  unfold putR
  rw [if_pos hany, List.length_map]
end
section
variable {c : Ctx} {ρ : Env} {D : Ends} {te ta td ty tv tk : TE} {t u : TS} {rs : List R} {r ra rb rc rk : R} {i j s : Nat} {P : HK} {kvs : List (Key × R)} {k : Key} {tas : TA}
/-- d.pop(k) of an own dict -/
theorem go_dpop (hi : ρ[i]? = some (some (ownD kvs))) (hy : Ev c ty ρ rk) (hk : KeyR rk k) (hl : (lookR kvs k).isSome = true) (kk : Nx c D.nx (ρ.set i (some (ownD (dropR kvs k))))) : Go c (tDrop (tDPop1 (tVar i) ty)) ρ D := fun σ G H F S => by
  obtain ⟨p, o, h1, h2, ⟨xs, rfl, h3⟩, _⟩ := S.view hi
  refine ⟨_, h1, p, rfl, .inl ⟨xs, .inl h2⟩, ?_⟩
  refine hy σ G H F S _ fun y G2 H2 F2 S2 n2 qy => ?_
  obtain ⟨p', o, h1', h2, ⟨xs, rfl, h3⟩, hF, _⟩ := S2.view hi
  rw [h1] at h1'; cases h1'
  rw [hk y G2 qy]
  rcases kreps_look h3 k with ⟨z, _⟩ | ⟨r', v, z, hv, q⟩
  · rw [z] at hl; cases hl
  obtain ⟨F', S3⟩ := S2.own_put hi h1 hF (P' := HD (dropR kvs k)) ⟨_, rfl, KReps.drop h3⟩
  exact ⟨xs, k, v, h2, rfl, hv, kk _ _ _ _ S3⟩
/-- dict(d): a new one -/
theorem evh_dict (h : Ev c te ρ (RDic kvs)) : EvH c (tCB rDictD (tCons te tNil)) ρ (HD kvs) := fun σ G H F S Q k => by
  refine h σ G H F S _ fun x G1 H1 F1 S1 n1 qx => ?_
  obtain ⟨a, xs, rfl, h1, h2⟩ := RDic.out qx
  refine ⟨a, xs, rfl, .inl (S1.le _ _ h1), fun p hp => ?_⟩
  exact evh_new (P := HD kvs) S1 n1 hp ⟨xs, rfl, h2⟩ k
/-- {k: v}, one text -/
theorem ev_disp1 {x : Str} {n : Int} : Ev c (tDisp [((tC (.str x)), (tC (.int n)))]) ρ (RDic [((.inr x : Key), RInt n)]) := fun σ G H F S Q k => by
  intro p hp
  refine ⟨upd_same, [((.inr x : Key), V.int n)], rfl, by simp, ?_⟩
  rw [upd_upd]
  have e : Ext noB G H (upd G p (.dK [((.inr x : Key), V.int n)])) (upd H p (.dK [((.inr x : Key), V.int n)])) := Ext.laid S.le hp
  exact k _ _ _ F (S.step e) (Nxt.of e) (RDic.mk ⟨p, _, rfl, upd_same, .cons ⟨rfl, rfl⟩ .nil⟩)
/-- {None: v} -/
def RNonO (P : Program) (w : World) : R := ⟨fun v G => ∃ a, v = .ref a ∧ G a = some (NonO P w a), fun e ⟨a, h1, h2⟩ => ⟨a, h1, e _ _ h2⟩⟩
theorem ev_dispN {P : Program} {w : World} {n : Int} : Ev c (tDispN P w (tC .non) (tC (.int n))) ρ (RNonO P w) := fun σ G H F S Q k => by
  intro p hp
  refine ⟨_, rfl, upd_same, ?_⟩
  rw [upd_upd]
  have e : Ext noB G H (upd G p (NonO P w p)) (upd H p (NonO P w p)) := Ext.laid S.le hp (fun _ z => by cases z)
  exact k _ _ _ F (S.step e) (Nxt.of e) ⟨p, rfl, upd_same⟩
/-- a dict of n pairs, one of them odd -/
def ROdd (n : Nat) : R := ⟨fun v G => ∃ a, v = .ref a ∧ G a = some (MixO a n), fun e ⟨a, h1, h2⟩ => ⟨a, h1, e _ _ h2⟩⟩
def OddKey (r : R) : Prop := ∀ v G, r.p v G → v = .non ∨ ∃ (t : Addr) (ks : List Key), v = .ref t ∧ G t = some (.tup (ks.map kV))
/-- d[k] = v of an own dict; k a key as ever, or odd: then the dict stands from now on -/
theorem go_dputO {K : PySem.W.Frag} {α : Type} {Pa : α → Prop} {f : α → R} (hi : ρ[s]? = some (some (ownD kvs))) (hb : s ∉ c.bs) (hv : Ev c tv ρ r) (hy : Ev c ty ρ (exR Pa f)) (hl : kvs.length < 100000)
    (kk : ∀ x, Pa x → (∃ k, KeyR (f x) k ∧ Nx c D.nx (ρ.set s (some (ownD (putR kvs k r))))) ∨ (OddKey (f x) ∧ Nx c D.nx (ρ.set s (some (im (ROdd (kvs.length + 1))))))) : Go c (sDPutO K (tVar s) ty tv) ρ D := fun σ G H F S => by
  refine hv σ G H F S _ fun v G1 H1 F1 S1 n1 qv => ?_
  obtain ⟨p, o, h1, _⟩ := S1.view hi
  refine ⟨_, h1, ?_⟩
  refine hy σ G1 H1 F1 S1 _ fun y G2 H2 F2 S2 n2 ⟨x, px, qy⟩ => ?_
  obtain ⟨p', o, h1', h2, ⟨xs, rfl, h3⟩, hF, _⟩ := S2.view hi
  rw [h1] at h1'; cases h1'
  have hxl := h3.length
  rcases kk x px with ⟨k, hk, kn⟩ | ⟨ho, kn⟩
  · rw [hk y G2 qy]
    obtain ⟨F', S3⟩ := S2.own_put hi h1 hF (P' := HD (putR kvs k r)) ⟨_, rfl, KReps.put h3 (r.mono n2.sub qv)⟩
    exact ⟨p, rfl, .inl ⟨_, .inl ⟨xs, k, h2, rfl, sz_lt (by rw [← hxl]; exact hl), rfl⟩, kn _ _ _ _ S3⟩⟩
  · refine ⟨p, rfl, .inr ⟨xs, h2, ?_, ?_⟩⟩
    · rcases ho y G2 qy with z | ⟨t, ks, z1, z2⟩
      · exact .inl z
      · exact .inr ⟨t, ks, z1, S2.le _ _ z2⟩
    · obtain ⟨gp, _, h0⟩ := S2.out s p hF
      have h0' : c.H0 p = none := h0.elim (fun z => absurd z.2 hb) id
      have hil : s < ρ.length := (List.getElem?_eq_some_iff.mp hi).1
      have S3 := S2.letgo (i := s) (x := some (.ref p))
      have nf : ∀ j, ¬ (j ≠ s ∧ F2 j p) := fun j z => z.1 (S2.dis j s p z.2 hF)
      have S4 := S3.aside (o' := MixO p (xs.length + 1)) h2 trivial gp nf h0'
      have S5 := S4.freeze upd_same h0' nf gp (fun _ z => by cases z)
      have S6 := S5.set (i := s) (v := .ref p) (r := ROdd (kvs.length + 1)) (by rw [List.length_set]; exact hil) ⟨p, rfl, by rw [upd_same, hxl]⟩
      rw [List.set_set, List.set_set, set_same S2 h1] at S6
      exact kn _ _ _ _ S6
end
end DL
set_option Elab.async false
set_option linter.all false
set_option maxRecDepth 100000
set_option maxHeartbeats 0
namespace EvC
open PySem PySem.Spec PyProof.Rows L2
def grow1 (g : Addr → Option Obj) (a : Addr) : List Addr := a :: (match g a with
  | some o => (match o.data with
    | .func fd => He.refV fd.code ++ He.refV fd.defaults ++ He.refV fd.kwdefaults
    | .cls cd => cd.ns :: (match g cd.ns with
      | some od => (match od.data with
        | .dict es _ => es.toList.flatMap fun e => (He.refV e.val).flatMap fun f => f :: (match g f with
          | some fo => (match fo.data with
            | .func fd => He.refV fd.code ++ He.refV fd.defaults ++ He.refV fd.kwdefaults
            | _ => [])
          | none => [])
        | _ => [])
      | none => [])
    | _ => [])
  | none => [])
def asF (g : Addr → Option Obj) (xs : List Str) : List Addr := mainGlobals :: cStatics :: xs.flatMap fun x => (match PySem.W.nsIn (He.frG g [mainGlobals]) mainGlobals x with
  | some (some (.ref a)) => grow1 g a
  | _ => [])
abbrev AlF : Type := He.AlD × Bool
structure SaysF (fa : List He.Fa) (fn : List He.DefD) (tf : List He.Defn) (ex : PySem.W.Frag → Bool) (h : Heap) (K : PySem.W.Frag) : Prop where
  d : He.SaysD fa fn K
  x : ex K = true
  hd : ∀ p ∈ tf, PySem.W.codeHdIn K (He.cT K p).1 (He.cT K p).2 = true
  empty : ∀ p ∈ tf, h.get? (He.cT K p).2 = some { cls := .none, data := .fields #[] }
theorem okC {P : Program} {w : World} {K : PySem.W.Frag} {mg : Str → Option Value} {base : Heap} {CX : CXT} {N ps : List Str} {k : Nat} {sp : Sp} {x qual : Str} {params : Arguments} {body : List Stmt} {scope : Scope} {dvs : List V} {kws : List (Str × V)} {fd : FuncData} {p : Str × Option Str}
    (F : FunD K x qual params body scope dvs kws (He.fAd K p) fd) (S : FnScope N ps scope) (len : ∀ vs H Q E, sp vs H Q E → vs.length = ps.length)
    (hbody : ∀ (A : Around) (outer : List PySem.Env) (s : Shared) (H : Hp) (vs : List V) (Q : VK) (E : XK), Room k (A.deeper (envOfC qual scope s.heap.objs.size (He.fAd K p) (.ref (He.codeOf K p)))) → sp vs H Q E →
      ∃ t, PSs (cxOf CX P w K mg base N qual scope (He.fAd K p) (.ref (He.codeOf K p)) A outer s H E) body t ∧ t { nx := fun _ H' => Q .non H', rt := Q } (start N vs) H) : FnOk P w K mg base CX (k + 1) (He.fAd K p) fd ps sp := by
  obtain ⟨oc, od, dV, kV, doc, pm, an, cdv, ct, osl, rfl, lk, hcd, _, _⟩ := F.ex
  obtain ⟨c, rfl⟩ := He.codeIn_ref hcd
  have e := He.codeOf_eq lk rfl
  subst e
  exact fn_of lk hcd S len fun A outer s H vs Q E hr hsp => hbody A outer s H vs Q E hr hsp
def obsFG (xs : List Str) (fa : List He.Fa) (fn : List He.DefD) (tf : List He.Defn) (ex : PySem.W.Frag → Bool) (g : Addr → Option Obj) : AlF := (He.obsD fa fn (He.frG g (asF g xs)), ex (He.frG g (asF g xs)) && He.tabsB g tf (He.frG g (asF g xs)))
theorem saysF_of {xs : List Str} {fa : List He.Fa} {fn : List He.DefD} {tf : List He.Defn} {ex : PySem.W.Frag → Bool} {h : Heap} (e : obsFG xs fa fn tf ex h.get? = (He.valD fn, true)) : SaysF fa fn tf ex h (He.frG h.get? (asF h.get? xs)) := by
  have e1 : He.obsD fa fn (He.frG h.get? (asF h.get? xs)) = He.valD fn := congrArg (fun z : AlF => z.1) e
  have e2 : (ex (He.frG h.get? (asF h.get? xs)) && He.tabsB h.get? tf (He.frG h.get? (asF h.get? xs))) = true := congrArg (fun z : AlF => z.2) e
  obtain ⟨h1, h2⟩ := He.ba e2
  have key : ∀ p ∈ tf, PySem.W.codeHdIn (He.frG h.get? (asF h.get? xs)) (He.cT (He.frG h.get? (asF h.get? xs)) p).1 (He.cT (He.frG h.get? (asF h.get? xs)) p).2 = true ∧ ∃ o, h.get? (He.cT (He.frG h.get? (asF h.get? xs)) p).2 = some o ∧ He.emptyTab o = true := fun p hp => by
    obtain ⟨h3, h4⟩ := He.ba (List.all_eq_true.mp h2 p hp)
    refine ⟨h3, ?_⟩
    cases q : h.get? (He.cT (He.frG h.get? (asF h.get? xs)) p).2 with
    | none => rw [q] at h4; cases h4
    | some o => rw [q] at h4; exact ⟨o, rfl, h4⟩
  exact ⟨e1, h1, fun p hp => (key p hp).1, fun p hp => by
    obtain ⟨_, o, q, z⟩ := key p hp
    rw [q, He.emptyTab_eq z]⟩
def hookF (xs : List Str) (fa : List He.Fa) (fn : List He.DefD) (tf : List He.Defn) (ex : PySem.W.Frag → Bool) : PySem.W.Hook where
  α := AlF
  obs := fun s => obsFG xs fa fn tf ex s.heap.get?
  val := fun _ => (He.valD fn, true)
  says := fun _ h => ∃ K : PySem.W.Frag, K.In h ∧ SaysF fa fn tf ex h K
  of := fun _ _ e => ⟨_, He.frG_in, saysF_of e⟩
  keeps := fun _ _ _ ⟨K, hK, c⟩ k => ⟨K, PySem.W.Frag.In.keeps hK k, ⟨c.d, c.x, c.hd, fun p hp => k _ _ (c.empty p hp)⟩⟩
theorem obsFG_eq {xs : List Str} {fa : List He.Fa} {fn : List He.DefD} {tf : List He.Defn} {ex : PySem.W.Frag → Bool} {g : Addr → Option Obj} {s : Shared} (h : ∀ a, g a = s.heap.get? a) : obsFG xs fa fn tf ex g = (hookF xs fa fn tf ex).obs s := by
  have e : g = s.heap.get? := funext h
  rw [e] <;> rfl
def top (i : Nat) : Stmt := PySem.Challenge.pw_evencut_k80_waste_and_papers.main.body.getD i (.Pass ⟨0, 0, 0, 0⟩)
abbrev s__law_cell : Stmt := (top 49)
def d__law_cell : He.DefD := ⟨("_law_cell", none), "_law_cell", "_law_cell", defArgs s__law_cell, defBody s__law_cell, defScope s__law_cell, [], []⟩
abbrev s__law_begun : Stmt := (top 51)
def d__law_begun : He.DefD := ⟨("_law_begun", none), "_law_begun", "_law_begun", defArgs s__law_begun, defBody s__law_begun, defScope s__law_begun, [], []⟩
abbrev s__law_mix : Stmt := (top 50)
def d__law_mix : He.DefD := ⟨("_law_mix", none), "_law_mix", "_law_mix", defArgs s__law_mix, defBody s__law_mix, defScope s__law_mix, [], []⟩
abbrev s__law_pull : Stmt := (top 52)
def d__law_pull : He.DefD := ⟨("_law_pull", none), "_law_pull", "_law_pull", defArgs s__law_pull, defBody s__law_pull, defScope s__law_pull, [], []⟩
abbrev s__law_many_names : Stmt := (top 53)
def d__law_many_names : He.DefD := ⟨("_law_many_names", none), "_law_many_names", "_law_many_names", defArgs s__law_many_names, defBody s__law_many_names, defScope s__law_many_names, [], []⟩
abbrev s__law_plan : Stmt := (top 54)
def d__law_plan : He.DefD := ⟨("_law_plan", none), "_law_plan", "_law_plan", defArgs s__law_plan, defBody s__law_plan, defScope s__law_plan, [], []⟩
abbrev s_Web___init__ : Stmt := (inClass (top 47) 0)
def d_Web___init__ : He.DefD := ⟨("Web", some "__init__"), "__init__", "Web.__init__", defArgs s_Web___init__, defBody s_Web___init__, defScope s_Web___init__, [], []⟩
abbrev s_is_name : Stmt := (top 21)
def d_is_name : He.DefD := ⟨("is_name", none), "is_name", "is_name", defArgs s_is_name, defBody s_is_name, defScope s_is_name, [], []⟩
abbrev s_is_whole : Stmt := (top 20)
def d_is_whole : He.DefD := ⟨("is_whole", none), "is_whole", "is_whole", defArgs s_is_whole, defBody s_is_whole, defScope s_is_whole, [], []⟩
abbrev s_Web_need_weight : Stmt := (inClass (top 47) 5)
def d_Web_need_weight : He.DefD := ⟨("Web", some "need_weight"), "need_weight", "Web.need_weight", defArgs s_Web_need_weight, defBody s_Web_need_weight, defScope s_Web_need_weight, [], []⟩
abbrev s_Web_total : Stmt := (inClass (top 47) 17)
def d_Web_total : He.DefD := ⟨("Web", some "total"), "total", "Web.total", defArgs s_Web_total, defBody s_Web_total, defScope s_Web_total, [], []⟩
abbrev s_Web_put : Stmt := (inClass (top 47) 6)
def d_Web_put : He.DefD := ⟨("Web", some "put"), "put", "Web.put", defArgs s_Web_put, defBody s_Web_put, defScope s_Web_put, [], []⟩
abbrev s_Web_need_place : Stmt := (inClass (top 47) 1)
def d_Web_need_place : He.DefD := ⟨("Web", some "need_place"), "need_place", "Web.need_place", defArgs s_Web_need_place, defBody s_Web_need_place, defScope s_Web_need_place, [], []⟩
abbrev s_Web_need_two : Stmt := (inClass (top 47) 2)
def d_Web_need_two : He.DefD := ⟨("Web", some "need_two"), "need_two", "Web.need_two", defArgs s_Web_need_two, defBody s_Web_need_two, defScope s_Web_need_two, [], []⟩
abbrev s_Web_knot : Stmt := (inClass (top 47) 3)
def d_Web_knot : He.DefD := ⟨("Web", some "knot"), "knot", "Web.knot", defArgs s_Web_knot, defBody s_Web_knot, defScope s_Web_knot, [], []⟩
abbrev s_Web_force : Stmt := (inClass (top 47) 18)
def d_Web_force : He.DefD := ⟨("Web", some "force"), "force", "Web.force", defArgs s_Web_force, defBody s_Web_force, defScope s_Web_force, [], []⟩
abbrev s_Web_tie : Stmt := (inClass (top 47) 9)
def d_Web_tie : He.DefD := ⟨("Web", some "tie"), "tie", "Web.tie", defArgs s_Web_tie, defBody s_Web_tie, defScope s_Web_tie, [], []⟩
abbrev s__law_made : Stmt := (top 55)
def d__law_made : He.DefD := ⟨("_law_made", none), "_law_made", "_law_made", defArgs s__law_made, defBody s__law_made, defScope s__law_made, [], []⟩
abbrev s__law_cutting : Stmt := (top 56)
def d__law_cutting : He.DefD := ⟨("_law_cutting", none), "_law_cutting", "_law_cutting", defArgs s__law_cutting, defBody s__law_cutting, defScope s__law_cutting, [], []⟩
abbrev s__law_weights : Stmt := (top 59)
def d__law_weights : He.DefD := ⟨("_law_weights", none), "_law_weights", "_law_weights", defArgs s__law_weights, defBody s__law_weights, defScope s__law_weights, [], []⟩
abbrev s__law_tight : Stmt := (top 60)
def d__law_tight : He.DefD := ⟨("_law_tight", none), "_law_tight", "_law_tight", defArgs s__law_tight, defBody s__law_tight, defScope s__law_tight, [], []⟩
abbrev s_Rule___init__ : Stmt := (inClass (top 42) 0)
def d_Rule___init__ : He.DefD := ⟨("Rule", some "__init__"), "__init__", "Rule.__init__", defArgs s_Rule___init__, defBody s_Rule___init__, defScope s_Rule___init__, [], []⟩
abbrev s__law_heaviest : Stmt := (top 62)
def d__law_heaviest : He.DefD := ⟨("_law_heaviest", none), "_law_heaviest", "_law_heaviest", defArgs s__law_heaviest, defBody s__law_heaviest, defScope s__law_heaviest, [], []⟩
abbrev s__law_paper : Stmt := (top 63)
def d__law_paper : He.DefD := ⟨("_law_paper", none), "_law_paper", "_law_paper", defArgs s__law_paper, defBody s__law_paper, defScope s__law_paper, [], []⟩
abbrev s_Web_names : Stmt := (inClass (top 47) 12)
def d_Web_names : He.DefD := ⟨("Web", some "names"), "names", "Web.names", defArgs s_Web_names, defBody s_Web_names, defScope s_Web_names, [], []⟩
abbrev s_fault_of : Stmt := (top 23)
def d_fault_of : He.DefD := ⟨("fault_of", none), "fault_of", "fault_of", defArgs s_fault_of, defBody s_fault_of, defScope s_fault_of, [], []⟩
abbrev s_is_cutting : Stmt := (top 24)
def d_is_cutting : He.DefD := ⟨("is_cutting", none), "is_cutting", "is_cutting", defArgs s_is_cutting, defBody s_is_cutting, defScope s_is_cutting, [], []⟩
abbrev s_NoCutting___init__ : Stmt := (inClass (top 15) 0)
def d_NoCutting___init__ : He.DefD := ⟨("NoCutting", some "__init__"), "__init__", "NoCutting.__init__", defArgs s_NoCutting___init__, defBody s_NoCutting___init__, defScope s_NoCutting___init__, [], []⟩
abbrev s_NoNumber___init__ : Stmt := (inClass (top 16) 0)
def d_NoNumber___init__ : He.DefD := ⟨("NoNumber", some "__init__"), "__init__", "NoNumber.__init__", defArgs s_NoNumber___init__, defBody s_NoNumber___init__, defScope s_NoNumber___init__, [], []⟩
abbrev s_need_both : Stmt := (top 32)
def d_need_both : He.DefD := ⟨("need_both", none), "need_both", "need_both", defArgs s_need_both, defBody s_need_both, defScope s_need_both, [], []⟩
abbrev s_need_cutting : Stmt := (top 25)
def d_need_cutting : He.DefD := ⟨("need_cutting", none), "need_cutting", "need_cutting", defArgs s_need_cutting, defBody s_need_cutting, defScope s_need_cutting, [], []⟩
abbrev s_Web_weight : Stmt := (inClass (top 47) 13)
def d_Web_weight : He.DefD := ⟨("Web", some "weight"), "weight", "Web.weight", defArgs s_Web_weight, defBody s_Web_weight, defScope s_Web_weight, [], []⟩
abbrev s_part_weights : Stmt := (top 26)
def d_part_weights : He.DefD := ⟨("part_weights", none), "part_weights", "part_weights", defArgs s_part_weights, defBody s_part_weights, defScope s_part_weights, [], []⟩
abbrev s_part_names : Stmt := (top 27)
def d_part_names : He.DefD := ⟨("part_names", none), "part_names", "part_names", defArgs s_part_names, defBody s_part_names, defScope s_part_names, [], []⟩
abbrev s_heaviest : Stmt := (top 33)
def d_heaviest : He.DefD := ⟨("heaviest", none), "heaviest", "heaviest", defArgs s_heaviest, defBody s_heaviest, defScope s_heaviest, [], []⟩
abbrev s_weight_sum : Stmt := (top 34)
def d_weight_sum : He.DefD := ⟨("weight_sum", none), "weight_sum", "weight_sum", defArgs s_weight_sum, defBody s_weight_sum, defScope s_weight_sum, [], []⟩
abbrev s_stuck_paper : Stmt := (top 35)
def d_stuck_paper : He.DefD := ⟨("stuck_paper", none), "stuck_paper", "stuck_paper", defArgs s_stuck_paper, defBody s_stuck_paper, defScope s_stuck_paper, [], []⟩
abbrev s_waste_by : Stmt := (top 30)
def d_waste_by : He.DefD := ⟨("waste_by", none), "waste_by", "waste_by", defArgs s_waste_by, defBody s_waste_by, defScope s_waste_by, [], []⟩
abbrev s_waste_of : Stmt := (top 31)
def d_waste_of : He.DefD := ⟨("waste_of", none), "waste_of", "waste_of", defArgs s_waste_of, defBody s_waste_of, defScope s_waste_of, [], []⟩
abbrev s__law_waste : Stmt := (top 61)
def d__law_waste : He.DefD := ⟨("_law_waste", none), "_law_waste", "_law_waste", defArgs s__law_waste, defBody s__law_waste, defScope s__law_waste, [], []⟩
abbrev s__law_spoilt : Stmt := (top 65)
def d__law_spoilt : He.DefD := ⟨("_law_spoilt", none), "_law_spoilt", "_law_spoilt", defArgs s__law_spoilt, defBody s__law_spoilt, defScope s__law_spoilt, [], []⟩
abbrev s_are_heaviest : Stmt := (top 36)
def d_are_heaviest : He.DefD := ⟨("are_heaviest", none), "are_heaviest", "are_heaviest", defArgs s_are_heaviest, defBody s_are_heaviest, defScope s_are_heaviest, [], []⟩
abbrev s_shows_stuck : Stmt := (top 37)
def d_shows_stuck : He.DefD := ⟨("shows_stuck", none), "shows_stuck", "shows_stuck", defArgs s_shows_stuck, defBody s_shows_stuck, defScope s_shows_stuck, [], []⟩
abbrev s__law_shows : Stmt := (top 64)
def d__law_shows : He.DefD := ⟨("_law_shows", none), "_law_shows", "_law_shows", defArgs s__law_shows, defBody s__law_shows, defScope s__law_shows, [], []⟩
abbrev s__law_right : Stmt := (top 68)
def d__law_right : He.DefD := ⟨("_law_right", none), "_law_right", "_law_right", defArgs s__law_right, defBody s__law_right, defScope s__law_right, [], []⟩
abbrev s__law_no_cutting : Stmt := (top 58)
def d__law_no_cutting : He.DefD := ⟨("_law_no_cutting", none), "_law_no_cutting", "_law_no_cutting", defArgs s__law_no_cutting, defBody s__law_no_cutting, defScope s__law_no_cutting, [], []⟩
abbrev s__law_refusal : Stmt := (top 66)
def d__law_refusal : He.DefD := ⟨("_law_refusal", none), "_law_refusal", "_law_refusal", defArgs s__law_refusal, defBody s__law_refusal, defScope s__law_refusal, [], []⟩
abbrev s__law_refused : Stmt := (top 67)
def d__law_refused : He.DefD := ⟨("_law_refused", none), "_law_refused", "_law_refused", defArgs s__law_refused, defBody s__law_refused, defScope s__law_refused, [], []⟩
abbrev s_law : Stmt := (top 69)
def d_law : He.DefD := ⟨("law", none), "law", "law", defArgs s_law, defBody s_law, defScope s_law, [], []⟩
def fn0 : List He.DefD := [d__law_cell, d__law_begun, d__law_mix, d__law_pull, d__law_many_names, d__law_plan, d_Web___init__, d_is_name, d_is_whole, d_Web_need_weight, d_Web_total, d_Web_put, d_Web_need_place, d_Web_need_two, d_Web_knot, d_Web_force, d_Web_tie, d__law_made, d__law_cutting, d__law_weights, d__law_tight, d_Rule___init__, d__law_heaviest, d__law_paper, d_Web_names, d_fault_of, d_is_cutting, d_NoCutting___init__, d_NoNumber___init__, d_need_both]
def fn1 : List He.DefD := [d_need_cutting, d_Web_weight, d_part_weights, d_part_names, d_heaviest, d_weight_sum, d_stuck_paper, d_waste_by, d_waste_of, d__law_waste, d__law_spoilt, d_are_heaviest, d_shows_stuck, d__law_shows, d__law_right, d__law_no_cutting, d__law_refusal, d__law_refused, d_law]
def fn : List He.DefD := fn0 ++ fn1
def fa0 : List He.Fa := [.glo "_law_cell", .glo "_law_begun", .glo "_law_mix", .glo "_law_pull", .glo "_law_many_names", .glo "_law_plan", .glo "is_name", .glo "is_whole", .glo "_law_made", .glo "_law_cutting", .glo "_law_weights", .glo "_law_tight", .glo "_law_heaviest", .glo "_law_paper", .glo "fault_of", .glo "is_cutting", .glo "need_both", .glo "need_cutting", .glo "part_weights", .glo "part_names", .glo "heaviest", .glo "weight_sum", .glo "stuck_paper", .glo "waste_by", .glo "waste_of", .glo "_law_waste", .glo "_law_spoilt", .glo "are_heaviest", .glo "shows_stuck", .glo "_law_shows"]
def fa1 : List He.Fa := [.glo "_law_right", .glo "_law_no_cutting", .glo "_law_refusal", .glo "_law_refused", .glo "law", .glo "Rule", .cls "Rule", .mkr "Rule", .noat "Rule" "parts", .noat "Rule" "low", .noat "Rule" "high", .glo "Web", .cls "Web", .mkr "Web", .noat "Web" "heavy", .noat "Web" "knots", .meth "Web" "need_weight", .meth "Web" "total", .meth "Web" "put", .meth "Web" "need_place", .meth "Web" "need_two", .meth "Web" "knot", .meth "Web" "force", .meth "Web" "tie", .meth "Web" "names", .meth "Web" "weight", .free "range", .free "max", .free "min", .free "len"]
def fa2 : List He.Fa := [.int "MOST_PLACES" 60, .int "MOST" 1000000000, .free "isinstance", .free "str", .int "LONGEST_NAME" 8, .free "all", .str "LETTERS" "abcdefghijklmnopqrstuvwxyz", .free "int", .free "bool", .free "sum", .int "MOST_TIES" 200, .free "list", .int "LEAST_PARTS" 2, .int "MOST_PARTS" 6, .int "GREATEST_BOUND" 1000000000, .free "dict", .free "tuple", .free "sorted", .free "enumerate", .int "MOST_BUDGET" 60, .glo "CutError", .glo "NoCutting", .glo "NoNumber", .glo "NoPlace", .exm "NoCutting" "CutError" true, .exm "NoNumber" "CutError" true]
def fa : List He.Fa := fa0 ++ fa1 ++ fa2
def xs : List Str := (["_law_cell", "_law_begun", "_law_mix", "_law_pull", "_law_many_names", "_law_plan", "is_name", "is_whole", "_law_made", "_law_cutting", "_law_weights", "_law_tight", "_law_heaviest", "_law_paper", "fault_of", "is_cutting", "need_both", "need_cutting", "part_weights", "part_names", "heaviest", "weight_sum", "stuck_paper", "waste_by", "waste_of", "_law_waste", "_law_spoilt", "are_heaviest", "shows_stuck", "_law_shows"] : List Str) ++ (["_law_right", "_law_no_cutting", "_law_refusal", "_law_refused", "law", "Rule", "Web", "CutError", "NoCutting", "NoNumber", "NoPlace"] : List Str)
def ex (K : PySem.W.Frag) : Bool := (DL.exB K (He.ga K "NoCutting") (He.ma K (He.ga K "NoCutting") "__init__")) && ((DL.exB K (He.ga K "NoNumber") (He.ma K (He.ga K "NoNumber") "__init__")) && ((DL.cinB K (He.ga K "CutError")) && ((decide (PySem.W.kitOne K (.ref (He.ga K "NoCutting")) (.ref (He.ga K "NoCutting")) = some true)) && ((decide (PySem.W.kitAny K (.ref (He.ga K "NoCutting")) [(.ref (He.ga K "NoNumber")), (.ref (He.ga K "NoPlace"))] = some false)) && ((decide (PySem.W.kitOne K (.ref (He.ga K "NoNumber")) (.ref (He.ga K "NoCutting")) = some false)) && ((decide (PySem.W.kitOne K (.ref (He.ga K "NoNumber")) (.ref (He.ga K "NoNumber")) = some true)) && ((decide (PySem.W.kitOne K (.ref (He.ga K "NoNumber")) (.ref (He.ga K "NoPlace")) = some false)) && ((decide (K.lookup (He.cT K ("heaviest", none)).2 = none)) && (true)))))))))
def tf : List He.Defn := [("heaviest", none)]
def cs (K : PySem.W.Frag) : List (Addr × Addr) := tf.map (He.cT K)
abbrev Rw : PySem.W.OpenRow := PySem.W.OpenLaw.row PySem.Challenge.rw_evencut_k80_waste_and_papers
abbrev hk : PySem.W.Hook := hookF xs fa fn tf ex
def ob (s : PySem.W.SharedT) : AlF := obsFG xs fa fn tf ex (HandSHeadRun.getT s)
theorem ob_eq (s : PySem.W.SharedT) : ob s = hk.obs s.abs := obsFG_eq (HandSHeadRun.getT_eq s)
def loose : List Str := (["_wall", "__name__", "CutError", "NoName", "NoWeight", "NoStrength", "NoPlace", "NoTie", "Same", "Taken", "Tied", "TooMany", "Beyond", "NoParts", "NoBound", "NoCutting", "NoNumber", "LETTERS", "LONGEST_NAME", "is_whole", "is_name", "fault_of", "is_cutting", "need_cutting", "part_weights", "part_names", "MOST_BUDGET", "waste_by", "waste_of", "need_both"] : List Str) ++ (["heaviest", "weight_sum", "stuck_paper", "are_heaviest", "shows_stuck", "LEAST_PARTS", "MOST_PARTS", "GREATEST_BOUND", "Rule", "MOST_PLACES", "MOST_TIES", "MOST", "Web", "_law_cell", "_law_mix", "_law_begun", "_law_pull", "_law_many_names", "_law_plan", "_law_made", "_law_cutting", "_law_cut", "_law_no_cutting", "_law_weights", "_law_tight", "_law_waste", "_law_heaviest", "_law_paper", "_law_shows", "_law_spoilt"] : List Str) ++ (["_law_refusal", "_law_refused", "_law_right"] : List Str)
theorem run (w : World) : HandSHeadRun.RunEq Rw (PySem.W.view Rw.prog [69]) hk ob 40000 loose w := by
  intro os
  kernel_rfl
/-- what a walk leans on -/
inductive Tx (P : Program) (w : World) (K : PySem.W.Frag) (mg : Str → Option Value) (base : Heap) : Prop where
  | mk (h : Heap) (X : K.In h) (G : h.Ns mainGlobals mg) (c : SaysF fa fn tf ex h K) (tb : ∀ p ∈ cs K, LamX.TabB base mg p.1 p.2) : Tx P w K mg base
theorem Tx.elim {P : Program} {w : World} {K : PySem.W.Frag} {mg : Str → Option Value} {base : Heap} {A : Prop} (T : Tx P w K mg base) (f : ∀ (h : Heap), K.In h → h.Ns mainGlobals mg → SaysF fa fn tf ex h K → (∀ p ∈ cs K, LamX.TabB base mg p.1 p.2) → A) : A := by
  obtain ⟨h, X, G, c, tb⟩ := T
  exact f h X G c tb
section
variable {P : Program} {w : World} {K : PySem.W.Frag} {mg : Str → Option Value} {base : Heap}
theorem m__law_cell (T : Tx P w K mg base) : mg "_law_cell" = some (.ref (He.ga K "_law_cell")) := T.elim fun _ X G c _ => He.glo_ok X G (c.d.fact 0 (f := .glo "_law_cell") rfl)
theorem m__law_begun (T : Tx P w K mg base) : mg "_law_begun" = some (.ref (He.ga K "_law_begun")) := T.elim fun _ X G c _ => He.glo_ok X G (c.d.fact 1 (f := .glo "_law_begun") rfl)
theorem m__law_mix (T : Tx P w K mg base) : mg "_law_mix" = some (.ref (He.ga K "_law_mix")) := T.elim fun _ X G c _ => He.glo_ok X G (c.d.fact 2 (f := .glo "_law_mix") rfl)
theorem m__law_pull (T : Tx P w K mg base) : mg "_law_pull" = some (.ref (He.ga K "_law_pull")) := T.elim fun _ X G c _ => He.glo_ok X G (c.d.fact 3 (f := .glo "_law_pull") rfl)
theorem m__law_many_names (T : Tx P w K mg base) : mg "_law_many_names" = some (.ref (He.ga K "_law_many_names")) := T.elim fun _ X G c _ => He.glo_ok X G (c.d.fact 4 (f := .glo "_law_many_names") rfl)
theorem m__law_plan (T : Tx P w K mg base) : mg "_law_plan" = some (.ref (He.ga K "_law_plan")) := T.elim fun _ X G c _ => He.glo_ok X G (c.d.fact 5 (f := .glo "_law_plan") rfl)
theorem m_is_name (T : Tx P w K mg base) : mg "is_name" = some (.ref (He.ga K "is_name")) := T.elim fun _ X G c _ => He.glo_ok X G (c.d.fact 6 (f := .glo "is_name") rfl)
theorem m_is_whole (T : Tx P w K mg base) : mg "is_whole" = some (.ref (He.ga K "is_whole")) := T.elim fun _ X G c _ => He.glo_ok X G (c.d.fact 7 (f := .glo "is_whole") rfl)
theorem m__law_made (T : Tx P w K mg base) : mg "_law_made" = some (.ref (He.ga K "_law_made")) := T.elim fun _ X G c _ => He.glo_ok X G (c.d.fact 8 (f := .glo "_law_made") rfl)
theorem m__law_cutting (T : Tx P w K mg base) : mg "_law_cutting" = some (.ref (He.ga K "_law_cutting")) := T.elim fun _ X G c _ => He.glo_ok X G (c.d.fact 9 (f := .glo "_law_cutting") rfl)
theorem m__law_weights (T : Tx P w K mg base) : mg "_law_weights" = some (.ref (He.ga K "_law_weights")) := T.elim fun _ X G c _ => He.glo_ok X G (c.d.fact 10 (f := .glo "_law_weights") rfl)
theorem m__law_tight (T : Tx P w K mg base) : mg "_law_tight" = some (.ref (He.ga K "_law_tight")) := T.elim fun _ X G c _ => He.glo_ok X G (c.d.fact 11 (f := .glo "_law_tight") rfl)
theorem m__law_heaviest (T : Tx P w K mg base) : mg "_law_heaviest" = some (.ref (He.ga K "_law_heaviest")) := T.elim fun _ X G c _ => He.glo_ok X G (c.d.fact 12 (f := .glo "_law_heaviest") rfl)
theorem m__law_paper (T : Tx P w K mg base) : mg "_law_paper" = some (.ref (He.ga K "_law_paper")) := T.elim fun _ X G c _ => He.glo_ok X G (c.d.fact 13 (f := .glo "_law_paper") rfl)
theorem m_fault_of (T : Tx P w K mg base) : mg "fault_of" = some (.ref (He.ga K "fault_of")) := T.elim fun _ X G c _ => He.glo_ok X G (c.d.fact 14 (f := .glo "fault_of") rfl)
theorem m_is_cutting (T : Tx P w K mg base) : mg "is_cutting" = some (.ref (He.ga K "is_cutting")) := T.elim fun _ X G c _ => He.glo_ok X G (c.d.fact 15 (f := .glo "is_cutting") rfl)
theorem m_need_both (T : Tx P w K mg base) : mg "need_both" = some (.ref (He.ga K "need_both")) := T.elim fun _ X G c _ => He.glo_ok X G (c.d.fact 16 (f := .glo "need_both") rfl)
theorem m_need_cutting (T : Tx P w K mg base) : mg "need_cutting" = some (.ref (He.ga K "need_cutting")) := T.elim fun _ X G c _ => He.glo_ok X G (c.d.fact 17 (f := .glo "need_cutting") rfl)
theorem m_part_weights (T : Tx P w K mg base) : mg "part_weights" = some (.ref (He.ga K "part_weights")) := T.elim fun _ X G c _ => He.glo_ok X G (c.d.fact 18 (f := .glo "part_weights") rfl)
theorem m_part_names (T : Tx P w K mg base) : mg "part_names" = some (.ref (He.ga K "part_names")) := T.elim fun _ X G c _ => He.glo_ok X G (c.d.fact 19 (f := .glo "part_names") rfl)
theorem m_heaviest (T : Tx P w K mg base) : mg "heaviest" = some (.ref (He.ga K "heaviest")) := T.elim fun _ X G c _ => He.glo_ok X G (c.d.fact 20 (f := .glo "heaviest") rfl)
theorem m_weight_sum (T : Tx P w K mg base) : mg "weight_sum" = some (.ref (He.ga K "weight_sum")) := T.elim fun _ X G c _ => He.glo_ok X G (c.d.fact 21 (f := .glo "weight_sum") rfl)
theorem m_stuck_paper (T : Tx P w K mg base) : mg "stuck_paper" = some (.ref (He.ga K "stuck_paper")) := T.elim fun _ X G c _ => He.glo_ok X G (c.d.fact 22 (f := .glo "stuck_paper") rfl)
theorem m_waste_by (T : Tx P w K mg base) : mg "waste_by" = some (.ref (He.ga K "waste_by")) := T.elim fun _ X G c _ => He.glo_ok X G (c.d.fact 23 (f := .glo "waste_by") rfl)
theorem m_waste_of (T : Tx P w K mg base) : mg "waste_of" = some (.ref (He.ga K "waste_of")) := T.elim fun _ X G c _ => He.glo_ok X G (c.d.fact 24 (f := .glo "waste_of") rfl)
theorem m__law_waste (T : Tx P w K mg base) : mg "_law_waste" = some (.ref (He.ga K "_law_waste")) := T.elim fun _ X G c _ => He.glo_ok X G (c.d.fact 25 (f := .glo "_law_waste") rfl)
theorem m__law_spoilt (T : Tx P w K mg base) : mg "_law_spoilt" = some (.ref (He.ga K "_law_spoilt")) := T.elim fun _ X G c _ => He.glo_ok X G (c.d.fact 26 (f := .glo "_law_spoilt") rfl)
theorem m_are_heaviest (T : Tx P w K mg base) : mg "are_heaviest" = some (.ref (He.ga K "are_heaviest")) := T.elim fun _ X G c _ => He.glo_ok X G (c.d.fact 27 (f := .glo "are_heaviest") rfl)
theorem m_shows_stuck (T : Tx P w K mg base) : mg "shows_stuck" = some (.ref (He.ga K "shows_stuck")) := T.elim fun _ X G c _ => He.glo_ok X G (c.d.fact 28 (f := .glo "shows_stuck") rfl)
theorem m__law_shows (T : Tx P w K mg base) : mg "_law_shows" = some (.ref (He.ga K "_law_shows")) := T.elim fun _ X G c _ => He.glo_ok X G (c.d.fact 29 (f := .glo "_law_shows") rfl)
theorem m__law_right (T : Tx P w K mg base) : mg "_law_right" = some (.ref (He.ga K "_law_right")) := T.elim fun _ X G c _ => He.glo_ok X G (c.d.fact 30 (f := .glo "_law_right") rfl)
theorem m__law_no_cutting (T : Tx P w K mg base) : mg "_law_no_cutting" = some (.ref (He.ga K "_law_no_cutting")) := T.elim fun _ X G c _ => He.glo_ok X G (c.d.fact 31 (f := .glo "_law_no_cutting") rfl)
theorem m__law_refusal (T : Tx P w K mg base) : mg "_law_refusal" = some (.ref (He.ga K "_law_refusal")) := T.elim fun _ X G c _ => He.glo_ok X G (c.d.fact 32 (f := .glo "_law_refusal") rfl)
theorem m__law_refused (T : Tx P w K mg base) : mg "_law_refused" = some (.ref (He.ga K "_law_refused")) := T.elim fun _ X G c _ => He.glo_ok X G (c.d.fact 33 (f := .glo "_law_refused") rfl)
theorem m_law (T : Tx P w K mg base) : mg "law" = some (.ref (He.ga K "law")) := T.elim fun _ X G c _ => He.glo_ok X G (c.d.fact 34 (f := .glo "law") rfl)
theorem m_Rule (T : Tx P w K mg base) : mg "Rule" = some (.ref (He.ga K "Rule")) := T.elim fun _ X G c _ => He.glo_ok X G (c.d.fact 35 (f := .glo "Rule") rfl)
theorem k_Rule (T : Tx P w K mg base) : Cls K (He.ga K "Rule") := T.elim fun _ X G c _ => He.cls_ok (c.d.fact 36 (f := .cls "Rule") rfl)
theorem mk_Rule (T : Tx P w K mg base) : Mk K (He.ga K "Rule") (He.ma K (He.ga K "Rule") "__init__") := T.elim fun _ X G c _ => He.mkr_ok (c.d.fact 37 (f := .mkr "Rule") rfl)
theorem na_Rule_parts (T : Tx P w K mg base) : NoAttr K (He.ga K "Rule") "parts" := T.elim fun _ X G c _ => He.noat_ok (c.d.fact 38 (f := .noat "Rule" "parts") rfl)
theorem na_Rule_low (T : Tx P w K mg base) : NoAttr K (He.ga K "Rule") "low" := T.elim fun _ X G c _ => He.noat_ok (c.d.fact 39 (f := .noat "Rule" "low") rfl)
theorem na_Rule_high (T : Tx P w K mg base) : NoAttr K (He.ga K "Rule") "high" := T.elim fun _ X G c _ => He.noat_ok (c.d.fact 40 (f := .noat "Rule" "high") rfl)
theorem m_Web (T : Tx P w K mg base) : mg "Web" = some (.ref (He.ga K "Web")) := T.elim fun _ X G c _ => He.glo_ok X G (c.d.fact 41 (f := .glo "Web") rfl)
theorem k_Web (T : Tx P w K mg base) : Cls K (He.ga K "Web") := T.elim fun _ X G c _ => He.cls_ok (c.d.fact 42 (f := .cls "Web") rfl)
theorem mk_Web (T : Tx P w K mg base) : Mk K (He.ga K "Web") (He.ma K (He.ga K "Web") "__init__") := T.elim fun _ X G c _ => He.mkr_ok (c.d.fact 43 (f := .mkr "Web") rfl)
theorem na_Web_heavy (T : Tx P w K mg base) : NoAttr K (He.ga K "Web") "heavy" := T.elim fun _ X G c _ => He.noat_ok (c.d.fact 44 (f := .noat "Web" "heavy") rfl)
theorem na_Web_knots (T : Tx P w K mg base) : NoAttr K (He.ga K "Web") "knots" := T.elim fun _ X G c _ => He.noat_ok (c.d.fact 45 (f := .noat "Web" "knots") rfl)
theorem me_Web_need_weight (T : Tx P w K mg base) : Meth K (He.ga K "Web") "need_weight" (He.ma K (He.ga K "Web") "need_weight") := T.elim fun _ X G c _ => He.meth_ok (c.d.fact 46 (f := .meth "Web" "need_weight") rfl)
theorem me_Web_total (T : Tx P w K mg base) : Meth K (He.ga K "Web") "total" (He.ma K (He.ga K "Web") "total") := T.elim fun _ X G c _ => He.meth_ok (c.d.fact 47 (f := .meth "Web" "total") rfl)
theorem me_Web_put (T : Tx P w K mg base) : Meth K (He.ga K "Web") "put" (He.ma K (He.ga K "Web") "put") := T.elim fun _ X G c _ => He.meth_ok (c.d.fact 48 (f := .meth "Web" "put") rfl)
theorem me_Web_need_place (T : Tx P w K mg base) : Meth K (He.ga K "Web") "need_place" (He.ma K (He.ga K "Web") "need_place") := T.elim fun _ X G c _ => He.meth_ok (c.d.fact 49 (f := .meth "Web" "need_place") rfl)
theorem me_Web_need_two (T : Tx P w K mg base) : Meth K (He.ga K "Web") "need_two" (He.ma K (He.ga K "Web") "need_two") := T.elim fun _ X G c _ => He.meth_ok (c.d.fact 50 (f := .meth "Web" "need_two") rfl)
theorem me_Web_knot (T : Tx P w K mg base) : Meth K (He.ga K "Web") "knot" (He.ma K (He.ga K "Web") "knot") := T.elim fun _ X G c _ => He.meth_ok (c.d.fact 51 (f := .meth "Web" "knot") rfl)
theorem me_Web_force (T : Tx P w K mg base) : Meth K (He.ga K "Web") "force" (He.ma K (He.ga K "Web") "force") := T.elim fun _ X G c _ => He.meth_ok (c.d.fact 52 (f := .meth "Web" "force") rfl)
theorem me_Web_tie (T : Tx P w K mg base) : Meth K (He.ga K "Web") "tie" (He.ma K (He.ga K "Web") "tie") := T.elim fun _ X G c _ => He.meth_ok (c.d.fact 53 (f := .meth "Web" "tie") rfl)
theorem me_Web_names (T : Tx P w K mg base) : Meth K (He.ga K "Web") "names" (He.ma K (He.ga K "Web") "names") := T.elim fun _ X G c _ => He.meth_ok (c.d.fact 54 (f := .meth "Web" "names") rfl)
theorem me_Web_weight (T : Tx P w K mg base) : Meth K (He.ga K "Web") "weight" (He.ma K (He.ga K "Web") "weight") := T.elim fun _ X G c _ => He.meth_ok (c.d.fact 55 (f := .meth "Web" "weight") rfl)
theorem f_range (T : Tx P w K mg base) : mg "range" = none := T.elim fun _ X G c _ => He.free_ok X G (c.d.fact 56 (f := .free "range") rfl)
theorem f_max (T : Tx P w K mg base) : mg "max" = none := T.elim fun _ X G c _ => He.free_ok X G (c.d.fact 57 (f := .free "max") rfl)
theorem f_min (T : Tx P w K mg base) : mg "min" = none := T.elim fun _ X G c _ => He.free_ok X G (c.d.fact 58 (f := .free "min") rfl)
theorem f_len (T : Tx P w K mg base) : mg "len" = none := T.elim fun _ X G c _ => He.free_ok X G (c.d.fact 59 (f := .free "len") rfl)
theorem i_MOST_PLACES (T : Tx P w K mg base) : ∃ t, mg "MOST_PLACES" = some (.int 60 t) := T.elim fun _ X G c _ => He.int_ok X G (c.d.fact 60 (f := .int "MOST_PLACES" 60) rfl)
theorem i_MOST (T : Tx P w K mg base) : ∃ t, mg "MOST" = some (.int 1000000000 t) := T.elim fun _ X G c _ => He.int_ok X G (c.d.fact 61 (f := .int "MOST" 1000000000) rfl)
theorem f_isinstance (T : Tx P w K mg base) : mg "isinstance" = none := T.elim fun _ X G c _ => He.free_ok X G (c.d.fact 62 (f := .free "isinstance") rfl)
theorem f_str (T : Tx P w K mg base) : mg "str" = none := T.elim fun _ X G c _ => He.free_ok X G (c.d.fact 63 (f := .free "str") rfl)
theorem i_LONGEST_NAME (T : Tx P w K mg base) : ∃ t, mg "LONGEST_NAME" = some (.int 8 t) := T.elim fun _ X G c _ => He.int_ok X G (c.d.fact 64 (f := .int "LONGEST_NAME" 8) rfl)
theorem f_all (T : Tx P w K mg base) : mg "all" = none := T.elim fun _ X G c _ => He.free_ok X G (c.d.fact 65 (f := .free "all") rfl)
theorem i_LETTERS (T : Tx P w K mg base) : ∃ t, mg "LETTERS" = some (.str "abcdefghijklmnopqrstuvwxyz" t) := T.elim fun _ X G c _ => He.str_ok X G (c.d.fact 66 (f := .str "LETTERS" "abcdefghijklmnopqrstuvwxyz") rfl)
theorem f_int (T : Tx P w K mg base) : mg "int" = none := T.elim fun _ X G c _ => He.free_ok X G (c.d.fact 67 (f := .free "int") rfl)
theorem f_bool (T : Tx P w K mg base) : mg "bool" = none := T.elim fun _ X G c _ => He.free_ok X G (c.d.fact 68 (f := .free "bool") rfl)
theorem f_sum (T : Tx P w K mg base) : mg "sum" = none := T.elim fun _ X G c _ => He.free_ok X G (c.d.fact 69 (f := .free "sum") rfl)
theorem i_MOST_TIES (T : Tx P w K mg base) : ∃ t, mg "MOST_TIES" = some (.int 200 t) := T.elim fun _ X G c _ => He.int_ok X G (c.d.fact 70 (f := .int "MOST_TIES" 200) rfl)
theorem f_list (T : Tx P w K mg base) : mg "list" = none := T.elim fun _ X G c _ => He.free_ok X G (c.d.fact 71 (f := .free "list") rfl)
theorem i_LEAST_PARTS (T : Tx P w K mg base) : ∃ t, mg "LEAST_PARTS" = some (.int 2 t) := T.elim fun _ X G c _ => He.int_ok X G (c.d.fact 72 (f := .int "LEAST_PARTS" 2) rfl)
theorem i_MOST_PARTS (T : Tx P w K mg base) : ∃ t, mg "MOST_PARTS" = some (.int 6 t) := T.elim fun _ X G c _ => He.int_ok X G (c.d.fact 73 (f := .int "MOST_PARTS" 6) rfl)
theorem i_GREATEST_BOUND (T : Tx P w K mg base) : ∃ t, mg "GREATEST_BOUND" = some (.int 1000000000 t) := T.elim fun _ X G c _ => He.int_ok X G (c.d.fact 74 (f := .int "GREATEST_BOUND" 1000000000) rfl)
theorem f_dict (T : Tx P w K mg base) : mg "dict" = none := T.elim fun _ X G c _ => He.free_ok X G (c.d.fact 75 (f := .free "dict") rfl)
theorem f_tuple (T : Tx P w K mg base) : mg "tuple" = none := T.elim fun _ X G c _ => He.free_ok X G (c.d.fact 76 (f := .free "tuple") rfl)
theorem f_sorted (T : Tx P w K mg base) : mg "sorted" = none := T.elim fun _ X G c _ => He.free_ok X G (c.d.fact 77 (f := .free "sorted") rfl)
theorem f_enumerate (T : Tx P w K mg base) : mg "enumerate" = none := T.elim fun _ X G c _ => He.free_ok X G (c.d.fact 78 (f := .free "enumerate") rfl)
theorem i_MOST_BUDGET (T : Tx P w K mg base) : ∃ t, mg "MOST_BUDGET" = some (.int 60 t) := T.elim fun _ X G c _ => He.int_ok X G (c.d.fact 79 (f := .int "MOST_BUDGET" 60) rfl)
theorem m_CutError (T : Tx P w K mg base) : mg "CutError" = some (.ref (He.ga K "CutError")) := T.elim fun _ X G c _ => He.glo_ok X G (c.d.fact 80 (f := .glo "CutError") rfl)
theorem m_NoCutting (T : Tx P w K mg base) : mg "NoCutting" = some (.ref (He.ga K "NoCutting")) := T.elim fun _ X G c _ => He.glo_ok X G (c.d.fact 81 (f := .glo "NoCutting") rfl)
theorem m_NoNumber (T : Tx P w K mg base) : mg "NoNumber" = some (.ref (He.ga K "NoNumber")) := T.elim fun _ X G c _ => He.glo_ok X G (c.d.fact 82 (f := .glo "NoNumber") rfl)
theorem m_NoPlace (T : Tx P w K mg base) : mg "NoPlace" = some (.ref (He.ga K "NoPlace")) := T.elim fun _ X G c _ => He.glo_ok X G (c.d.fact 83 (f := .glo "NoPlace") rfl)
theorem exm_NoCutting_CutError (T : Tx P w K mg base) : PySem.W.exmOne K (.ref (He.ga K "NoCutting")) (.ref (He.ga K "CutError")) = some true := T.elim fun _ X G c _ => He.exm_ok (c.d.fact 84 (f := .exm "NoCutting" "CutError" true) rfl)
theorem exm_NoNumber_CutError (T : Tx P w K mg base) : PySem.W.exmOne K (.ref (He.ga K "NoNumber")) (.ref (He.ga K "CutError")) = some true := T.elim fun _ X G c _ => He.exm_ok (c.d.fact 85 (f := .exm "NoNumber" "CutError" true) rfl)
theorem at__law_cell (T : Tx P w K mg base) : ∃ fd, FunD K d__law_cell.name d__law_cell.qual d__law_cell.params d__law_cell.body d__law_cell.scope (d__law_cell.dvs K) (d__law_cell.kws K) (He.fAd K d__law_cell.at_) fd := T.elim fun _ X G c _ => c.d.def_ 0 (d := d__law_cell) rfl
theorem at__law_begun (T : Tx P w K mg base) : ∃ fd, FunD K d__law_begun.name d__law_begun.qual d__law_begun.params d__law_begun.body d__law_begun.scope (d__law_begun.dvs K) (d__law_begun.kws K) (He.fAd K d__law_begun.at_) fd := T.elim fun _ X G c _ => c.d.def_ 1 (d := d__law_begun) rfl
theorem at__law_mix (T : Tx P w K mg base) : ∃ fd, FunD K d__law_mix.name d__law_mix.qual d__law_mix.params d__law_mix.body d__law_mix.scope (d__law_mix.dvs K) (d__law_mix.kws K) (He.fAd K d__law_mix.at_) fd := T.elim fun _ X G c _ => c.d.def_ 2 (d := d__law_mix) rfl
theorem at__law_pull (T : Tx P w K mg base) : ∃ fd, FunD K d__law_pull.name d__law_pull.qual d__law_pull.params d__law_pull.body d__law_pull.scope (d__law_pull.dvs K) (d__law_pull.kws K) (He.fAd K d__law_pull.at_) fd := T.elim fun _ X G c _ => c.d.def_ 3 (d := d__law_pull) rfl
theorem at__law_many_names (T : Tx P w K mg base) : ∃ fd, FunD K d__law_many_names.name d__law_many_names.qual d__law_many_names.params d__law_many_names.body d__law_many_names.scope (d__law_many_names.dvs K) (d__law_many_names.kws K) (He.fAd K d__law_many_names.at_) fd := T.elim fun _ X G c _ => c.d.def_ 4 (d := d__law_many_names) rfl
theorem at__law_plan (T : Tx P w K mg base) : ∃ fd, FunD K d__law_plan.name d__law_plan.qual d__law_plan.params d__law_plan.body d__law_plan.scope (d__law_plan.dvs K) (d__law_plan.kws K) (He.fAd K d__law_plan.at_) fd := T.elim fun _ X G c _ => c.d.def_ 5 (d := d__law_plan) rfl
theorem at_Web___init__ (T : Tx P w K mg base) : ∃ fd, FunD K d_Web___init__.name d_Web___init__.qual d_Web___init__.params d_Web___init__.body d_Web___init__.scope (d_Web___init__.dvs K) (d_Web___init__.kws K) (He.fAd K d_Web___init__.at_) fd := T.elim fun _ X G c _ => c.d.def_ 6 (d := d_Web___init__) rfl
theorem at_is_name (T : Tx P w K mg base) : ∃ fd, FunD K d_is_name.name d_is_name.qual d_is_name.params d_is_name.body d_is_name.scope (d_is_name.dvs K) (d_is_name.kws K) (He.fAd K d_is_name.at_) fd := T.elim fun _ X G c _ => c.d.def_ 7 (d := d_is_name) rfl
theorem at_is_whole (T : Tx P w K mg base) : ∃ fd, FunD K d_is_whole.name d_is_whole.qual d_is_whole.params d_is_whole.body d_is_whole.scope (d_is_whole.dvs K) (d_is_whole.kws K) (He.fAd K d_is_whole.at_) fd := T.elim fun _ X G c _ => c.d.def_ 8 (d := d_is_whole) rfl
theorem at_Web_need_weight (T : Tx P w K mg base) : ∃ fd, FunD K d_Web_need_weight.name d_Web_need_weight.qual d_Web_need_weight.params d_Web_need_weight.body d_Web_need_weight.scope (d_Web_need_weight.dvs K) (d_Web_need_weight.kws K) (He.fAd K d_Web_need_weight.at_) fd := T.elim fun _ X G c _ => c.d.def_ 9 (d := d_Web_need_weight) rfl
theorem at_Web_total (T : Tx P w K mg base) : ∃ fd, FunD K d_Web_total.name d_Web_total.qual d_Web_total.params d_Web_total.body d_Web_total.scope (d_Web_total.dvs K) (d_Web_total.kws K) (He.fAd K d_Web_total.at_) fd := T.elim fun _ X G c _ => c.d.def_ 10 (d := d_Web_total) rfl
theorem at_Web_put (T : Tx P w K mg base) : ∃ fd, FunD K d_Web_put.name d_Web_put.qual d_Web_put.params d_Web_put.body d_Web_put.scope (d_Web_put.dvs K) (d_Web_put.kws K) (He.fAd K d_Web_put.at_) fd := T.elim fun _ X G c _ => c.d.def_ 11 (d := d_Web_put) rfl
theorem at_Web_need_place (T : Tx P w K mg base) : ∃ fd, FunD K d_Web_need_place.name d_Web_need_place.qual d_Web_need_place.params d_Web_need_place.body d_Web_need_place.scope (d_Web_need_place.dvs K) (d_Web_need_place.kws K) (He.fAd K d_Web_need_place.at_) fd := T.elim fun _ X G c _ => c.d.def_ 12 (d := d_Web_need_place) rfl
theorem at_Web_need_two (T : Tx P w K mg base) : ∃ fd, FunD K d_Web_need_two.name d_Web_need_two.qual d_Web_need_two.params d_Web_need_two.body d_Web_need_two.scope (d_Web_need_two.dvs K) (d_Web_need_two.kws K) (He.fAd K d_Web_need_two.at_) fd := T.elim fun _ X G c _ => c.d.def_ 13 (d := d_Web_need_two) rfl
theorem at_Web_knot (T : Tx P w K mg base) : ∃ fd, FunD K d_Web_knot.name d_Web_knot.qual d_Web_knot.params d_Web_knot.body d_Web_knot.scope (d_Web_knot.dvs K) (d_Web_knot.kws K) (He.fAd K d_Web_knot.at_) fd := T.elim fun _ X G c _ => c.d.def_ 14 (d := d_Web_knot) rfl
theorem at_Web_force (T : Tx P w K mg base) : ∃ fd, FunD K d_Web_force.name d_Web_force.qual d_Web_force.params d_Web_force.body d_Web_force.scope (d_Web_force.dvs K) (d_Web_force.kws K) (He.fAd K d_Web_force.at_) fd := T.elim fun _ X G c _ => c.d.def_ 15 (d := d_Web_force) rfl
theorem at_Web_tie (T : Tx P w K mg base) : ∃ fd, FunD K d_Web_tie.name d_Web_tie.qual d_Web_tie.params d_Web_tie.body d_Web_tie.scope (d_Web_tie.dvs K) (d_Web_tie.kws K) (He.fAd K d_Web_tie.at_) fd := T.elim fun _ X G c _ => c.d.def_ 16 (d := d_Web_tie) rfl
theorem at__law_made (T : Tx P w K mg base) : ∃ fd, FunD K d__law_made.name d__law_made.qual d__law_made.params d__law_made.body d__law_made.scope (d__law_made.dvs K) (d__law_made.kws K) (He.fAd K d__law_made.at_) fd := T.elim fun _ X G c _ => c.d.def_ 17 (d := d__law_made) rfl
theorem at__law_cutting (T : Tx P w K mg base) : ∃ fd, FunD K d__law_cutting.name d__law_cutting.qual d__law_cutting.params d__law_cutting.body d__law_cutting.scope (d__law_cutting.dvs K) (d__law_cutting.kws K) (He.fAd K d__law_cutting.at_) fd := T.elim fun _ X G c _ => c.d.def_ 18 (d := d__law_cutting) rfl
theorem at__law_weights (T : Tx P w K mg base) : ∃ fd, FunD K d__law_weights.name d__law_weights.qual d__law_weights.params d__law_weights.body d__law_weights.scope (d__law_weights.dvs K) (d__law_weights.kws K) (He.fAd K d__law_weights.at_) fd := T.elim fun _ X G c _ => c.d.def_ 19 (d := d__law_weights) rfl
theorem at__law_tight (T : Tx P w K mg base) : ∃ fd, FunD K d__law_tight.name d__law_tight.qual d__law_tight.params d__law_tight.body d__law_tight.scope (d__law_tight.dvs K) (d__law_tight.kws K) (He.fAd K d__law_tight.at_) fd := T.elim fun _ X G c _ => c.d.def_ 20 (d := d__law_tight) rfl
theorem at_Rule___init__ (T : Tx P w K mg base) : ∃ fd, FunD K d_Rule___init__.name d_Rule___init__.qual d_Rule___init__.params d_Rule___init__.body d_Rule___init__.scope (d_Rule___init__.dvs K) (d_Rule___init__.kws K) (He.fAd K d_Rule___init__.at_) fd := T.elim fun _ X G c _ => c.d.def_ 21 (d := d_Rule___init__) rfl
theorem at__law_heaviest (T : Tx P w K mg base) : ∃ fd, FunD K d__law_heaviest.name d__law_heaviest.qual d__law_heaviest.params d__law_heaviest.body d__law_heaviest.scope (d__law_heaviest.dvs K) (d__law_heaviest.kws K) (He.fAd K d__law_heaviest.at_) fd := T.elim fun _ X G c _ => c.d.def_ 22 (d := d__law_heaviest) rfl
theorem at__law_paper (T : Tx P w K mg base) : ∃ fd, FunD K d__law_paper.name d__law_paper.qual d__law_paper.params d__law_paper.body d__law_paper.scope (d__law_paper.dvs K) (d__law_paper.kws K) (He.fAd K d__law_paper.at_) fd := T.elim fun _ X G c _ => c.d.def_ 23 (d := d__law_paper) rfl
theorem at_Web_names (T : Tx P w K mg base) : ∃ fd, FunD K d_Web_names.name d_Web_names.qual d_Web_names.params d_Web_names.body d_Web_names.scope (d_Web_names.dvs K) (d_Web_names.kws K) (He.fAd K d_Web_names.at_) fd := T.elim fun _ X G c _ => c.d.def_ 24 (d := d_Web_names) rfl
theorem at_fault_of (T : Tx P w K mg base) : ∃ fd, FunD K d_fault_of.name d_fault_of.qual d_fault_of.params d_fault_of.body d_fault_of.scope (d_fault_of.dvs K) (d_fault_of.kws K) (He.fAd K d_fault_of.at_) fd := T.elim fun _ X G c _ => c.d.def_ 25 (d := d_fault_of) rfl
theorem at_is_cutting (T : Tx P w K mg base) : ∃ fd, FunD K d_is_cutting.name d_is_cutting.qual d_is_cutting.params d_is_cutting.body d_is_cutting.scope (d_is_cutting.dvs K) (d_is_cutting.kws K) (He.fAd K d_is_cutting.at_) fd := T.elim fun _ X G c _ => c.d.def_ 26 (d := d_is_cutting) rfl
theorem at_NoCutting___init__ (T : Tx P w K mg base) : ∃ fd, FunD K d_NoCutting___init__.name d_NoCutting___init__.qual d_NoCutting___init__.params d_NoCutting___init__.body d_NoCutting___init__.scope (d_NoCutting___init__.dvs K) (d_NoCutting___init__.kws K) (He.fAd K d_NoCutting___init__.at_) fd := T.elim fun _ X G c _ => c.d.def_ 27 (d := d_NoCutting___init__) rfl
theorem at_NoNumber___init__ (T : Tx P w K mg base) : ∃ fd, FunD K d_NoNumber___init__.name d_NoNumber___init__.qual d_NoNumber___init__.params d_NoNumber___init__.body d_NoNumber___init__.scope (d_NoNumber___init__.dvs K) (d_NoNumber___init__.kws K) (He.fAd K d_NoNumber___init__.at_) fd := T.elim fun _ X G c _ => c.d.def_ 28 (d := d_NoNumber___init__) rfl
theorem at_need_both (T : Tx P w K mg base) : ∃ fd, FunD K d_need_both.name d_need_both.qual d_need_both.params d_need_both.body d_need_both.scope (d_need_both.dvs K) (d_need_both.kws K) (He.fAd K d_need_both.at_) fd := T.elim fun _ X G c _ => c.d.def_ 29 (d := d_need_both) rfl
theorem at_need_cutting (T : Tx P w K mg base) : ∃ fd, FunD K d_need_cutting.name d_need_cutting.qual d_need_cutting.params d_need_cutting.body d_need_cutting.scope (d_need_cutting.dvs K) (d_need_cutting.kws K) (He.fAd K d_need_cutting.at_) fd := T.elim fun _ X G c _ => c.d.def_ 30 (d := d_need_cutting) rfl
theorem at_Web_weight (T : Tx P w K mg base) : ∃ fd, FunD K d_Web_weight.name d_Web_weight.qual d_Web_weight.params d_Web_weight.body d_Web_weight.scope (d_Web_weight.dvs K) (d_Web_weight.kws K) (He.fAd K d_Web_weight.at_) fd := T.elim fun _ X G c _ => c.d.def_ 31 (d := d_Web_weight) rfl
theorem at_part_weights (T : Tx P w K mg base) : ∃ fd, FunD K d_part_weights.name d_part_weights.qual d_part_weights.params d_part_weights.body d_part_weights.scope (d_part_weights.dvs K) (d_part_weights.kws K) (He.fAd K d_part_weights.at_) fd := T.elim fun _ X G c _ => c.d.def_ 32 (d := d_part_weights) rfl
theorem at_part_names (T : Tx P w K mg base) : ∃ fd, FunD K d_part_names.name d_part_names.qual d_part_names.params d_part_names.body d_part_names.scope (d_part_names.dvs K) (d_part_names.kws K) (He.fAd K d_part_names.at_) fd := T.elim fun _ X G c _ => c.d.def_ 33 (d := d_part_names) rfl
theorem at_heaviest (T : Tx P w K mg base) : ∃ fd, FunD K d_heaviest.name d_heaviest.qual d_heaviest.params d_heaviest.body d_heaviest.scope (d_heaviest.dvs K) (d_heaviest.kws K) (He.fAd K d_heaviest.at_) fd := T.elim fun _ X G c _ => c.d.def_ 34 (d := d_heaviest) rfl
theorem at_weight_sum (T : Tx P w K mg base) : ∃ fd, FunD K d_weight_sum.name d_weight_sum.qual d_weight_sum.params d_weight_sum.body d_weight_sum.scope (d_weight_sum.dvs K) (d_weight_sum.kws K) (He.fAd K d_weight_sum.at_) fd := T.elim fun _ X G c _ => c.d.def_ 35 (d := d_weight_sum) rfl
theorem at_stuck_paper (T : Tx P w K mg base) : ∃ fd, FunD K d_stuck_paper.name d_stuck_paper.qual d_stuck_paper.params d_stuck_paper.body d_stuck_paper.scope (d_stuck_paper.dvs K) (d_stuck_paper.kws K) (He.fAd K d_stuck_paper.at_) fd := T.elim fun _ X G c _ => c.d.def_ 36 (d := d_stuck_paper) rfl
theorem at_waste_by (T : Tx P w K mg base) : ∃ fd, FunD K d_waste_by.name d_waste_by.qual d_waste_by.params d_waste_by.body d_waste_by.scope (d_waste_by.dvs K) (d_waste_by.kws K) (He.fAd K d_waste_by.at_) fd := T.elim fun _ X G c _ => c.d.def_ 37 (d := d_waste_by) rfl
theorem at_waste_of (T : Tx P w K mg base) : ∃ fd, FunD K d_waste_of.name d_waste_of.qual d_waste_of.params d_waste_of.body d_waste_of.scope (d_waste_of.dvs K) (d_waste_of.kws K) (He.fAd K d_waste_of.at_) fd := T.elim fun _ X G c _ => c.d.def_ 38 (d := d_waste_of) rfl
theorem at__law_waste (T : Tx P w K mg base) : ∃ fd, FunD K d__law_waste.name d__law_waste.qual d__law_waste.params d__law_waste.body d__law_waste.scope (d__law_waste.dvs K) (d__law_waste.kws K) (He.fAd K d__law_waste.at_) fd := T.elim fun _ X G c _ => c.d.def_ 39 (d := d__law_waste) rfl
theorem at__law_spoilt (T : Tx P w K mg base) : ∃ fd, FunD K d__law_spoilt.name d__law_spoilt.qual d__law_spoilt.params d__law_spoilt.body d__law_spoilt.scope (d__law_spoilt.dvs K) (d__law_spoilt.kws K) (He.fAd K d__law_spoilt.at_) fd := T.elim fun _ X G c _ => c.d.def_ 40 (d := d__law_spoilt) rfl
theorem at_are_heaviest (T : Tx P w K mg base) : ∃ fd, FunD K d_are_heaviest.name d_are_heaviest.qual d_are_heaviest.params d_are_heaviest.body d_are_heaviest.scope (d_are_heaviest.dvs K) (d_are_heaviest.kws K) (He.fAd K d_are_heaviest.at_) fd := T.elim fun _ X G c _ => c.d.def_ 41 (d := d_are_heaviest) rfl
theorem at_shows_stuck (T : Tx P w K mg base) : ∃ fd, FunD K d_shows_stuck.name d_shows_stuck.qual d_shows_stuck.params d_shows_stuck.body d_shows_stuck.scope (d_shows_stuck.dvs K) (d_shows_stuck.kws K) (He.fAd K d_shows_stuck.at_) fd := T.elim fun _ X G c _ => c.d.def_ 42 (d := d_shows_stuck) rfl
theorem at__law_shows (T : Tx P w K mg base) : ∃ fd, FunD K d__law_shows.name d__law_shows.qual d__law_shows.params d__law_shows.body d__law_shows.scope (d__law_shows.dvs K) (d__law_shows.kws K) (He.fAd K d__law_shows.at_) fd := T.elim fun _ X G c _ => c.d.def_ 43 (d := d__law_shows) rfl
theorem at__law_right (T : Tx P w K mg base) : ∃ fd, FunD K d__law_right.name d__law_right.qual d__law_right.params d__law_right.body d__law_right.scope (d__law_right.dvs K) (d__law_right.kws K) (He.fAd K d__law_right.at_) fd := T.elim fun _ X G c _ => c.d.def_ 44 (d := d__law_right) rfl
theorem at__law_no_cutting (T : Tx P w K mg base) : ∃ fd, FunD K d__law_no_cutting.name d__law_no_cutting.qual d__law_no_cutting.params d__law_no_cutting.body d__law_no_cutting.scope (d__law_no_cutting.dvs K) (d__law_no_cutting.kws K) (He.fAd K d__law_no_cutting.at_) fd := T.elim fun _ X G c _ => c.d.def_ 45 (d := d__law_no_cutting) rfl
theorem at__law_refusal (T : Tx P w K mg base) : ∃ fd, FunD K d__law_refusal.name d__law_refusal.qual d__law_refusal.params d__law_refusal.body d__law_refusal.scope (d__law_refusal.dvs K) (d__law_refusal.kws K) (He.fAd K d__law_refusal.at_) fd := T.elim fun _ X G c _ => c.d.def_ 46 (d := d__law_refusal) rfl
theorem at__law_refused (T : Tx P w K mg base) : ∃ fd, FunD K d__law_refused.name d__law_refused.qual d__law_refused.params d__law_refused.body d__law_refused.scope (d__law_refused.dvs K) (d__law_refused.kws K) (He.fAd K d__law_refused.at_) fd := T.elim fun _ X G c _ => c.d.def_ 47 (d := d__law_refused) rfl
theorem at_law (T : Tx P w K mg base) : ∃ fd, FunD K d_law.name d_law.qual d_law.params d_law.body d_law.scope (d_law.dvs K) (d_law.kws K) (He.fAd K d_law.at_) fd := T.elim fun _ X G c _ => c.d.def_ 48 (d := d_law) rfl
theorem exc_NoCutting (T : Tx P w K mg base) : DL.ExOk K (He.ga K "NoCutting") (He.ma K (He.ga K "NoCutting") "__init__") := T.elim fun _ X G c _ => DL.exB_ok (He.ba c.x).1
theorem exc_NoNumber (T : Tx P w K mg base) : DL.ExOk K (He.ga K "NoNumber") (He.ma K (He.ga K "NoNumber") "__init__") := T.elim fun _ X G c _ => DL.exB_ok (He.ba (He.ba c.x).2).1
theorem cin_CutError (T : Tx P w K mg base) : DL.cinB K (He.ga K "CutError") = true := T.elim fun _ X G c _ => (He.ba (He.ba (He.ba c.x).2).2).1
theorem kit_CC (T : Tx P w K mg base) : PySem.W.kitOne K (.ref (He.ga K "NoCutting")) (.ref (He.ga K "NoCutting")) = some true := T.elim fun _ X G c _ => of_decide_eq_true (He.ba (He.ba (He.ba (He.ba c.x).2).2).2).1
theorem kit_CNP (T : Tx P w K mg base) : PySem.W.kitAny K (.ref (He.ga K "NoCutting")) [(.ref (He.ga K "NoNumber")), (.ref (He.ga K "NoPlace"))] = some false := T.elim fun _ X G c _ => of_decide_eq_true (He.ba (He.ba (He.ba (He.ba (He.ba c.x).2).2).2).2).1
theorem kit_NC (T : Tx P w K mg base) : PySem.W.kitOne K (.ref (He.ga K "NoNumber")) (.ref (He.ga K "NoCutting")) = some false := T.elim fun _ X G c _ => of_decide_eq_true (He.ba (He.ba (He.ba (He.ba (He.ba (He.ba c.x).2).2).2).2).2).1
theorem kit_NN (T : Tx P w K mg base) : PySem.W.kitOne K (.ref (He.ga K "NoNumber")) (.ref (He.ga K "NoNumber")) = some true := T.elim fun _ X G c _ => of_decide_eq_true (He.ba (He.ba (He.ba (He.ba (He.ba (He.ba (He.ba c.x).2).2).2).2).2).2).1
theorem kit_NP (T : Tx P w K mg base) : PySem.W.kitOne K (.ref (He.ga K "NoNumber")) (.ref (He.ga K "NoPlace")) = some false := T.elim fun _ X G c _ => of_decide_eq_true (He.ba (He.ba (He.ba (He.ba (He.ba (He.ba (He.ba (He.ba c.x).2).2).2).2).2).2).2).1
theorem out_heaviest (T : Tx P w K mg base) : K.lookup (He.cT K ("heaviest", none)).2 = none := T.elim fun _ X G c _ => of_decide_eq_true (He.ba (He.ba (He.ba (He.ba (He.ba (He.ba (He.ba (He.ba (He.ba c.x).2).2).2).2).2).2).2).2).1
theorem oex_NoCutting (T : Tx P w K mg base) : OexC K (He.ga K "NoCutting") := (exc_NoCutting T).o
theorem exi_NoCutting (T : Tx P w K mg base) : PySem.W.findIn K (.ref (He.ga K "NoCutting")) "__init__" = some (some (.ref (He.ma K (He.ga K "NoCutting") "__init__"))) := (exc_NoCutting T).i
theorem ext_NoCutting (T : Tx P w K mg base) : PySem.W.typeIn K (.ref (He.ma K (He.ga K "NoCutting") "__init__")) = some (.type "function") := (exc_NoCutting T).t
theorem xf_NoCutting (T : Tx P w K mg base) : XfC K (He.ga K "NoCutting") := (exc_NoCutting T).x
theorem nf_NoCutting (T : Tx P w K mg base) : PySem.W.findIn K (.ref (He.ga K "NoCutting")) "found" = some none := (exc_NoCutting T).n
theorem oex_NoNumber (T : Tx P w K mg base) : OexC K (He.ga K "NoNumber") := (exc_NoNumber T).o
theorem exi_NoNumber (T : Tx P w K mg base) : PySem.W.findIn K (.ref (He.ga K "NoNumber")) "__init__" = some (some (.ref (He.ma K (He.ga K "NoNumber") "__init__"))) := (exc_NoNumber T).i
theorem ext_NoNumber (T : Tx P w K mg base) : PySem.W.typeIn K (.ref (He.ma K (He.ga K "NoNumber") "__init__")) = some (.type "function") := (exc_NoNumber T).t
theorem xf_NoNumber (T : Tx P w K mg base) : XfC K (He.ga K "NoNumber") := (exc_NoNumber T).x
theorem nf_NoNumber (T : Tx P w K mg base) : PySem.W.findIn K (.ref (He.ga K "NoNumber")) "found" = some none := (exc_NoNumber T).n
theorem tb_heaviest (T : Tx P w K mg base) : LamX.TabB base mg (He.cT K ("heaviest", none)).1 (He.cT K ("heaviest", none)).2 := T.elim fun _ X G c tb => tb _ (List.mem_map.mpr ⟨("heaviest", none), by decide, rfl⟩)
end
end EvC
set_option Elab.async false
set_option linter.all false
set_option maxRecDepth 100000
set_option maxHeartbeats 4000000
/-! S80: the data, the promises. -/
namespace EvC
open PySem PySem.Spec PyProof.Rows L2 DL
variable [tsp : TabSpec]
/-! ### data -/
/-- any whole number that is so -/
abbrev RIntP (p : Int → Prop) : R := exR p RInt
abbrev RAnyInt : R := RIntP fun _ => True
/-- a drawn digit -/
abbrev RDigit (m : Int) : R := RIntP fun d => 0 ≤ d ∧ d < m
/-- small letters, one to eight -/
def NameOk (s : Str) : Prop := 1 ≤ s.length ∧ s.length ≤ 8 ∧ ∀ ch ∈ s.cps.toList, ch ∈ ("abcdefghijklmnopqrstuvwxyz" : Str).cps.toList
/-- drawn names -/
def NamesOk (ns : List Str) : Prop := ns.length ≤ 8 ∧ ns.Nodup ∧ ∀ s ∈ ns, NameOk s ∧ 2 ≤ s.length
/-- places and weights -/
def WebOk (hv : List (Str × Int)) : Prop := NamesOk (hv.map (·.1)) ∧ ∀ p ∈ hv, 1 ≤ p.2 ∧ p.2 ≤ 16000000
/-- a tie: two places, a strength -/
def TiesOk (ns : List Str) (ts : List ((Str × Str) × Int)) : Prop := ts.length ≤ 200 ∧ (∀ t ∈ ts, t.1.1 ∈ ns ∧ t.1.2 ∈ ns ∧ t.1.1 ≠ t.1.2 ∧ 1 ≤ t.2 ∧ t.2 ≤ 4900000) ∧
  ts.Pairwise fun a b => ¬ (a.1 = b.1 ∨ (a.1.1 = b.1.2 ∧ a.1.2 = b.1.1))
/-- a cutting: each place's part -/
def CutOk (ns : List Str) (parts : Int) (ct : List (Str × Int)) : Prop := (ct.map (·.1)).Perm ns ∧ ∀ p ∈ ct, 0 ≤ p.2 ∧ p.2 < parts
def look (ct : List (Str × Int)) (s : Str) : Int := ((ct.find? fun p => decide (p.1 = s)).map (·.2)).getD 0
abbrev dSI (ct : List (Str × Int)) : List (Key × R) := ct.map fun p => ((.inr p.1 : Key), RInt p.2)
abbrev RDSI (ct : List (Str × Int)) : R := RDic (dSI ct)
/-- an instance of the class C with fields -/
def RIns (C : Addr) (p : List (Str × V) → Hp → Prop) (mono : ∀ {fs : List (Str × V)} {G G' : Hp}, Same G G' → p fs G → p fs G') : R := ⟨fun v G => ∃ a dx fs, v = .ref a ∧ G a = some (.ins C dx fs) ∧ p fs G, fun e ⟨a, dx, fs, h1, h2, h3⟩ => ⟨a, dx, fs, h1, e _ _ h2, mono e h3⟩⟩
def RRule (K : PySem.W.Frag) (parts low high : Int) : R := RIns (He.ga K "Rule") (fun fs _ => fs.lookup ("parts" : Str) = some (V.int parts) ∧ fs.lookup ("low" : Str) = some (V.int low) ∧ fs.lookup ("high" : Str) = some (V.int high)) fun _ h => h
def RWeb (K : PySem.W.Frag) (hv : List (Str × Int)) : R := RIns (He.ga K "Web") (fun fs G => (∃ h : Addr, fs.lookup ("heavy" : Str) = some (V.ref h) ∧ (RDSI hv).p (.ref h) G) ∧ ∀ m : Str, m ≠ ("heavy" : Str) → m ≠ ("knots" : Str) → fs.lookup m = none) fun e ⟨⟨h, h1, h2⟩, h3⟩ => ⟨⟨h, h1, R.mono _ e h2⟩, h3⟩
/-! ### promises -/
section
abbrev sp__law_cell (P : Program) (w : World) (K : PySem.W.Frag) : Sp := spP (fun i : List Int × Int => [RSeq K (lI i.1), RInt i.2]) (fun i => 0 ≤ i.2 ∧ i.1.length ≤ 100000) fun _ => RAnyInt
abbrev sp__law_mix (P : Program) (w : World) (K : PySem.W.Frag) : Sp := spP (fun i : Int × Int => [RInt i.1, RInt i.2]) (fun _ => True) fun _ => RAnyInt
abbrev sp__law_begun (P : Program) (w : World) (K : PySem.W.Frag) : Sp := spN (fun i : Int => [RInt i]) (fun _ => True) fun _ => HState
abbrev sp__law_pull (P : Program) (w : World) (K : PySem.W.Frag) : Sp := spB HState (fun m : Int => [RInt m]) (fun m => 0 < m ∧ m < 1073741824) fun m => RDigit m
/-- what is_whole is asked of -/
inductive Wh (P : Program) (w : World) (K : PySem.W.Frag) (lo hi : Int) : R → Bool → Prop
  | int (i : Int) : Wh P w K lo hi (RInt i) (decide (lo ≤ i) && decide (i ≤ hi))
  | bl (b : Bool) : Wh P w K lo hi (RBl b) false
  | other {r : R} {t : String} (h : TyR K r t) (hb : kitB t "int" = some false) : Wh P w K lo hi r false
  | odd {r : R} {n : Nat} (h : ∀ v G, r.p v G → ∃ a, v = .ref a ∧ OddD P w G a n) : Wh P w K lo hi r false
abbrev sp_is_whole (P : Program) (w : World) (K : PySem.W.Frag) : Sp := spP (fun i : R × Int × Int × Bool => [i.1, RInt i.2.1, RInt i.2.2.1]) (fun i => Wh P w K i.2.1 i.2.2.1 i.1 i.2.2.2) fun i => RBl i.2.2.2
abbrev sp_is_name (P : Program) (w : World) (K : PySem.W.Frag) : Sp := spP (fun s : Str => [RStr s]) (fun s => NameOk s) fun _ => RBl true
abbrev sp__law_many_names (P : Program) (w : World) (K : PySem.W.Frag) : Sp := spB HState (fun m : Int => [RInt m]) (fun m => 0 ≤ m ∧ m ≤ 8) fun m => exR (fun ns : List Str => NamesOk ns ∧ (ns.length : Int) = m) fun ns => RLst (lS ns)
/-! webs -/
abbrev dSV (hv : List (Str × Int)) : List (Key × V) := hv.map fun p => (Sum.inr p.1, V.int p.2)
abbrev kTI (kn : List ((Str × Str) × Int)) : List (List Key × Int) := kn.map fun p => ([Sum.inr p.1.1, Sum.inr p.1.2], p.2)
abbrev dTV (kn : List ((Str × Str) × Int)) : List (List Key × V) := (kTI kn).map fun p => (p.1, V.int p.2)
/-- fields of a web -/
def FldW (fs : List (Str × V)) (h k : Addr) : Prop := fs.lookup ("heavy" : Str) = some (.ref h) ∧ fs.lookup ("knots" : Str) = some (.ref k) ∧ ∀ m : Str, m ≠ ("heavy" : Str) → m ≠ ("knots" : Str) → fs.lookup m = none
structure WebAt (K : PySem.W.Frag) (hv : List (Str × Int)) (kn : List ((Str × Str) × Int)) (a h k : Addr) (G : Hp) : Prop where
  dh : G h = some (.dK (dSV hv))
  dk : G k = some (.dT (dTV kn))
  ins : ∃ dx fs, G a = some (.ins (He.ga K "Web") dx fs) ∧ FldW fs h k
theorem WebAt.mono {K : PySem.W.Frag} {hv : List (Str × Int)} {kn : List ((Str × Str) × Int)} {a h k : Addr} {G G' : Hp} (e : Same G G') (x : WebAt K hv kn a h k G) : WebAt K hv kn a h k G' := ⟨e _ _ x.dh, e _ _ x.dk, let ⟨dx, fs, i, f⟩ := x.ins; ⟨dx, fs, e _ _ i, f⟩⟩
def RWebK (K : PySem.W.Frag) (hv : List (Str × Int)) (kn : List ((Str × Str) × Int)) : R := ⟨fun v G => ∃ a h k, v = .ref a ∧ WebAt K hv kn a h k G, fun e ⟨a, h, k, h1, h2⟩ => ⟨a, h, k, h1, h2.mono e⟩⟩
/-- r stands for webs with these places -/
structure IsWeb (K : PySem.W.Frag) (hv : List (Str × Int)) (r : R) : Prop where
  hvy : HasFld (He.ga K "Web") "heavy" r (RDSI hv)
  ins : ∀ m : Str, m ≠ ("heavy" : Str) → m ≠ ("knots" : Str) → IsIns (He.ga K "Web") m r
/-- all but h and k stands -/
structure Chg (h k : Addr) (H H' : Hp) : Prop where
  keep : ∀ b o, b ≠ h → b ≠ k → (∀ ps, o ≠ .tbl ps) → H b = some o → H' b = some o
  live : ∀ b, H' b = none → H b = none
  tab : LamX.Tabs tsp.T H'
/-- a def that changes the two dicts of a web -/
def spW {I : Type} (K : PySem.W.Frag) (hv hv' : I → List (Str × Int)) (kn kn' : I → List ((Str × Str) × Int)) (as : I → List R) (pre : I → Prop) : Sp := fun vs H Q _ => ∃ (i : I) (G : Hp) (a h k : Addr) (ws : List V), vs = .ref a :: ws ∧ Le G H ∧ h ≠ k ∧ WebAt K (hv i) (kn i) a h k G ∧ Reps (as i) ws G ∧ pre i ∧
  ∀ H', Chg h k H H' → H' h = some (.dK (dSV (hv' i))) → H' k = some (.dT (dTV (kn' i))) → Q .non H'
def sp_Web___init__ (P : Program) (w : World) (K : PySem.W.Frag) : Sp := fun vs H Q _ => ∃ (a dx : Addr), vs = [.ref a] ∧ H a = some (.ins (He.ga K "Web") dx []) ∧ ∀ h k, H h = none → H k = none → h ≠ k → ∀ fs, FldW fs h k →
  ∀ H', (∀ b, b ≠ a → b ≠ h → b ≠ k → H' b = H b) → H' a = some (.ins (He.ga K "Web") dx fs) → H' h = some (.dK []) → H' k = some (.dT []) → Q .non H'
abbrev sp_Web_need_weight (P : Program) (w : World) (K : PySem.W.Frag) : Sp := spP (fun i : R × Int => [i.1, RInt i.2]) (fun i => 1 ≤ i.2 ∧ i.2 ≤ 1000000000) fun _ => RNon
abbrev sp_Web_total (P : Program) (w : World) (K : PySem.W.Frag) : Sp := spP (fun i : List (Str × Int) × List ((Str × Str) × Int) => [RWebK K i.1 i.2]) (fun i => i.1.length ≤ 1000) fun i => RInt (i.1.map (·.2)).sum
abbrev sp_Web_put (P : Program) (w : World) (K : PySem.W.Frag) : Sp := spW K (fun i : (List (Str × Int) × List ((Str × Str) × Int)) × Str × Int => i.1.1) (fun i => i.1.1 ++ [i.2]) (fun i => i.1.2) (fun i => i.1.2) (fun i => [RStr i.2.1, RInt i.2.2])
  fun i => NameOk i.2.1 ∧ i.2.1 ∉ i.1.1.map (·.1) ∧ i.1.1.length < 8 ∧ (∀ p ∈ i.1.1, 1 ≤ p.2 ∧ p.2 ≤ 16000000) ∧ 1 ≤ i.2.2 ∧ i.2.2 ≤ 16000000
abbrev sp_Web_need_place (P : Program) (w : World) (K : PySem.W.Frag) : Sp := spP (fun i : R × List (Str × Int) × Str => [i.1, RStr i.2.2]) (fun i => IsWeb K i.2.1 i.1 ∧ i.2.2 ∈ i.2.1.map (·.1)) fun _ => RNon
abbrev sp_Web_need_two (P : Program) (w : World) (K : PySem.W.Frag) : Sp := spP (fun i : R × List (Str × Int) × Str × Str => [i.1, RStr i.2.2.1, RStr i.2.2.2]) (fun i => IsWeb K i.2.1 i.1 ∧ i.2.2.1 ∈ i.2.1.map (·.1) ∧ i.2.2.2 ∈ i.2.1.map (·.1) ∧ i.2.2.1 ≠ i.2.2.2) fun _ => RNon
/-- no tie of these two -/
def NoTie (kn : List ((Str × Str) × Int)) (a b : Str) : Prop := ∀ t ∈ kn, t.1 ≠ (a, b) ∧ t.1 ≠ (b, a)
abbrev sp_Web_knot (P : Program) (w : World) (K : PySem.W.Frag) : Sp := spP (fun i : (List (Str × Int) × List ((Str × Str) × Int)) × Str × Str => [RWebK K i.1.1 i.1.2, RStr i.2.1, RStr i.2.2]) (fun i => NoTie i.1.2 i.2.1 i.2.2) fun _ => RNon
abbrev sp_Web_force (P : Program) (w : World) (K : PySem.W.Frag) : Sp := spP (fun i : List (Str × Int) × List ((Str × Str) × Int) => [RWebK K i.1 i.2]) (fun i => i.2.length ≤ 1000) fun i => RInt (i.2.map (·.2)).sum
abbrev sp_Web_tie (P : Program) (w : World) (K : PySem.W.Frag) : Sp := spW K (fun i : (List (Str × Int) × List ((Str × Str) × Int)) × (Str × Str) × Int => i.1.1) (fun i => i.1.1) (fun i => i.1.2) (fun i => i.1.2 ++ [i.2]) (fun i => [RStr i.2.1.1, RStr i.2.1.2, RInt i.2.2])
  fun i => i.2.1.1 ∈ i.1.1.map (·.1) ∧ i.2.1.2 ∈ i.1.1.map (·.1) ∧ i.2.1.1 ≠ i.2.1.2 ∧ NoTie i.1.2 i.2.1.1 i.2.1.2 ∧ i.1.2.length < 200 ∧ (∀ p ∈ i.1.2, 1 ≤ p.2 ∧ p.2 ≤ 4900000) ∧ 1 ≤ i.2.2 ∧ i.2.2 ≤ 4900000
abbrev sp_Web_names (P : Program) (w : World) (K : PySem.W.Frag) : Sp := spP (fun i : R × List (Str × Int) => [i.1]) (fun i => IsWeb K i.2 i.1) fun i => RLst (lS (i.2.map (·.1)))
abbrev sp_Web_weight (P : Program) (w : World) (K : PySem.W.Frag) : Sp := spP (fun i : R × List (Str × Int) × Str => [i.1, RStr i.2.2]) (fun i => IsWeb K i.2.1 i.1 ∧ i.2.2 ∈ i.2.1.map (·.1)) fun i => RInt (look i.2.1 i.2.2)
/-! plans -/
def RTie (K : PySem.W.Frag) (t : (Str × Str) × Int) : R := RTup K [RStr t.1.1, RStr t.1.2, RInt t.2]
abbrev RPlanT (hv : List (Str × Int)) (rt : R) : R := RDic [((.inr "names" : Key), RLst (lS (hv.map (·.1)))), (.inr "weights", RDSI hv), (.inr "ties", rt)]
abbrev RPlan (K : PySem.W.Frag) (hv : List (Str × Int)) (ts : List ((Str × Str) × Int)) : R := RPlanT hv (RLst (ts.map (RTie K)))
abbrev sp__law_plan (P : Program) (w : World) (K : PySem.W.Frag) : Sp := spB HState (fun m : Int => [RInt m]) (fun m => m = 8) fun m => exR (fun i : List (Str × Int) × List ((Str × Str) × Int) => WebOk i.1 ∧ TiesOk (i.1.map (·.1)) i.2) fun i => RPlan K i.1 i.2
abbrev sp__law_made (P : Program) (w : World) (K : PySem.W.Frag) : Sp := spB HState (fun i : List (Str × Int) × List ((Str × Str) × Int) => [RPlan K i.1 i.2]) (fun i => WebOk i.1 ∧ TiesOk (i.1.map (·.1)) i.2) fun i => RWeb K i.1
/-! cuttings, weights, papers: in plain Lean -/
/-- a plan's, a cutting's, a rule's and a budget's data -/
structure Pz where
  hv : List (Str × Int)
  ct : List (Str × Int)
  parts : Int
  lo : Int
  hi : Int
  b : Int
abbrev Pz.ns (z : Pz) : List Str := z.hv.map (·.1)
structure CtOk (hv ct : List (Str × Int)) (parts : Int) : Prop where
  web : WebOk hv
  cut : CutOk (hv.map (·.1)) parts ct
  p2 : 2 ≤ parts
  p6 : parts ≤ 6
structure RlOk (parts lo hi : Int) : Prop where
  p2 : 2 ≤ parts
  p6 : parts ≤ 6
  l0 : 0 ≤ lo
  l9 : lo ≤ 1000000000
  h1 : 1 ≤ hi
  h9 : hi ≤ 1000000000
  lh : lo ≤ hi
structure Pz.ok (z : Pz) : Prop where
  ct : CtOk z.hv z.ct z.parts
  rl : RlOk z.parts z.lo z.hi
  b0 : 0 ≤ z.b
  b6 : z.b ≤ 60
def addAt (ws : List Int) (p : Int) (x : Int) : List Int := ws.set p.toNat (ws.getD p.toNat 0 + x)
def partW (hv ct : List (Str × Int)) (parts : Int) : List Int := hv.foldl (fun ws q => addAt ws (look ct q.1) q.2) (List.replicate parts.toNat 0)
def insideOf (ns : List Str) (ct : List (Str × Int)) (p : Int) : List Str := ns.filter fun s => decide (look ct s = p)
def outsideOf (ns : List Str) (ct : List (Str × Int)) (p : Int) : List Str := ns.filter fun s => !decide (look ct s = p)
def wsum (hv : List (Str × Int)) (ns : List Str) : Int := (ns.map (look hv)).sum
def heavyL (hv : List (Str × Int)) (ns : List Str) : List Str := ((ns.map fun n => (0 - look hv n, n)).mergeSort fun a b => decide (a.1 ≤ b.1)).map (·.2)
def heavyOf (hv : List (Str × Int)) (ns : List Str) (m : Int) : List Str := (heavyL hv ns).take m.toNat
def wasteOf (ws : List Int) (lo hi : Int) : Int := (ws.map fun x => max 0 (x - hi) + max 0 (lo - x)).sum
abbrev Pap : Type := Option (Str × Int × List Str)
def Pz.wt (z : Pz) (p : Nat) : Int := (partW z.hv z.ct z.parts).getD p 0
def Pz.inn (z : Pz) (p : Int) : List Str := heavyOf z.hv (insideOf z.ns z.ct p) z.b
def Pz.out (z : Pz) (p : Int) : List Str := heavyOf z.hv (outsideOf z.ns z.ct p) z.b
def Pz.at_ (z : Pz) (p : Nat) : Pap := if z.hi < z.wt p - wsum z.hv (z.inn p) then some ("heavy", (p : Int), z.inn p) else if z.wt p + wsum z.hv (z.out p) < z.lo then some ("light", (p : Int), z.out p) else none
def Pz.paper (z : Pz) : Pap := (List.range z.parts.toNat).findSome? z.at_
def RPap (K : PySem.W.Frag) : Pap → R
  | none => RNon
  | some (w, p, ns) => RTup K [RStr w, RInt p, RLst (lS ns)]
/-- a thing's words, numbers, lists -/
inductive Dt where
  | str (s : Str) | num (i : Int) | bl (b : Bool) | non | lst (ss : List Str)
  deriving DecidableEq
def RDt : Dt → R
  | .str s => RStr s | .num i => RInt i | .bl b => RBl b | .non => RNon | .lst ss => RLst (lS ss)
/-- a thing: three things, the last a list (a tuple), or none such -/
inductive Th where
  | t3 (w p : Dt) (ns : List Dt) | t3t (w p : Dt) (ns : List Dt) | no
def DtOk : Dt → Prop
  | .str s => PyData.strOk s = true | .lst ss => ss.length ≤ 100 ∧ ∀ s ∈ ss, PyData.strOk s = true | _ => True
inductive IsTh (K : PySem.W.Frag) : R → Th → Prop
  | t3 {w p : Dt} {ns : List Dt} (hw : DtOk w) (hp : DtOk p) (hn : ∀ d ∈ ns, DtOk d) (hl : ns.length ≤ 100) : IsTh K (RTup K [RDt w, RDt p, RLst (ns.map RDt)]) (.t3 w p ns)
  | t3t {w p : Dt} {ns : List Dt} (hw : DtOk w) (hp : DtOk p) (hn : ∀ d ∈ ns, DtOk d) (hl : ns.length ≤ 100) : IsTh K (RTup K [RDt w, RDt p, RTup K (ns.map RDt)]) (.t3t w p ns)
  | ty {r : R} {t : String} (h : TyR K r t) (hb : kitB t "tuple" = some false) : IsTh K r .no
  | len {rs : List R} (h : rs.length ≠ 3) (h2 : rs.length ≤ 10) : IsTh K (RTup K rs) .no
/-- whether all are texts, each a kin, none twice (those ahead: ss) -/
def kinds (kin : List Str) : List Str → List Dt → Option (List Str)
  | ss, [] => some ss
  | ss, .str s :: ds => if s ∈ kin ∧ s ∉ ss then kinds kin (ss ++ [s]) ds else none
  | _, _ :: _ => none
/-- whether these are so many of kin, the heaviest -/
def areH (hv : List (Str × Int)) (kin : List Str) (ds : List Dt) (b : Int) : Bool := if (ds.length : Int) ≠ min b kin.length then false else match kinds kin [] ds with
  | none => false
  | some ss => let left := (kin.filter fun n => !decide (n ∈ ss)).map (look hv)
    decide (left = []) || (decide (ss = []) || decide (lmax left ≤ lmin (ss.map (look hv))))
def strsOf (ds : List Dt) : List Str := ds.filterMap fun d => match d with
  | .str s => some s
  | _ => none
def Pz.shows (z : Pz) : Th → Bool
  | .t3 (.str w) (.num p) ds => if 0 ≤ p ∧ p < z.parts then
      (if w = "heavy" then areH z.hv (insideOf z.ns z.ct p) ds z.b && decide (z.hi < z.wt p.toNat - wsum z.hv (strsOf ds))
       else if w = "light" then areH z.hv (outsideOf z.ns z.ct p) ds z.b && decide (z.wt p.toNat + wsum z.hv (strsOf ds) < z.lo) else false) else false
  | _ => false
/-! what is a cutting, and what isn't -/
inductive CutK (P : Program) (w : World) (K : PySem.W.Frag) (ns : List Str) (parts : Int) : R → Bool → Prop
  | good {ct : List (Str × Int)} (h : CutOk ns parts ct) : CutK P w K ns parts (RDSI ct) true
  | ty {r : R} {t : String} (h : TyR K r t) (hb : kitB t "dict" = some false) : CutK P w K ns parts r false
  | lack {kvs : List (Key × R)} (h : kvs.length ≠ ns.length ∨ ∃ n ∈ ns, lookR kvs (.inr n) = none) : CutK P w K ns parts (RDic kvs) false
  | val {kvs : List (Key × R)} (f : Str → R × Bool) (hl : kvs.length = ns.length) (h : ∀ n ∈ ns, lookR kvs (.inr n) = some (f n).1 ∧ Wh P w K 0 (parts - 1) (f n).1 (f n).2) (n : Str) (hn : n ∈ ns) (hb : (f n).2 = false) : CutK P w K ns parts (RDic kvs) false
  | odd {r : R} {n : Nat} (h : ∀ v G, r.p v G → ∃ a, v = .ref a ∧ OddD P w G a n) (hn : n ≠ ns.length) : CutK P w K ns parts r false
  | non {r : R} (h : ∀ v G, r.p v G → ∃ a, v = .ref a ∧ G a = some (NonO P w a)) (hn : ns ≠ []) : CutK P w K ns parts r false
/-- a value that may be the second of a tagged pair -/
def FlatR (r : R) : Prop := ∀ v G, r.p v G → (∃ c, v = .ref c) ∨ flatV v = true
/-! promises of raising defs -/
def spOr (a b : Sp) : Sp := fun vs H Q E => a vs H Q E ∨ b vs H Q E
/-- C is raised, its found the k-th of what was handed in -/
def spX {I : Type} (C : Addr) (k : Nat) (as : I → List R) (pre : I → Prop) : Sp := fun vs H _ E => ∃ (i : I) (G : Hp), Le G H ∧ Reps (as i) vs G ∧ pre i ∧
  ∀ (d : Addr) (v : V) (fs : List (Str × V)) (G' H' : Hp), vs[k]? = some v → Ext noB G H G' H' → G' d = some (.xd fs) → fs.lookup ("found" : Str) = some v → E (.ref C) (some d) H'
abbrev sp__law_cutting (P : Program) (w : World) (K : PySem.W.Frag) : Sp := spB HState (fun i : List Str × Int => [RLst (lS i.1), RInt i.2]) (fun i => NamesOk i.1 ∧ 2 ≤ i.2 ∧ i.2 ≤ 6) fun i => exR (fun ct : List (Str × Int) => CutOk i.1 i.2 ct) RDSI
abbrev IW : Type := (List (Str × Int) × List (Str × Int)) × Int
abbrev sp__law_weights (P : Program) (w : World) (K : PySem.W.Frag) : Sp := spP (fun i : R × IW => [RPlanT i.2.1.1 i.1, RInt i.2.2, RDSI i.2.1.2]) (fun i => CtOk i.2.1.1 i.2.1.2 i.2.2) fun i => RLst (lI (partW i.2.1.1 i.2.1.2 i.2.2))
abbrev sp__law_tight (P : Program) (w : World) (K : PySem.W.Frag) : Sp := spB HState (fun i : R × IW => [RPlanT i.2.1.1 i.1, RInt i.2.2, RDSI i.2.1.2]) (fun i => CtOk i.2.1.1 i.2.1.2 i.2.2) fun i => exR (fun b : Int × Int => RlOk i.2.2 b.1 b.2) fun b => RTup K [RInt b.1, RInt b.2]
def sp_Rule___init__ (P : Program) (w : World) (K : PySem.W.Frag) : Sp := fun vs H Q _ => ∃ (G : Hp) (a dx : Addr) (parts lo hi : Int), vs = [.ref a, .int parts, .int lo, .int hi] ∧ Le G H ∧ H a = some (.ins (He.ga K "Rule") dx []) ∧ G a = none ∧ RlOk parts lo hi ∧
  ∀ fs, (fs.lookup ("parts" : Str) = some (V.int parts) ∧ fs.lookup ("low" : Str) = some (V.int lo) ∧ fs.lookup ("high" : Str) = some (V.int hi)) → ∀ H', (∀ b o, b ≠ a → (∀ ps, o ≠ .tbl ps) → H b = some o → H' b = some o) → (∀ b, H' b = none → H b = none) → LamX.Tabs tsp.T H' → H' a = some (.ins (He.ga K "Rule") dx fs) → Q .non H'
abbrev sp__law_heaviest (P : Program) (w : World) (K : PySem.W.Frag) : Sp := spP (fun i : R × List (Str × Int) × List Str × Int => [RPlanT i.2.1 i.1, RLst (lS i.2.2.1), RInt i.2.2.2]) (fun i => WebOk i.2.1 ∧ i.2.2.1.Sublist (i.2.1.map (·.1)) ∧ 0 ≤ i.2.2.2) fun i => RLst (lS (heavyOf i.2.1 i.2.2.1 i.2.2.2))
abbrev sp__law_paper (P : Program) (w : World) (K : PySem.W.Frag) : Sp := spP (fun i : R × Pz => [RPlanT i.2.hv i.1, RInt i.2.parts, RTup K [RInt i.2.lo, RInt i.2.hi], RDSI i.2.ct, RInt i.2.b]) (fun i => i.2.ok) fun i => RPap K i.2.paper
abbrev sp_fault_of (P : Program) (w : World) (K : PySem.W.Frag) : Sp := spP (fun i : R × List (Str × Int) × Int × R × Bool => [i.1, RInt i.2.2.1, i.2.2.2.1]) (fun i => IsWeb K i.2.1 i.1 ∧ i.2.1.length ≤ 8 ∧ CutK P w K (i.2.1.map (·.1)) i.2.2.1 i.2.2.2.1 i.2.2.2.2) fun i => if i.2.2.2.2 then RNon else exR notNon id
abbrev sp_is_cutting (P : Program) (w : World) (K : PySem.W.Frag) : Sp := spP (fun i : R × List (Str × Int) × Int × R × Bool => [i.1, RInt i.2.2.1, i.2.2.2.1]) (fun i => IsWeb K i.2.1 i.1 ∧ i.2.1.length ≤ 8 ∧ CutK P w K (i.2.1.map (·.1)) i.2.2.1 i.2.2.2.1 i.2.2.2.2) fun i => RBl i.2.2.2.2
abbrev sp_need_cutting (P : Program) (w : World) (K : PySem.W.Frag) : Sp := spP (fun i : R × IW => [i.1, RInt i.2.2, RDSI i.2.1.2]) (fun i => IsWeb K i.2.1.1 i.1 ∧ CtOk i.2.1.1 i.2.1.2 i.2.2) fun _ => RNon
def spInit (K : PySem.W.Frag) (C : Addr) : Sp := fun vs H Q _ => ∃ (a : Addr) (y : V), vs = [.ref a, y] ∧ H a = some (exo a C none) ∧ ∀ dx, H dx = none → dx ≠ a → Q .non (upd (upd H dx (exd dx [(("found" : Str), y)])) a (exo a C (some dx)))
abbrev sp_NoCutting___init__ (P : Program) (w : World) (K : PySem.W.Frag) : Sp := spInit K (He.ga K "NoCutting")
abbrev sp_NoNumber___init__ (P : Program) (w : World) (K : PySem.W.Frag) : Sp := spInit K (He.ga K "NoNumber")
/-- web, rule, cutting; a kind of cutting -/
abbrev IC : Type := R × List (Str × Int) × (Int × Int × Int) × R
abbrev asC (K : PySem.W.Frag) (i : IC) : List R := [i.1, RRule K i.2.2.1.1 i.2.2.1.2.1 i.2.2.1.2.2, i.2.2.2]
abbrev CutIs (P : Program) (w : World) (K : PySem.W.Frag) (i : IC) (b : Bool) : Prop := IsWeb K i.2.1 i.1 ∧ i.2.1.length ≤ 8 ∧ CutK P w K (i.2.1.map (·.1)) i.2.2.1.1 i.2.2.2 b
/-- the web, the rule and the cutting of z -/
abbrev asZ (K : PySem.W.Frag) (r : R) (z : Pz) : List R := [r, RRule K z.parts z.lo z.hi, RDSI z.ct]
abbrev sp_need_both (P : Program) (w : World) (K : PySem.W.Frag) : Sp := spOr (spP (fun i : R × Pz => asZ K i.1 i.2 ++ [RInt i.2.b]) (fun i => IsWeb K i.2.hv i.1 ∧ i.2.ok) fun _ => RNon)
  (spOr (spX (He.ga K "NoCutting") 2 (fun i : IC × R => asC K i.1 ++ [i.2]) fun i => CutIs P w K i.1 false) (spX (He.ga K "NoNumber") 3 (fun i : IC × R => asC K i.1 ++ [i.2]) fun i => CutIs P w K i.1 true ∧ Wh P w K 0 60 i.2 false))
abbrev sp_part_weights (P : Program) (w : World) (K : PySem.W.Frag) : Sp := spP (fun i : R × IW => [i.1, RInt i.2.2, RDSI i.2.1.2]) (fun i => IsWeb K i.2.1.1 i.1 ∧ CtOk i.2.1.1 i.2.1.2 i.2.2) fun i => RLst (lI (partW i.2.1.1 i.2.1.2 i.2.2))
abbrev sp_part_names (P : Program) (w : World) (K : PySem.W.Frag) : Sp := spP (fun i : R × IW => [i.1, RInt i.2.2, RDSI i.2.1.2]) (fun i => IsWeb K i.2.1.1 i.1 ∧ CtOk i.2.1.1 i.2.1.2 i.2.2) fun i => RLst ((List.range i.2.2.toNat).map fun p => RLst (lS (insideOf (i.2.1.1.map (·.1)) i.2.1.2 (p : Nat))))
abbrev sp_heaviest (P : Program) (w : World) (K : PySem.W.Frag) : Sp := spN (fun i : R × List (Str × Int) × List Str × Int => [i.1, RLst (lS i.2.2.1), RInt i.2.2.2]) (fun i => IsWeb K i.2.1 i.1 ∧ (∀ n ∈ i.2.2.1, n ∈ i.2.1.map (·.1)) ∧ i.2.2.1.length ≤ 100 ∧ 0 ≤ i.2.2.2) fun i => HL (lS (heavyOf i.2.1 i.2.2.1 i.2.2.2))
abbrev sp_weight_sum (P : Program) (w : World) (K : PySem.W.Frag) : Sp := spP (fun i : R × List (Str × Int) × List Str => [i.1, RLst (lS i.2.2)]) (fun i => IsWeb K i.2.1 i.1 ∧ (∀ n ∈ i.2.2, n ∈ i.2.1.map (·.1)) ∧ i.2.2.length ≤ 100) fun i => RInt (wsum i.2.1 i.2.2)
/-- a new paper: its list new -/
def spPap {I : Type} (as : I → List R) (pre : I → Prop) (out : I → Pap) : Sp := fun vs H Q _ => ∃ (i : I) (G : Hp), Le G H ∧ Reps (as i) vs G ∧ pre i ∧ (out i = none → ∀ G' H', Ext noB G H G' H' → Q .non H') ∧
  ∀ w p ns, out i = some (w, p, ns) → ∀ (t l : Addr) (G' H' : Hp), Ext noB G H G' H' → G' t = some (.tup [.str w, .int p, .ref l]) → H l = none → G' l = none → H' l = some (.lst (ns.map V.str)) → Q (.ref t) H'
abbrev sp_stuck_paper (P : Program) (w : World) (K : PySem.W.Frag) : Sp := spOr (spPap (fun i : R × Pz => asZ K i.1 i.2 ++ [RInt i.2.b]) (fun i => IsWeb K i.2.hv i.1 ∧ i.2.ok) fun i => i.2.paper)
  (spOr (spX (He.ga K "NoCutting") 2 (fun i : IC × R => asC K i.1 ++ [i.2]) fun i => CutIs P w K i.1 false) (spX (He.ga K "NoNumber") 3 (fun i : IC × R => asC K i.1 ++ [i.2]) fun i => CutIs P w K i.1 true ∧ Wh P w K 0 60 i.2 false))
abbrev sp_waste_by (P : Program) (w : World) (K : PySem.W.Frag) : Sp := spP (fun i : (Int × Int × Int) × List Int => [RRule K i.1.1 i.1.2.1 i.1.2.2, RLst (lI i.2)]) (fun i => i.2.length ≤ 100) fun i => RInt (wasteOf i.2 i.1.2.1 i.1.2.2)
abbrev sp_waste_of (P : Program) (w : World) (K : PySem.W.Frag) : Sp := spOr (spP (fun i : R × Pz => asZ K i.1 i.2) (fun i => IsWeb K i.2.hv i.1 ∧ i.2.ok) fun i => RInt (wasteOf (partW i.2.hv i.2.ct i.2.parts) i.2.lo i.2.hi))
  (spX (He.ga K "NoCutting") 2 (fun i : IC => asC K i) fun i => CutIs P w K i false)
abbrev sp__law_waste (P : Program) (w : World) (K : PySem.W.Frag) : Sp := spP (fun i : (Int × Int) × List Int => [RLst (lI i.2), RTup K [RInt i.1.1, RInt i.1.2]]) (fun i => i.2.length ≤ 100) fun i => RInt (wasteOf i.2 i.1.1 i.1.2)
abbrev sp__law_spoilt (P : Program) (w : World) (K : PySem.W.Frag) : Sp := spB HState (fun i : (List (Str × Int) × R) × Int × Str × Int × List Str => [RPlanT i.1.1 i.1.2, RInt i.2.1, RTup K [RStr i.2.2.1, RInt i.2.2.2.1, RLst (lS i.2.2.2.2)]])
  (fun i => NamesOk (i.1.1.map (·.1)) ∧ PyData.strOk i.2.2.1 = true ∧ (∀ s ∈ i.2.2.2.2, PyData.strOk s = true) ∧ i.2.2.2.2.length ≤ 60) fun _ => exR (fun x : R × Th => IsTh K x.1 x.2) (·.1)
/-- what are_heaviest is asked of -/
inductive Lk (K : PySem.W.Frag) : R → Option (List Dt) → Prop
  | lst {ds : List Dt} (hn : ∀ d ∈ ds, DtOk d) (hl : ds.length ≤ 100) : Lk K (RLst (ds.map RDt)) (some ds)
  | tup {ds : List Dt} : Lk K (RTup K (ds.map RDt)) none
abbrev sp_are_heaviest (P : Program) (w : World) (K : PySem.W.Frag) : Sp := spP (fun i : (R × List (Str × Int) × List Str) × (R × Option (List Dt)) × Int => [i.1.1, RLst (lS i.1.2.2), i.2.1.1, RInt i.2.2])
  (fun i => IsWeb K i.1.2.1 i.1.1 ∧ WebOk i.1.2.1 ∧ (∀ n ∈ i.1.2.2, n ∈ i.1.2.1.map (·.1)) ∧ i.1.2.2.length ≤ 100 ∧ Lk K i.2.1.1 i.2.1.2 ∧ 0 ≤ i.2.2) fun i => RBl (match i.2.1.2 with
    | some ds => areH i.1.2.1 i.1.2.2 ds i.2.2
    | none => false)
abbrev sp_shows_stuck (P : Program) (w : World) (K : PySem.W.Frag) : Sp := spOr (spP (fun i : R × Pz × R × Th => asZ K i.1 i.2.1 ++ [RInt i.2.1.b, i.2.2.1]) (fun i => IsWeb K i.2.1.hv i.1 ∧ i.2.1.ok ∧ IsTh K i.2.2.1 i.2.2.2) fun i => RBl (i.2.1.shows i.2.2.2))
  (spOr (spX (He.ga K "NoCutting") 2 (fun i : IC × R => asC K i.1 ++ [i.2, RNon]) fun i => CutIs P w K i.1 false) (spX (He.ga K "NoNumber") 3 (fun i : IC × R => asC K i.1 ++ [i.2, RNon]) fun i => CutIs P w K i.1 true ∧ Wh P w K 0 60 i.2 false))
abbrev sp__law_shows (P : Program) (w : World) (K : PySem.W.Frag) : Sp := spP (fun i : R × Pz × R × Th => [RPlanT i.2.1.hv i.1, RInt i.2.1.parts, RTup K [RInt i.2.1.lo, RInt i.2.1.hi], RDSI i.2.1.ct, RInt i.2.1.b, i.2.2.1]) (fun i => i.2.1.ok ∧ IsTh K i.2.2.1 i.2.2.2) fun i => RBl (i.2.1.shows i.2.2.2)
abbrev sp__law_right (P : Program) (w : World) (K : PySem.W.Frag) : Sp := spB HState (fun i : (R × R) × Pz => [i.1.1, RRule K i.2.parts i.2.lo i.2.hi, RPlanT i.2.hv i.1.2, RTup K [RInt i.2.lo, RInt i.2.hi], RDSI i.2.ct, RInt i.2.b]) (fun i => IsWeb K i.2.hv i.1.1 ∧ i.2.ok) fun _ => RBl true
abbrev sp__law_no_cutting (P : Program) (w : World) (K : PySem.W.Frag) : Sp := spB HState (fun i : List Str × Int × List (Str × Int) => [RLst (lS i.1), RInt i.2.1, RDSI i.2.2]) (fun i => NamesOk i.1 ∧ 2 ≤ i.2.1 ∧ i.2.1 ≤ 6 ∧ CutOk i.1 i.2.1 i.2.2) fun i => exR (fun r : R => CutK P w K i.1 i.2.1 r false ∧ FlatR r) id
/-- the tagged pair of a word and the very value -/
def spTag {I : Type} (word : Str) (k : Nat) (as : I → List R) (pre : I → Prop) : Sp := fun vs H Q _ => ∃ (i : I) (G : Hp), Le G H ∧ Reps (as i) vs G ∧ pre i ∧
  ∀ (t : Addr) (v : V) (G' H' : Hp), vs[k]? = some v → Ext noB G H G' H' → G' t = some (.tup [.str word, v]) → Q (.ref t) H'
abbrev sp__law_refusal (P : Program) (w : World) (K : PySem.W.Frag) : Sp := spOr (spTag "cutting" 2 (fun i : (IC × R) × Int => asC K i.1.1 ++ [i.1.2, RInt i.2]) fun i => CutIs P w K i.1.1 false) (spTag "number" 3 (fun i : (IC × R) × Int => asC K i.1.1 ++ [i.1.2, RInt i.2]) fun i => CutIs P w K i.1.1 true ∧ Wh P w K 0 60 i.1.2 false ∧ i.2 ≠ 0)
abbrev sp__law_refused (P : Program) (w : World) (K : PySem.W.Frag) : Sp := spB HState (fun i : (R × R) × Pz => [i.1.1, RRule K i.2.parts i.2.lo i.2.hi, RPlanT i.2.hv i.1.2, RDSI i.2.ct]) (fun i => IsWeb K i.2.hv i.1.1 ∧ i.2.ok) fun _ => RBl true
abbrev sp_law (P : Program) (w : World) (K : PySem.W.Frag) : Sp := spP (fun i : List Int => [RSeq K (lI i)]) (fun i => i.length ≤ 100000) fun _ => RBl true
end
end EvC
set_option Elab.async false
set_option linter.all false
set_option maxRecDepth 100000
set_option maxHeartbeats 4000000
namespace EvC
open PySem PySem.Spec PyProof.Rows L2 DL
variable [tsp : TabSpec]
def tabsT (K : PySem.W.Frag) : List (Addr × Str) := [((He.cT K ("heaviest", none)).2, (("heaviest" : Str) ++ ".<locals>.") ++ "<lambda>")]
def N__law_cell : List Str := ["_law_script", "_law_k"]
def t__law_cell (P : Program) (w : World) (K : PySem.W.Frag) : TS :=
    (tSeq (tIfS (tTest (tOp oLt (tVar 1) (tCB (rLenV K) (tCons (tVar 0) tNil))))
      (tRet (tOp (rIxL K) (tVar 0) (tVar 1)))
      tNext)
    (tRet (tOp oAdd (tOp oMul (tC (.int 7919)) (tVar 1)) (tC (.int 31)))))
def N__law_begun : List Str := ["_law_cell_here"]
def t__law_begun (P : Program) (w : World) (K : PySem.W.Frag) : TS :=
    (tRet (tLst (tCons (tCB rMax2 (tCons (tC (.int 0)) (tCons (tOp oSub (tVar 0) (tOp oPow (tC (.int 10)) (tC (.int 18)))) tNil))) (tCons (tOp oMod (tVar 0) (tC (.int 2147483629))) (tCons (tC (.int 0)) tNil)))))
def N__law_mix : List Str := ["_law_cell_here", "_law_k", "_law_number"]
def t__law_mix (P : Program) (w : World) (K : PySem.W.Frag) : TS :=
    (tSeq (tAsg (tOp oMod (tOp oAdd (tOp oAdd (tVar 0) (tOp oMul (tC (.int 7919)) (tVar 1))) (tC (.int 12345))) (tC (.int 2147483629))) (gName 2))
    (tSeq (tAsg (tOp oMod (tOp oMul (tOp oMod (tOp oMul (tVar 2) (tVar 2)) (tC (.int 2147483587))) (tC (.int 48271))) (tC (.int 2147483549))) (gName 2))
    (tRet (tOp oFdiv (tOp oMod (tOp oMul (tVar 2) (tOp oAdd (tVar 2) (tC (.int 31)))) (tC (.int 2147483543))) (tC (.int 8))))))
def N__law_pull : List Str := ["_law_state", "_law_many", "_law_digit", "_law_high", "_law_low"]
def t__law_pull (P : Program) (w : World) (K : PySem.W.Frag) : TS :=
    (tSeq (tIfS (tTest (tOp oGt (tOp (rIxL K) (tVar 0) (tC (.int 0))) (tC (.int 0))))
      (tSeq (tAsg (tOp oMod (tOp (rIxL K) (tVar 0) (tC (.int 0))) (tVar 1)) (gName 2))
      (tSeq (tAsg (tOp oFdiv (tOp (rIxL K) (tVar 0) (tC (.int 0))) (tVar 1)) (gSub (tVar 0) (tC (.int 0)) rSetL))
      (tRet (tVar 2))))
      tNext)
    (tSeq (tAsg (tOp oAdd (tOp (rIxL K) (tVar 0) (tC (.int 2))) (tC (.int 1))) (gSub (tVar 0) (tC (.int 2)) rSetL))
    (tSeq (tAsg (tCall (sp__law_mix P w K) [] E0 (tCons (tOp (rIxL K) (tVar 0) (tC (.int 1))) (tCons (tOp oMul (tC (.int 2)) (tOp (rIxL K) (tVar 0) (tC (.int 2)))) tNil))) (gName 3))
    (tSeq (tAsg (tCall (sp__law_mix P w K) [] E0 (tCons (tOp (rIxL K) (tVar 0) (tC (.int 1))) (tCons (tOp oAdd (tOp oMul (tC (.int 2)) (tOp (rIxL K) (tVar 0) (tC (.int 2)))) (tC (.int 1))) tNil))) (gName 4))
    (tRet (tOp oMod (tOp oAdd (tOp oMul (tVar 3) (tC (.int 268435399))) (tVar 4)) (tVar 1)))))))
def N__law_many_names : List Str := ["_law_state", "_law_many", "_law_letters", "_law_word", "_law_k", "_law_first", "_law_step", "_law_found", "_law_code", "_law_ahead"]
def t__law_many_names (P : Program) (w : World) (K : PySem.W.Frag) : TS :=
    (tSeq (tAsg (tC (.str "abcdefghijklmnopqrstuvwxyz")) (gName 2))
    (tSeq (tAsg (tM1 (rJoin K) (tC (.str "")) (tLc (iRng1 (tCons (tC (.int 6)) tNil)) (gName 4) tYes (tOp rIxS (tVar 2) (tCall (sp__law_pull P w K) [] E0 (tCons (tVar 0) (tCons (tC (.int 26)) tNil)))) [4])) (gName 3))
    (tSeq (tAsg (tCall (sp__law_pull P w K) [] E0 (tCons (tVar 0) (tCons (tC (.int 676)) tNil))) (gName 5))
    (tSeq (tAsg (tOp oAdd (tC (.int 1)) (tCall (sp__law_pull P w K) [] E0 (tCons (tVar 0) (tCons (tC (.int 6)) tNil)))) (gName 6))
    (tSeq (tAsg (tLst tNil) (gName 7))
    (tSeq (tFor (iRng1 (tCons (tVar 1) tNil)) (gName 4)
      (tSeq (tAsg (tOp oMod (tOp oAdd (tVar 5) (tOp oMul (tC (.int 27)) (tVar 4))) (tC (.int 676))) (gName 8))
      (tSeq (tAsg (tSl rSlS (tVar 3) tNoPart (tPart (tOp oMod (tOp oMul (tVar 6) (tVar 4)) (tC (.int 7))))) (gName 9))
      (tDrop (tBM K "list" rAppend (tVar 7) (tCons (tOp oAddS (tOp oAddS (tVar 9) (tOp rIxS (tVar 2) (tOp oFdiv (tVar 8) (tC (.int 26))))) (tOp rIxS (tVar 2) (tOp oMod (tVar 8) (tC (.int 26))))) tNil))))))
    (tRet (tVar 7))))))))
def N__law_plan : List Str := ["_law_state", "_law_most", "_law_names", "_law_wide", "_law_plan_here", "_law_name", "_law_bar", "_law_strong", "_law_j", "_law_k", "_law_tie", "_law_at"]
def t__law_plan (P : Program) (w : World) (K : PySem.W.Frag) : TS :=
    (tSeq (tAsg (tCall (sp__law_many_names P w K) [] E0 (tCons (tVar 0) (tCons (tCall (sp__law_pull P w K) [] E0 (tCons (tVar 0) (tCons (tOp oAdd (tVar 1) (tC (.int 1))) tNil))) tNil))) (gName 2))
    (tSeq (tAsg (tOp (rIxL K) (tLst (tCons (tC (.int 30)) (tCons (tC (.int 6)) (tCons (tC (.int 1)) (tCons (tC (.int 16000000)) tNil))))) (tCall (sp__law_pull P w K) [] E0 (tCons (tVar 0) (tCons (tC (.int 4)) tNil)))) (gName 3))
    (tSeq (tAsg (tDisp [((tC (.str "names")), (tVar 2)), ((tC (.str "weights")), tDNewK), ((tC (.str "ties")), (tLst tNil))]) (gName 4))
    (tSeq (tFor (iList K (tVar 2)) (gName 5)
      (sDPut (tDGet (tVar 4) (tC (.str "weights"))) (tVar 5) (tOp oAdd (tC (.int 1)) (tCall (sp__law_pull P w K) [] E0 (tCons (tVar 0) (tCons (tVar 3) tNil))))))
    (tSeq (tAsg (tOp oAdd (tC (.int 1)) (tCall (sp__law_pull P w K) [] E0 (tCons (tVar 0) (tCons (tC (.int 4)) tNil)))) (gName 6))
    (tSeq (tAsg (tOp (rIxL K) (tLst (tCons (tC (.int 30)) (tCons (tC (.int 4)) (tCons (tC (.int 1)) (tCons (tC (.int 4900000)) tNil))))) (tCall (sp__law_pull P w K) [] E0 (tCons (tVar 0) (tCons (tC (.int 4)) tNil)))) (gName 7))
    (tSeq (tFor (iRng1 (tCons (tCB (rLenV K) (tCons (tVar 2) tNil)) tNil)) (gName 8)
      (tFor (iRng1 (tCons (tVar 8) tNil)) (gName 9)
        (tIfS (tAnd (tTest (tOp oLt (tCall (sp__law_pull P w K) [] E0 (tCons (tVar 0) (tCons (tC (.int 4)) tNil))) (tVar 6))) (tTest (tOp oLt (tCB (rLenV K) (tCons (tDGet (tVar 4) (tC (.str "ties"))) tNil)) (tC (.int 200)))))
          (tSeq (tAsg (tTup (tCons (tOp (rIxL K) (tVar 2) (tVar 9)) (tCons (tOp (rIxL K) (tVar 2) (tVar 8)) (tCons (tOp oAdd (tC (.int 1)) (tCall (sp__law_pull P w K) [] E0 (tCons (tVar 0) (tCons (tVar 7) tNil)))) tNil)))) (gName 10))
          (tSeq (tAsg (tCall (sp__law_pull P w K) [] E0 (tCons (tVar 0) (tCons (tOp oAdd (tCB (rLenV K) (tCons (tDGet (tVar 4) (tC (.str "ties"))) tNil)) (tC (.int 1))) tNil))) (gName 11))
          (tDrop (tBM K "list" rInsert (tDGet (tVar 4) (tC (.str "ties"))) (tCons (tVar 11) (tCons (tVar 10) tNil))))))
          tNext)))
    (tRet (tVar 4)))))))))
def N_Web___init__ : List Str := ["self"]
def t_Web___init__ (P : Program) (w : World) (K : PySem.W.Frag) : TS :=
    (tSeq (sFld K (tVar 0) tDNewK "heavy")
    (sFld K (tVar 0) tDNewT "knots"))
def N_is_name : List Str := ["thing", "sign"]
def t_is_name (P : Program) (w : World) (K : PySem.W.Frag) : TS :=
    (tSeq (tIfS (tOr (tNot (tB (tCB (rIsi K) (tCons (tVar 0) (tCons (tC (.ty "str")) tNil))))) (tNot (tTest (tChain oLe oLe (tC (.int 1)) (tCB (rLenV K) (tCons (tVar 0) tNil)) (tC (.int 8))))))
      (tRet (tC (.bl false)))
      tNext)
    (tRet (tCB (rAll K) (tCons (tLc (iStr (tVar 0)) (gName 1) tYes (tOp rInS (tVar 1) (tC (.str "abcdefghijklmnopqrstuvwxyz"))) [1]) tNil))))
def N_is_whole : List Str := ["thing", "low", "high"]
def t_is_whole (P : Program) (w : World) (K : PySem.W.Frag) : TS :=
    (tRet (tAndV (tCB (rIsiO P w K) (tCons (tVar 0) (tCons (tC (.ty "int")) tNil))) (tAndV (tNotV (tCB (rIsiO P w K) (tCons (tVar 0) (tCons (tC (.ty "bool")) tNil)))) (tChain oLe oLe (tVar 1) (tVar 0) (tVar 2)))))
def N_Web_need_weight : List Str := ["self", "weight"]
def t_Web_need_weight (P : Program) (w : World) (K : PySem.W.Frag) : TS :=
    (tIfS (tNot (tB (tCall (sp_is_whole P w K) [] E0 (tCons (tVar 1) (tCons (tC (.int 1)) (tCons (tC (.int 1000000000)) tNil))))))
      tNever
      tNext)
def N_Web_total : List Str := ["self", "weight"]
def t_Web_total (P : Program) (w : World) (K : PySem.W.Frag) : TS :=
    (tRet (tLockE (tCB (rSum K) (tCons (tLc (iVals (tFld K (tVar 0) "heavy")) (gName 1) tYes (tVar 1) [1]) tNil))))
def N_Web_put : List Str := ["self", "name", "weight"]
def t_Web_put (P : Program) (w : World) (K : PySem.W.Frag) : TS :=
    (tSeq (tIfS (tNot (tB (tCall (sp_is_name P w K) [] E0 (tCons (tVar 1) tNil))))
      tNever
      tNext)
    (tSeq (tDrop (tMeth (He.ga K "Web") "need_weight" (sp_Web_need_weight P w K) [] E0 (tVar 0) (tCons (tVar 2) tNil)))
    (tSeq (tIfS (tB (tDIn (tVar 1) (tFld K (tVar 0) "heavy")))
      tNever
      tNext)
    (tSeq (tIfS (tTest (tOp oGe (tCB rLenD (tCons (tFld K (tVar 0) "heavy") tNil)) (tC (.int 60))))
      tNever
      tNext)
    (tSeq (tIfS (tTest (tOp oGt (tOp oAdd (tMeth (He.ga K "Web") "total" (sp_Web_total P w K) [] E0 (tVar 0) tNil) (tVar 2)) (tC (.int 1000000000))))
      tNever
      tNext)
    (sDPut (tFld K (tVar 0) "heavy") (tVar 1) (tVar 2)))))))
def N_Web_need_place : List Str := ["self", "name"]
def t_Web_need_place (P : Program) (w : World) (K : PySem.W.Frag) : TS :=
    (tIfS (tOr (tNot (tB (tCB (rIsiO P w K) (tCons (tVar 1) (tCons (tC (.ty "str")) tNil))))) (tB (tDNotIn (tVar 1) (tFld K (tVar 0) "heavy"))))
      tNever
      tNext)
def N_Web_need_two : List Str := ["self", "one", "other"]
def t_Web_need_two (P : Program) (w : World) (K : PySem.W.Frag) : TS :=
    (tSeq (tDrop (tMeth (He.ga K "Web") "need_place" (sp_Web_need_place P w K) [] E0 (tVar 0) (tCons (tVar 1) tNil)))
    (tSeq (tDrop (tMeth (He.ga K "Web") "need_place" (sp_Web_need_place P w K) [] E0 (tVar 0) (tCons (tVar 2) tNil)))
    (tIfS (tTest (tOp rEq (tVar 1) (tVar 2)))
      tNever
      tNext)))
def N_Web_knot : List Str := ["self", "one", "other"]
def t_Web_knot (P : Program) (w : World) (K : PySem.W.Frag) : TS :=
    (tSeq (tIfS (tB (tDIn (tTup (tCons (tVar 1) (tCons (tVar 2) tNil))) (tFld K (tVar 0) "knots")))
      (tRet (tTup (tCons (tVar 1) (tCons (tVar 2) tNil))))
      tNext)
    (tSeq (tIfS (tB (tDIn (tTup (tCons (tVar 2) (tCons (tVar 1) tNil))) (tFld K (tVar 0) "knots")))
      (tRet (tTup (tCons (tVar 2) (tCons (tVar 1) tNil))))
      tNext)
    (tRet (tC .non))))
def N_Web_force : List Str := ["self", "strength"]
def t_Web_force (P : Program) (w : World) (K : PySem.W.Frag) : TS :=
    (tRet (tLockE (tCB (rSum K) (tCons (tLc (iValsT (tFld K (tVar 0) "knots")) (gName 1) tYes (tVar 1) [1]) tNil))))
def N_Web_tie : List Str := ["self", "one", "other", "strength"]
def t_Web_tie (P : Program) (w : World) (K : PySem.W.Frag) : TS :=
    (tSeq (tDrop (tMeth (He.ga K "Web") "need_two" (sp_Web_need_two P w K) [] E0 (tVar 0) (tCons (tVar 1) (tCons (tVar 2) tNil))))
    (tSeq (tIfS (tNot (tB (tCall (sp_is_whole P w K) [] E0 (tCons (tVar 3) (tCons (tC (.int 1)) (tCons (tC (.int 1000000000)) tNil))))))
      tNever
      tNext)
    (tSeq (tIfS (tTest (tOp rNotN (tMeth (He.ga K "Web") "knot" (sp_Web_knot P w K) [] E0 (tVar 0) (tCons (tVar 1) (tCons (tVar 2) tNil))) (tC .non)))
      tNever
      tNext)
    (tSeq (tIfS (tTest (tOp oGe (tCB rLenDT (tCons (tFld K (tVar 0) "knots") tNil)) (tC (.int 200))))
      tNever
      tNext)
    (tSeq (tIfS (tTest (tOp oGt (tOp oAdd (tMeth (He.ga K "Web") "force" (sp_Web_force P w K) [] E0 (tVar 0) tNil) (tVar 3)) (tC (.int 1000000000))))
      tNever
      tNext)
    (sDPut (tFld K (tVar 0) "knots") (tTup (tCons (tVar 1) (tCons (tVar 2) tNil))) (tVar 3)))))))
def N__law_made : List Str := ["_law_state", "_law_plan_here", "_law_web", "_law_name", "_law_one", "_law_other", "_law_strength", "_law_pair"]
def t__law_made (P : Program) (w : World) (K : PySem.W.Frag) : TS :=
    (tSeq (tAsg (tMake (He.ga K "Web") (sp_Web___init__ P w K) [] E0 tNil) (gName 2))
    (tSeq (tFor (iList K (tDGet (tVar 1) (tC (.str "names")))) (gName 3)
      (tDrop (tMeth (He.ga K "Web") "put" (sp_Web_put P w K) [] E0 (tVar 2) (tCons (tVar 3) (tCons (tDGet (tDGet (tVar 1) (tC (.str "weights"))) (tVar 3)) tNil)))))
    (tSeq (tFor (iList K (tDGet (tVar 1) (tC (.str "ties")))) (gTup K 3 (gCons (gName 4) (gCons (gName 5) (gCons (gName 6) gNil))))
      (tSeq (tAsg (tOp (rIxL K) (tLst (tCons (tLst (tCons (tVar 4) (tCons (tVar 5) tNil))) (tCons (tLst (tCons (tVar 5) (tCons (tVar 4) tNil))) tNil))) (tCall (sp__law_pull P w K) [] E0 (tCons (tVar 0) (tCons (tC (.int 2)) tNil)))) (gName 7))
      (tDrop (tMeth (He.ga K "Web") "tie" (sp_Web_tie P w K) [] E0 (tVar 2) (tCons (tOp (rIxL K) (tVar 7) (tC (.int 0))) (tCons (tOp (rIxL K) (tVar 7) (tC (.int 1))) (tCons (tVar 6) tNil)))))))
    (tRet (tVar 2)))))
def N__law_cutting : List Str := ["_law_state", "_law_names", "_law_parts", "_law_left", "_law_found", "_law_name"]
def t__law_cutting (P : Program) (w : World) (K : PySem.W.Frag) : TS :=
    (tSeq (tAsg (tCB (rListOf K) (tCons (tVar 1) tNil)) (gName 3))
    (tSeq (tAsg tDNewK (gName 4))
    (tSeq (tWhile (tTest (tOp (rNeD K) (tVar 3) (tLst tNil)))
      (tSeq (tAsg (tBM K "list" rPopAt (tVar 3) (tCons (tOp (rIxL K) (tLst (tCons (tC (.int 0)) (tCons (tCall (sp__law_pull P w K) [] E0 (tCons (tVar 0) (tCons (tCB (rLenV K) (tCons (tVar 3) tNil)) tNil))) tNil))) (tCall (sp__law_pull P w K) [] E0 (tCons (tVar 0) (tCons (tC (.int 2)) tNil)))) tNil)) (gName 5))
      (sDPut (tVar 4) (tVar 5) (tCall (sp__law_pull P w K) [] E0 (tCons (tVar 0) (tCons (tVar 2) tNil))))))
    (tRet (tVar 4)))))
def N__law_weights : List Str := ["_law_plan_here", "_law_parts", "_law_cutting_here", "_law_weights_here", "_law_name", "_law_part"]
def t__law_weights (P : Program) (w : World) (K : PySem.W.Frag) : TS :=
    (tSeq (tAsg (tOp rRep (tLst (tCons (tC (.int 0)) tNil)) (tVar 1)) (gName 3))
    (tSeq (tFor (iList K (tDGet (tVar 0) (tC (.str "names")))) (gName 4)
      (tSeq (tAsg (tDGet (tVar 2) (tVar 4)) (gName 5))
      (tAsg (tOp oAdd (tOp (rIxL K) (tVar 3) (tVar 5)) (tDGet (tDGet (tVar 0) (tC (.str "weights"))) (tVar 4))) (gSub (tVar 3) (tVar 5) rSetL))))
    (tRet (tVar 3))))
def N__law_tight : List Str := ["_law_state", "_law_plan_here", "_law_parts", "_law_cutting_here", "_law_weights_here", "_law_share", "_law_some", "_law_low", "_law_high"]
def t__law_tight (P : Program) (w : World) (K : PySem.W.Frag) : TS :=
    (tSeq (tAsg (tCall (sp__law_weights P w K) [] E0 (tCons (tVar 1) (tCons (tVar 2) (tCons (tVar 3) tNil)))) (gName 4))
    (tSeq (tAsg (tOp oFdiv (tCB (rSum K) (tCons (tVar 4) tNil)) (tVar 2)) (gName 5))
    (tSeq (tAsg (tLst (tCons (tVar 5) (tCons (tOp oAdd (tCB (rMin K) (tCons (tVar 4) tNil)) (tC (.int 1))) (tCons (tC (.int 0)) (tCons (tOp oSub (tVar 5) (tCall (sp__law_pull P w K) [] E0 (tCons (tVar 0) (tCons (tC (.int 4)) tNil)))) tNil))))) (gName 6))
    (tSeq (tAsg (tCB rMax2 (tCons (tC (.int 0)) (tCons (tOp (rIxL K) (tVar 6) (tCall (sp__law_pull P w K) [] E0 (tCons (tVar 0) (tCons (tC (.int 4)) tNil)))) tNil))) (gName 7))
    (tSeq (tAsg (tLst (tCons (tOp oAdd (tVar 5) (tCall (sp__law_pull P w K) [] E0 (tCons (tVar 0) (tCons (tC (.int 4)) tNil)))) (tCons (tOp oSub (tCB (rMax K) (tCons (tVar 4) tNil)) (tC (.int 1))) (tCons (tCB (rMax K) (tCons (tVar 4) tNil)) (tCons (tOp oAdd (tVar 5) (tC (.int 1))) tNil))))) (gName 6))
    (tSeq (tAsg (tCB (rNuC3 nuMax3) (tCons (tVar 7) (tCons (tC (.int 1)) (tCons (tOp (rIxL K) (tVar 6) (tCall (sp__law_pull P w K) [] E0 (tCons (tVar 0) (tCons (tC (.int 4)) tNil)))) tNil)))) (gName 8))
    (tRet (tTup (tCons (tCB rMin2 (tCons (tVar 7) (tCons (tOp oPow (tC (.int 10)) (tC (.int 9))) tNil))) (tCons (tCB rMin2 (tCons (tVar 8) (tCons (tOp oPow (tC (.int 10)) (tC (.int 9))) tNil))) tNil))))))))))
def N_Rule___init__ : List Str := ["self", "parts", "low", "high"]
def t_Rule___init__ (P : Program) (w : World) (K : PySem.W.Frag) : TS :=
    (tSeq (tIfS (tNot (tB (tCall (sp_is_whole P w K) [] E0 (tCons (tVar 1) (tCons (tC (.int 2)) (tCons (tC (.int 6)) tNil))))))
      tNever
      tNext)
    (tSeq (tIfS (tNot (tB (tCall (sp_is_whole P w K) [] E0 (tCons (tVar 2) (tCons (tC (.int 0)) (tCons (tC (.int 1000000000)) tNil))))))
      tNever
      tNext)
    (tSeq (tIfS (tNot (tB (tCall (sp_is_whole P w K) [] E0 (tCons (tVar 3) (tCons (tCB rMax2 (tCons (tC (.int 1)) (tCons (tVar 2) tNil))) (tCons (tC (.int 1000000000)) tNil))))))
      tNever
      tNext)
    (tSeq (sFld K (tVar 0) (tVar 1) "parts")
    (tSeq (sFld K (tVar 0) (tVar 2) "low")
    (sFld K (tVar 0) (tVar 3) "high"))))))
def N__law_heaviest : List Str := ["_law_plan_here", "_law_names", "_law_many", "_law_ranked", "_law_name", "_law_weight", "_law_at"]
def t__law_heaviest (P : Program) (w : World) (K : PySem.W.Frag) : TS :=
    (tSeq (tAsg (tCB (rSortedPO K) (tCons (tLc (iList K (tVar 1)) (gName 4) tYes (tTup (tCons (tOp oSub (tC (.int 0)) (tDGet (tDGet (tVar 0) (tC (.str "weights"))) (tVar 4))) (tCons (tBM K "list" (rIndex K) (tDGet (tVar 0) (tC (.str "names"))) (tCons (tVar 4) tNil)) tNil))) [4]) tNil)) (gName 3))
    (tRet (tLc (iList K (tSl (rSlL K) (tVar 3) tNoPart (tPart (tVar 2)))) (gTup K 2 (gCons (gName 5) (gCons (gName 6) gNil))) tYes (tOp (rIxL K) (tDGet (tVar 0) (tC (.str "names"))) (tVar 6)) [5, 6])))
def N__law_paper : List Str := ["_law_plan_here", "_law_parts", "_law_bounds", "_law_cutting_here", "_law_budget", "_law_weights_here", "_law_part", "_law_inside", "_law_name", "_law_some", "_law_outside"]
def t__law_paper (P : Program) (w : World) (K : PySem.W.Frag) : TS :=
    (tSeq (tAsg (tCall (sp__law_weights P w K) [] E0 (tCons (tVar 0) (tCons (tVar 1) (tCons (tVar 3) tNil)))) (gName 5))
    (tSeq (tFor (iRng1 (tCons (tVar 1) tNil)) (gName 6)
      (tSeq (tAsg (tLc (iList K (tDGet (tVar 0) (tC (.str "names")))) (gName 8) (tTest (tOp rEq (tDGet (tVar 3) (tVar 8)) (tVar 6))) (tVar 8) [8]) (gName 7))
      (tSeq (tAsg (tCall (sp__law_heaviest P w K) [] E0 (tCons (tVar 0) (tCons (tVar 7) (tCons (tVar 4) tNil)))) (gName 9))
      (tSeq (tIfS (tTest (tOp oGt (tOp oSub (tOp (rIxL K) (tVar 5) (tVar 6)) (tCB (rSum K) (tCons (tLc (iList K (tVar 9)) (gName 8) tYes (tDGet (tDGet (tVar 0) (tC (.str "weights"))) (tVar 8)) [8]) tNil))) (tOp (rIxT K) (tVar 2) (tC (.int 1)))))
        (tRet (tTup (tCons (tC (.str "heavy")) (tCons (tVar 6) (tCons (tVar 9) tNil)))))
        tNext)
      (tSeq (tAsg (tLc (iList K (tDGet (tVar 0) (tC (.str "names")))) (gName 8) (tTest (tOp rNe (tDGet (tVar 3) (tVar 8)) (tVar 6))) (tVar 8) [8]) (gName 10))
      (tSeq (tAsg (tCall (sp__law_heaviest P w K) [] E0 (tCons (tVar 0) (tCons (tVar 10) (tCons (tVar 4) tNil)))) (gName 9))
      (tIfS (tTest (tOp oLt (tOp oAdd (tOp (rIxL K) (tVar 5) (tVar 6)) (tCB (rSum K) (tCons (tLc (iList K (tVar 9)) (gName 8) tYes (tDGet (tDGet (tVar 0) (tC (.str "weights"))) (tVar 8)) [8]) tNil))) (tOp (rIxT K) (tVar 2) (tC (.int 0)))))
        (tRet (tTup (tCons (tC (.str "light")) (tCons (tVar 6) (tCons (tVar 9) tNil)))))
        tNext)))))))
    (tRet (tC .non))))
def N_Web_names : List Str := ["self"]
def t_Web_names (P : Program) (w : World) (K : PySem.W.Frag) : TS :=
    (tRet (tCB rListOfD (tCons (tFld K (tVar 0) "heavy") tNil)))
def N_fault_of : List Str := ["web", "parts", "thing", "names", "name"]
def t_fault_of (P : Program) (w : World) (K : PySem.W.Frag) : TS :=
    (tSeq (tAsg (tMeth (He.ga K "Web") "names" (sp_Web_names P w K) [] E0 (tVar 0) tNil) (gName 3))
    (tSeq (tIfS (tOr (tNot (tB (tCB (rIsiO P w K) (tCons (tVar 2) (tCons (tC (.ty "dict")) tNil))))) (tOr (tTest (tOp rNe (tCB (rLenO P w) (tCons (tVar 2) tNil)) (tCB (rLenV K) (tCons (tVar 3) tNil)))) (tNot (tB (tCB (rAll K) (tCons (tLc (iList K (tVar 3)) (gName 4) tYes (tDInO P w (tVar 4) (tVar 2)) [4]) tNil))))))
      (tRet (tTup (tCons (tC (.str "form")) tNil)))
      tNext)
    (tSeq (tFor (iList K (tVar 3)) (gName 4)
      (tIfS (tNot (tB (tCall (sp_is_whole P w K) [] E0 (tCons (tDGet (tVar 2) (tVar 4)) (tCons (tC (.int 0)) (tCons (tOp oSub (tVar 1) (tC (.int 1))) tNil))))))
        (tRet (tTup (tCons (tC (.str "place")) (tCons (tVar 4) tNil))))
        tNext))
    (tRet (tC .non)))))
def N_is_cutting : List Str := ["web", "parts", "thing"]
def t_is_cutting (P : Program) (w : World) (K : PySem.W.Frag) : TS :=
    (tRet (tOp rIsN (tCall (sp_fault_of P w K) [] E0 (tCons (tVar 0) (tCons (tVar 1) (tCons (tVar 2) tNil)))) (tC .non)))
def N_NoCutting___init__ : List Str := ["self", "found"]
def t_NoCutting___init__ (P : Program) (w : World) (K : PySem.W.Frag) : TS :=
    (tSeq (tDrop (tVeI K (tCons (tVar 0) (tCons (tC (.str "what is no cutting here")) tNil))))
    (tOst K "found" (tVar 0) (tVar 1)))
def N_NoNumber___init__ : List Str := ["self", "found"]
def t_NoNumber___init__ (P : Program) (w : World) (K : PySem.W.Frag) : TS :=
    (tSeq (tDrop (tVeI K (tCons (tVar 0) (tCons (tC (.str "what is no such number")) tNil))))
    (tOst K "found" (tVar 0) (tVar 1)))
def N_need_both : List Str := ["web", "rule", "cutting", "budget"]
def t_need_both (P : Program) (w : World) (K : PySem.W.Frag) (E : XK) : TS :=
    (tSeq (tIfS (tNot (tB (tCall (sp_is_cutting P w K) [] E0 (tCons (tVar 0) (tCons (tFld K (tVar 1) "parts") (tCons (tVar 2) tNil))))))
      (fun _ σ H => tMkO (He.ga K "NoCutting") (sp_NoCutting___init__ P w K) [] (tCons (tVar 2) tNil) σ H fun cls d H1 => E cls d H1)
      tNext)
    (tIfS (tNot (tB (tCall (sp_is_whole P w K) [] E0 (tCons (tVar 3) (tCons (tC (.int 0)) (tCons (tC (.int 60)) tNil))))))
      (fun _ σ H => tMkO (He.ga K "NoNumber") (sp_NoNumber___init__ P w K) [] (tCons (tVar 3) tNil) σ H fun cls d H1 => E cls d H1)
      tNext))
def N_need_cutting : List Str := ["web", "parts", "thing"]
def t_need_cutting (P : Program) (w : World) (K : PySem.W.Frag) : TS :=
    (tIfS (tTest (tOp rNotN (tCall (sp_fault_of P w K) [] E0 (tCons (tVar 0) (tCons (tVar 1) (tCons (tVar 2) tNil)))) (tC .non)))
      tNever
      tNext)
def N_Web_weight : List Str := ["self", "name"]
def t_Web_weight (P : Program) (w : World) (K : PySem.W.Frag) : TS :=
    (tSeq (tDrop (tMeth (He.ga K "Web") "need_place" (sp_Web_need_place P w K) [] E0 (tVar 0) (tCons (tVar 1) tNil)))
    (tRet (tDGet (tFld K (tVar 0) "heavy") (tVar 1))))
def N_part_weights : List Str := ["web", "parts", "cutting", "found", "name"]
def t_part_weights (P : Program) (w : World) (K : PySem.W.Frag) : TS :=
    (tSeq (tDrop (tCall (sp_need_cutting P w K) [] E0 (tCons (tVar 0) (tCons (tVar 1) (tCons (tVar 2) tNil)))))
    (tSeq (tAsg (tOp rRep (tLst (tCons (tC (.int 0)) tNil)) (tVar 1)) (gName 3))
    (tSeq (tFor (iList K (tMeth (He.ga K "Web") "names" (sp_Web_names P w K) [] E0 (tVar 0) tNil)) (gName 4)
      (tAugS (tVar 3) (tDGet (tVar 2) (tVar 4)) (tMeth (He.ga K "Web") "weight" (sp_Web_weight P w K) [] E0 (tVar 0) (tCons (tVar 4) tNil)) rGetL (ipI fun i j => i + j) rSetL))
    (tRet (tVar 3)))))
def N_part_names : List Str := ["web", "parts", "cutting", "found", "part", "name"]
def t_part_names (P : Program) (w : World) (K : PySem.W.Frag) : TS :=
    (tSeq (tDrop (tCall (sp_need_cutting P w K) [] E0 (tCons (tVar 0) (tCons (tVar 1) (tCons (tVar 2) tNil)))))
    (tSeq (tAsg (tLc (iRng1 (tCons (tVar 1) tNil)) (gName 4) tYes (tLst tNil) [4]) (gName 3))
    (tSeq (tFor (iList K (tMeth (He.ga K "Web") "names" (sp_Web_names P w K) [] E0 (tVar 0) tNil)) (gName 5)
      (tDrop (tBM K "list" rAppend (tOp (rIxL K) (tVar 3) (tDGet (tVar 2) (tVar 5))) (tCons (tVar 5) tNil))))
    (tRet (tVar 3)))))
def N_heaviest : List Str := ["web", "names", "many"]
def t_heaviest (P : Program) (w : World) (K : PySem.W.Frag) : TS :=
    (tRet (tSl (rSlL K) (tSortL K (tabsT K) ((("heaviest" : Str) ++ ".<locals>.") ++ "<lambda>") ["name", "web"] [0] (tCons (tVar 1) tNil) (tOp oSub (tC (.int 0)) (tMeth (He.ga K "Web") "weight" (sp_Web_weight P w K) [] E0 (tVar 1) (tCons (tVar 0) tNil)))) tNoPart (tPart (tVar 2))))
def N_weight_sum : List Str := ["web", "names", "name"]
def t_weight_sum (P : Program) (w : World) (K : PySem.W.Frag) : TS :=
    (tRet (tCB (rSum K) (tCons (tLc (iList K (tVar 1)) (gName 2) tYes (tMeth (He.ga K "Web") "weight" (sp_Web_weight P w K) [] E0 (tVar 0) (tCons (tVar 2) tNil)) [2]) tNil)))
def N_stuck_paper : List Str := ["web", "rule", "cutting", "budget", "weights", "inside", "part", "weight", "out", "come", "name"]
def t_stuck_paper (P : Program) (w : World) (K : PySem.W.Frag) (E : XK) : TS :=
    (tSeq (tDrop (tCall (sp_need_both P w K) [] E (tCons (tVar 0) (tCons (tVar 1) (tCons (tVar 2) (tCons (tVar 3) tNil))))))
    (tSeq (tAsg (tCall (sp_part_weights P w K) [] E0 (tCons (tVar 0) (tCons (tFld K (tVar 1) "parts") (tCons (tVar 2) tNil)))) (gName 4))
    (tSeq (tAsg (tCall (sp_part_names P w K) [] E0 (tCons (tVar 0) (tCons (tFld K (tVar 1) "parts") (tCons (tVar 2) tNil)))) (gName 5))
    (tSeq (tFor (iEnum K (tCons (tVar 4) tNil)) (gTup K 2 (gCons (gName 6) (gCons (gName 7) gNil)))
      (tSeq (tAsg (tCall (sp_heaviest P w K) [] E0 (tCons (tVar 0) (tCons (tOp (rIxL K) (tVar 5) (tVar 6)) (tCons (tVar 3) tNil)))) (gName 8))
      (tSeq (tIfS (tTest (tOp oGt (tOp oSub (tVar 7) (tCall (sp_weight_sum P w K) [] E0 (tCons (tVar 0) (tCons (tVar 8) tNil)))) (tFld K (tVar 1) "high")))
        (tRet (tTup (tCons (tC (.str "heavy")) (tCons (tVar 6) (tCons (tVar 8) tNil)))))
        tNext)
      (tSeq (tAsg (tCall (sp_heaviest P w K) [] E0 (tCons (tVar 0) (tCons (tLc (iList K (tMeth (He.ga K "Web") "names" (sp_Web_names P w K) [] E0 (tVar 0) tNil)) (gName 10) (tTest (tOp rNe (tDGet (tVar 2) (tVar 10)) (tVar 6))) (tVar 10) [10]) (tCons (tVar 3) tNil)))) (gName 9))
      (tIfS (tTest (tOp oLt (tOp oAdd (tVar 7) (tCall (sp_weight_sum P w K) [] E0 (tCons (tVar 0) (tCons (tVar 9) tNil)))) (tFld K (tVar 1) "low")))
        (tRet (tTup (tCons (tC (.str "light")) (tCons (tVar 6) (tCons (tVar 9) tNil)))))
        tNext)))))
    (tRet (tC .non))))))
def N_waste_by : List Str := ["rule", "weights", "weight"]
def t_waste_by (P : Program) (w : World) (K : PySem.W.Frag) : TS :=
    (tRet (tCB (rSum K) (tCons (tLc (iList K (tVar 1)) (gName 2) tYes (tOp oAdd (tCB rMax2 (tCons (tC (.int 0)) (tCons (tOp oSub (tVar 2) (tFld K (tVar 0) "high")) tNil))) (tCB rMax2 (tCons (tC (.int 0)) (tCons (tOp oSub (tFld K (tVar 0) "low") (tVar 2)) tNil)))) [2]) tNil)))
def N_waste_of : List Str := ["web", "rule", "cutting"]
def t_waste_of (P : Program) (w : World) (K : PySem.W.Frag) (E : XK) : TS :=
    (tSeq (tIfS (tNot (tB (tCall (sp_is_cutting P w K) [] E0 (tCons (tVar 0) (tCons (tFld K (tVar 1) "parts") (tCons (tVar 2) tNil))))))
      (fun _ σ H => tMkO (He.ga K "NoCutting") (sp_NoCutting___init__ P w K) [] (tCons (tVar 2) tNil) σ H fun cls d H1 => E cls d H1)
      tNext)
    (tRet (tCall (sp_waste_by P w K) [] E0 (tCons (tVar 1) (tCons (tCall (sp_part_weights P w K) [] E0 (tCons (tVar 0) (tCons (tFld K (tVar 1) "parts") (tCons (tVar 2) tNil)))) tNil)))))
def N__law_waste : List Str := ["_law_weights_here", "_law_bounds", "_law_weight"]
def t__law_waste (P : Program) (w : World) (K : PySem.W.Frag) : TS :=
    (tRet (tCB (rSum K) (tCons (tLc (iList K (tVar 0)) (gName 2) tYes (tOp oAdd (tCB rMax2 (tCons (tC (.int 0)) (tCons (tOp oSub (tVar 2) (tOp (rIxT K) (tVar 1) (tC (.int 1)))) tNil))) (tCB rMax2 (tCons (tC (.int 0)) (tCons (tOp oSub (tOp (rIxT K) (tVar 1) (tC (.int 0))) (tVar 2)) tNil)))) [2]) tNil)))
def N__law_spoilt : List Str := ["_law_state", "_law_plan_here", "_law_parts", "_law_paper_here", "_law_word", "_law_part", "_law_some", "_law_way", "_law_at", "_law_things", "_law_whole"]
def t__law_spoilt (P : Program) (w : World) (K : PySem.W.Frag) : TS :=
    (tSeq (tAsg (tVar 3) (gTup K 3 (gCons (gName 4) (gCons (gName 5) (gCons (gName 6) gNil)))))
    (tSeq (tAsg (tCB (rListOf K) (tCons (tVar 6) tNil)) (gName 6))
    (tSeq (tAsg (tCall (sp__law_pull P w K) [] E0 (tCons (tVar 0) (tCons (tC (.int 9)) tNil))) (gName 7))
    (tSeq (tAsg (tCall (sp__law_pull P w K) [] E0 (tCons (tVar 0) (tCons (tOp oAdd (tCB (rLenV K) (tCons (tVar 6) tNil)) (tC (.int 1))) tNil))) (gName 8))
    (tSeq (tIfS (tTest (tOp rEq (tVar 7) (tC (.int 0))))
      (tDrop (tBM0 K "list" rReverse (tVar 6)))
      (tIfS (tTest (tOp rEq (tVar 7) (tC (.int 1))))
        (tAsg (tOp (rIxL K) (tLst (tCons (tOp oAdd (tVar 5) (tC (.int 1))) (tCons (tOp oSub (tVar 5) (tC (.int 1))) (tCons (tVar 2) (tCons (tUn (rU fun i => .int (-i)) (tC (.int 1))) (tCons (tC (.bl true)) (tCons (tC .non) (tCons (tC (.str "0")) tNil)))))))) (tCall (sp__law_pull P w K) [] E0 (tCons (tVar 0) (tCons (tC (.int 7)) tNil)))) (gName 5))
        (tIfS (tTest (tOp rEq (tVar 7) (tC (.int 2))))
          (tAsg (tOp (rIxL K) (tLst (tCons (tC (.str "heavy")) (tCons (tC (.str "light")) (tCons (tC (.str "")) (tCons (tC .non) (tCons (tC (.str "Heavy")) (tCons (tC (.int 7)) (tCons (tLst (tCons (tC (.str "heavy")) tNil)) tNil)))))))) (tCall (sp__law_pull P w K) [] E0 (tCons (tVar 0) (tCons (tC (.int 7)) tNil)))) (gName 4))
          (tIfS (tAnd (tTest (tOp rEq (tVar 7) (tC (.int 3)))) (tAnd (tTest (tOp (rNeD K) (tVar 6) (tLst tNil))) (tTest (tOp (rNeD K) (tDGet (tVar 1) (tC (.str "names"))) (tLst tNil)))))
            (tAsg (tOp (rIxL K) (tDGet (tVar 1) (tC (.str "names"))) (tCall (sp__law_pull P w K) [] E0 (tCons (tVar 0) (tCons (tCB (rLenV K) (tCons (tDGet (tVar 1) (tC (.str "names"))) tNil)) tNil)))) (gSub (tVar 6) (tOp oMod (tVar 8) (tCB (rLenV K) (tCons (tVar 6) tNil))) rSetL))
            (tIfS (tTest (tOp rEq (tVar 7) (tC (.int 4))))
              (tSeq (tAsg (tLst (tCons (tOp (rIxL K) (tOp rCat (tDGet (tVar 1) (tC (.str "names"))) (tLst (tCons (tC (.str "")) tNil))) (tC (.int 0))) (tCons (tC (.str "")) (tCons (tC .non) (tCons (tC (.int 7)) (tCons (tLst (tCons (tC (.str "a")) tNil)) tNil)))))) (gName 9))
              (tDrop (tBM K "list" rInsert (tVar 6) (tCons (tVar 8) (tCons (tOp (rIxL K) (tVar 9) (tCall (sp__law_pull P w K) [] E0 (tCons (tVar 0) (tCons (tC (.int 5)) tNil)))) tNil)))))
              (tIfS (tTest (tOp rEq (tVar 7) (tC (.int 5))))
                (tAsg (tOp rCat (tSl (rSlL K) (tVar 6) tNoPart (tPart (tVar 8))) (tSl (rSlL K) (tVar 6) (tPart (tOp oAdd (tVar 8) (tC (.int 1)))) tNoPart)) (gName 6))
                (tIfS (tTest (tOp rEq (tVar 7) (tC (.int 6))))
                  (tSeq (tAsg (tTup (tCons (tVar 4) (tCons (tVar 5) (tCons (tVar 6) tNil)))) (gName 10))
                  (tRet (tOp (rIxL K) (tLst (tCons (tCB (rListOf K) (tCons (tVar 10) tNil)) (tCons (tSl (rSlT K) (tVar 10) tNoPart (tPart (tC (.int 2)))) (tCons (tOp (rCatT K) (tVar 10) (tTup (tCons (tC (.int 0)) tNil))) (tCons (tTup (tCons (tVar 4) (tCons (tVar 5) (tCons (tCB (rTupleOf K) (tCons (tVar 6) tNil)) tNil)))) (tCons (tC .non) tNil)))))) (tOp oMod (tVar 8) (tC (.int 5))))))
                  (tIfS (tTest (tOp rEq (tVar 7) (tC (.int 7))))
                    (tRet (tOp (rIxL K) (tLst (tCons (tC .non) (tCons (tTup tNil) (tCons (tLst tNil) (tCons (tC (.str "heavy")) (tCons (tC (.int 7)) (tCons (tC (.bl true)) (tCons tDNewK (tCons (tTup (tCons (tC (.str "heavy")) tNil)) tNil))))))))) (tCall (sp__law_pull P w K) [] E0 (tCons (tVar 0) (tCons (tC (.int 8)) tNil)))))
                    tNext))))))))
    (tRet (tTup (tCons (tVar 4) (tCons (tVar 5) (tCons (tVar 6) tNil))))))))))
def N_are_heaviest : List Str := ["web", "names", "thing", "budget", "at", "name", "left"]
def t_are_heaviest (P : Program) (w : World) (K : PySem.W.Frag) : TS :=
    (tSeq (tIfS (tOr (tNot (tB (tCB (rIsi K) (tCons (tVar 2) (tCons (tC (.ty "list")) tNil))))) (tTest (tOp rNe (tCB (rLenV K) (tCons (tVar 2) tNil)) (tCB rMin2 (tCons (tVar 3) (tCons (tCB (rLenV K) (tCons (tVar 1) tNil)) tNil))))))
      (tRet (tC (.bl false)))
      tNext)
    (tSeq (tFor (iEnum K (tCons (tVar 2) tNil)) (gTup K 2 (gCons (gName 4) (gCons (gName 5) gNil)))
      (tIfS (tOr (tNot (tB (tCB (rIsiO P w K) (tCons (tVar 5) (tCons (tC (.ty "str")) tNil))))) (tOr (tTest (tOp (rInX K true) (tVar 5) (tVar 1))) (tTest (tOp (rInX K false) (tVar 5) (tSl (rSlL K) (tVar 2) tNoPart (tPart (tVar 4)))))))
        (tRet (tC (.bl false)))
        tNext))
    (tSeq (tAsg (tLc (iList K (tVar 1)) (gName 5) (tTest (tOp (rIn K true) (tVar 5) (tVar 2))) (tMeth (He.ga K "Web") "weight" (sp_Web_weight P w K) [] E0 (tVar 0) (tCons (tVar 5) tNil)) [5]) (gName 6))
    (tRet (tOrV (tOp (rEqD K) (tVar 6) (tLst tNil)) (tOrV (tOp (rEqD K) (tVar 2) (tLst tNil)) (tOp oLe (tCB (rMax K) (tCons (tVar 6) tNil)) (tCB (rMin K) (tCons (tLc (iList K (tVar 2)) (gName 5) tYes (tMeth (He.ga K "Web") "weight" (sp_Web_weight P w K) [] E0 (tVar 0) (tCons (tVar 5) tNil)) [5]) tNil)))))))))
def N_shows_stuck : List Str := ["web", "rule", "cutting", "budget", "thing", "word", "part", "names", "weight", "inside", "name", "outside"]
def t_shows_stuck (P : Program) (w : World) (K : PySem.W.Frag) (E : XK) : TS :=
    (tSeq (tDrop (tCall (sp_need_both P w K) [] E (tCons (tVar 0) (tCons (tVar 1) (tCons (tVar 2) (tCons (tVar 3) tNil))))))
    (tSeq (tIfS (tOr (tNot (tB (tCB (rIsi K) (tCons (tVar 4) (tCons (tC (.ty "tuple")) tNil))))) (tOr (tTest (tOp rNe (tCB (rLenV K) (tCons (tVar 4) tNil)) (tC (.int 3)))) (tNot (tB (tCall (sp_is_whole P w K) [] E0 (tCons (tOp (rIxT K) (tVar 4) (tC (.int 1))) (tCons (tC (.int 0)) (tCons (tOp oSub (tFld K (tVar 1) "parts") (tC (.int 1))) tNil))))))))
      (tRet (tC (.bl false)))
      tNext)
    (tSeq (tAsg (tVar 4) (gTup K 3 (gCons (gName 5) (gCons (gName 6) (gCons (gName 7) gNil)))))
    (tSeq (tAsg (tOp (rIxL K) (tCall (sp_part_weights P w K) [] E0 (tCons (tVar 0) (tCons (tFld K (tVar 1) "parts") (tCons (tVar 2) tNil)))) (tVar 6)) (gName 8))
    (tSeq (tAsg (tLc (iList K (tMeth (He.ga K "Web") "names" (sp_Web_names P w K) [] E0 (tVar 0) tNil)) (gName 10) (tTest (tOp rEq (tDGet (tVar 2) (tVar 10)) (tVar 6))) (tVar 10) [10]) (gName 9))
    (tSeq (tIfS (tTest (tOp (rEqX K) (tVar 5) (tC (.str "heavy"))))
      (tRet (tAndV (tCall (sp_are_heaviest P w K) [] E0 (tCons (tVar 0) (tCons (tVar 9) (tCons (tVar 7) (tCons (tVar 3) tNil))))) (tOp oGt (tOp oSub (tVar 8) (tCall (sp_weight_sum P w K) [] E0 (tCons (tVar 0) (tCons (tVar 7) tNil)))) (tFld K (tVar 1) "high"))))
      tNext)
    (tSeq (tAsg (tLc (iList K (tMeth (He.ga K "Web") "names" (sp_Web_names P w K) [] E0 (tVar 0) tNil)) (gName 10) (tTest (tOp rNe (tDGet (tVar 2) (tVar 10)) (tVar 6))) (tVar 10) [10]) (gName 11))
    (tSeq (tIfS (tTest (tOp (rEqX K) (tVar 5) (tC (.str "light"))))
      (tRet (tAndV (tCall (sp_are_heaviest P w K) [] E0 (tCons (tVar 0) (tCons (tVar 11) (tCons (tVar 7) (tCons (tVar 3) tNil))))) (tOp oLt (tOp oAdd (tVar 8) (tCall (sp_weight_sum P w K) [] E0 (tCons (tVar 0) (tCons (tVar 7) tNil)))) (tFld K (tVar 1) "low"))))
      tNext)
    (tRet (tC (.bl false)))))))))))
def N__law_shows : List Str := ["_law_plan_here", "_law_parts", "_law_bounds", "_law_cutting_here", "_law_budget", "_law_thing", "_law_word", "_law_part", "_law_some", "_law_kind", "_law_name", "_law_k", "_law_left", "_law_taken", "_law_weight"]
def t__law_shows (P : Program) (w : World) (K : PySem.W.Frag) : TS :=
    (tSeq (tIfS (tOr (tNot (tB (tCB (rIsi K) (tCons (tVar 5) (tCons (tC (.ty "tuple")) tNil))))) (tOr (tTest (tOp rNe (tCB (rLenV K) (tCons (tVar 5) tNil)) (tC (.int 3)))) (tTest (tOp (rInX K true) (tOp (rIxT K) (tVar 5) (tC (.int 0))) (tTup (tCons (tC (.str "heavy")) (tCons (tC (.str "light")) tNil)))))))
      (tRet (tC (.bl false)))
      tNext)
    (tSeq (tAsg (tVar 5) (gTup K 3 (gCons (gName 6) (gCons (gName 7) (gCons (gName 8) gNil)))))
    (tSeq (tIfS (tOr (tNot (tB (tCB (rIsi K) (tCons (tVar 7) (tCons (tC (.ty "int")) tNil))))) (tOr (tB (tCB (rIsi K) (tCons (tVar 7) (tCons (tC (.ty "bool")) tNil)))) (tOr (tNot (tTest (tChain oLe oLt (tC (.int 0)) (tVar 7) (tVar 1)))) (tNot (tB (tCB (rIsi K) (tCons (tVar 8) (tCons (tC (.ty "list")) tNil))))))))
      (tRet (tC (.bl false)))
      tNext)
    (tSeq (tAsg (tLc (iList K (tDGet (tVar 0) (tC (.str "names")))) (gName 10) (tTest (tOp rEq (tOp rEq (tDGet (tVar 3) (tVar 10)) (tVar 7)) (tOp (rEqX K) (tVar 6) (tC (.str "heavy"))))) (tVar 10) [10]) (gName 9))
    (tSeq (tFor (iEnum K (tCons (tVar 8) tNil)) (gTup K 2 (gCons (gName 11) (gCons (gName 10) gNil)))
      (tIfS (tOr (tTest (tOp (rInX K true) (tVar 10) (tVar 9))) (tTest (tOp (rInX K false) (tVar 10) (tSl (rSlL K) (tVar 8) tNoPart (tPart (tVar 11))))))
        (tRet (tC (.bl false)))
        tNext))
    (tSeq (tAsg (tLc (iList K (tVar 9)) (gName 10) (tTest (tOp (rInX K true) (tVar 10) (tVar 8))) (tDGet (tDGet (tVar 0) (tC (.str "weights"))) (tVar 10)) [10]) (gName 12))
    (tSeq (tAsg (tLc (iList K (tVar 8)) (gName 10) tYes (tDGet (tDGet (tVar 0) (tC (.str "weights"))) (tVar 10)) [10]) (gName 13))
    (tSeq (tIfS (tOr (tTest (tOp rNe (tCB (rLenV K) (tCons (tVar 8) tNil)) (tCB rMin2 (tCons (tVar 4) (tCons (tCB (rLenV K) (tCons (tVar 9) tNil)) tNil))))) (tTest (tOp oGt (tCB (rMax K) (tCons (tOp rCat (tVar 12) (tLst (tCons (tC (.int 0)) tNil))) tNil)) (tCB (rMin K) (tCons (tOp rCat (tVar 13) (tLst (tCons (tOp oPow (tC (.int 10)) (tC (.int 9))) tNil))) tNil)))))
      (tRet (tC (.bl false)))
      tNext)
    (tSeq (tAsg (tOp (rIxL K) (tCall (sp__law_weights P w K) [] E0 (tCons (tVar 0) (tCons (tVar 1) (tCons (tVar 3) tNil)))) (tVar 7)) (gName 14))
    (tSeq (tIfS (tTest (tOp (rEqX K) (tVar 6) (tC (.str "heavy"))))
      (tRet (tOp oGt (tOp oSub (tVar 14) (tCB (rSum K) (tCons (tVar 13) tNil))) (tOp (rIxT K) (tVar 2) (tC (.int 1)))))
      tNext)
    (tRet (tOp oLt (tOp oAdd (tVar 14) (tCB (rSum K) (tCons (tVar 13) tNil))) (tOp (rIxT K) (tVar 2) (tC (.int 0)))))))))))))))
def N__law_right : List Str := ["_law_state", "_law_web", "_law_rule", "_law_plan_here", "_law_bounds", "_law_cutting_here", "_law_budget", "_law_handed", "_law_due", "_law_turn", "_law_found", "_law_waste_here", "_law_weights_here", "_law_base", "_law_part", "_law_inside", "_law_name", "_law_k", "_law_thing", "_law_told", "_law_right_here"]
def t__law_right (P : Program) (w : World) (K : PySem.W.Frag) : TS :=
    (tSeq (tAsg (tCB rDictD (tCons (tVar 5) tNil)) (gName 7))
    (tSeq (tAsg (tCall (sp__law_paper P w K) [] E0 (tCons (tVar 3) (tCons (tFld K (tVar 2) "parts") (tCons (tVar 4) (tCons (tVar 5) (tCons (tVar 6) tNil)))))) (gName 8))
    (tSeq (tFor (iRng1 (tCons (tC (.int 2)) tNil)) (gName 9)
      (tSeq (tAsg (tCall (sp_stuck_paper P w K) [] E0 (tCons (tVar 1) (tCons (tVar 2) (tCons (tVar 7) (tCons (tVar 6) tNil))))) (gName 10))
      (tSeq (tIfS (tTest (tOp (rNeD K) (tVar 10) (tVar 8)))
        (tRet (tC (.bl false)))
        tNext)
      (tIfS (tB (tCB (rIsi K) (tCons (tVar 8) (tCons (tC (.ty "tuple")) tNil))))
        (tSeq (tIfS (tOr (tNot (tB (tCB (rIsi K) (tCons (tVar 10) (tCons (tC (.ty "tuple")) tNil))))) (tNot (tB (tCB (rIsi K) (tCons (tOp (rIxT K) (tVar 10) (tC (.int 2))) (tCons (tC (.ty "list")) tNil))))))
          (tRet (tC (.bl false)))
          tNext)
        (tDrop (tBM K "list" rAppend (tOp (rIxT K) (tVar 10) (tC (.int 2))) (tCons (tC (.str "x")) tNil))))
        tNext))))
    (tSeq (tAsg (tCall (sp_waste_of P w K) [] E0 (tCons (tVar 1) (tCons (tVar 2) (tCons (tVar 7) tNil)))) (gName 11))
    (tSeq (tIfS (tOr (tNot (tB (tCB (rIsi K) (tCons (tVar 11) (tCons (tC (.ty "int")) tNil))))) (tB (tCB (rIsi K) (tCons (tVar 11) (tCons (tC (.ty "bool")) tNil)))))
      (tRet (tC (.bl false)))
      tNext)
    (tSeq (tAsg (tCall (sp__law_weights P w K) [] E0 (tCons (tVar 3) (tCons (tFld K (tVar 2) "parts") (tCons (tVar 5) tNil)))) (gName 12))
    (tSeq (tIfS (tOr (tTest (tOp rNe (tVar 11) (tCall (sp__law_waste P w K) [] E0 (tCons (tVar 12) (tCons (tVar 4) tNil))))) (tTest (tOp rNeDA (tVar 7) (tVar 5))))
      (tRet (tC (.bl false)))
      tNext)
    (tSeq (tAsg (tVar 8) (gName 13))
    (tSeq (tIfS (tTest (tOp rIsN (tVar 13) (tC .non)))
      (tSeq (tAsg (tCall (sp__law_pull P w K) [] E0 (tCons (tVar 0) (tCons (tFld K (tVar 2) "parts") tNil))) (gName 14))
      (tSeq (tAsg (tLc (iList K (tDGet (tVar 3) (tC (.str "names")))) (gName 16) (tTest (tOp rEq (tDGet (tVar 5) (tVar 16)) (tVar 14))) (tVar 16) [16]) (gName 15))
      (tAsg (tTup (tCons (tC (.str "heavy")) (tCons (tVar 14) (tCons (tCall (sp__law_heaviest P w K) [] E0 (tCons (tVar 3) (tCons (tVar 15) (tCons (tVar 6) tNil)))) tNil)))) (gName 13))))
      tNext)
    (tSeq (tFor (iRng1 (tCons (tC (.int 8)) tNil)) (gName 17)
      (tSeq (tAsg (tVar 13) (gName 18))
      (tSeq (tIfS (tTest (tOp oGt (tVar 17) (tC (.int 0))))
        (tAsg (tCall (sp__law_spoilt P w K) [] E0 (tCons (tVar 0) (tCons (tVar 3) (tCons (tFld K (tVar 2) "parts") (tCons (tVar 13) tNil))))) (gName 18))
        tNext)
      (tSeq (tAsg (tCall (sp_shows_stuck P w K) [] E0 (tCons (tVar 1) (tCons (tVar 2) (tCons (tVar 7) (tCons (tVar 6) (tCons (tVar 18) tNil)))))) (gName 19))
      (tSeq (tAsg (tCall (sp__law_shows P w K) [] E0 (tCons (tVar 3) (tCons (tFld K (tVar 2) "parts") (tCons (tVar 4) (tCons (tVar 5) (tCons (tVar 6) (tCons (tVar 18) tNil))))))) (gName 20))
      (tIfS (tOr (tNot (tB (tCB (rIsi K) (tCons (tVar 19) (tCons (tC (.ty "bool")) tNil))))) (tTest (tOp rNe (tVar 19) (tVar 20))))
        (tRet (tC (.bl false)))
        tNext))))))
    (tRet (tC (.bl true)))))))))))))
def N__law_no_cutting : List Str := ["_law_state", "_law_names", "_law_parts", "_law_cutting_here", "_law_found", "_law_way", "_law_name"]
def t__law_no_cutting (P : Program) (w : World) (K : PySem.W.Frag) : TS :=
    (tSeq (tAsg (tCB rDictD (tCons (tVar 3) tNil)) (gName 4))
    (tSeq (tAsg (tCall (sp__law_pull P w K) [] E0 (tCons (tVar 0) (tCons (tC (.int 6)) tNil))) (gName 5))
    (tSeq (tIfS (tOr (tTest (tOp (rEqD K) (tVar 1) (tLst tNil))) (tTest (tOp rEq (tVar 5) (tC (.int 0)))))
      (tRet (tOp (rIxL K) (tLst (tCons (tC .non) (tCons (tLst tNil) (tCons (tLst (tCons (tVar 3) tNil)) (tCons (tTup (tCons (tVar 3) tNil)) (tCons (tC (.str "a")) (tCons (tC (.int 7)) (tCons (tC (.bl true)) (tCons (tDisp [((tC (.str "")), (tC (.int 0)))]) (tCons (tDispN P w (tC .non) (tC (.int 0))) tNil)))))))))) (tCall (sp__law_pull P w K) [] E0 (tCons (tVar 0) (tCons (tC (.int 9)) tNil)))))
      tNext)
    (tSeq (tAsg (tOp (rIxL K) (tVar 1) (tCall (sp__law_pull P w K) [] E0 (tCons (tVar 0) (tCons (tCB (rLenV K) (tCons (tVar 1) tNil)) tNil)))) (gName 6))
    (tSeq (tIfS (tTest (tOp rEq (tVar 5) (tC (.int 1))))
      (tDrop (tDPop1 (tVar 4) (tVar 6)))
      (tIfS (tTest (tOp rEq (tVar 5) (tC (.int 2))))
        (sDPutO K (tVar 4) (tOp (rIxL K) (tLst (tCons (tC .non) (tCons (tC (.int 7)) (tCons (tTup (tCons (tC (.str "a")) tNil)) (tCons (tOp oAddS (tVar 6) (tC (.str "9"))) tNil))))) (tCall (sp__law_pull P w K) [] E0 (tCons (tVar 0) (tCons (tC (.int 4)) tNil)))) (tC (.int 0)))
        (sDPut (tVar 4) (tVar 6) (tOp (rIxL K) (tLst (tCons (tVar 2) (tCons (tUn (rU fun i => .int (-i)) (tC (.int 1))) (tCons (tC .non) (tCons (tC (.bl true)) (tCons (tC (.bl false)) (tCons (tC (.str "0")) (tCons (tLst (tCons (tC (.int 0)) tNil)) (tCons (tTup (tCons (tC (.int 0)) tNil)) (tCons (tOp oPow (tC (.int 10)) (tC (.int 29))) tNil)))))))))) (tCall (sp__law_pull P w K) [] E0 (tCons (tVar 0) (tCons (tC (.int 9)) tNil)))))))
    (tRet (tVar 4)))))))
def N__law_refusal : List Str := ["_law_web", "_law_rule", "_law_cutting_here", "_law_budget", "_law_way", "_law_told", "e"]
def t__law_refusal (P : Program) (w : World) (K : PySem.W.Frag) : TS :=
    (tSeq (tAsg (tC .non) (gName 5))
    (tSeq (tTry K (He.ga K "CutError") 6 (fun W => (tIfS (tTest (tOp rEq (tVar 4) (tC (.int 0))))
        (tDrop (tCallS (sp_waste_of P w K) (WE W) (tCons (tVar 0) (tCons (tVar 1) (tCons (tVar 2) tNil)))))
        (tIfS (tTest (tOp rEq (tVar 4) (tC (.int 1))))
          (tDrop (tCallS (sp_stuck_paper P w K) (WE W) (tCons (tVar 0) (tCons (tVar 1) (tCons (tVar 2) (tCons (tVar 3) tNil))))))
          (tDrop (tCallS (sp_shows_stuck P w K) (WE W) (tCons (tVar 0) (tCons (tVar 1) (tCons (tVar 2) (tCons (tVar 3) (tCons (tC .non) tNil)))))))))) (fun xa cls xd => (tSeq (tAsg (tTup (tCons (tC (.str "other")) (tCons (tC .non) tNil))) (gName 5))
      (tIfS (tAnd (tB (tCB (rIsX K xa cls xd) (tCons (tVar 6) (tCons (tC (.ref (He.ga K "NoCutting"))) tNil)))) (tNot (tB (tCB (rIsX K xa cls xd) (tCons (tVar 6) (tCons (tTup (tCons (tC (.ref (He.ga K "NoNumber"))) (tCons (tC (.ref (He.ga K "NoPlace"))) tNil))) tNil))))))
        (tAsg (tTup (tCons (tC (.str "cutting")) (tCons (tXf xa cls xd (He.ga K "NoCutting") "found" (tVar 6)) tNil))) (gName 5))
        (tIfS (tAnd (tB (tCB (rIsX K xa cls xd) (tCons (tVar 6) (tCons (tC (.ref (He.ga K "NoNumber"))) tNil)))) (tNot (tB (tCB (rIsX K xa cls xd) (tCons (tVar 6) (tCons (tC (.ref (He.ga K "NoPlace"))) tNil))))))
          (tAsg (tTup (tCons (tC (.str "number")) (tCons (tXf xa cls xd (He.ga K "NoNumber") "found" (tVar 6)) tNil))) (gName 5))
          tNext)))))
    (tRet (tVar 5))))
def N__law_refused : List Str := ["_law_state", "_law_web", "_law_rule", "_law_plan_here", "_law_cutting_here", "_law_bad", "_law_budget", "_law_way"]
def t__law_refused (P : Program) (w : World) (K : PySem.W.Frag) : TS :=
    (tSeq (tAsg (tCall (sp__law_no_cutting P w K) [] E0 (tCons (tVar 0) (tCons (tDGet (tVar 3) (tC (.str "names"))) (tCons (tFld K (tVar 2) "parts") (tCons (tVar 4) tNil))))) (gName 5))
    (tSeq (tAsg (tOp (rIxL K) (tLst (tCons (tUn (rU fun i => .int (-i)) (tC (.int 1))) (tCons (tC (.int 61)) (tCons (tC (.bl true)) (tCons (tC (.bl false)) (tCons (tC .non) (tCons (tC (.str "3")) (tCons (tLst (tCons (tC (.int 3)) tNil)) (tCons (tTup (tCons (tC (.int 3)) tNil)) (tCons (tOp oPow (tC (.int 10)) (tC (.int 29))) (tCons tDNewK tNil))))))))))) (tCall (sp__law_pull P w K) [] E0 (tCons (tVar 0) (tCons (tC (.int 10)) tNil)))) (gName 6))
    (tSeq (tFor (iRng1 (tCons (tC (.int 3)) tNil)) (gName 7)
      (tSeq (tIfS (tTest (tOp (rNeTag K) (tCall (sp__law_refusal P w K) [] E0 (tCons (tVar 1) (tCons (tVar 2) (tCons (tVar 5) (tCons (tVar 6) (tCons (tVar 7) tNil)))))) (tTup (tCons (tC (.str "cutting")) (tCons (tVar 5) tNil)))))
        (tRet (tC (.bl false)))
        tNext)
      (tIfS (tTest (tOp oGt (tVar 7) (tC (.int 0))))
        (tIfS (tTest (tOp (rNeTag K) (tCall (sp__law_refusal P w K) [] E0 (tCons (tVar 1) (tCons (tVar 2) (tCons (tVar 4) (tCons (tVar 6) (tCons (tVar 7) tNil)))))) (tTup (tCons (tC (.str "number")) (tCons (tVar 6) tNil)))))
          (tRet (tC (.bl false)))
          tNext)
        tNext)))
    (tRet (tC (.bl true))))))
def N_law : List Str := ["_law_script", "_law_k", "_law_state", "_law_plan_here", "_law_web", "_law_parts", "_law_cutting_here", "_law_bounds", "_law_rule", "_law_budget"]
def t_law (P : Program) (w : World) (K : PySem.W.Frag) : TS :=
    (tSeq (tFor (iRng1 (tCons (tCB rMax2 (tCons (tC (.int 2)) (tCons (tCB rMin2 (tCons (tC (.int 8)) (tCons (tCB (rLenV K) (tCons (tVar 0) tNil)) tNil))) tNil))) tNil)) (gName 1)
      (tSeq (tAsg (tCall (sp__law_begun P w K) [] E0 (tCons (tCall (sp__law_cell P w K) [] E0 (tCons (tVar 0) (tCons (tVar 1) tNil))) tNil)) (gName 2))
      (tSeq (tAsg (tCall (sp__law_plan P w K) [] E0 (tCons (tVar 2) (tCons (tC (.int 8)) tNil))) (gName 3))
      (tSeq (tAsg (tCall (sp__law_made P w K) [] E0 (tCons (tVar 2) (tCons (tVar 3) tNil))) (gName 4))
      (tSeq (tAsg (tOp oAdd (tC (.int 2)) (tCall (sp__law_pull P w K) [] E0 (tCons (tVar 2) (tCons (tC (.int 5)) tNil)))) (gName 5))
      (tSeq (tAsg (tCall (sp__law_cutting P w K) [] E0 (tCons (tVar 2) (tCons (tDGet (tVar 3) (tC (.str "names"))) (tCons (tVar 5) tNil)))) (gName 6))
      (tSeq (tAsg (tCall (sp__law_tight P w K) [] E0 (tCons (tVar 2) (tCons (tVar 3) (tCons (tVar 5) (tCons (tVar 6) tNil))))) (gName 7))
      (tSeq (tAsg (tMake (He.ga K "Rule") (sp_Rule___init__ P w K) [] E0 (tCons (tVar 5) (tCons (tOp (rIxT K) (tVar 7) (tC (.int 0))) (tCons (tOp (rIxT K) (tVar 7) (tC (.int 1))) tNil)))) (gName 8))
      (tSeq (tFor (iList K (tLst (tCons (tC (.int 0)) (tCons (tCall (sp__law_pull P w K) [] E0 (tCons (tVar 2) (tCons (tC (.int 4)) tNil))) (tCons (tOp (rIxL K) (tLst (tCons (tC (.int 1)) (tCons (tC (.int 2)) (tCons (tC (.int 60)) tNil)))) (tCall (sp__law_pull P w K) [] E0 (tCons (tVar 2) (tCons (tC (.int 3)) tNil)))) tNil))))) (gName 9)
        (tIfS (tNot (tB (tCall (sp__law_right P w K) [] E0 (tCons (tVar 2) (tCons (tVar 4) (tCons (tVar 8) (tCons (tVar 3) (tCons (tVar 7) (tCons (tVar 6) (tCons (tVar 9) tNil))))))))))
          (tRet (tC (.bl false)))
          tNext))
      (tIfS (tNot (tB (tCall (sp__law_refused P w K) [] E0 (tCons (tVar 2) (tCons (tVar 4) (tCons (tVar 8) (tCons (tVar 3) (tCons (tVar 6) tNil))))))))
        (tRet (tC (.bl false)))
        tNext))))))))))
    (tRet (tC (.bl true))))
end EvC
set_option Elab.async false
set_option linter.all false
set_option maxRecDepth 100000
set_option maxHeartbeats 4000000
/-! R80a: cells, digits, whole numbers, names. -/
namespace EvC
open PySem PySem.Spec PyProof.Rows L2 DL
variable [tsp : TabSpec] {P : Program} {w : World} {K : PySem.W.Frag} {mg : Str → Option Value} {base : Heap}
theorem cm_l {i j : Int} (h : -(2 ^ 64) < i ∧ i < 2 ^ 64) : CMul i j := .inl h
theorem cm_r {i j : Int} (h : -(2 ^ 64) < j ∧ j < 2 ^ 64) : CMul i j := .inr h
theorem rv_ixQ {rs : List R} {r : R} {i : Int} (e : atI rs i = some r) : RV2 (rIxL K) (RSeq K rs) (RInt i) r := fun x y G H s hx hy Q k => by
  obtain ⟨a, xs, rfl, h1, h2⟩ := hx
  obtain ⟨v, h3, h4⟩ := atI_get h2 e
  exact ⟨a, xs, i, v, rfl, hy, s.seq h1, h3, k v G H (Ext.refl s) h4⟩
theorem len__law_cell (vs : List V) (H : Hp) (Q : VK) (E : XK) (h : sp__law_cell P w K vs H Q E) : vs.length = 2 := by refine spP_len (n := 2) ?_ vs H Q E h; intro i; rfl
theorem rd__law_cell (T : Tx P w K mg base) (hT : tsp.T = tabsT K) (vs : List V) (H : Hp) (Q : VK) (E : XK) (h : sp__law_cell P w K vs H Q E) : t__law_cell P w K { nx := fun _ H1 => Q .non H1, rt := Q } (start N__law_cell vs) H :=
  body_P (K := K) (fun ⟨ns, k⟩ ⟨h0, hl⟩ c D hK hb hr hx => by
    subst hK; dsimp only at *
    refine q_ifT (et_test (ev_op (ev_var rfl) (ev_cb (ea_cons (ev_var rfl) ea_nil) rv_lenQ) rv_lt)) (fun e => ?_) fun e => go_next (nx_go ?_)
    · have hk : k.toNat < ns.length := by
        have e1 := of_decide_eq_true e
        simp only [List.length_map] at e1
        omega
      have ha : atI (lI ns) k = some (RInt (ns[k.toNat]'hk)) := by
        have : (lI ns)[k.toNat]? = some (RInt (ns[k.toNat]'hk)) := by simp [hk]
        exact atI_int h0 this
      exact go_ret (r := RAnyInt) (ev_weak (ev_op (ev_var rfl) (ev_var rfl) (rv_ixQ ha)) fun v G q => ⟨_, trivial, q⟩) hr
    · exact go_ret (r := RAnyInt) (ev_weak (ev_op (ev_op ev_int (ev_var rfl) (rv_mul (cm_l (by decide)))) ev_int rv_add) fun v G q => ⟨_, trivial, q⟩) hr) vs H Q E h
theorem len__law_mix (vs : List V) (H : Hp) (Q : VK) (E : XK) (h : sp__law_mix P w K vs H Q E) : vs.length = 2 := by refine spP_len (n := 2) ?_ vs H Q E h; intro i; rfl
theorem m_rng {x m : Int} (h : 0 < m) (h2 : m ≤ 2147483648) : -(2 ^ 64) < x % m ∧ x % m < 2 ^ 64 := by
  have h3 := Int.emod_nonneg x (Int.ne_of_gt h)
  have h4 := Int.emod_lt_of_pos x h
  omega
theorem rd__law_mix (T : Tx P w K mg base) (hT : tsp.T = tabsT K) (vs : List V) (H : Hp) (Q : VK) (E : XK) (h : sp__law_mix P w K vs H Q E) : t__law_mix P w K { nx := fun _ H1 => Q .non H1, rt := Q } (start N__law_mix vs) H :=
  body_P (K := K) (fun ⟨a, k⟩ _ c D hK hb hr hx => by
    subst hK
    show Go c _ [some (im (RInt a)), some (im (RInt k)), none] D
    refine q_asg (by simp) (ev_op (ev_op (ev_op (ev_var rfl) (ev_op ev_int (ev_var rfl) (rv_mul (cm_l (by decide)))) rv_add) ev_int rv_add) ev_int (rv_mod (by decide))) ?_
    refine q_asg (by simp) (ev_op (ev_op (ev_op (ev_op (ev_var rfl) (ev_var rfl) (rv_mul (cm_l (m_rng (by decide) (by decide))))) ev_int (rv_mod (by decide))) ev_int (rv_mul (cm_r (by decide)))) ev_int (rv_mod (by decide))) ?_
    exact go_ret (r := RAnyInt) (ev_weak (ev_op (ev_op (ev_op (ev_var rfl) (ev_op (ev_var rfl) ev_int rv_add) (rv_mul (cm_l (m_rng (by decide) (by decide))))) ev_int (rv_mod (by decide))) ev_int (rv_fdiv (by decide))) fun v G q => ⟨_, trivial, q⟩) hr) vs H Q E h
theorem len__law_begun (vs : List V) (H : Hp) (Q : VK) (E : XK) (h : sp__law_begun P w K vs H Q E) : vs.length = 1 := by refine spN_len (n := 1) ?_ vs H Q E h; intro i; rfl
theorem evh_weak {c : DL.Ctx} {ρ : DL.Env} {te : TE} {A B : HK} (h : EvH c te ρ A) (w : ∀ o G, A.p o G → B.p o G) : EvH c te ρ B := fun σ G H F S Q k => h σ G H F S Q fun p o G' H' F' S' n h1 h2 h3 h4 q => k p o G' H' F' S' n h1 h2 h3 h4 (w _ _ q)
theorem rd__law_begun (T : Tx P w K mg base) (hT : tsp.T = tabsT K) (vs : List V) (H : Hp) (Q : VK) (E : XK) (h : sp__law_begun P w K vs H Q E) : t__law_begun P w K { nx := fun _ H1 => Q .non H1, rt := Q } (start N__law_begun vs) H :=
  body_N (K := K) (fun a _ c D hK hb hr => by
    subst hK
    refine go_retN' (evh_weak (B := HState) (evn_lst (ea_cons (ev_cb (ea_cons ev_int (ea_cons (ev_op (ev_var rfl) (ev_op ev_int ev_int (rv_pow (by unfold CPow; decide))) rv_sub) ea_nil)) rv_max2) (ea_cons (ev_op (ev_var rfl) ev_int (rv_mod (by decide))) (ea_cons ev_int ea_nil))) (by simp)) fun o G q => ?_) hr
    obtain ⟨xs, rfl, q⟩ := q
    obtain ⟨v1, v2, v3, rfl, h1, h2, h3⟩ := reps_three q
    exact ⟨_, _, _, by rw [show v1 = _ from h1, show v2 = _ from h2, show v3 = _ from h3]⟩) vs H Q E h
theorem len__law_pull (vs : List V) (H : Hp) (Q : VK) (E : XK) (h : sp__law_pull P w K vs H Q E) : vs.length = 2 := by refine spB_len (n := 1) ?_ vs H Q E h; intro i; rfl
/-- reads of a borrowed list of ints -/
theorem upd_same_eq {H : Hp} {p : Addr} {o : HO} (h : H p = some o) : upd H p o = H := by
  funext b
  by_cases z : b = p
  · rw [z, upd_same, h]
  · rw [upd_ne z]
theorem ext_put {G H : Hp} {st : Addr} {o o' : HO} (e : Le G H) (g : G st = none) (h : H st = some o) (hd : Dat o) : Ext (fun a => a = st) G H G (upd H st o') where
  keep := fun a u nb _ q => by rw [upd_ne nb]; exact q
  live := fun a q => by
    by_cases z : a = st
    · subst z; rw [upd_same] at q; cases q
    · rw [upd_ne z] at q; exact q
  sub := Same.refl _
  le := ⟨fun a u q => by rw [upd_ne (fun z => by subst z; rw [g] at q; cases q)]; exact e _ _ q, e.nt, tab_put h hd e.tb⟩
  new := fun a _ q => q
  tab := tab_put h hd
theorem rd__law_pull (T : Tx P w K mg base) (hT : tsp.T = tabsT K) (vs : List V) (H : Hp) (Q : VK) (E : XK) (h : sp__law_pull P w K vs H Q E) : t__law_pull P w K { nx := fun _ H1 => Q .non H1, rt := Q } (start N__law_pull vs) H := by
  obtain ⟨m, G, st, o, ws, rfl, e, g, ho, ⟨x, y, z, rfl⟩, q, ⟨hm, hm2⟩, k⟩ := h
  obtain ⟨v, rfl, qv⟩ := reps_one q
  obtain rfl : v = .int m := qv
  have hL : SqL K H st [.int x, .int y, .int z] := .inl (.inl ho)
  have fin : ∀ (H' : Hp) (a b c d : Int), H' = upd H st (.lst [.int a, .int b, .int c]) → 0 ≤ d → d < m → Q (.int d) H' := fun H' a b c d eH h0 h1 => by
    subst eH
    exact k _ G _ _ (ext_put e g ho trivial) g upd_same ⟨a, b, c, rfl⟩ ⟨d, ⟨h0, h1⟩, rfl⟩
  have hd : ∀ n : Int, 0 ≤ n % m ∧ n % m < m := fun n => ⟨Int.emod_nonneg n (Int.ne_of_gt hm), Int.emod_lt_of_pos n hm⟩
  show (tTest (tOp oGt (tOp (rIxL K) (tVar 0) (tC (.int 0))) (tC (.int 0)))) (start N__law_pull [.ref st, .int m]) H _
  refine ⟨_, rfl, st, _, 0, .int x, rfl, rfl, hL, rfl, x, 0, rfl, rfl, decide (0 < x), rfl, ?_⟩
  by_cases hx : 0 < x
  · rw [decide_eq_true hx]
    refine iteT ⟨_, rfl, st, _, 0, .int x, rfl, rfl, hL, rfl, ?_⟩
    refine ⟨_, rfl, x, m, rfl, rfl, hm, ?_⟩
    refine ⟨_, rfl, st, _, 0, .int x, rfl, rfl, hL, rfl, ?_⟩
    refine ⟨_, rfl, x, m, rfl, rfl, ⟨hm, hm2⟩, ?_⟩
    refine ⟨_, rfl, st, _, 0, 0, rfl, rfl, ho, rfl, ?_⟩
    exact ⟨_, rfl, fin _ (x / m) y z (x % m) rfl (hd x).1 (hd x).2⟩
  · rw [decide_eq_false hx]
    refine iteF ?_
    refine ⟨_, rfl, st, _, 2, .int z, rfl, rfl, hL, rfl, ?_⟩
    refine ⟨z, 1, rfl, rfl, ?_⟩
    refine ⟨_, rfl, st, _, 2, 2, rfl, rfl, ho, rfl, ?_⟩
    have X0 : Ext (fun a => a = st) G H G (upd H st (.lst [.int x, .int y, .int (z + 1)])) := ext_put e g ho trivial
    have hL1 : SqL K (upd H st (.lst [.int x, .int y, .int (z + 1)])) st [.int x, .int y, .int (z + 1)] := .inl (.inl upd_same)
    refine ⟨_, rfl, st, _, 1, .int y, rfl, rfl, hL1, rfl, ?_⟩
    refine ⟨_, rfl, st, _, 2, .int (z + 1), rfl, rfl, hL1, rfl, ?_⟩
    refine ⟨2, z + 1, rfl, rfl, .inl (by decide), ?_⟩
    refine ⟨(y, 2 * (z + 1)), G, X0.le, .cons rfl (.cons rfl .nil), trivial, fun v1 G1 H1 x1 ⟨i1, _, e1⟩ => ?_⟩
    obtain rfl : v1 = .int i1 := e1
    have h1 : H1 st = some (.lst [.int x, .int y, .int (z + 1)]) := x1.keep _ _ (fun z => z) (fun _ q => by cases q) upd_same
    have hL2 : SqL K H1 st [.int x, .int y, .int (z + 1)] := .inl (.inl h1)
    refine ⟨_, rfl, st, _, 1, .int y, rfl, rfl, hL2, rfl, ?_⟩
    refine ⟨_, rfl, st, _, 2, .int (z + 1), rfl, rfl, hL2, rfl, ?_⟩
    refine ⟨2, z + 1, rfl, rfl, .inl (by decide), ?_⟩
    refine ⟨2 * (z + 1), 1, rfl, rfl, ?_⟩
    refine ⟨(y, 2 * (z + 1) + 1), G1, x1.le, .cons rfl (.cons rfl .nil), trivial, fun v2 G2 H2 x2 ⟨i2, _, e2⟩ => ?_⟩
    obtain rfl : v2 = .int i2 := e2
    have h2 : H2 st = some (.lst [.int x, .int y, .int (z + 1)]) := x2.keep _ _ (fun z => z) (fun _ q => by cases q) h1
    refine ⟨_, rfl, i1, 268435399, rfl, rfl, .inr (by decide), ?_⟩
    refine ⟨_, rfl, i1 * 268435399, i2, rfl, rfl, ?_⟩
    refine ⟨_, rfl, i1 * 268435399 + i2, m, rfl, rfl, hm, ?_⟩
    have X : Ext (fun a => a = st) G H G2 H2 := (X0.trans x1 fun a q => q.elim).trans x2 fun a q => q.elim
    have gst1 : G1 st = none := x1.new st (by rw [upd_same]; simp) g
    exact k _ G2 H2 _ X (x2.new st (by rw [h1]; simp) gst1) h2 ⟨x, y, z + 1, rfl⟩ ⟨_, hd _, rfl⟩
end EvC
set_option Elab.async false
set_option linter.all false
set_option maxRecDepth 100000
set_option maxHeartbeats 4000000
/-! R80b: whole numbers, names. -/
namespace EvC
open PySem PySem.Spec PyProof.Rows L2 DL
variable [tsp : TabSpec] {P : Program} {w : World} {K : PySem.W.Frag} {mg : Str → Option Value} {base : Heap}
theorem len_is_whole (vs : List V) (H : Hp) (Q : VK) (E : XK) (h : sp_is_whole P w K vs H Q E) : vs.length = 3 := by refine spP_len (n := 3) ?_ vs H Q E h; intro i; rfl
theorem rv_isiO {r : R} {t n : String} {b : Bool} (h : TyR K r t) (hb : kitB t n = some b) : RVc (rIsiO P w K) [r, RV0 (.ty n)] (RBl b) := fun vs G H e q Q k => .inl (rv_isi h hb vs G H e q Q k)
theorem rv_isiOdd {r : R} {m : Nat} {n : String} {b : Bool} (h : ∀ v G, r.p v G → ∃ a, v = .ref a ∧ OddD P w G a m) (hb : kitB "dict" n = some b) : RVc (rIsiO P w K) [r, RV0 (.ty n)] (RBl b) := fun vs G H e q Q k => by
  obtain ⟨v, v2, rfl, h1, h2⟩ := reps_two q
  obtain ⟨a, rfl, ho⟩ := h v G h1
  obtain rfl : v2 = .ty n := h2
  refine .inr ⟨a, m, .ty n, .type n, b, rfl, ?_, .ty n, ?_, k _ G H (Ext.refl e) rfl⟩
  · rcases ho with ho | ⟨ho, hm⟩
    · exact .inl (e _ _ ho)
    · exact .inr ⟨e _ _ ho, hm⟩
  · exact kit_ty hb
theorem rd_is_whole (T : Tx P w K mg base) (hT : tsp.T = tabsT K) (vs : List V) (H : Hp) (Q : VK) (E : XK) (h : sp_is_whole P w K vs H Q E) : t_is_whole P w K { nx := fun _ H1 => Q .non H1, rt := Q } (start N_is_whole vs) H :=
  body_P (K := K) (fun ⟨r, lo, hi, b⟩ hw c D hK hb hr hx => by
    subst hK
    dsimp only at hw hr
    show Go c _ [some (im r), some (im (RInt lo)), some (im (RInt hi))] D
    refine go_ret ?_ hr
    cases hw with
    | int i =>
      exact ev_eq (ev_andV (ev_cb (ea_cons (ev_var rfl) (ea_cons ev_c ea_nil)) (rv_isiO ty_int (b := true) (by decide +kernel))) fun _ => ev_andV (ev_notV (ev_cb (ea_cons (ev_var rfl) (ea_cons ev_c ea_nil)) (rv_isiO ty_int (b := false) (by decide +kernel)))) fun _ => ev_chain (ev_var rfl) (ev_var rfl) (ev_var rfl) rv_le rv_le) (by simp)
    | bl x =>
      exact ev_eq (ev_andV (b := false) (ev_cb (ea_cons (ev_var rfl) (ea_cons ev_c ea_nil)) (rv_isiO ty_bl (b := true) (by decide +kernel))) fun _ => ev_eq (ev_andV (b := false) (ev_notV (ev_cb (ea_cons (ev_var rfl) (ea_cons ev_c ea_nil)) (rv_isiO ty_bl (b := true) (by decide +kernel)))) fun z => by cases z) (by simp)) (by simp)
    | @other r t h1 h2 =>
      exact ev_eq (ev_andV (b := false) (ev_cb (ea_cons (ev_var rfl) (ea_cons ev_c ea_nil)) (rv_isiO h1 h2)) fun z => by cases z) (by simp)
    | @odd r n h1 =>
      exact ev_eq (ev_andV (b := false) (ev_cb (ea_cons (ev_var rfl) (ea_cons ev_c ea_nil)) (rv_isiOdd h1 (b := false) (by decide +kernel))) fun z => by cases z) (by simp)) vs H Q E h
theorem len_is_name (vs : List V) (H : Hp) (Q : VK) (E : XK) (h : sp_is_name P w K vs H Q E) : vs.length = 1 := by refine spP_len (n := 1) ?_ vs H Q E h; intro i; rfl
theorem rd_is_name (T : Tx P w K mg base) (hT : tsp.T = tabsT K) (vs : List V) (H : Hp) (Q : VK) (E : XK) (h : sp_is_name P w K vs H Q E) : t_is_name P w K { nx := fun _ H1 => Q .non H1, rt := Q } (start N_is_name vs) H :=
  body_P (K := K) (fun s ⟨h1, h2, h3⟩ c D hK hb hr hx => by
    subst hK
    show Go c _ [some (im (RStr s)), none] D
    have hl : s.length ≤ 100000 := by omega
    have a1 : ((1 : Int) ≤ (s.length : Nat)) := by omega
    have a2 : (((s.length : Nat) : Int) ≤ 8) := by omega
    have ht := et_or (c := c) (ρ := [some (im (RStr s)), none]) (et_not (et_B (ev_cb (ea_cons (ev_var (i := 0) (r := RStr s) rfl) (ea_cons (ev_c (v := .ty "str")) ea_nil)) (rv_isi (K := c.K) ty_str (b := true) (n := "str") (by decide +kernel))))) (fun _ => et_not (et_test (ev_chain (ev_int (i := 1)) (ev_cb (ea_cons (ev_var (i := 0) (r := RStr s) rfl) ea_nil) (rv_lenS (K := c.K) hl)) (ev_int (i := 8)) rv_le rv_le)))
    rw [decide_eq_true a1, decide_eq_true a2] at ht
    refine q_no ht (by rfl) ?_
    refine go_ret ?_ hr
    have e := evn_map (c := c) (ρ := [some (im (RStr s)), none]) (te := tOp rInS (tVar 1) (tC (.str "abcdefghijklmnopqrstuvwxyz"))) (j := 1) (rs' := lB (s.cps.toList.map fun _ => true)) rfl (ei_str (s := s) (ev_var (i := 0) rfl)) (by simp) (by simp; have : s.cps.size = s.length := rfl; omega) ?_
    · have hall : ((s.cps.toList.map fun _ => true).all id) = true := by simp
      exact ev_eq (ev_cb (ea_cons (evn_ev e) ea_nil) rv_all) (by rw [hall])
    · intro Gl n r hr'
      simp only [DL.signs, List.getElem?_map, Option.map_eq_some_iff] at hr'
      obtain ⟨ch, hch, rfl⟩ := hr'
      refine ⟨RBl true, by simp [hch], ?_⟩
      exact ev_eq (ev_op (ev_var rfl) ev_str rv_inS) (by rw [decide_eq_true (h3 ch (List.mem_of_getElem? hch))])) vs H Q E h
end EvC
set_option Elab.async false
set_option linter.all false
set_option maxRecDepth 100000
set_option maxHeartbeats 4000000
/-! R80c: many names. -/
namespace EvC
open PySem PySem.Spec PyProof.Rows L2 DL
variable [tsp : TabSpec] {P : Program} {w : World} {K : PySem.W.Frag} {mg : Str → Option Value} {base : Heap}
abbrev abc : Str := "abcdefghijklmnopqrstuvwxyz"
theorem abc_list : abc.cps.toList = List.range' 97 26 := by decide +kernel
theorem abc_len : abc.length = 26 := by decide +kernel
def Ltr (s : Str) : Prop := ∀ ch ∈ s.cps.toList, 97 ≤ ch ∧ ch ≤ 122
theorem ltr_abc {s : Str} (h : Ltr s) : ∀ ch ∈ s.cps.toList, ch ∈ ("abcdefghijklmnopqrstuvwxyz" : Str).cps.toList := fun ch hc => by
  have := h ch hc
  show ch ∈ abc.cps.toList
  rw [abc_list, List.mem_range'_1]; omega
theorem abc_at {n : Int} (h0 : 0 ≤ n) (h : n < 26) : atI abc.cps.toList n = some (97 + n.toNat) := by
  refine atI_int h0 ?_
  rw [abc_list, List.getElem?_range' (by omega)]; simp
theorem ltr_app {a b : Str} (ha : Ltr a) (hb : Ltr b) : Ltr (a ++ b) := fun ch hc => by
  have : ch ∈ (a.cps ++ b.cps).toList := hc
  rw [Array.toList_append, List.mem_append] at this
  exact this.elim (ha ch) (hb ch)
theorem ltr_one {n : Nat} (h : n < 26) : Ltr ⟨#[97 + n]⟩ := fun ch hc => by
  have : ch = 97 + n := by simpa using hc
  omega
theorem toList_app (a b : Str) : (a ++ b).cps.toList = a.cps.toList ++ b.cps.toList := Array.toList_append
theorem ltr_cut {a : Str} (h : Ltr a) (lo hi : Option Int) : Ltr (cutS a lo hi) := fun ch hc => by
  unfold cutS at hc
  exact h ch (List.mem_of_mem_drop (List.mem_of_mem_take (by simpa using hc)))
theorem ltr_join : ∀ {ss : List Str}, (∀ s ∈ ss, s.length = 1 ∧ Ltr s) → Ltr (Str.join ⟨#[]⟩ ss) ∧ (Str.join ⟨#[]⟩ ss).length = ss.length
  | [], _ => ⟨fun ch hc => by simp [Str.join, Str.empty] at hc, rfl⟩
  | [x], h => ⟨(h x (by simp)).2, (h x (by simp)).1⟩
  | x :: y :: r, h => by
    have ih := ltr_join (ss := y :: r) fun s hs => h s (.tail _ hs)
    show Ltr (x ++ ⟨#[]⟩ ++ Str.join ⟨#[]⟩ (y :: r)) ∧ (x ++ ⟨#[]⟩ ++ Str.join ⟨#[]⟩ (y :: r)).length = _
    refine ⟨ltr_app (ltr_app (h x (by simp)).2 fun ch hc => by simp at hc) ih.1, ?_⟩
    rw [Str.length_append, Str.length_append, ih.2, (h x (by simp)).1]
    show 1 + 0 + _ = _
    simp; omega
abbrev RLetter : R := exR (fun s : Str => s.length = 1 ∧ Ltr s) RStr
theorem rv_letter {m : Int} (hm : m ≤ 26) : RV2 rIxS (RStr abc) (RDigit m) RLetter := fun x y G H e hx ⟨n, ⟨h0, h1⟩, hy⟩ Q k =>
  rv_ixS (ch := 97 + n.toNat) (by decide +kernel) (abc_at h0 (by omega)) x y G H e hx hy Q fun z G' H' e' q => k z G' H' e' ⟨_, ⟨rfl, ltr_one (by omega)⟩, q⟩
theorem reps_choose {α : Type} {Pa : α → Prop} {f : α → R} {G : Hp} : ∀ {n : Nat} {xs : List V}, Reps (List.replicate n (exR Pa f)) xs G → ∃ as : List α, as.length = n ∧ (∀ a ∈ as, Pa a) ∧ Reps (as.map f) xs G
  | 0, _, h => by cases h; exact ⟨[], rfl, (fun _ h => nomatch h), .nil⟩
  | n + 1, _, h => by
    rw [List.replicate_succ] at h
    cases h with
    | cons q t =>
      obtain ⟨a, pa, q⟩ := q
      obtain ⟨as, h1, h2, h3⟩ := reps_choose t
      exact ⟨a :: as, by simp [h1], fun b hb => by cases hb with | head => exact pa | tail _ h => exact h2 b h, .cons q h3⟩
/-- a text of letters, joined -/
theorem ev_word {c : DL.Ctx} {ρ : DL.Env} {te : TE} {n : Nat} (hn : n ≤ 1000) (h : EvN c te ρ (List.replicate n RLetter)) : Ev c (tM1 (rJoin c.K) (tC (.str "")) te) ρ (exR (fun s : Str => s.length = n ∧ Ltr s) RStr) := fun σ G H F S Q k => by
  refine ⟨⟨_, rfl⟩, ?_⟩
  refine h σ G H F S _ fun p o G2 H2 F2 S2 n2 hp hg hF h0 ⟨ys, ey, qy⟩ => ?_
  subst ey
  obtain ⟨ss, hl, hss, q⟩ := reps_choose qy
  have e := reps_strs q
  subst e
  have ej := TL.join_eq (⟨#[]⟩ : Str) ss
  have hj := ltr_join hss
  refine ⟨_, p, ss, rfl, rfl, .inl (.inl (.inl hp)), ?_, k _ G2 H2 F2 S2 n2 ⟨_, ?_, rfl⟩⟩
  · have : (ss.map (·.length)) = List.replicate n 1 := List.eq_replicate_iff.mpr ⟨by simp [hl], fun b hb => by
      obtain ⟨s, hs, rfl⟩ := List.mem_map.mp hb
      exact (hss s hs).1⟩
    rw [this, hl]
    show _ + n * 0 ≤ _
    simp; omega
  · show (Txt.join ⟨#[]⟩ ss).length = n ∧ Ltr (Txt.join ⟨#[]⟩ ss)
    rw [ej]
    exact ⟨by rw [hj.2, hl], hj.1⟩
/-- the code of the i-th name -/
def codeN (first : Int) (i : Nat) : Int := (first + 27 * (i : Int)) % 676
def NmAt (first : Int) (i : Nat) (s : Str) : Prop := 2 ≤ s.length ∧ s.length ≤ 8 ∧ Ltr s ∧ s.cps.toList.drop (s.length - 2) = [97 + (codeN first i / 26).toNat, 97 + (codeN first i % 26).toNat]
theorem code_inj {first : Int} {i j : Nat} (hi : i < 8) (hj : j < 8) (h : codeN first i = codeN first j) : i = j := by
  unfold codeN at h; omega
theorem nm_inj {first : Int} {i j : Nat} {s : Str} (hi : i < 8) (hj : j < 8) (h1 : NmAt first i s) (h2 : NmAt first j s) : i = j := by
  have e := h1.2.2.2.symm.trans h2.2.2.2
  simp only [List.cons.injEq, and_true] at e
  have b1 : 0 ≤ codeN first i ∧ codeN first i < 676 := by unfold codeN; omega
  have b2 : 0 ≤ codeN first j ∧ codeN first j < 676 := by unfold codeN; omega
  refine code_inj (first := first) hi hj ?_
  omega
theorem names_ok {first : Int} {ns : List Str} (hl : ns.length ≤ 8) (h : ∀ (i : Nat) (s : Str), ns[i]? = some s → NmAt first i s) : NamesOk ns := by
  refine ⟨hl, ?_, fun s hs => ?_⟩
  · refine List.pairwise_iff_getElem.mpr fun i j hi hj hij e => ?_
    have := nm_inj (by omega) (by omega) (h i _ (List.getElem?_eq_getElem hi)) (h j _ (by rw [List.getElem?_eq_getElem hj, e]))
    omega
  · obtain ⟨i, hi⟩ := List.mem_iff_getElem?.mp hs
    obtain ⟨h1, h2, h3, _⟩ := h i s hi
    exact ⟨⟨by omega, h2, ltr_abc h3⟩, h1⟩
theorem nm_at {first : Int} {i : Nat} {a : Str} (ha : a.length ≤ 6) (hl : Ltr a) : NmAt first i (a ++ ⟨#[97 + (codeN first i / 26).toNat]⟩ ++ ⟨#[97 + (codeN first i % 26).toNat]⟩) := by
  have b1 : 0 ≤ codeN first i ∧ codeN first i < 676 := by unfold codeN; omega
  have e : (a ++ (⟨#[97 + (codeN first i / 26).toNat]⟩ : Str) ++ (⟨#[97 + (codeN first i % 26).toNat]⟩ : Str)).length = a.length + 2 := by rw [Str.length_append, Str.length_append]; rfl
  refine ⟨by omega, by omega, ltr_app (ltr_app hl (ltr_one (by omega))) (ltr_one (by omega)), ?_⟩
  rw [e, toList_app, toList_app, List.append_assoc, Nat.add_sub_cancel]
  have : a.length = a.cps.toList.length := by rw [Array.length_toList]; rfl
  rw [this, List.drop_left]; rfl
theorem len__law_many_names (vs : List V) (H : Hp) (Q : VK) (E : XK) (h : sp__law_many_names P w K vs H Q E) : vs.length = 2 := by refine spB_len (n := 1) ?_ vs H Q E h; intro i; rfl
theorem rd__law_many_names (T : Tx P w K mg base) (hT : tsp.T = tabsT K) (vs : List V) (H : Hp) (Q : VK) (E : XK) (h : sp__law_many_names P w K vs H Q E) : t__law_many_names P w K { nx := fun _ H1 => Q .non H1, rt := Q } (start N__law_many_names vs) H :=
  body_B (K := K) (fun m hm c D st hK hb hr hx => by
    subst hK
    show Go c _ [some (ownAt st HState), some (im (RInt m)), none, none, none, none, none, none, none, none] D
    have pull : ∀ {c' : DL.Ctx} {ρ : DL.Env} {te : TE} {n : Int}, ρ[0]? = some (some (ownAt st HState)) → Ev c' te ρ (RInt n) → 0 < n → n < 1073741824 → Ev c' (tCall (sp__law_pull P w c.K) [] E0 (tCons (tVar 0) (tCons te tNil))) ρ (RDigit n) := fun h0 he h1 h2 => ev_callB (ownAt_own st HState) h0 (eaOf he) (spB_ok _ ⟨h1, h2⟩)
    refine q_asg (by simp) (ev_str (s := abc)) ?_
    refine q_asgX (by simp) (ev_word (n := 6) (by decide) (evn_map (rs := rngs 0 (6 : Int).toNat) rfl (ei_rng1 (eaOf ev_int) (by decide)) (by simp [rngs]) (by simp [rngs]) fun Gl i r hr => ⟨RLetter, ?_, ev_op (ev_var (r := RStr abc) rfl) (pull rfl ev_int (by decide) (by decide)) (rv_letter (by decide))⟩)) fun word ⟨hw, hwl⟩ => ?_
    · have : i < 6 := by simpa [rngs] using (List.getElem?_eq_some_iff.mp hr).1
      rw [List.getElem?_replicate_of_lt (by omega)]
    refine q_asgX (by simp) (pull rfl ev_int (by decide) (by decide)) fun first ⟨f0, f1⟩ => ?_
    refine q_asgX (by simp) (ev_op ev_int (pull rfl ev_int (by decide) (by decide)) (rv_ex2 fun x _ => rv_add)) fun d6 ⟨s0, s1⟩ => ?_
    refine q_asgN (by simp) evn_nil ?_
    refine q_for (fun i ρ => ∃ ns : List Str, ns.length = i ∧ (∀ j s, ns[j]? = some s → NmAt first j s) ∧ ∃ x4 x8 x9, ρ = [some (ownAt st HState), some (im (RInt m)), some (im (RStr abc)), some (im (RStr word)), x4, some (im (RInt first)), some (im (RInt (1 + d6))), some (ownL (lS ns)), x8, x9]) (ei_rng1 (n := m) (eaOf (ev_var rfl)) (by omega)) ⟨[], rfl, fun j s h => by simp at h, none, none, none, rfl⟩ ?_ ?_
    · rintro Gl i r ρ' hr ⟨ns, hl, hns, x4, x8, x9, rfl⟩
      have hi : i < m.toNat := by simpa [rngs] using (List.getElem?_eq_some_iff.mp hr).1
      have er : r = RInt (i : Int) := by simp [rngs, hi] at hr; exact hr.symm
      subst er
      refine ⟨_, _, gg_name (by simp), ?_⟩
      have b1 : 0 ≤ codeN first i ∧ codeN first i < 676 := by unfold codeN; omega
      refine q_asg (by simp) (ev_eq (ev_op (ev_op (ev_var rfl) (ev_op ev_int (ev_var rfl) (rv_mul (cm_l (by decide)))) rv_add) ev_int (rv_mod (by decide))) (r' := RInt (codeN first i)) rfl) ?_
      refine q_asg (by simp) (ev_slS (z := word) (ev_var rfl) (ev_op (ev_op (ev_var rfl) (ev_var rfl) (rv_mul (cm_r (by omega)))) ev_int (rv_mod (by decide))) (by omega)) ?_
      have hal : (cutS word none (some ((1 + d6) * (i : Int) % 7))).length ≤ 6 := by rw [← hw]; exact cutS_length _ _ _
      have hlen : (cutS word none (some ((1 + d6) * (i : Int) % 7)) ++ (⟨#[97 + (codeN first i / 26).toNat]⟩ : Str)).length + (⟨#[97 + (codeN first i % 26).toNat]⟩ : Str).length ≤ 100000 := by
        rw [Str.length_append]
        have e1 : (⟨#[97 + (codeN first i / 26).toNat]⟩ : Str).length = 1 := rfl
        have e2 : (⟨#[97 + (codeN first i % 26).toNat]⟩ : Str).length = 1 := rfl
        omega
      refine go_app (rs := lS ns) rfl (ev_op (ev_op (ev_var rfl) (ev_op (ev_var (r := RStr abc) rfl) (ev_op (ev_var rfl) ev_int (rv_fdiv (by decide))) (rv_ixS (by decide +kernel) (abc_at (by omega) (by omega)))) (rv_addS (by rw [show (⟨#[97 + (codeN first i / 26).toNat]⟩ : Str).length = 1 from rfl]; omega))) (ev_op (ev_var (r := RStr abc) rfl) (ev_op (ev_var rfl) ev_int (rv_mod (by decide))) (rv_ixS (by decide +kernel) (abc_at (by omega) (by omega)))) (rv_addS hlen)) (by simp; omega) ?_
      intro σ G H F S; refine ⟨_, ?_, G, F, S⟩
      refine ⟨ns ++ [_], by simp [hl], fun j s hj => ?_, some (im (RInt i)), _, _, by simp only [lS, List.map_append]; rfl⟩
      by_cases z : j < ns.length
      · rw [List.getElem?_append_left z] at hj
        exact hns j s hj
      · rw [List.getElem?_append_right (by omega)] at hj
        have : j - ns.length = 0 := by
          by_cases y : j - ns.length = 0
          · exact y
          · rw [List.getElem?_eq_none (by simp; omega)] at hj; cases hj
        rw [this] at hj
        have hs := Option.some.inj hj
        rw [← hs]
        have ej : j = i := by omega
        rw [ej]
        exact nm_at hal (ltr_cut hwl _ _)
    · rintro ρ' ⟨ns, hl, hns, x4, x8, x9, rfl⟩
      have hlm : ns.length = m.toNat := by simpa [rngs] using hl
      refine go_freeze 7 (P := HL (lS ns)) rfl (by rw [hb]; simp) ?_
      exact go_retB (ev_ex ns ⟨names_ok (by omega) hns, by omega⟩ (ev_var rfl)) rfl hr) vs H Q E h
end EvC
set_option Elab.async false
set_option linter.all false
set_option maxRecDepth 100000
set_option maxHeartbeats 4000000
/-! R80d: webs. -/
namespace EvC
open PySem PySem.Spec PyProof.Rows L2 DL
variable [tsp : TabSpec] {P : Program} {w : World} {K : PySem.W.Frag} {mg : Str → Option Value} {base : Heap}
section
variable {κ : Type} [DecidableEq κ]
theorem valV_new {kvs : List (κ × V)} {k : κ} (h : ∀ p ∈ kvs, p.1 ≠ k) : valV kvs k = none := by
  unfold valV
  rw [List.find?_eq_none.mpr fun p hp => by simpa using h p hp]; rfl
theorem putK_new {kvs : List (κ × V)} {k : κ} {v : V} (h : ∀ p ∈ kvs, p.1 ≠ k) : putK kvs k v = kvs ++ [(k, v)] := by
  unfold putK
  rw [if_neg]
  rw [List.any_eq_true]
  rintro ⟨p, hp, e⟩
  exact h p hp (by simpa using e)
end
theorem look_in : ∀ {hv : List (Str × Int)} {n : Str}, n ∈ hv.map (·.1) → lookR (dSI hv) (.inr n) = some (RInt (look hv n))
  | [], _, h => by simp at h
  | p :: hv, n, h => by
    unfold lookR look
    rw [show dSI (p :: hv) = ((.inr p.1 : Key), RInt p.2) :: dSI hv from rfl, List.find?_cons, List.find?_cons]
    by_cases z : p.1 = n
    · rw [decide_eq_true (show (Sum.inr p.1 : Key) = Sum.inr n by rw [z]), decide_eq_true z]; rfl
    · rw [decide_eq_false (show ¬ (Sum.inr p.1 : Key) = Sum.inr n from fun y => z (Sum.inr.inj y)), decide_eq_false z]
      have := look_in (hv := hv) (n := n) (by
        rw [List.map_cons, List.mem_cons] at h
        exact h.elim (fun y => absurd y.symm z) id)
      unfold lookR look at this
      exact this
theorem look_out : ∀ {hv : List (Str × Int)} {n : Str}, n ∉ hv.map (·.1) → lookR (dSI hv) (.inr n) = none := fun {hv n} h => by
  unfold lookR
  rw [List.find?_eq_none.mpr]; · rfl
  intro p hp
  obtain ⟨q, hq, rfl⟩ := List.mem_map.mp hp
  simp only [decide_eq_true_eq]
  intro e
  exact h (List.mem_map.mpr ⟨q, hq, Sum.inr.inj e⟩)
theorem kreps_sv {G : Hp} : ∀ hv : List (Str × Int), KReps (dSI hv) (dSV hv) G
  | [] => .nil
  | _ :: hv => .cons ⟨rfl, rfl⟩ (kreps_sv hv)
theorem sv_of : ∀ {hv : List (Str × Int)} {xs : List (Key × V)} {G : Hp}, KReps (dSI hv) xs G → xs = dSV hv
  | [], _, _, h => by cases h; rfl
  | p :: hv, _, _, h => by
    cases h with
    | @cons _ x _ _ q t =>
      rw [sv_of t]
      obtain ⟨k, v⟩ := x
      obtain ⟨e1, e2⟩ := q
      obtain rfl := e1
      rw [show v = V.int p.2 from e2]; rfl
theorem webK_is {hv : List (Str × Int)} {kn : List ((Str × Str) × Int)} : IsWeb K hv (RWebK K hv kn) where
  hvy := fun v G ⟨a, h, k, e, x⟩ => by
    obtain ⟨dx, fs, i, f⟩ := x.ins
    exact ⟨a, dx, fs, .ref h, e, i, f.1, RDic.mk ⟨h, _, rfl, x.dh, kreps_sv hv⟩⟩
  ins := fun m h1 h2 v G ⟨a, h, k, e, x⟩ => by
    obtain ⟨dx, fs, i, f⟩ := x.ins
    exact ⟨a, dx, fs, e, i, f.2.2 m h1 h2⟩
theorem webK_kn {hv : List (Str × Int)} {kn : List ((Str × Str) × Int)} : HasFld (He.ga K "Web") "knots" (RWebK K hv kn) (RDTV (dTV kn)) := fun v G ⟨a, h, k, e, x⟩ => by
  obtain ⟨dx, fs, i, f⟩ := x.ins
  exact ⟨a, dx, fs, .ref k, e, i, f.2.1, k, rfl, x.dk⟩
theorem web_is {hv : List (Str × Int)} : IsWeb K hv (RWeb K hv) where
  hvy := fun v G ⟨a, dx, fs, e, i, ⟨h, h1, h2⟩, h3⟩ => ⟨a, dx, fs, .ref h, e, i, h1, h2⟩
  ins := fun m h1 h2 v G ⟨a, dx, fs, e, i, _, h3⟩ => ⟨a, dx, fs, e, i, h3 m h1 h2⟩
theorem dTV_ne {kn : List ((Str × Str) × Int)} {a b : Str} (h : ∀ t ∈ kn, t.1 ≠ (a, b)) : ∀ p ∈ dTV kn, p.1 ≠ [Sum.inr a, Sum.inr b] := fun p hp e => by
  simp only [List.mem_map] at hp
  obtain ⟨q, ⟨t, ht, rfl⟩, rfl⟩ := hp
  simp only [List.cons.injEq, Sum.inr.injEq, and_true] at e
  exact h t ht (Prod.ext e.1 e.2)
/-! the defs -/
theorem len_Web___init__ (vs : List V) (H : Hp) (Q : VK) (E : XK) (h : sp_Web___init__ P w K vs H Q E) : vs.length = 1 := by obtain ⟨a, dx, rfl, _⟩ := h; rfl
theorem rd_Web___init__ (T : Tx P w K mg base) (hT : tsp.T = tabsT K) (vs : List V) (H : Hp) (Q : VK) (E : XK) (h : sp_Web___init__ P w K vs H Q E) : t_Web___init__ P w K { nx := fun _ H1 => Q .non H1, rt := Q } (start N_Web___init__ vs) H := by
  obtain ⟨a, dx, rfl, ha, k⟩ := h
  intro h hh
  have ah : a ≠ h := fun z => by subst z; rw [hh] at ha; cases ha
  refine ⟨_, rfl, a, _, dx, [], rfl, by rw [upd_ne ah]; exact ha, k_Web T, na_Web_heavy T, by decide, ?_⟩
  intro kk hk
  have ka : kk ≠ a := fun z => by subst z; rw [upd_same] at hk; cases hk
  have kh : kk ≠ h := fun z => by subst z; rw [upd_ne ka, upd_same] at hk; cases hk
  refine ⟨_, rfl, a, _, dx, _, rfl, by rw [upd_ne ka.symm, upd_same], k_Web T, na_Web_knots T, by show 1 < 1000; decide, ?_⟩
  refine k h kk hh (by rw [upd_ne ka, upd_ne kh] at hk; exact hk) kh.symm _ ⟨rfl, rfl, fun m h1 h2 => ?_⟩ _ (fun b h1 h2 h3 => ?_) upd_same ?_ ?_
  · show List.lookup m [(("heavy" : Str), V.ref h), (("knots" : Str), V.ref kk)] = none
    rw [List.lookup_cons, List.lookup_cons]
    have e1 : (m == ("heavy" : Str)) = false := beq_false_of_ne h1
    have e2 : (m == ("knots" : Str)) = false := beq_false_of_ne h2
    rw [e1, e2]; rfl
  · rw [upd_ne h1, upd_ne h3, upd_ne h1, upd_ne h2]
  · rw [upd_ne ah.symm, upd_ne kh.symm, upd_ne ah.symm, upd_same]
  · rw [upd_ne ka, upd_same]
theorem len_Web_need_weight (vs : List V) (H : Hp) (Q : VK) (E : XK) (h : sp_Web_need_weight P w K vs H Q E) : vs.length = 2 := by refine spP_len (n := 2) ?_ vs H Q E h; intro i; rfl
theorem rd_Web_need_weight (T : Tx P w K mg base) (hT : tsp.T = tabsT K) (vs : List V) (H : Hp) (Q : VK) (E : XK) (h : sp_Web_need_weight P w K vs H Q E) : t_Web_need_weight P w K { nx := fun _ H1 => Q .non H1, rt := Q } (start N_Web_need_weight vs) H :=
  body_P (K := K) (fun ⟨r, wt⟩ hw c D hK hb hr hx => by
    subst hK
    show Go c _ [some (im r), some (im (RInt wt))] D
    exact q_no1 (et_not (et_B (ev_call0 (ea_cons (ev_var (i := 1) (r := RInt wt) rfl) (ea_cons ev_int (ea_cons ev_int ea_nil))) (spP_ok (I := R × Int × Int × Bool) (RInt wt, 1, 1000000000, true) (by
      have := Wh.int (P := P) (w := w) (K := c.K) (lo := 1) (hi := 1000000000) wt
      rw [decide_eq_true hw.1, decide_eq_true hw.2] at this
      exact this))))) rfl (nx_non hx hr)) vs H Q E h
theorem len_Web_total (vs : List V) (H : Hp) (Q : VK) (E : XK) (h : sp_Web_total P w K vs H Q E) : vs.length = 1 := by refine spP_len (n := 1) ?_ vs H Q E h; intro i; rfl
theorem rd_Web_total (T : Tx P w K mg base) (hT : tsp.T = tabsT K) (vs : List V) (H : Hp) (Q : VK) (E : XK) (h : sp_Web_total P w K vs H Q E) : t_Web_total P w K { nx := fun _ H1 => Q .non H1, rt := Q } (start N_Web_total vs) H := by
  obtain ⟨⟨hv, kn⟩, G, e, q, hl, k⟩ := h
  obtain ⟨v, rfl, a, hh, kk, rfl, x⟩ := reps_one q
  obtain ⟨dx, fs, i, f⟩ := x.ins
  have ah : a ≠ hh := fun z => by subst z; rw [x.dh] at i; cases i
  let rz : R := ⟨fun v G => ∃ a dx fs d o, v = .ref a ∧ G a = some (.ins (He.ga K "Web") dx fs) ∧ fs.lookup ("heavy" : Str) = some (.ref d) ∧ G d = some (.frz o (.dK (dSV hv))), fun e ⟨a, dx, fs, d, o, h1, h2, h3, h4⟩ => ⟨a, dx, fs, d, o, h1, e _ _ h2, h3, e _ _ h4⟩⟩
  refine lockE_run (K := K) (rs := [rz]) (N := N_Web_total) e x.dh trivial trivial (fun od => .cons ⟨a, dx, fs, hh, od, rfl, by rw [upd_ne ah]; exact i, f.1, upd_same⟩ .nil) (r := RInt (hv.map (·.2)).sum) sc_int (fun c hK => ?_) k
  subst hK
  show Ev c _ [some (im rz), none] _
  have hfld : HasFld (He.ga c.K "Web") "heavy" rz (RFz (.dK (dSV hv))) := fun v G ⟨a, dx, fs, d, o, h1, h2, h3, h4⟩ => ⟨a, dx, fs, .ref d, h1, h2, h3, d, o, rfl, h4⟩
  have hw := ei_vals (c := c) (ρ := [some (im rz), none]) (ns := hv.map fun p => ((Sum.inr p.1 : Key), p.2)) (td := tFld c.K (tVar 0) "heavy") (by
    rw [List.map_map]
    exact ev_fld (ev_var rfl) hfld (k_Web T) (na_Web_heavy T))
  rw [List.map_map] at hw
  exact ev_cb (eaOf (evn_ev (evn_ints (j := 1) rfl hw (by have hl' : hv.length ≤ 1000 := hl; simp; omega)))) rv_sum
theorem len_Web_force (vs : List V) (H : Hp) (Q : VK) (E : XK) (h : sp_Web_force P w K vs H Q E) : vs.length = 1 := by refine spP_len (n := 1) ?_ vs H Q E h; intro i; rfl
theorem rd_Web_force (T : Tx P w K mg base) (hT : tsp.T = tabsT K) (vs : List V) (H : Hp) (Q : VK) (E : XK) (h : sp_Web_force P w K vs H Q E) : t_Web_force P w K { nx := fun _ H1 => Q .non H1, rt := Q } (start N_Web_force vs) H := by
  obtain ⟨⟨hv, kn⟩, G, e, q, hl, k⟩ := h
  obtain ⟨v, rfl, a, hh, kk, rfl, x⟩ := reps_one q
  obtain ⟨dx, fs, i, f⟩ := x.ins
  have ah : a ≠ kk := fun z => by subst z; rw [x.dk] at i; cases i
  let rz : R := ⟨fun v G => ∃ a dx fs d o, v = .ref a ∧ G a = some (.ins (He.ga K "Web") dx fs) ∧ fs.lookup ("knots" : Str) = some (.ref d) ∧ G d = some (.frz o (.dT (dTV kn))), fun e ⟨a, dx, fs, d, o, h1, h2, h3, h4⟩ => ⟨a, dx, fs, d, o, h1, e _ _ h2, h3, e _ _ h4⟩⟩
  refine lockE_run (K := K) (rs := [rz]) (N := N_Web_force) e x.dk trivial trivial (fun od => .cons ⟨a, dx, fs, kk, od, rfl, by rw [upd_ne ah]; exact i, f.2.1, upd_same⟩ .nil) (r := RInt (kn.map (·.2)).sum) sc_int (fun c hK => ?_) k
  subst hK
  show Ev c _ [some (im rz), none] _
  have hfld : HasFld (He.ga c.K "Web") "knots" rz (RFz (.dT (dTV kn))) := fun v G ⟨a, dx, fs, d, o, h1, h2, h3, h4⟩ => ⟨a, dx, fs, .ref d, h1, h2, h3, d, o, rfl, h4⟩
  have hw := ei_valsT (c := c) (ρ := [some (im rz), none]) (ns := kTI kn) (td := tFld c.K (tVar 0) "knots") (ev_fld (ev_var rfl) hfld (k_Web T) (na_Web_knots T))
  rw [List.map_map] at hw
  exact ev_cb (eaOf (evn_ev (evn_ints (j := 1) rfl hw (by have hl' : kn.length ≤ 1000 := hl; simp; omega)))) rv_sum
theorem len_Web_need_place (vs : List V) (H : Hp) (Q : VK) (E : XK) (h : sp_Web_need_place P w K vs H Q E) : vs.length = 2 := by refine spP_len (n := 2) ?_ vs H Q E h; intro i; rfl
theorem rd_Web_need_place (T : Tx P w K mg base) (hT : tsp.T = tabsT K) (vs : List V) (H : Hp) (Q : VK) (E : XK) (h : sp_Web_need_place P w K vs H Q E) : t_Web_need_place P w K { nx := fun _ H1 => Q .non H1, rt := Q } (start N_Web_need_place vs) H :=
  body_P (K := K) (fun ⟨r, hv, n⟩ ⟨hw, hn⟩ c D hK hb hr hx => by
    subst hK
    show Go c _ [some (im r), some (im (RStr n))] D
    refine q_no1 (et_or (et_not (et_B (ev_cb (ea_cons (ev_var (i := 1) (r := RStr n) rfl) (ea_cons (ev_c (v := .ty "str")) ea_nil)) (rv_isiO (K := c.K) ty_str (b := true) (n := "str") (by decide +kernel))))) (fun _ => et_B (ev_dnotin (ev_var (i := 1) (r := RStr n) rfl) (ev_fld (ev_var (i := 0) rfl) hw.hvy (k_Web T) (na_Web_heavy T)) key_str))) ?_ (nx_non hx hr)
    rw [look_in hn]; rfl) vs H Q E h
theorem len_Web_need_two (vs : List V) (H : Hp) (Q : VK) (E : XK) (h : sp_Web_need_two P w K vs H Q E) : vs.length = 3 := by refine spP_len (n := 3) ?_ vs H Q E h; intro i; rfl
theorem rd_Web_need_two (T : Tx P w K mg base) (hT : tsp.T = tabsT K) (vs : List V) (H : Hp) (Q : VK) (E : XK) (h : sp_Web_need_two P w K vs H Q E) : t_Web_need_two P w K { nx := fun _ H1 => Q .non H1, rt := Q } (start N_Web_need_two vs) H :=
  body_P (K := K) (fun ⟨r, hv, n, m⟩ ⟨hw, hn, hm, hne⟩ c D hK hb hr hx => by
    subst hK
    show Go c _ [some (im r), some (im (RStr n)), some (im (RStr m))] D
    refine q_drop (ev_meth0 (ev_var (r := r) rfl) (hw.ins _ (by decide) (by decide)) (eaOf (ev_var (r := RStr n) rfl)) (spP_ok (I := R × List (Str × Int) × Str) (r, hv, n) ⟨hw, hn⟩)) ?_
    refine q_drop (ev_meth0 (ev_var (r := r) rfl) (hw.ins _ (by decide) (by decide)) (eaOf (ev_var (r := RStr m) rfl)) (spP_ok (I := R × List (Str × Int) × Str) (r, hv, m) ⟨hw, hm⟩)) ?_
    exact q_no1 (et_test (ev_op (ev_var (r := RStr n) rfl) (ev_var (r := RStr m) rfl) rv_eqS)) (decide_eq_false hne) (nx_non hx hr)) vs H Q E h
theorem len_Web_knot (vs : List V) (H : Hp) (Q : VK) (E : XK) (h : sp_Web_knot P w K vs H Q E) : vs.length = 3 := by refine spP_len (n := 3) ?_ vs H Q E h; intro i; rfl
theorem rd_Web_knot (T : Tx P w K mg base) (hT : tsp.T = tabsT K) (vs : List V) (H : Hp) (Q : VK) (E : XK) (h : sp_Web_knot P w K vs H Q E) : t_Web_knot P w K { nx := fun _ H1 => Q .non H1, rt := Q } (start N_Web_knot vs) H :=
  body_P (K := K) (fun ⟨⟨hv, kn⟩, a, b⟩ hn c D hK hb hr hx => by
    subst hK
    show Go c _ [some (im (RWebK c.K hv kn)), some (im (RStr a)), some (im (RStr b))] D
    refine q_no (et_B (ev_dinT (ks := [a, b]) (ev_tp (ea_cons (ev_var rfl) (ea_cons (ev_var rfl) ea_nil)) (by simp)) (ev_fld (ev_var rfl) webK_kn (k_Web T) (na_Web_knots T)))) (by rw [show ([a, b].map Sum.inr : List Key) = [Sum.inr a, Sum.inr b] from rfl, valV_new (dTV_ne fun t ht => (hn t ht).1)]; rfl) ?_
    refine q_no (et_B (ev_dinT (ks := [b, a]) (ev_tp (ea_cons (ev_var rfl) (ea_cons (ev_var rfl) ea_nil)) (by simp)) (ev_fld (ev_var rfl) webK_kn (k_Web T) (na_Web_knots T)))) (by rw [show ([b, a].map Sum.inr : List Key) = [Sum.inr b, Sum.inr a] from rfl, valV_new (dTV_ne fun t ht => (hn t ht).2)]; rfl) ?_
    exact go_ret ev_non hr) vs H Q E h
theorem len_Web_names (vs : List V) (H : Hp) (Q : VK) (E : XK) (h : sp_Web_names P w K vs H Q E) : vs.length = 1 := by refine spP_len (n := 1) ?_ vs H Q E h; intro i; rfl
theorem rd_Web_names (T : Tx P w K mg base) (hT : tsp.T = tabsT K) (vs : List V) (H : Hp) (Q : VK) (E : XK) (h : sp_Web_names P w K vs H Q E) : t_Web_names P w K { nx := fun _ H1 => Q .non H1, rt := Q } (start N_Web_names vs) H :=
  body_P (K := K) (fun ⟨r, hv⟩ hw c D hK hb hr hx => by
    subst hK
    show Go c _ [some (im r)] D
    exact go_ret (evn_ev (evn_cb (eaOf (ev_fld (ev_var rfl) hw.hvy (k_Web T) (na_Web_heavy T))) (rn_listD (by simp)))) hr) vs H Q E h
theorem len_Web_weight (vs : List V) (H : Hp) (Q : VK) (E : XK) (h : sp_Web_weight P w K vs H Q E) : vs.length = 2 := by refine spP_len (n := 2) ?_ vs H Q E h; intro i; rfl
theorem rd_Web_weight (T : Tx P w K mg base) (hT : tsp.T = tabsT K) (vs : List V) (H : Hp) (Q : VK) (E : XK) (h : sp_Web_weight P w K vs H Q E) : t_Web_weight P w K { nx := fun _ H1 => Q .non H1, rt := Q } (start N_Web_weight vs) H :=
  body_P (K := K) (fun ⟨r, hv, n⟩ ⟨hw, hn⟩ c D hK hb hr hx => by
    subst hK
    show Go c _ [some (im r), some (im (RStr n))] D
    refine q_drop (ev_meth0 (ev_var (r := r) rfl) (hw.ins _ (by decide) (by decide)) (eaOf (ev_var (r := RStr n) rfl)) (spP_ok (I := R × List (Str × Int) × Str) (r, hv, n) ⟨hw, hn⟩)) ?_
    exact go_ret (ev_dget (ev_fld (ev_var rfl) hw.hvy (k_Web T) (na_Web_heavy T)) (ev_var rfl) key_str (look_in hn)) hr) vs H Q E h
end EvC
set_option Elab.async false
set_option linter.all false
set_option maxRecDepth 100000
set_option maxHeartbeats 4000000
/-! R80e: webs that grow. -/
namespace EvC
open PySem PySem.Spec PyProof.Rows L2 DL
variable [tsp : TabSpec] {P : Program} {w : World} {K : PySem.W.Frag} {mg : Str → Option Value} {base : Heap}
/-- the web at a, its dicts at h and k -/
def RWebA (K : PySem.W.Frag) (hv : List (Str × Int)) (kn : List ((Str × Str) × Int)) (a h k : Addr) : R := ⟨fun v G => v = .ref a ∧ WebAt K hv kn a h k G, fun e ⟨h1, h2⟩ => ⟨h1, h2.mono e⟩⟩
section
variable {hv : List (Str × Int)} {kn : List ((Str × Str) × Int)} {a h k : Addr}
theorem webA_K : ∀ v G, (RWebA K hv kn a h k).p v G → (RWebK K hv kn).p v G := fun v G ⟨h1, h2⟩ => ⟨a, h, k, h1, h2⟩
theorem webA_is : IsWeb K hv (RWebA K hv kn a h k) where
  hvy := fun v G x => webK_is.hvy v G (webA_K v G x)
  ins := fun m h1 h2 v G x => webK_is.ins m h1 h2 v G (webA_K v G x)
theorem sum_le {M : Int} : ∀ {ns : List Int}, (∀ n ∈ ns, n ≤ M) → ns.sum ≤ ns.length * M
  | [], _ => by simp
  | n :: ns, hn => by
    have ih := sum_le (ns := ns) fun m hm => hn m (.tail _ hm)
    have := hn n (.head _)
    rw [List.sum_cons, List.length_cons, Int.natCast_add, Int.add_mul]
    omega
theorem chg_upd {H H1 : Hp} {G G1 : Hp} {p : Addr} {o o' : HO} (x : Ext noB G H G1 H1) (hp : p = h ∨ p = k) (hd : H1 p = some o) (d : Dat o) : Chg h k H (upd H1 p o') where
  keep := fun b u h1 h2 nt e => by
    rw [upd_ne (fun z => by subst z; exact hp.elim h1 h2)]
    exact x.keep b u (fun z => z) nt e
  live := fun b e => by
    by_cases z : b = p
    · subst z; rw [upd_same] at e; cases e
    · rw [upd_ne z] at e; exact x.live b e
  tab := tab_put hd d x.le.tb
end
theorem len_Web_put (vs : List V) (H : Hp) (Q : VK) (E : XK) (h : sp_Web_put P w K vs H Q E) : vs.length = 3 := by
  obtain ⟨i, G, a, h, k, ws, rfl, e, hk, x, q, _⟩ := h
  rw [List.length_cons, ← q.length]; rfl
theorem rd_Web_put (T : Tx P w K mg base) (hT : tsp.T = tabsT K) (vs : List V) (H : Hp) (Q : VK) (E : XK) (h : sp_Web_put P w K vs H Q E) : t_Web_put P w K { nx := fun _ H1 => Q .non H1, rt := Q } (start N_Web_put vs) H := by
  obtain ⟨⟨⟨hv, kn⟩, n, wt⟩, G, a, h, k, ws, rfl, e, hk, x, q, ⟨hn, hni, hl, hw, w1, w2⟩, fin⟩ := h
  have hl' : hv.length < 8 := hl
  have hsum : (hv.map (·.2)).sum ≤ hv.length * 16000000 := by
    have := sum_le (M := 16000000) (ns := hv.map (·.2)) fun m hm => by
      obtain ⟨p, hp, rfl⟩ := List.mem_map.mp hm
      exact (hw p hp).2
    rwa [List.length_map] at this
  have go : Go ⟨K, noB, G, H, [], []⟩ (t_Web_put P w K) [some (im (RWebA K hv kn a h k)), some (im (RStr n)), some (im (RInt wt))] { nx := fun _ H1 => Q .non H1, rt := Q } := by
    refine q_no (et_not (et_B (ev_call0 (eaOf (ev_var (i := 1) (r := RStr n) rfl)) (spP_ok n hn)))) rfl ?_
    refine q_drop (ev_meth0 (ev_var (i := 0) (r := RWebA K hv kn a h k) rfl) (webA_is.ins _ (by decide) (by decide)) (eaOf (ev_var (i := 2) (r := RInt wt) rfl)) (spP_ok (I := R × Int) (RWebA K hv kn a h k, wt) ⟨w1, by have w2' : wt ≤ 16000000 := w2; show wt ≤ 1000000000; omega⟩)) ?_
    refine q_no (et_B (ev_din (ev_var (i := 1) (r := RStr n) rfl) (ev_fld (ev_var (i := 0) rfl) webA_is.hvy (k_Web T) (na_Web_heavy T)) key_str)) (by rw [look_out hni]; rfl) ?_
    refine q_no (et_test (ev_op (ev_cb (eaOf (ev_fld (ev_var (i := 0) rfl) webA_is.hvy (k_Web T) (na_Web_heavy T))) rv_lenD) (ev_int (i := 60)) rv_ge)) (decide_eq_false (by simp; omega)) ?_
    refine q_no (et_test (ev_op (ev_op (ev_meth0 (ev_weak (ev_var (i := 0) (r := RWebA K hv kn a h k) rfl) webA_K) (webK_is.ins _ (by decide) (by decide)) ea_nil (spP_ok (I := List (Str × Int) × List ((Str × Str) × Int)) (hv, kn) (by show hv.length ≤ 1000; omega))) (ev_var (i := 2) rfl) rv_add) (ev_int (i := 1000000000)) rv_gt)) (decide_eq_false (by show ¬ (1000000000 < (hv.map (·.2)).sum + wt); have w2' : wt ≤ 16000000 := w2; omega)) ?_
    intro σ G1 H1 F1 S
    obtain ⟨v0, s0, ⟨rfl, x0⟩, _⟩ := S.at_ 0 _ rfl
    obtain ⟨v1, s1, rfl, _⟩ := S.at_ 1 _ rfl
    obtain ⟨v2, s2, rfl, _⟩ := S.at_ 2 _ rfl
    obtain ⟨dx, fs, i0, f0⟩ := x0.ins
    have dh := S.le _ _ x0.dh
    have dk := S.le _ _ x0.dk
    have hp : putK (dSV hv) (Sum.inr n) (V.int wt) = dSV (hv ++ [(n, wt)]) := by
      rw [putK_new]
      · simp [dSV]
      · intro p hp e
        obtain ⟨t, ht, rfl⟩ := List.mem_map.mp hp
        exact hni (List.mem_map.mpr ⟨t, ht, Sum.inr.inj e⟩)
    refine ⟨_, s2, _, s0, a, _, dx, fs, .ref h, rfl, S.le _ _ i0, k_Web T, na_Web_heavy T, f0.1, _, s1, h, _, rfl, .inl ⟨dSV hv, Sum.inr n, dh, rfl, by rw [List.length_map]; exact sz_lt (by omega), rfl⟩, ?_⟩
    rw [hp]
    exact fin _ (chg_upd S.ext (.inl rfl) dh trivial) upd_same (by rw [upd_ne hk.symm]; exact dk)
  exact go _ _ _ _ (Sta.start (rs := [RWebA K hv kn a h k, RStr n, RInt wt]) (N := N_Web_put) e (.cons ⟨rfl, x⟩ q))
theorem len_Web_tie (vs : List V) (H : Hp) (Q : VK) (E : XK) (h : sp_Web_tie P w K vs H Q E) : vs.length = 4 := by
  obtain ⟨i, G, a, h, k, ws, rfl, e, hk, x, q, _⟩ := h
  rw [List.length_cons, ← q.length]; rfl
theorem rd_Web_tie (T : Tx P w K mg base) (hT : tsp.T = tabsT K) (vs : List V) (H : Hp) (Q : VK) (E : XK) (h : sp_Web_tie P w K vs H Q E) : t_Web_tie P w K { nx := fun _ H1 => Q .non H1, rt := Q } (start N_Web_tie vs) H := by
  obtain ⟨⟨⟨hv, kn⟩, ⟨n, m⟩, wt⟩, G, a, h, k, ws, rfl, e, hk, x, q, ⟨hn, hm, hne, hno, hl, hw, w1, w2⟩, fin⟩ := h
  have hl' : kn.length < 200 := hl
  have w2' : wt ≤ 4900000 := w2
  have hsum : (kn.map (·.2)).sum ≤ kn.length * 4900000 := by
    have := sum_le (M := 4900000) (ns := kn.map (·.2)) fun m hm => by
      obtain ⟨p, hp, rfl⟩ := List.mem_map.mp hm
      exact (hw p hp).2
    rwa [List.length_map] at this
  have go : Go ⟨K, noB, G, H, [], []⟩ (t_Web_tie P w K) [some (im (RWebA K hv kn a h k)), some (im (RStr n)), some (im (RStr m)), some (im (RInt wt))] { nx := fun _ H1 => Q .non H1, rt := Q } := by
    refine q_drop (ev_meth0 (ev_var (i := 0) (r := RWebA K hv kn a h k) rfl) (webA_is.ins _ (by decide) (by decide)) (ea_cons (ev_var (i := 1) (r := RStr n) rfl) (eaOf (ev_var (i := 2) (r := RStr m) rfl))) (spP_ok (I := R × List (Str × Int) × Str × Str) (RWebA K hv kn a h k, hv, n, m) ⟨webA_is, hn, hm, hne⟩)) ?_
    refine q_no (et_not (et_B (ev_call0 (ea_cons (ev_var (i := 3) (r := RInt wt) rfl) (ea_cons ev_int (ea_cons ev_int ea_nil))) (spP_ok (I := R × Int × Int × Bool) (RInt wt, 1, 1000000000, true) (by
      have := Wh.int (P := P) (w := w) (K := K) (lo := 1) (hi := 1000000000) wt
      rw [decide_eq_true w1, decide_eq_true (by omega)] at this
      exact this))))) rfl ?_
    refine q_no (et_test (ev_op (ev_meth0 (ev_weak (ev_var (i := 0) (r := RWebA K hv kn a h k) rfl) webA_K) (webK_is.ins _ (by decide) (by decide)) (ea_cons (ev_var (i := 1) (r := RStr n) rfl) (eaOf (ev_var (i := 2) (r := RStr m) rfl))) (spP_ok (I := (List (Str × Int) × List ((Str × Str) × Int)) × Str × Str) ((hv, kn), n, m) hno)) ev_non rv_notN0)) rfl ?_
    refine q_no (et_test (ev_op (ev_cb (eaOf (ev_fld (ev_weak (ev_var (i := 0) (r := RWebA K hv kn a h k) rfl) webA_K) webK_kn (k_Web T) (na_Web_knots T))) rv_lenDT) (ev_int (i := 200)) rv_ge)) (decide_eq_false (by simp; omega)) ?_
    refine q_no (et_test (ev_op (ev_op (ev_meth0 (ev_weak (ev_var (i := 0) (r := RWebA K hv kn a h k) rfl) webA_K) (webK_is.ins _ (by decide) (by decide)) ea_nil (spP_ok (I := List (Str × Int) × List ((Str × Str) × Int)) (hv, kn) (by show kn.length ≤ 1000; omega))) (ev_var (i := 3) rfl) rv_add) (ev_int (i := 1000000000)) rv_gt)) (decide_eq_false (by show ¬ (1000000000 < (kn.map (·.2)).sum + wt); omega)) ?_
    intro σ G1 H1 F1 S
    obtain ⟨v0, s0, ⟨rfl, x0⟩, _⟩ := S.at_ 0 _ rfl
    obtain ⟨v1, s1, rfl, _⟩ := S.at_ 1 _ rfl
    obtain ⟨v2, s2, rfl, _⟩ := S.at_ 2 _ rfl
    obtain ⟨v3, s3, rfl, _⟩ := S.at_ 3 _ rfl
    obtain ⟨dx, fs, i0, f0⟩ := x0.ins
    have dh := S.le _ _ x0.dh
    have dk := S.le _ _ x0.dk
    have hp : putK (dTV kn) [Sum.inr n, Sum.inr m] (V.int wt) = dTV (kn ++ [((n, m), wt)]) := by
      rw [putK_new (dTV_ne fun t ht => (hno t ht).1)]
      simp [dTV, kTI]
    refine ⟨_, s3, _, s0, a, _, dx, fs, .ref k, rfl, S.le _ _ i0, k_Web T, na_Web_knots T, f0.2.1, _, s1, _, s2, by show 2 ≤ sizeLine; decide, fun p hpn => ?_⟩
    have xl : Ext noB G1 H1 G1 (upd H1 p (.tup [.str n, .str m])) := Ext.aside S.le hpn
    have kp : k ≠ p := fun z => by subst z; rw [dk] at hpn; cases hpn
    have hpp : h ≠ p := fun z => by subst z; rw [dh] at hpn; cases hpn
    refine ⟨k, _, rfl, .inr ⟨dTV kn, [Sum.inr n, Sum.inr m], p, by rw [upd_ne kp]; exact dk, rfl, upd_same, by rw [List.length_map, List.length_map]; exact sz_lt (by omega), rfl⟩, ?_⟩
    rw [hp]
    exact fin _ (chg_upd (o := .dT (dTV kn)) (S.ext.trans xl fun a z => z.elim) (.inr rfl) (by rw [upd_ne kp]; exact dk) trivial) (by rw [upd_ne hk, upd_ne hpp]; exact dh) upd_same
  exact go _ _ _ _ (Sta.start (rs := [RWebA K hv kn a h k, RStr n, RStr m, RInt wt]) (N := N_Web_tie) e (.cons ⟨rfl, x⟩ q))
/-! an own web -/
def ownWeb (K : PySem.W.Frag) (hv : List (Str × Int)) (kn : List ((Str × Str) × Int)) : SP := ⟨fun v G H F => ∃ a h k, v = .ref a ∧ h ≠ k ∧ (∃ dx fs, G a = some (.ins (He.ga K "Web") dx fs) ∧ FldW fs h k) ∧ H h = some (.dK (dSV hv)) ∧ H k = some (.dT (dTV kn)) ∧ ∀ b, F b ↔ b = h ∨ b = k,
  fun e kp ⟨a, h, k, h1, h2, ⟨dx, fs, h3, h4⟩, h5, h6, h7⟩ => ⟨a, h, k, h1, h2, ⟨dx, fs, e _ _ h3, h4⟩, by rw [kp h ((h7 h).mpr (.inl rfl))]; exact h5, by rw [kp k ((h7 k).mpr (.inr rfl))]; exact h6, h7⟩⟩
def SpOkW (K : PySem.W.Frag) (sp : Sp) (rs : List R) (hv hv' : List (Str × Int)) (kn kn' : List ((Str × Str) × Int)) : Prop := ∀ E a h k ws G H, Le G H → h ≠ k → WebAt K hv kn a h k G → Reps rs ws G → ∀ Q : VK, (∀ H', Chg h k H H' → H' h = some (.dK (dSV hv')) → H' k = some (.dT (dTV kn')) → Q .non H') → sp (.ref a :: ws) H Q E
theorem spW_ok {I : Type} {hv hv' : I → List (Str × Int)} {kn kn' : I → List ((Str × Str) × Int)} {as : I → List R} {pre : I → Prop} (i : I) (hp : pre i) : SpOkW K (spW K hv hv' kn kn' as pre) (as i) (hv i) (hv' i) (kn i) (kn' i) := fun E a h k ws G H e hk x q Q f => ⟨i, G, a, h, k, ws, rfl, e, hk, x, q, hp, f⟩
section
variable {c : DL.Ctx} {ρ : DL.Env} {D : Ends} {tas : TA} {rs : List R} {hv hv' : List (Str × Int)} {kn kn' : List ((Str × Str) × Int)} {s : Nat} {m : Str} {sp : Sp} {E : XK} {u : TS}
theorem go_web (hρ : ρ[s]? = some (some (ownWeb K hv kn))) (hm1 : m ≠ ("heavy" : Str)) (hm2 : m ≠ ("knots" : Str)) (ha : EvA c tas ρ rs) (hr : SpOkW K sp rs hv hv' kn kn') (kx : Nx c D.nx (ρ.set s (some (ownWeb K hv' kn')))) : Go c (tDrop (tMeth (He.ga K "Web") m sp [] E (tVar s) tas)) ρ D := fun σ G H F S => by
  obtain ⟨v, h1, a, h, k, rfl, hk, ⟨dx, fs, g1, g2⟩, _⟩ := S.at_ s _ hρ
  refine ⟨_, h1, a, dx, fs, rfl, S.le _ _ g1, g2.2.2 m hm1 hm2, ?_⟩
  refine ha σ G H F S _ fun vs G1 H1 F1 S1 n1 qs => ?_
  rw [List.append_nil]
  obtain ⟨v', h1', a', h, k, rfl, hk, ⟨dx, fs, g1, g2⟩, dh, dk, hF⟩ := S1.at_ s _ hρ
  rw [h1] at h1'; cases h1'
  have Fh := (hF h).mpr (.inl rfl)
  have Fk := (hF k).mpr (.inr rfl)
  have gh := (S1.out s h Fh).1
  have gk := (S1.out s k Fk).1
  have sm : Same G1 (upd (upd G1 h (.dK (dSV hv))) k (.dT (dTV kn))) := (same_upd gh).trans (same_upd (by rw [upd_ne hk.symm]; exact gk))
  have le1 : Le (upd (upd G1 h (.dK (dSV hv))) k (.dT (dTV kn))) H1 := ⟨fun b o z => by
    by_cases y : b = k
    · subst y; rw [upd_same] at z; rw [← z]; exact dk
    · rw [upd_ne y] at z
      by_cases y : b = h
      · subst y; rw [upd_same] at z; rw [← z]; exact dh
      · rw [upd_ne y] at z; exact S1.le _ _ z, (S1.le.nt.upd (fun _ z => by cases z)).upd (fun _ z => by cases z), S1.le.tb⟩
  refine hr E a h k vs _ H1 le1 hk ⟨by rw [upd_ne hk, upd_same], upd_same, dx, fs, sm _ _ g1, g2⟩ (qs.mono sm) _ fun H' x dh' dk' => ?_
  have hil : s < ρ.length := (List.getElem?_eq_some_iff.mp hρ).1
  have T := S1.turn (i := s) (v := .ref a) (s := ownWeb K hv' kn') (G' := G1) (H' := H') (F' := fun b => b = h ∨ b = k) hil
    ⟨fun b o z => x.keep b o (fun y => by subst y; rw [gh] at z; cases z) (fun y => by subst y; rw [gk] at z; cases z) (fun ps y => by subst y; exact S1.le.nt b ps z) (S1.le _ _ z), S1.le.nt, x.tab⟩
    (Same.refl _) (fun _ => x.tab) (fun b o nF nt z => x.keep b o (fun y => nF ((hF b).mpr (.inl y))) (fun y => nF ((hF b).mpr (.inr y))) nt z) x.live (fun _ _ g => g)
    (fun b z => ⟨.inl ((hF b).mpr z), z.elim (fun y => by subst y; exact ⟨_, dh', trivial⟩) (fun y => by subst y; exact ⟨_, dk', trivial⟩), z.elim (fun y => by subst y; exact gh) (fun y => by subst y; exact gk)⟩)
    ⟨a, h, k, rfl, hk, ⟨dx, fs, g1, g2⟩, dh', dk', fun b => Iff.rfl⟩
  rw [set_same S1 h1] at T
  exact kx _ _ _ _ T
theorem q_web (hρ : ρ[s]? = some (some (ownWeb K hv kn))) (hm1 : m ≠ ("heavy" : Str)) (hm2 : m ≠ ("knots" : Str)) (ha : EvA c tas ρ rs) (hr : SpOkW K sp rs hv hv' kn kn') (kx : Go c u (ρ.set s (some (ownWeb K hv' kn'))) D) : Go c (tSeq (tDrop (tMeth (He.ga K "Web") m sp [] E (tVar s) tas)) u) ρ D := go_seq (go_web hρ hm1 hm2 ha hr (nx_go kx))
/-- Web() -/
theorem q_mkWeb (hs : s < ρ.length) (kx : Go c u (ρ.set s (some (ownWeb K [] []))) D) : Go c (tSeq (tAsg (tMake (He.ga K "Web") (sp_Web___init__ P w K) [] E tNil) (gName s)) u) ρ D := go_seq fun σ G H F S => by
  intro x dx hx hdx ne
  refine ⟨x, dx, rfl, upd_same, fun h k hh hk hne fs f H' same ha dh dk => ⟨rfl, ?_⟩⟩
  have hx' : h ≠ x := fun z => by subst z; rw [upd_same] at hh; cases hh
  have hd' : h ≠ dx := fun z => by subst z; rw [upd_ne hx', upd_same] at hh; cases hh
  have kx' : k ≠ x := fun z => by subst z; rw [upd_same] at hk; cases hk
  have kd' : k ≠ dx := fun z => by subst z; rw [upd_ne kx', upd_same] at hk; cases hk
  rw [upd_ne hx', upd_ne hd'] at hh
  rw [upd_ne kx', upd_ne kd'] at hk
  have up : ∀ b o, H b = some o → H' b = some o := fun b o e => by
    have n1 : b ≠ x := ne_of_none e hx
    have n2 : b ≠ dx := ne_of_none e hdx
    rw [same b n1 (ne_of_none e hh) (ne_of_none e hk), upd_ne n1, upd_ne n2]; exact e
  have X : Ext noB G H (upd G x (.ins (He.ga K "Web") dx fs)) H' := {
    keep := fun b o _ _ e => up b o e
    live := fun b e => by
      cases z : H b with
      | none => rfl
      | some o => rw [up b o z] at e; cases e
    sub := fun b o e => by rw [upd_ne (ne_of_none (S.le _ _ e) hx)]; exact e
    le := ⟨fun b o e => by
      by_cases y : b = x
      · subst y; rw [upd_same] at e; rw [← e]; exact ha
      · rw [upd_ne y] at e; exact up _ _ (S.le _ _ e), S.le.nt.upd (fun _ z => by cases z), fun p hp => (S.le.tb p hp).ext up⟩
    new := fun b h1 g => by rw [upd_ne (fun z => by subst z; exact h1 hx)]; exact g
    tab := fun t p hp => (t p hp).ext up }
  have S1 := S.step X
  have g0 : ∀ b, H b = none → b ≠ x → (upd G x (.ins (He.ga K "Web") dx fs)) b = none := fun b e ne => by
    rw [upd_ne ne]
    cases z : G b with
    | none => rfl
    | some o => rw [S.le _ _ z] at e; cases e
  refine kx _ _ _ _ (S1.setOwn (s := ownWeb K [] []) (v := .ref x) (F0 := fun b => b = h ∨ b = k) hs (fun b z => ?_) ⟨x, h, k, rfl, hne, ⟨dx, fs, upd_same, f⟩, dh, dk, fun b => Iff.rfl⟩)
  have hb : H b = none := z.elim (fun y => by rw [y]; exact hh) (fun y => by rw [y]; exact hk)
  exact ⟨z.elim (fun y => by rw [y]; exact g0 h hh hx') (fun y => by rw [y]; exact g0 k hk kx'), z.elim (fun y => by rw [y]; exact ⟨_, dh, trivial⟩) (fun y => by rw [y]; exact ⟨_, dk, trivial⟩), S.ext.live b hb, fun j q => (S.out j b q).2.1.ne hb⟩
theorem go_freezeW {t : TS} (s : Nat) (hρ : ρ[s]? = some (some (ownWeb K hv kn))) (hb : s ∉ c.bs) (hg : Go c t (ρ.set s (some (im (RWeb K hv)))) D) : Go c t ρ D := fun σ G H F S => by
  obtain ⟨v, h1, a, h, k, rfl, hk, ⟨dx, fs, g1, g2⟩, dh, dk, hF⟩ := S.at_ s _ hρ
  have hi : s < ρ.length := (List.getElem?_eq_some_iff.mp hρ).1
  have Fh := (hF h).mpr (.inl rfl)
  obtain ⟨gh, _, h0⟩ := S.out s h Fh
  have h0' : c.H0 h = none := h0.elim (fun z => absurd z.2 hb) id
  have S2 := S.letgo (i := s) (x := some (.ref a))
  have S3 := S2.freeze dh h0' (fun j z => z.1 (S.dis j s h z.2 Fh)) gh (fun _ z => by cases z)
  have S4 := S3.set (i := s) (v := .ref a) (r := RWeb K hv) (by rw [List.length_set]; exact hi) ⟨a, dx, fs, rfl, same_upd gh _ _ g1, ⟨h, g2.1, RDic.mk ⟨h, _, rfl, upd_same, kreps_sv hv⟩⟩, g2.2.2⟩
  rw [List.set_set, List.set_set, set_same S h1] at S4
  exact hg _ _ _ _ S4
end
end EvC
set_option Elab.async false
set_option linter.all false
set_option maxRecDepth 100000
set_option maxHeartbeats 4000000
/-! R80f: plans. -/
namespace EvC
open PySem PySem.Spec PyProof.Rows L2 DL
variable [tsp : TabSpec] {P : Program} {w : World} {K : PySem.W.Frag} {mg : Str → Option Value} {base : Heap}
structure PlanAt (K : PySem.W.Frag) (ns : List Str) (hv : List (Str × Int)) (ts : List ((Str × Str) × Int)) (p wd tl : Addr) (G H : Hp) : Prop where
  pw : p ≠ wd
  pt : p ≠ tl
  wt : wd ≠ tl
  dp : ∃ nv, (RLst (lS ns)).p nv G ∧ H p = some (.dK [((.inr "names" : Key), nv), (.inr "weights", .ref wd), (.inr "ties", .ref tl)])
  dw : H wd = some (.dK (dSV hv))
  dt : ∃ xs, H tl = some (.lst xs) ∧ Reps (ts.map (RTie K)) xs G
def ownPlan (K : PySem.W.Frag) (ns : List Str) (hv : List (Str × Int)) (ts : List ((Str × Str) × Int)) : SP := ⟨fun v G H F => ∃ p wd tl, v = .ref p ∧ PlanAt K ns hv ts p wd tl G H ∧ ∀ b, F b ↔ b = p ∨ b = wd ∨ b = tl,
  fun e kp ⟨p, wd, tl, h1, ⟨a1, a2, a3, ⟨nv, h5, h6⟩, h7, ⟨xs, h8, h9⟩⟩, h10⟩ => ⟨p, wd, tl, h1, ⟨a1, a2, a3, ⟨nv, (RLst (lS ns)).mono e h5, by rw [kp p ((h10 p).mpr (.inl rfl))]; exact h6⟩, by rw [kp wd ((h10 wd).mpr (.inr (.inl rfl)))]; exact h7, ⟨xs, by rw [kp tl ((h10 tl).mpr (.inr (.inr rfl)))]; exact h8, h9.mono e⟩⟩, h10⟩⟩
theorem plan_w {x y z : V} : valV [((.inr "names" : Key), x), (.inr "weights", y), (.inr "ties", z)] (.inr "weights") = some y := by rfl
theorem plan_t {x y z : V} : valV [((.inr "names" : Key), x), (.inr "weights", y), (.inr "ties", z)] (.inr "ties") = some z := by rfl
section
variable {c : DL.Ctx} {ρ : DL.Env} {D : Ends} {te tn ta tb : TE} {s : Nat} {ns : List Str} {hv : List (Str × Int)} {ts : List ((Str × Str) × Int)} {u : TS} {i : Nat}
/-- the new plan -/
theorem q_mkPlan (hs : s < ρ.length) (hn : Ev c (tVar i) ρ (RLst (lS ns))) (kx : Go c u (ρ.set s (some (ownPlan c.K ns [] []))) D) :
    Go c (tSeq (tAsg (tDisp [((tC (.str "names")), (tVar i)), ((tC (.str "weights")), tDNewK), ((tC (.str "ties")), (tLst tNil))]) (gName s)) u) ρ D := go_seq fun σ G H F S => by
  intro p hp
  have S0 := S.step (Ext.aside (o := .dK []) S.le hp)
  simp only [tPairs, tC]
  refine hn σ G _ F S0 _ fun nv G1 H1 F1 S1 n1 qn => ?_
  have hp1 : H1 p = some (.dK []) := (n1.keep p _ (fun _ z => by cases z) upd_same (fun j q => (S.out j p q).2.1.ne hp)).1
  have fp1 := (n1.keep p _ (fun _ z => by cases z) upd_same (fun j q => (S.out j p q).2.1.ne hp)).2
  intro wd hwd
  refine ⟨by show 0 ≤ sizeLine; decide, fun tl htl => ?_⟩
  have wp : wd ≠ p := fun z => by subst z; rw [hp1] at hwd; cases hwd
  have tw : tl ≠ wd := fun z => by subst z; rw [upd_same] at htl; cases htl
  have tp : tl ≠ p := fun z => by subst z; rw [upd_ne wp.symm, hp1] at htl; cases htl
  rw [upd_ne tw] at htl
  refine ⟨by rw [upd_ne tp.symm, upd_ne wp.symm]; exact hp1, [((.inr "names" : Key), nv), (.inr "weights", .ref wd), (.inr "ties", .ref tl)], rfl, by simp, ?_⟩
  have em : mergeK [] [((.inr "names" : Key), nv), (.inr "weights", .ref wd), (.inr "ties", .ref tl)] = [((.inr "names" : Key), nv), (.inr "weights", .ref wd), (.inr "ties", .ref tl)] := rfl
  rw [em]
  have S2 := S1.step (Ext.aside (o := .dK []) S1.le hwd)
  have S3 := S2.step (Ext.aside (o := .lst []) S2.le (show (upd H1 wd (.dK [])) tl = none by rw [upd_ne tw]; exact htl))
  have hp3 : (upd (upd H1 wd (.dK [])) tl (.lst [])) p = some (.dK []) := by rw [upd_ne tp.symm, upd_ne wp.symm]; exact hp1
  have gp : G1 p = none := n1.new p (by rw [upd_same]; simp) (by
    cases z : G p with
    | none => rfl
    | some o => rw [S.le _ _ z] at hp; cases hp)
  have S4 : Sta c ρ σ G1 (upd (upd (upd H1 wd (.dK [])) tl (.lst [])) p (.dK [((.inr "names" : Key), nv), (.inr "weights", .ref wd), (.inr "ties", .ref tl)])) F1 := by
    refine ⟨?_, S3.len, fun j t e => ?_, S3.dis, fun j a q => ?_, S3.pin⟩
    · refine ⟨fun a o nb nt e => ?_, fun a e => ?_, S3.ext.sub, ⟨fun a o e => ?_, S3.le.nt, tab_put hp3 trivial S3.le.tb⟩, S3.ext.new, fun t => tab_put hp3 trivial S3.le.tb⟩
      · have q : a ≠ p := fun z => by subst z; rw [S.ext.live a hp] at e; cases e
        rw [upd_ne q]; exact S3.ext.keep a o nb nt e
      · by_cases q : a = p
        · subst q; rw [upd_same] at e; cases e
        · rw [upd_ne q] at e; exact S3.ext.live a e
      · rw [upd_ne (fun z => by subst z; rw [gp] at e; cases e)]; exact S3.le _ _ e
    · obtain ⟨v, h1, h2⟩ := S3.at_ j t e
      exact ⟨v, h1, t.mono (Same.refl _) (fun a q => upd_ne fun z => by subst z; exact fp1 j q) h2⟩
    · obtain ⟨h1, ⟨o, h2, h2'⟩, h3⟩ := S3.out j a q
      exact ⟨h1, ⟨o, by rw [upd_ne (fun z => by subst z; exact fp1 j q)]; exact h2, h2'⟩, h3⟩
  have gw : G1 wd = none := by
    cases z : G1 wd with
    | none => rfl
    | some o => rw [S1.le _ _ z] at hwd; cases hwd
  have gt : G1 tl = none := by
    cases z : G1 tl with
    | none => rfl
    | some o => rw [S1.le _ _ z] at htl; cases htl
  have lw : H wd = none := by
    have := n1.live wd hwd
    rwa [upd_ne wp] at this
  have lt : H tl = none := by
    have := n1.live tl htl
    rwa [upd_ne tp] at this
  have ew : (upd (upd (upd H1 wd (.dK [])) tl (.lst [])) p (.dK [((.inr "names" : Key), nv), (.inr "weights", .ref wd), (.inr "ties", .ref tl)])) wd = some (.dK []) := by rw [upd_ne wp, upd_ne tw.symm, upd_same]
  have et : (upd (upd (upd H1 wd (.dK [])) tl (.lst [])) p (.dK [((.inr "names" : Key), nv), (.inr "weights", .ref wd), (.inr "ties", .ref tl)])) tl = some (.lst []) := by rw [upd_ne tp, upd_same]
  refine kx _ _ _ _ (S4.setOwn (s := ownPlan c.K ns [] []) (v := .ref p) (F0 := fun b => b = p ∨ b = wd ∨ b = tl) hs (fun b z => ?_) ⟨p, wd, tl, rfl, ⟨wp.symm, tp.symm, tw.symm, ⟨nv, qn, upd_same⟩, ew, [], et, .nil⟩, fun b => Iff.rfl⟩)
  rcases z with rfl | rfl | rfl
  · exact ⟨gp, ⟨_, upd_same, trivial⟩, S.ext.live _ hp, fp1⟩
  · exact ⟨gw, ⟨_, ew, trivial⟩, S.ext.live _ lw, fun j q => (S1.out j _ q).2.1.ne hwd⟩
  · exact ⟨gt, ⟨_, et, trivial⟩, S.ext.live _ lt, fun j q => (S1.out j _ q).2.1.ne htl⟩
/-- plan["weights"][n] = x -/
theorem go_planPut {n : Str} {Pa : Int → Prop} (hρ : ρ[s]? = some (some (ownPlan c.K ns hv ts))) (hv1 : Ev c te ρ (exR Pa RInt)) (hn : ρ[i]? = some (some (im (RStr n)))) (hni : n ∉ hv.map (·.1)) (hl : hv.length < 100000)
    (kx : ∀ x, Pa x → Nx c D.nx (ρ.set s (some (ownPlan c.K ns (hv ++ [(n, x)]) ts)))) : Go c (sDPut (tDGet (tVar s) (tC (.str "weights"))) (tVar i) te) ρ D := fun σ G H F S => by
  refine hv1 σ G H F S _ fun v G1 H1 F1 S1 n1 ⟨x, px, hx⟩ => ?_
  obtain rfl : v = .int x := hx
  obtain ⟨v0, h1, p, wd, tl, rfl, A, hF⟩ := S1.at_ s _ hρ
  obtain ⟨nv, qn, dp⟩ := A.dp
  obtain ⟨v2, h2, rfl, _⟩ := S1.at_ i _ hn
  obtain ⟨xs, dt, qt⟩ := A.dt
  refine ⟨_, h1, p, .ref wd, rfl, .inl ⟨_, .inr "weights", .inl dp, rfl, plan_w.symm⟩, _, h2, wd, _, rfl, .inl ⟨dSV hv, .inr n, A.dw, rfl, by rw [List.length_map]; exact sz_lt hl, rfl⟩, ?_⟩
  have hp : putK (dSV hv) (Sum.inr n) (V.int x) = dSV (hv ++ [(n, x)]) := by
    rw [putK_new]
    · simp [dSV]
    · intro p hp e
      obtain ⟨t, ht, rfl⟩ := List.mem_map.mp hp
      exact hni (List.mem_map.mpr ⟨t, ht, Sum.inr.inj e⟩)
  rw [hp]
  obtain ⟨F', S2⟩ := S1.own_upd (s' := ownPlan c.K ns (hv ++ [(n, x)]) ts) hρ h1 ((hF wd).mpr (.inr (.inl rfl))) A.dw trivial (o' := .dK (dSV (hv ++ [(n, x)]))) trivial ⟨p, wd, tl, rfl, ⟨A.pw, A.pt, A.wt, ⟨nv, qn, by rw [upd_ne A.pw]; exact dp⟩, upd_same, xs, by rw [upd_ne A.wt.symm]; exact dt, qt⟩, hF⟩
  exact kx x px _ _ _ _ S2
/-- len(plan["ties"]) -/
theorem ev_planLen (hρ : ρ[s]? = some (some (ownPlan c.K ns hv ts))) : Ev c (tCB (rLenV c.K) (tCons (tDGet (tVar s) (tC (.str "ties"))) tNil)) ρ (RInt (ts.length : Nat)) := fun σ G H F S Q k => by
  obtain ⟨v0, h1, p, wd, tl, rfl, A, hF⟩ := S.at_ s _ hρ
  obtain ⟨nv, qn, dp⟩ := A.dp
  obtain ⟨xs, dt, qt⟩ := A.dt
  refine ⟨_, h1, p, .ref tl, rfl, .inl ⟨_, .inr "ties", .inl dp, rfl, plan_t.symm⟩, _, _, rfl, .inl ⟨xs, .of dt, rfl⟩, k _ G H F S (Nxt.refl _ _ _) ?_⟩
  rw [← qt.length, List.length_map]; rfl
/-- plan["ties"].insert(i, t) -/
theorem go_planIns {t : (Str × Str) × Int} {n : Int} {j1 j2 : Nat} (hρ : ρ[s]? = some (some (ownPlan c.K ns hv ts))) (ha : ρ[j1]? = some (some (im (RInt n)))) (hb : ρ[j2]? = some (some (im (RTie c.K t)))) (hn : 0 ≤ n ∧ n ≤ 100000) (hl : ts.length < 100000)
    (kx : Nx c D.nx (ρ.set s (some (ownPlan c.K ns hv (ts.take n.toNat ++ [t] ++ ts.drop n.toNat))))) : Go c (tDrop (tBM c.K "list" rInsert (tDGet (tVar s) (tC (.str "ties"))) (tCons (tVar j1) (tCons (tVar j2) tNil)))) ρ D := fun σ G H F S => by
  obtain ⟨v0, h1, p, wd, tl, rfl, A, hF⟩ := S.at_ s _ hρ
  obtain ⟨nv, qn, dp⟩ := A.dp
  obtain ⟨xs, dt, qt⟩ := A.dt
  obtain ⟨v1, s1, rfl, _⟩ := S.at_ j1 _ ha
  obtain ⟨v2, s2, q2, _⟩ := S.at_ j2 _ hb
  refine ⟨_, h1, p, .ref tl, rfl, .inl ⟨_, .inr "ties", .inl dp, rfl, plan_t.symm⟩, .inl ⟨rfl, xs, .inl (.inl dt)⟩, _, s1, _, s2, tl, xs, n, v2, rfl, rfl, dt, ?_, hn.1, by omega, ?_⟩
  · rw [← qt.length, List.length_map]; exact sz_lt hl
  have q' : Reps ((ts.take n.toNat ++ [t] ++ ts.drop n.toNat).map (RTie c.K)) (xs.take n.toNat ++ [v2] ++ xs.drop n.toNat) G := by
    rw [List.map_append, List.map_append, List.map_take, List.map_drop]
    exact (qt.take.append (.cons q2 .nil)).append qt.drop
  obtain ⟨F', S2⟩ := S.own_upd (s' := ownPlan c.K ns hv (ts.take n.toNat ++ [t] ++ ts.drop n.toNat)) hρ h1 ((hF tl).mpr (.inr (.inr rfl))) dt trivial (o' := .lst (xs.take n.toNat ++ [v2] ++ xs.drop n.toNat)) trivial ⟨p, wd, tl, rfl, ⟨A.pw, A.pt, A.wt, ⟨nv, qn, by rw [upd_ne A.pt]; exact dp⟩, by rw [upd_ne A.wt]; exact A.dw, _, upd_same, q'⟩, hF⟩
  exact kx _ _ _ _ S2
/-- the plan stands from now on -/
theorem go_freezeP {t : TS} (s : Nat) (hρ : ρ[s]? = some (some (ownPlan c.K ns hv ts))) (hb : s ∉ c.bs) (e : ns = hv.map (·.1)) (hg : Go c t (ρ.set s (some (im (RPlan c.K hv ts)))) D) : Go c t ρ D := fun σ G H F S => by
  obtain ⟨v0, h1, p, wd, tl, rfl, A, hF⟩ := S.at_ s _ hρ
  obtain ⟨nv, qn, dp⟩ := A.dp
  obtain ⟨xs, dt, qt⟩ := A.dt
  have hi : s < ρ.length := (List.getElem?_eq_some_iff.mp hρ).1
  have out : ∀ b, (b = p ∨ b = wd ∨ b = tl) → G b = none ∧ c.H0 b = none ∧ ∀ j, ¬ (j ≠ s ∧ F j b) := fun b z => by
    have Fb := (hF b).mpr z
    obtain ⟨gb, _, h0⟩ := S.out s b Fb
    exact ⟨gb, h0.elim (fun z => absurd z.2 hb) id, fun j z => z.1 (S.dis j s b z.2 Fb)⟩
  obtain ⟨gp, p0, fp⟩ := out p (.inl rfl)
  obtain ⟨gw, w0, fw⟩ := out wd (.inr (.inl rfl))
  obtain ⟨gt, t0, ft⟩ := out tl (.inr (.inr rfl))
  have S2 := S.letgo (i := s) (x := some (.ref p))
  have S3 := S2.freeze A.dw w0 fw gw (fun _ z => by cases z)
  have gt' : (upd G wd (.dK (dSV hv))) tl = none := by rw [upd_ne A.wt.symm]; exact gt
  have S4 := S3.freeze dt t0 ft gt' (fun _ z => by cases z)
  have gp' : (upd (upd G wd (.dK (dSV hv))) tl (.lst xs)) p = none := by rw [upd_ne A.pt, upd_ne A.pw]; exact gp
  have S5 := S4.freeze dp p0 fp gp' (fun _ z => by cases z)
  have sm := (same_upd gw (o := .dK (dSV hv))).trans ((same_upd gt' (o := .lst xs)).trans (same_upd gp' (o := .dK [((.inr "names" : Key), nv), (.inr "weights", .ref wd), (.inr "ties", .ref tl)])))
  subst e
  have S6 := S5.set (i := s) (v := .ref p) (r := RPlan c.K hv ts) (by rw [List.length_set]; exact hi) (RDic.mk ⟨p, _, rfl, upd_same, .cons ⟨rfl, (RLst _).mono sm qn⟩ (.cons ⟨rfl, RDic.mk ⟨wd, _, rfl, by rw [upd_ne A.pw.symm, upd_ne A.wt, upd_same], kreps_sv hv⟩⟩ (.cons ⟨rfl, RLst.mk ⟨tl, xs, rfl, by rw [upd_ne A.pt.symm, upd_same], qt.mono sm⟩⟩ .nil))⟩)
  rw [List.set_set, List.set_set, set_same S h1] at S6
  exact hg _ _ _ _ S6
end
end EvC
set_option Elab.async false
set_option linter.all false
set_option maxRecDepth 100000
set_option maxHeartbeats 4000000
/-! R80g: the plan, the web. -/
namespace EvC
open PySem PySem.Spec PyProof.Rows L2 DL
variable [tsp : TabSpec] {P : Program} {w : World} {K : PySem.W.Frag} {mg : Str → Option Value} {base : Heap}
/-- ties so far: pairs of places k < j, before (j, k) -/
structure TPre (ns : List Str) (ts : List ((Str × Str) × Int)) (j k : Nat) : Prop where
  len : ts.length ≤ 200
  at_ : ∀ t ∈ ts, ∃ k' j' a b, k' < j' ∧ (j' < j ∨ (j' = j ∧ k' < k)) ∧ ns[k']? = some a ∧ ns[j']? = some b ∧ t.1 = (a, b) ∧ 1 ≤ t.2 ∧ t.2 ≤ 4900000
  nd : (ts.map (·.1)).Nodup
theorem nd_at {ns : List Str} (h : ns.Nodup) {i j : Nat} {a : Str} (hi : ns[i]? = some a) (hj : ns[j]? = some a) : i = j := by
  obtain ⟨li, ei⟩ := List.getElem?_eq_some_iff.mp hi
  obtain ⟨lj, ej⟩ := List.getElem?_eq_some_iff.mp hj
  have p := List.pairwise_iff_getElem.mp h
  by_cases z : i = j
  · exact z
  · rcases Nat.lt_or_gt_of_ne z with q | q
    · exact absurd (ei.trans ej.symm) (p i j li lj q)
    · exact absurd (ej.trans ei.symm) (p j i lj li q)
theorem TPre.ok {ns : List Str} {ts : List ((Str × Str) × Int)} {j k : Nat} (hn : ns.Nodup) (h : TPre ns ts j k) : TiesOk ns ts := by
  refine ⟨h.len, fun t ht => ?_, ?_⟩
  · obtain ⟨k', j', a, b, h1, h2, h3, h4, h5, h6, h7⟩ := h.at_ t ht
    rw [h5]
    refine ⟨List.mem_of_getElem? h3, List.mem_of_getElem? h4, fun e => ?_, h6, h7⟩
    dsimp only at e
    subst e
    have := nd_at hn h3 h4; omega
  · have p : ts.Pairwise (fun a b => a.1 ≠ b.1) := List.pairwise_map.mp h.nd
    have q := (List.pairwise_iff_forall_sublist (R := fun a b : (Str × Str) × Int => ¬ (a.1 = b.1 ∨ (a.1.1 = b.1.2 ∧ a.1.2 = b.1.1))) (l := ts)).mpr fun {x y} hs => ?_
    · exact q
    · have hx : x ∈ ts := hs.subset (by simp)
      have hy : y ∈ ts := hs.subset (by simp)
      have ne := (List.pairwise_iff_forall_sublist.mp p) hs
      rintro (e | ⟨e1, e2⟩)
      · exact ne e
      · obtain ⟨k1, j1, a1, b1, l1, _, g1, g2, g3, _⟩ := h.at_ x hx
        obtain ⟨k2, j2, a2, b2, l2, _, g4, g5, g6, _⟩ := h.at_ y hy
        rw [g3, g6] at e1 e2
        dsimp only at e1 e2
        subst e1 e2
        have := nd_at hn g1 g5
        have := nd_at hn g2 g4
        omega
theorem TPre.ins {ns : List Str} {ts : List ((Str × Str) × Int)} {j k n : Nat} {a b : Str} {x : Int} (hn : ns.Nodup) (h : TPre ns ts j k) (hk : k < j) (ha : ns[k]? = some a) (hb : ns[j]? = some b) (hl : ts.length < 200) (h1 : 1 ≤ x) (h2 : x ≤ 4900000) : TPre ns (ts.take n ++ [((a, b), x)] ++ ts.drop n) j (k + 1) := by
  have pm : (ts.take n ++ [((a, b), x)] ++ ts.drop n).Perm (((a, b), x) :: ts) := by
    have e := List.perm_middle (a := ((a, b), x)) (l₁ := ts.take n) (l₂ := ts.drop n)
    rw [List.take_append_drop] at e
    simpa using e
  refine ⟨by rw [pm.length_eq, List.length_cons]; omega, fun t ht => ?_, ?_⟩
  · rcases List.mem_cons.mp (pm.mem_iff.mp ht) with rfl | ht
    · exact ⟨k, j, a, b, hk, .inr ⟨rfl, by omega⟩, ha, hb, rfl, h1, h2⟩
    · obtain ⟨k', j', a, b, l1, l2, r⟩ := h.at_ t ht
      exact ⟨k', j', a, b, l1, by omega, r⟩
  · rw [(pm.map (·.1)).nodup_iff, List.map_cons, List.nodup_cons]
    refine ⟨fun hm => ?_, h.nd⟩
    obtain ⟨t, ht, e⟩ := List.mem_map.mp hm
    obtain ⟨k', j', a', b', l1, l2, r1, r2, r3, _⟩ := h.at_ t ht
    rw [r3] at e
    simp only [Prod.mk.injEq] at e
    obtain ⟨rfl, rfl⟩ := e
    have := nd_at hn ha r1
    have := nd_at hn hb r2
    omega
theorem TPre.up {ns : List Str} {ts : List ((Str × Str) × Int)} {j k j2 k2 : Nat} (h : TPre ns ts j k) (hjk : j < j2 ∨ (j = j2 ∧ k ≤ k2)) : TPre ns ts j2 k2 := ⟨h.len, fun t ht => by
  obtain ⟨k', j', a', b', l1, l2, r⟩ := h.at_ t ht
  exact ⟨k', j', a', b', l1, by omega, r⟩, h.nd⟩
theorem len__law_plan (vs : List V) (H : Hp) (Q : VK) (E : XK) (h : sp__law_plan P w K vs H Q E) : vs.length = 2 := by refine spB_len (n := 1) ?_ vs H Q E h; intro i; rfl
theorem rd__law_plan (T : Tx P w K mg base) (hT : tsp.T = tabsT K) (vs : List V) (H : Hp) (Q : VK) (E : XK) (h : sp__law_plan P w K vs H Q E) : t__law_plan P w K { nx := fun _ H1 => Q .non H1, rt := Q } (start N__law_plan vs) H :=
  body_B (K := K) (fun m hm c D st hK hb hr hx => by
    subst hK
    obtain rfl : m = 8 := hm
    show Go c _ [some (ownAt st HState), some (im (RInt 8)), none, none, none, none, none, none, none, none, none, none] D
    have pull : ∀ {c' : DL.Ctx} {ρ : DL.Env} {te : TE} {n : Int}, ρ[0]? = some (some (ownAt st HState)) → Ev c' te ρ (RInt n) → 0 < n → n < 1073741824 → Ev c' (tCall (sp__law_pull P w c.K) [] E0 (tCons (tVar 0) (tCons te tNil))) ρ (RDigit n) := fun h0 he h1 h2 => ev_callB (ownAt_own st HState) h0 (eaOf he) (spB_ok _ ⟨h1, h2⟩)
    refine q_asgX (P := fun ns : List Str => NamesOk ns) (f := fun ns => RLst (lS ns)) (by simp) (ev_callB (ownAt_own st HState) rfl (eaOf (pull (n := 8 + 1) rfl (ev_op (ev_var (i := 1) (r := RInt 8) rfl) ev_int rv_add) (by decide) (by decide))) (spokB_ex fun x hx => spokB_weak (spB_ok (P := HState) (as := fun m : Int => [RInt m]) (pre := fun m : Int => 0 ≤ m ∧ m ≤ 8) (res := fun m => exR (fun ns : List Str => NamesOk ns ∧ (ns.length : Int) = m) fun ns => RLst (lS ns)) x ⟨hx.1, by have := hx.2; omega⟩) fun v G ⟨ns, h1, q⟩ => ⟨ns, h1.1, q⟩)) fun ns hns => ?_
    refine q_asgX (P := fun x : Int => 1 ≤ x ∧ x ≤ 16000000) (f := RInt) (by simp) (ev_op (ev_lst (ea_cons ev_int (ea_cons ev_int (ea_cons ev_int (ea_cons ev_int ea_nil)))) (by simp)) (pull (n := 4) rfl ev_int (by decide) (by decide)) (rv_ixD ⟨sub_ex 30 (by decide) (SubR.refl _), sub_ex 6 (by decide) (SubR.refl _), sub_ex 1 (by decide) (SubR.refl _), sub_ex 16000000 (by decide) (SubR.refl _), trivial⟩ (by simp))) fun wide hwide => ?_
    refine q_mkPlan (i := 2) (ns := ns) (by simp) (ev_var rfl) ?_
    refine q_for (fun i ρ => ∃ hv : List (Str × Int), hv.map (·.1) = ns.take i ∧ (∀ p ∈ hv, 1 ≤ p.2 ∧ p.2 ≤ 16000000) ∧ ∃ x5, ρ = [some (ownAt st HState), some (im (RInt 8)), some (im (RLst (lS ns))), some (im (RInt wide)), some (ownPlan c.K ns hv []), x5, none, none, none, none, none, none]) (ei_list (rs := lS ns) (ev_var rfl)) ⟨[], by simp, fun p h => by simp at h, none, rfl⟩ ?_ ?_
    · rintro Gl i r ρ' hr ⟨hv, hm, hw, x5, rfl⟩
      simp only [lS, List.getElem?_map, Option.map_eq_some_iff] at hr
      obtain ⟨n, hn, rfl⟩ := hr
      refine ⟨_, _, gg_name (by simp), ?_⟩
      have hni : n ∉ hv.map (·.1) := by
        rw [hm]; intro z
        obtain ⟨j, hj⟩ := List.mem_iff_getElem?.mp z
        rw [List.getElem?_take] at hj
        split at hj
        · have := nd_at hns.2.1 hn hj; omega
        · cases hj
      have hlen : hv.length ≤ 8 := by
        have := congrArg List.length hm
        rw [List.length_map, List.length_take] at this
        have := hns.1; omega
      refine go_planPut (c := c.pin Gl) (s := 4) (i := 5) (n := n) (ns := ns) (hv := hv) (ts := []) (Pa := fun x : Int => 1 ≤ x ∧ x ≤ 16000000) rfl (ev_weak (ev_op (ev_int (i := 1)) (pull (n := wide) rfl (ev_var (i := 3) rfl) (by omega) (by omega)) (rv_ex2 fun x _ => rv_add)) fun v G ⟨d, hd, q⟩ => ⟨1 + d, by omega, q⟩) rfl hni (by omega) fun x hx => ?_
      intro σ G H F S
      refine ⟨_, ⟨hv ++ [(n, x)], ?_, fun p hp => ?_, _, rfl⟩, G, F, S⟩
      · rw [List.map_append, hm, List.take_add_one, hn]; rfl
      · rcases List.mem_append.mp hp with hp | hp
        · exact hw p hp
        · obtain rfl : p = (n, x) := by simpa using hp
          exact hx
    rintro ρ' ⟨hv, hm, hw, x5, rfl⟩
    have hm' : hv.map (·.1) = ns := by rw [hm]; simp
    refine q_asgX (P := fun d : Int => 0 ≤ d ∧ d < 4) (f := fun d => RInt (1 + d)) (by simp) (ev_op (ev_int (i := 1)) (pull (n := 4) rfl ev_int (by decide) (by decide)) (rv_ex2 fun x _ => rv_add)) fun bar hbar => ?_
    refine q_asgX (P := fun x : Int => 1 ≤ x ∧ x ≤ 4900000) (f := RInt) (by simp) (ev_op (ev_lst (ea_cons ev_int (ea_cons ev_int (ea_cons ev_int (ea_cons ev_int ea_nil)))) (by simp)) (pull (n := 4) rfl ev_int (by decide) (by decide)) (rv_ixD ⟨sub_ex 30 (by decide) (SubR.refl _), sub_ex 4 (by decide) (SubR.refl _), sub_ex 1 (by decide) (SubR.refl _), sub_ex 4900000 (by decide) (SubR.refl _), trivial⟩ (by simp))) fun strong hstr => ?_
    have hl8 := hns.1
    refine q_for (fun j ρ => ∃ ts : List ((Str × Str) × Int), TPre ns ts j 0 ∧ ∃ x8 x9 x10 x11, ρ = [some (ownAt st HState), some (im (RInt 8)), some (im (RLst (lS ns))), some (im (RInt wide)), some (ownPlan c.K ns hv ts), x5, some (im (RInt (1 + bar))), some (im (RInt strong)), x8, x9, x10, x11]) (ei_rng1 (n := ((lS ns).length : Nat)) (eaOf (ev_cb (eaOf (ev_var (i := 2) rfl)) rv_lenL)) (by simp; omega)) ⟨[], ⟨by simp, fun t h => by simp at h, by simp⟩, none, none, none, none, rfl⟩ ?_ ?_
    · rintro Gl j r ρ' hr ⟨ts, hts, x8, x9, x10, x11, rfl⟩
      have hj : j < ns.length := by simpa [rngs] using (List.getElem?_eq_some_iff.mp hr).1
      have er : r = RInt (j : Int) := by simp [rngs, hj] at hr; exact hr.symm
      subst er
      refine ⟨_, _, gg_name (by simp), ?_⟩
      refine go_for (fun k ρ => ∃ ts : List ((Str × Str) × Int), TPre ns ts j k ∧ ∃ x9 x10 x11, ρ = [some (ownAt st HState), some (im (RInt 8)), some (im (RLst (lS ns))), some (im (RInt wide)), some (ownPlan c.K ns hv ts), x5, some (im (RInt (1 + bar))), some (im (RInt strong)), some (im (RInt (j : Int))), x9, x10, x11]) (ei_rng1 (n := (j : Int)) (eaOf (ev_var rfl)) (by omega)) ⟨ts, hts, x9, x10, x11, rfl⟩ ?_ ?_
      · rintro Gl2 k r ρ' hr ⟨ts, hts, x9, x10, x11, rfl⟩
        have hk : k < j := by simpa [rngs] using (List.getElem?_eq_some_iff.mp hr).1
        have er : r = RInt (k : Int) := by simp [rngs, hk] at hr; exact hr.symm
        subst er
        refine ⟨_, _, gg_name (by simp), ?_⟩
        have elen : Ev ((c.pin Gl).pin Gl2) (tCB (rLenV c.K) (tCons (tDGet (tVar 4) (tC (.str "ties"))) tNil)) [some (ownAt st HState), some (im (RInt 8)), some (im (RLst (lS ns))), some (im (RInt wide)), some (ownPlan c.K ns hv ts), x5, some (im (RInt (1 + bar))), some (im (RInt strong)), some (im (RInt (j : Int))), some (im (RInt (k : Int))), x10, x11] (RInt (ts.length : Nat)) := ev_planLen (c := (c.pin Gl).pin Gl2) rfl
        refine go_if (Φ := fun b => b = true → ts.length < 200) (ep_and (Φ := fun _ => True) (ep_test (ev_weak (ev_op (pull (n := 4) rfl ev_int (by decide) (by decide)) (ev_var (i := 6) rfl) (rv_ex1 fun x _ => rv_lt)) fun v G ⟨d, _, q⟩ => ⟨_, trivial, q⟩)) (fun _ => ep_weak (et_test (ev_op elen (ev_int (i := 200)) rv_lt)) fun b e z => by rw [z] at e; have := of_decide_eq_true e.symm; omega) fun _ z => by cases z) (fun hl => ?_) fun _ => ?_
        · have hl200 := hl rfl
          have ea : (lS ns)[k]? = some (RStr (ns[k]'(by omega))) := by simp [show k < ns.length by omega]
          have eb : (lS ns)[j]? = some (RStr (ns[j]'hj)) := by simp [hj]
          refine q_asgX (P := fun x : Int => 1 ≤ x ∧ x ≤ 4900000) (f := fun x => RTie c.K ((ns[k]'(by omega), ns[j]'hj), x)) (by simp) (ev_weak (ev_tup (c := (c.pin Gl).pin Gl2) (ea_cons (ev_op (ev_var (i := 2) rfl) (ev_var (i := 9) rfl) (rv_ixL (atI_nat' ea))) (ea_cons (ev_op (ev_var (i := 2) rfl) (ev_var (i := 8) rfl) (rv_ixL (atI_nat' eb))) (ea_cons (ev_op (ev_int (i := 1)) (pull (n := strong) rfl (ev_var (i := 7) rfl) (by omega) (by omega)) (rv_ex2 fun x _ => rv_add)) ea_nil))) (by simp)) fun v G ⟨a, xs, h1, h2, h3⟩ => ?_) fun x hx => ?_
          · obtain ⟨y1, y2, y3, rfl, q1, q2, ⟨d, hd, q3⟩⟩ := reps_three h3
            exact ⟨1 + d, by omega, a, _, h1, h2, .cons q1 (.cons q2 (.cons q3 .nil))⟩
          refine q_asgX (P := fun d : Int => 0 ≤ d ∧ d < (ts.length : Nat) + 1) (f := RInt) (by simp) (pull (n := (ts.length : Nat) + 1) rfl (ev_op (ev_planLen (c := (c.pin Gl).pin Gl2) (s := 4) (ns := ns) (hv := hv) (ts := ts) rfl) (ev_int (i := 1)) rv_add) (by omega) (by omega)) fun at' hat => ?_
          refine go_planIns (c := (c.pin Gl).pin Gl2) (s := 4) (j1 := 11) (j2 := 10) (ns := ns) (hv := hv) (ts := ts) (n := at') (t := ((ns[k]'(by omega), ns[j]'hj), x)) rfl rfl rfl (by omega) (by omega) ?_
          intro σ G H F S
          exact ⟨_, ⟨_, hts.ins hns.2.1 hk (List.getElem?_eq_getElem _) (List.getElem?_eq_getElem _) hl200 hx.1 hx.2, _, _, _, rfl⟩, G, F, S⟩
        · refine go_next ?_
          intro σ G H F S
          exact ⟨_, ⟨_, hts.up (.inr ⟨rfl, by omega⟩), _, _, _, rfl⟩, G, F, S⟩
      · rintro ρ' ⟨ts, hts, x9, x10, x11, rfl⟩
        intro σ G H F S
        exact ⟨_, ⟨_, hts.up (.inl (by omega)), _, _, _, _, rfl⟩, G, F, S⟩
    rintro ρ' ⟨ts, hts, x8, x9, x10, x11, rfl⟩
    refine go_freezeP 4 (ns := ns) (hv := hv) (ts := ts) rfl (by rw [hb]; simp) hm'.symm ?_
    refine go_retB (ev_ex (hv, ts) ⟨⟨?_, hw⟩, ?_⟩ (ev_var rfl)) rfl hr
    · show NamesOk (hv.map (·.1)); rw [hm']; exact hns
    · show TiesOk (hv.map (·.1)) ts; rw [hm']; exact hts.ok hns.2.1) vs H Q E h
end EvC
set_option Elab.async false
set_option linter.all false
set_option maxRecDepth 100000
set_option maxHeartbeats 4000000
/-! R80h: the web of a plan. -/
namespace EvC
open PySem PySem.Spec PyProof.Rows L2 DL
variable [tsp : TabSpec] {P : Program} {w : World} {K : PySem.W.Frag} {mg : Str → Option Value} {base : Heap}
theorem look_at : ∀ {hv : List (Str × Int)} {i : Nat} {p : Str × Int}, (hv.map (·.1)).Nodup → hv[i]? = some p → look hv p.1 = p.2
  | [], _, _, _, h => by simp at h
  | q :: hv, 0, p, _, h => by cases h; unfold look; rw [List.find?_cons, decide_eq_true rfl]; rfl
  | q :: hv, i + 1, p, hn, h => by
    rw [List.map_cons, List.nodup_cons] at hn
    have hm : p ∈ hv := List.mem_of_getElem? h
    have ne : ¬ q.1 = p.1 := fun e => hn.1 (by rw [e]; exact List.mem_map.mpr ⟨p, hm, rfl⟩)
    have ih := look_at hn.2 (show hv[i]? = some p from h)
    unfold look at ih ⊢
    rw [List.find?_cons, decide_eq_false ne]
    exact ih
/-- parts of a plan -/
theorem pl_names {hv : List (Str × Int)} {rt : R} : lookR [((.inr "names" : Key), RLst (lS (hv.map (·.1)))), (.inr "weights", RDSI hv), (.inr "ties", rt)] (.inr "names") = some (RLst (lS (hv.map (·.1)))) := rfl
theorem pl_weights {hv : List (Str × Int)} {rt : R} : lookR [((.inr "names" : Key), RLst (lS (hv.map (·.1)))), (.inr "weights", RDSI hv), (.inr "ties", rt)] (.inr "weights") = some (RDSI hv) := rfl
theorem pl_ties {hv : List (Str × Int)} {rt : R} : lookR [((.inr "names" : Key), RLst (lS (hv.map (·.1)))), (.inr "weights", RDSI hv), (.inr "ties", rt)] (.inr "ties") = some rt := rfl
section
variable {c : DL.Ctx} {ρ : DL.Env} {i : Nat} {hv : List (Str × Int)} {rt : R}
theorem ev_names (h : ρ[i]? = some (some (im (RPlanT hv rt)))) : Ev c (tDGet (tVar i) (tC (.str "names"))) ρ (RLst (lS (hv.map (·.1)))) := ev_dget (ev_var h) ev_str key_str pl_names
theorem ev_weights (h : ρ[i]? = some (some (im (RPlanT hv rt)))) : Ev c (tDGet (tVar i) (tC (.str "weights"))) ρ (RDSI hv) := ev_dget (ev_var h) ev_str key_str pl_weights
theorem ev_ties (h : ρ[i]? = some (some (im (RPlanT hv rt)))) : Ev c (tDGet (tVar i) (tC (.str "ties"))) ρ rt := ev_dget (ev_var h) ev_str key_str pl_ties
end
/-- the first i ties, each this way or that -/
def KPre (ts : List ((Str × Str) × Int)) (kn : List ((Str × Str) × Int)) (i : Nat) : Prop := kn.length = i ∧ ∀ t ∈ kn, ∃ i' s, i' < i ∧ ts[i']? = some s ∧ t.2 = s.2 ∧ (t.1 = s.1 ∨ t.1 = (s.1.2, s.1.1))
theorem KPre.noTie {ns : List Str} {ts kn : List ((Str × Str) × Int)} {i : Nat} {s : (Str × Str) × Int} {q : Str × Str} (ht : TiesOk ns ts) (h : KPre ts kn i) (hs : ts[i]? = some s) (hq : q = s.1 ∨ q = (s.1.2, s.1.1)) : NoTie kn q.1 q.2 := fun t htk => by
  obtain ⟨i', s', hi, hs', _, ho⟩ := h.2 t htk
  obtain ⟨l1, e1⟩ := List.getElem?_eq_some_iff.mp hs
  obtain ⟨l2, e2⟩ := List.getElem?_eq_some_iff.mp hs'
  have hp := List.pairwise_iff_getElem.mp ht.2.2 i' i l2 l1 hi
  rw [e1, e2] at hp
  obtain ⟨⟨a, b⟩, x⟩ := s
  obtain ⟨⟨a', b'⟩, x'⟩ := s'
  dsimp only at hp ho hq ⊢
  refine ⟨fun e => ?_, fun e => ?_⟩
  · rcases ho with ho | ho <;> rcases hq with hq | hq <;> subst hq <;> rw [ho] at e <;> simp only [Prod.mk.injEq] at e hp <;> obtain ⟨e1, e2⟩ := e <;> subst e1 e2 <;> simp at hp
  · rcases ho with ho | ho <;> rcases hq with hq | hq <;> subst hq <;> rw [ho] at e <;> simp only [Prod.mk.injEq] at e hp <;> obtain ⟨e1, e2⟩ := e <;> subst e1 e2 <;> simp at hp
theorem len__law_made (vs : List V) (H : Hp) (Q : VK) (E : XK) (h : sp__law_made P w K vs H Q E) : vs.length = 2 := by refine spB_len (n := 1) ?_ vs H Q E h; intro i; rfl
theorem rd__law_made (T : Tx P w K mg base) (hT : tsp.T = tabsT K) (vs : List V) (H : Hp) (Q : VK) (E : XK) (h : sp__law_made P w K vs H Q E) : t__law_made P w K { nx := fun _ H1 => Q .non H1, rt := Q } (start N__law_made vs) H :=
  body_B (K := K) (fun ⟨hv, ts⟩ ⟨hwb, hts⟩ c D st hK hb hr hx => by
    subst hK
    show Go c _ [some (ownAt st HState), some (im (RPlan c.K hv ts)), none, none, none, none, none, none] D
    have pull : ∀ {c' : DL.Ctx} {ρ : DL.Env} {te : TE} {n : Int}, ρ[0]? = some (some (ownAt st HState)) → Ev c' te ρ (RInt n) → 0 < n → n < 1073741824 → Ev c' (tCall (sp__law_pull P w c.K) [] E0 (tCons (tVar 0) (tCons te tNil))) ρ (RDigit n) := fun h0 he h1 h2 => ev_callB (ownAt_own st HState) h0 (eaOf he) (spB_ok _ ⟨h1, h2⟩)
    have hnd := hwb.1.2.1
    have hl8 : hv.length ≤ 8 := by have := hwb.1.1; simpa using this
    refine q_mkWeb (P := P) (w := w) (by simp) ?_
    have hl2 : ts.length ≤ 200 := hts.1
    refine q_for (fun i ρ => ∃ x3, ρ = [some (ownAt st HState), some (im (RPlan c.K hv ts)), some (ownWeb c.K (hv.take i) []), x3, none, none, none, none]) (ei_list (ev_names (i := 1) rfl)) ⟨none, by simp⟩ ?_ ?_
    · rintro Gl i r ρ' hr ⟨x3, rfl⟩
      simp only [lS, List.getElem?_map, Option.map_eq_some_iff] at hr
      obtain ⟨n, ⟨p, hp, rfl⟩, rfl⟩ := hr
      refine ⟨_, _, gg_name (by simp), ?_⟩
      have hpm : p.1 ∈ hv.map (·.1) := List.mem_map.mpr ⟨p, List.mem_of_getElem? hp, rfl⟩
      have il : i < hv.length := (List.getElem?_eq_some_iff.mp hp).1
      refine go_web (c := c.pin Gl) (s := 2) (hv := hv.take i) (kn := []) (hv' := hv.take i ++ [p]) (kn' := []) rfl (by decide) (by decide) (rs := [RStr p.1, RInt p.2]) (ea_cons (ev_var (i := 3) rfl) (eaOf (ev_eq (ev_dget (ev_weights (i := 1) (hv := hv) rfl) (ev_var (i := 3) rfl) key_str (look_in hpm)) (by rw [look_at hnd hp])))) (spW_ok (I := (List (Str × Int) × List ((Str × Str) × Int)) × Str × Int) ((hv.take i, []), p) ?_) ?_
      · refine ⟨(hwb.1.2.2 _ hpm).1, fun z => ?_, by show (hv.take i).length < 8; rw [List.length_take]; omega, fun q hq => hwb.2 q (List.mem_of_mem_take hq), (hwb.2 p (List.mem_of_getElem? hp)).1, (hwb.2 p (List.mem_of_getElem? hp)).2⟩
        obtain ⟨q, hq, e⟩ := List.mem_map.mp z
        obtain ⟨j, hj⟩ := List.mem_iff_getElem?.mp hq
        rw [List.getElem?_take] at hj
        split at hj
        · have := nd_at (ns := hv.map (·.1)) hnd (i := i) (j := j) (a := p.1) (by simp [hp]) (by simp [hj, e]); omega
        · cases hj
      · intro σ G H F S
        refine ⟨_, ⟨some (im (RStr p.1)), ?_⟩, G, F, S⟩
        rw [List.take_add_one, hp]; rfl
    rintro ρ' ⟨x3, rfl⟩
    rw [show (hv.take (lS (hv.map (·.1))).length) = hv by simp]
    refine q_for (fun i ρ => ∃ kn, KPre ts kn i ∧ ∃ x4 x5 x6 x7, ρ = [some (ownAt st HState), some (im (RPlan c.K hv ts)), some (ownWeb c.K hv kn), x3, x4, x5, x6, x7]) (ei_list (ev_ties (i := 1) (hv := hv) rfl)) ⟨[], ⟨rfl, fun t h => by simp at h⟩, none, none, none, none, rfl⟩ ?_ ?_
    · rintro Gl i r ρ' hr ⟨kn, hkn, x4, x5, x6, x7, rfl⟩
      simp only [List.getElem?_map, Option.map_eq_some_iff] at hr
      obtain ⟨⟨⟨a, b⟩, x⟩, hs, rfl⟩ := hr
      have hmem := List.mem_of_getElem? hs
      have il : i < ts.length := (List.getElem?_eq_some_iff.mp hs).1
      obtain ⟨ta, tb, tne, tx1, tx2⟩ := hts.2.1 _ hmem
      refine ⟨_, _, gg_tup (c := c.pin Gl) (rs := [RStr a, RStr b, RInt x]) (ggs_cons (gg_name (by simp)) (ggs_cons (gg_name (by simp)) (ggs_cons (gg_name (by simp)) ggs_nil))) rfl, ?_⟩
      refine q_asgX (P := fun q : Str × Str => q = (a, b) ∨ q = (b, a)) (f := fun q => RLst (lS [q.1, q.2])) (by simp) (ev_op (ev_lst (ea_cons (ev_lst (ea_cons (ev_var (i := 4) (r := RStr a) rfl) (eaOf (ev_var (i := 5) (r := RStr b) rfl))) (by simp)) (eaOf (ev_lst (ea_cons (ev_var (i := 5) (r := RStr b) rfl) (eaOf (ev_var (i := 4) (r := RStr a) rfl))) (by simp)))) (by simp)) (pull (n := 2) rfl ev_int (by decide) (by decide)) (rv_ixD ⟨sub_ex (a, b) (.inl rfl) (SubR.refl _), sub_ex (b, a) (.inr rfl) (SubR.refl _), trivial⟩ (by simp))) fun q hq => ?_
      refine go_web (c := c.pin Gl) (s := 2) (hv := hv) (kn := kn) (hv' := hv) (kn' := kn ++ [(q, x)]) rfl (by decide) (by decide) (rs := [RStr q.1, RStr q.2, RInt x]) (ea_cons (ev_op (ev_var (i := 7) (r := RLst (lS [q.1, q.2])) rfl) (ev_int (i := 0)) (rv_ixL rfl)) (ea_cons (ev_op (ev_var (i := 7) (r := RLst (lS [q.1, q.2])) rfl) (ev_int (i := 1)) (rv_ixL rfl)) (eaOf (ev_var (i := 6) rfl)))) (spW_ok (I := (List (Str × Int) × List ((Str × Str) × Int)) × (Str × Str) × Int) ((hv, kn), q, x) ?_) ?_
      · refine ⟨?_, ?_, ?_, hkn.noTie hts hs hq, by show kn.length < 200; rw [hkn.1]; omega, fun t ht => ?_, tx1, tx2⟩
        · rcases hq with rfl | rfl
          · exact ta
          · exact tb
        · rcases hq with rfl | rfl
          · exact tb
          · exact ta
        · rcases hq with rfl | rfl
          · exact tne
          · exact tne.symm
        · obtain ⟨i', s', _, hs', e, _⟩ := hkn.2 t ht
          obtain ⟨_, _, _, y1, y2⟩ := hts.2.1 _ (List.mem_of_getElem? hs')
          rw [e]; exact ⟨y1, y2⟩
      · intro σ G H F S
        refine ⟨_, ⟨kn ++ [(q, x)], ⟨by rw [List.length_append, hkn.1]; rfl, fun t ht => ?_⟩, _, _, _, _, rfl⟩, G, F, S⟩
        rcases List.mem_append.mp ht with ht | ht
        · obtain ⟨i', s', l, r⟩ := hkn.2 t ht
          exact ⟨i', s', by omega, r⟩
        · obtain rfl : t = (q, x) := by simpa using ht
          exact ⟨i, _, by omega, hs, rfl, hq⟩
    · rintro ρ' ⟨kn, hkn, x4, x5, x6, x7, rfl⟩
      refine go_freezeW 2 (hv := hv) (kn := kn) rfl (by rw [hb]; simp) ?_
      exact go_retB (ev_var rfl) rfl hr) vs H Q E h
end EvC
set_option Elab.async false
set_option linter.all false
set_option maxRecDepth 100000
set_option maxHeartbeats 4000000
/-! R80i: cuttings, weights of parts, bounds, rules. -/
namespace EvC
open PySem PySem.Spec PyProof.Rows L2 DL
variable [tsp : TabSpec] {P : Program} {w : World} {K : PySem.W.Frag} {mg : Str → Option Value} {base : Heap}
theorem nm_ok {s : Str} (h : NameOk s) : PyData.strOk s = true := by
  show s.cps.all (· < 0x110000) = true
  rw [← Array.all_toList, List.all_eq_true]
  intro ch hc
  have := h.2.2 ch hc
  have e : ch ∈ abc.cps.toList := this
  rw [abc_list, List.mem_range'_1] at e
  simp only [decide_eq_true_eq]; omega
theorem nms_ok {ns : List Str} (h : NamesOk ns) : ∀ s ∈ ns, PyData.strOk s = true := fun s hs => nm_ok (h.2.2 s hs).1
theorem dSI_put {ct : List (Str × Int)} {n : Str} {x : Int} (h : n ∉ ct.map (·.1)) : putR (dSI ct) (.inr n) (RInt x) = dSI (ct ++ [(n, x)]) := by
  rw [putR_new]
  · simp [dSI]
  · intro p hp e
    obtain ⟨t, ht, rfl⟩ := List.mem_map.mp hp
    exact h (List.mem_map.mpr ⟨t, ht, Sum.inr.inj e⟩)
theorem perm_erase {α : Type} : ∀ {l : List α} {k : Nat} {n : α}, l[k]? = some n → (n :: l.eraseIdx k).Perm l
  | [], _, _, h => by simp at h
  | x :: l, 0, n, h => by cases h; exact .refl _
  | x :: l, k + 1, n, h => (List.Perm.swap x n (l.eraseIdx k)).trans ((perm_erase (l := l) (k := k) (n := n) h).cons x)
theorem map_erase {α β : Type} (f : α → β) : ∀ (l : List α) (k : Nat), (l.map f).eraseIdx k = (l.eraseIdx k).map f
  | [], _ => rfl
  | _ :: _, 0 => rfl
  | x :: l, k + 1 => by
    show f x :: (l.map f).eraseIdx k = f x :: (l.eraseIdx k).map f
    rw [map_erase f l k]
theorem len__law_cutting (vs : List V) (H : Hp) (Q : VK) (E : XK) (h : sp__law_cutting P w K vs H Q E) : vs.length = 3 := by refine spB_len (n := 2) ?_ vs H Q E h; intro i; rfl
theorem rd__law_cutting (T : Tx P w K mg base) (hT : tsp.T = tabsT K) (vs : List V) (H : Hp) (Q : VK) (E : XK) (h : sp__law_cutting P w K vs H Q E) : t__law_cutting P w K { nx := fun _ H1 => Q .non H1, rt := Q } (start N__law_cutting vs) H :=
  body_B (K := K) (fun ⟨ns, parts⟩ ⟨hns, h2, h6⟩ c D st hK hb hr hx => by
    subst hK
    dsimp only at hns h2 h6 hr
    show Go c _ [some (ownAt st HState), some (im (RLst (lS ns))), some (im (RInt parts)), none, none, none] D
    have pull : ∀ {c' : DL.Ctx} {ρ : DL.Env} {te : TE} {n : Int}, ρ[0]? = some (some (ownAt st HState)) → Ev c' te ρ (RInt n) → 0 < n → n < 1073741824 → Ev c' (tCall (sp__law_pull P w c.K) [] E0 (tCons (tVar 0) (tCons te tNil))) ρ (RDigit n) := fun h0 he h1 h2 => ev_callB (ownAt_own st HState) h0 (eaOf he) (spB_ok _ ⟨h1, h2⟩)
    have l8 := hns.1
    have sok := nms_ok hns
    refine q_asgN (by simp) (evn_cb (eaOf (ev_var (i := 1) rfl)) rn_listL) ?_
    refine q_asgN (by simp) evh_dnew ?_
    refine q_while (fun m ρ => ∃ (left : List Str) (ct : List (Str × Int)), left.length = m ∧ (ct.map (·.1) ++ left).Perm ns ∧ (∀ p ∈ ct, 0 ≤ p.2 ∧ p.2 < parts) ∧ ∃ x5, ρ = [some (ownAt st HState), some (im (RLst (lS ns))), some (im (RInt parts)), some (ownL (lS left)), some (ownD (dSI ct)), x5]) ns.length ⟨ns, [], rfl, by simp, fun p h => by simp at h, none, rfl⟩ ?_
    rintro m ρ' ⟨left, ct, hl, hp, hc, x5, rfl⟩
    have lok : ∀ s ∈ left, PyData.strOk s = true := fun s hs => sok s (hp.mem_iff.mp (List.mem_append_right _ hs))
    have hlen : ct.length + left.length = ns.length := by have := hp.length_eq; simpa using this
    refine ⟨fun b => b = !decide (left = []), et_test (ev_opO1 (P := HL (lS left)) rfl (ev_lst ea_nil (by simp)) (rv_neNilS lok) sc_bl), fun e => ?_, fun e => ?_⟩
    · have hne : left ≠ [] := by simpa using e
      have ll : 0 < left.length := List.length_pos_iff.mpr hne
      refine go_seq (go_popX (i := 3) (j := 5) (rs := lS left) rfl (by simp) (ev_op (ev_lst (ea_cons (ev_int (i := 0)) (eaOf (pull (n := ((lS left).length : Nat)) rfl (ev_cbO (P := HL (lS left)) rfl rv_lenL sc_int) (by simp; omega) (by simp; omega)))) (by simp)) (pull (n := 2) rfl ev_int (by decide) (by decide)) (rv_ixD ⟨sub_ex 0 (by simp; omega) (SubR.refl _), SubR.refl _, trivial⟩ (by simp))) (by simp; omega) fun k r hk => nx_go ?_)
      simp only [lS, List.getElem?_map, Option.map_eq_some_iff] at hk
      obtain ⟨n, hn, rfl⟩ := hk
      have kl : k < left.length := (List.getElem?_eq_some_iff.mp hn).1
      have ek : left[k] = n := (List.getElem?_eq_some_iff.mp hn).2
      have pk : (n :: left.eraseIdx k).Perm left := perm_erase hn
      have hm : (lS left).eraseIdx k = lS (left.eraseIdx k) := map_erase RStr left k
      rw [hm]
      have hnd := hp.nodup_iff.mpr hns.2.1
      have hnc : n ∉ ct.map (·.1) := fun z => (List.nodup_append.mp hnd).2.2 n z n (List.mem_of_getElem? hn) rfl
      refine go_dputX (i := 4) (kvs := dSI ct) (k := .inr n) (Pa := fun d : Int => 0 ≤ d ∧ d < parts) (f := RInt) rfl (pull (n := parts) rfl (ev_var (i := 2) rfl) (by omega) (by omega)) (ev_var (i := 5) (r := RStr n) rfl) key_str (by simp; omega) fun x hx => ?_
      rw [dSI_put hnc]
      refine nx_while (m' := (left.eraseIdx k).length) (by rw [List.length_eraseIdx_of_lt kl]; omega) ⟨left.eraseIdx k, ct ++ [(n, x)], rfl, ?_, fun p hp => ?_, _, rfl⟩
      · rw [List.map_append, List.append_assoc]
        exact (List.Perm.append_left _ pk).trans hp
      · rcases List.mem_append.mp hp with z | z
        · exact hc p z
        · obtain rfl : p = (n, x) := by simpa using z
          exact hx
    · have hne : left = [] := by simpa using e
      subst hne
      refine go_freeze 4 (P := HD (dSI ct)) rfl (by rw [hb]; simp) ?_
      exact go_retB (ev_ex ct ⟨by simpa using hp, hc⟩ (ev_var rfl)) rfl hr) vs H Q E h
/-! weights of parts -/
theorem look_mem : ∀ {ct : List (Str × Int)} {n : Str}, n ∈ ct.map (·.1) → (n, look ct n) ∈ ct
  | [], _, h => by simp at h
  | p :: ct, n, h => by
    unfold look
    rw [List.find?_cons]
    by_cases z : p.1 = n
    · rw [decide_eq_true z]; subst z; exact .head _
    · rw [decide_eq_false z]
      refine .tail _ (look_mem ?_)
      rw [List.map_cons, List.mem_cons] at h
      exact h.elim (fun y => absurd y.symm z) id
theorem look_rng {ns : List Str} {parts : Int} {ct : List (Str × Int)} {n : Str} (h : CutOk ns parts ct) (hn : n ∈ ns) : 0 ≤ look ct n ∧ look ct n < parts := h.2 _ (look_mem (h.1.mem_iff.mpr hn))
theorem look_cut {ns : List Str} {parts : Int} {ct : List (Str × Int)} {n : Str} (h : CutOk ns parts ct) (hn : n ∈ ns) : lookR (dSI ct) (.inr n) = some (RInt (look ct n)) := look_in (h.1.mem_iff.mpr hn)
theorem addAt_length {ws : List Int} {p x : Int} : (addAt ws p x).length = ws.length := by simp [addAt]
def pwAt (hv ct : List (Str × Int)) (parts : Int) (i : Nat) : List Int := (hv.take i).foldl (fun ws q => addAt ws (look ct q.1) q.2) (List.replicate parts.toNat 0)
theorem pwAt_all {hv ct : List (Str × Int)} {parts : Int} : pwAt hv ct parts hv.length = partW hv ct parts := by unfold pwAt partW; rw [List.take_length]
theorem pwAt_succ {hv ct : List (Str × Int)} {parts : Int} {i : Nat} {p : Str × Int} (h : hv[i]? = some p) : pwAt hv ct parts (i + 1) = addAt (pwAt hv ct parts i) (look ct p.1) p.2 := by
  unfold pwAt
  rw [List.take_add_one, h, List.foldl_append]; rfl
theorem foldl_len (ct : List (Str × Int)) : ∀ (hv : List (Str × Int)) (ws : List Int), (hv.foldl (fun ws q => addAt ws (look ct q.1) q.2) ws).length = ws.length
  | [], _ => rfl
  | q :: hv, ws => by rw [List.foldl_cons, foldl_len ct hv, addAt_length]
theorem pwAt_length {hv ct : List (Str × Int)} {parts : Int} {i : Nat} : (pwAt hv ct parts i).length = parts.toNat := by unfold pwAt; rw [foldl_len]; simp
theorem partW_length {hv ct : List (Str × Int)} {parts : Int} : (partW hv ct parts).length = parts.toNat := by rw [← pwAt_all, pwAt_length]
theorem lI_addAt {ws : List Int} {p x : Int} : (lI ws).set p.toNat (RInt (ws.getD p.toNat 0 + x)) = lI (addAt ws p x) := by simp [lI, addAt, List.map_set]
theorem lI_get {ws : List Int} {j : Nat} (h : j < ws.length) : (lI ws)[j]? = some (RInt (ws.getD j 0)) := by simp [lI, h, List.getD]
theorem len__law_weights (vs : List V) (H : Hp) (Q : VK) (E : XK) (h : sp__law_weights P w K vs H Q E) : vs.length = 3 := by refine spP_len (n := 3) ?_ vs H Q E h; intro i; rfl
theorem rd__law_weights (T : Tx P w K mg base) (hT : tsp.T = tabsT K) (vs : List V) (H : Hp) (Q : VK) (E : XK) (h : sp__law_weights P w K vs H Q E) : t__law_weights P w K { nx := fun _ H1 => Q .non H1, rt := Q } (start N__law_weights vs) H :=
  body_P (K := K) (fun ⟨rt, ⟨hv, ct⟩, parts⟩ ok c D hK hb hr hx => by
    subst hK
    dsimp only at ok hr
    obtain ⟨hw, hc, h2, h6⟩ := ok
    show Go c _ [some (im (RPlanT hv rt)), some (im (RInt parts)), some (im (RDSI ct)), none, none, none] D
    refine q_asgN (by simp) (evn_op (ev_lst (eaOf (ev_int (i := 0))) (by simp)) (ev_var (i := 1) rfl) (rn_rep (by omega))) ?_
    refine q_for (fun i ρ => ∃ x4 x5, ρ = [some (im (RPlanT hv rt)), some (im (RInt parts)), some (im (RDSI ct)), some (ownL (lI (pwAt hv ct parts i))), x4, x5]) (ei_list (ev_names (i := 0) rfl)) ⟨none, none, by simp [pwAt, lI]⟩ ?_ ?_
    · rintro Gl i r ρ' hr ⟨x4, x5, rfl⟩
      simp only [lS, List.getElem?_map, Option.map_eq_some_iff] at hr
      obtain ⟨n, ⟨p, hp, rfl⟩, rfl⟩ := hr
      have hpm : p.1 ∈ hv.map (·.1) := List.mem_map.mpr ⟨p, List.mem_of_getElem? hp, rfl⟩
      obtain ⟨k0, k1⟩ := look_rng hc hpm
      have kl : (look ct p.1).toNat < (pwAt hv ct parts i).length := by rw [pwAt_length]; omega
      refine ⟨_, _, gg_name (by simp), ?_⟩
      refine q_asg (by simp) (ev_dget (ev_var (i := 2) (r := RDSI ct) rfl) (ev_var (i := 4) (r := RStr p.1) rfl) key_str (look_cut hc hpm)) ?_
      refine go_setL (i := 3) (j := (look ct p.1).toNat) (rs := lI (pwAt hv ct parts i)) (r := RInt ((pwAt hv ct parts i).getD (look ct p.1).toNat 0 + p.2)) rfl (ev_op (ev_ixO (n := look ct p.1) rfl (ev_var (i := 5) rfl) (atI_int k0 (lI_get kl))) (ev_eq (ev_dget (ev_weights (i := 0) (hv := hv) rfl) (ev_var (i := 4) (r := RStr p.1) rfl) key_str (look_in hpm)) (by rw [look_at hw.1.2.1 hp])) rv_add) (ev_eq (ev_var (i := 5) (r := RInt (look ct p.1)) rfl) (by rw [Int.toNat_of_nonneg k0])) (by simpa using kl) ?_
      rw [lI_addAt, ← pwAt_succ hp]
      intro σ G H F S
      exact ⟨_, ⟨_, _, rfl⟩, G, F, S⟩
    · rintro ρ' ⟨x4, x5, rfl⟩
      rw [show (lS (hv.map (·.1))).length = hv.length by simp, pwAt_all]
      refine go_freeze 3 (P := HL (lI (partW hv ct parts))) rfl (by rw [hb]; simp) ?_
      exact go_ret (ev_var rfl) hr) vs H Q E h
/-! bounds -/
theorem len__law_tight (vs : List V) (H : Hp) (Q : VK) (E : XK) (h : sp__law_tight P w K vs H Q E) : vs.length = 4 := by refine spB_len (n := 3) ?_ vs H Q E h; intro i; rfl
theorem sub_any {i : Int} : SubR (RInt i) RAnyInt := fun v G q => ⟨i, trivial, q⟩
theorem sub_dig {p : Int → Prop} : SubR (RIntP p) RAnyInt := fun v G ⟨i, _, q⟩ => ⟨i, trivial, q⟩
theorem ev_any {c : DL.Ctx} {ρ : DL.Env} {te : TE} {r : R} (h : Ev c te ρ r) (s : SubR r RAnyInt) : Ev c te ρ RAnyInt := ev_weak h s
theorem rv_anyadd {i : Int} : RV2 oAdd (RInt i) (RIntP p) RAnyInt := fun x y G H e hx ⟨a, pa, hy⟩ Q k => rv_add x y G H e hx hy Q fun z G' H' e' q => k z G' H' e' ⟨_, trivial, q⟩
theorem rv_anysub {i : Int} : RV2 oSub (RInt i) (RIntP p) RAnyInt := fun x y G H e hx ⟨a, pa, hy⟩ Q k => rv_sub x y G H e hx hy Q fun z G' H' e' q => k z G' H' e' ⟨_, trivial, q⟩
theorem rd__law_tight (T : Tx P w K mg base) (hT : tsp.T = tabsT K) (vs : List V) (H : Hp) (Q : VK) (E : XK) (h : sp__law_tight P w K vs H Q E) : t__law_tight P w K { nx := fun _ H1 => Q .non H1, rt := Q } (start N__law_tight vs) H :=
  body_B (K := K) (fun ⟨rt, ⟨hv, ct⟩, parts⟩ ok c D st hK hb hr hx => by
    subst hK
    dsimp only at ok hr
    show Go c _ [some (ownAt st HState), some (im (RPlanT hv rt)), some (im (RInt parts)), some (im (RDSI ct)), none, none, none, none, none] D
    have pull : ∀ {c' : DL.Ctx} {ρ : DL.Env} {te : TE} {n : Int}, ρ[0]? = some (some (ownAt st HState)) → Ev c' te ρ (RInt n) → 0 < n → n < 1073741824 → Ev c' (tCall (sp__law_pull P w c.K) [] E0 (tCons (tVar 0) (tCons te tNil))) ρ (RDigit n) := fun h0 he h1 h2 => ev_callB (ownAt_own st HState) h0 (eaOf he) (spB_ok _ ⟨h1, h2⟩)
    have p2 := ok.p2
    have p6 := ok.p6
    have hne : partW hv ct parts ≠ [] := fun z => by
      have := partW_length (hv := hv) (ct := ct) (parts := parts)
      rw [z] at this
      have z2 : (0 : Nat) = parts.toNat := this
      omega
    refine q_asg (by simp) (ev_call0 (ea_cons (ev_var (i := 1) rfl) (ea_cons (ev_var (i := 2) rfl) (eaOf (ev_var (i := 3) rfl)))) (spP_ok (I := R × IW) (rt, (hv, ct), parts) ok)) ?_
    refine q_asg (by simp) (ev_op (ev_cb (eaOf (ev_var (i := 4) (r := RLst (lI (partW hv ct parts))) rfl)) rv_sum) (ev_var (i := 2) (r := RInt parts) rfl) (rv_fdiv (by omega))) ?_
    refine q_asg (r := RLst [RAnyInt, RAnyInt, RAnyInt, RAnyInt]) (by simp) (ev_lst (ea_cons (ev_any (ev_var (i := 5) rfl) sub_any) (ea_cons (ev_any (ev_op (ev_cb (eaOf (ev_var (i := 4) (r := RLst (lI (partW hv ct parts))) rfl)) (rv_min hne)) (ev_int (i := 1)) rv_add) sub_any) (ea_cons (ev_any (ev_int (i := 0)) sub_any) (eaOf (ev_op (ev_var (i := 5) rfl) (pull (n := 4) rfl ev_int (by decide) (by decide)) rv_anysub))))) (by simp)) ?_
    refine q_asgX (P := fun x : Int => 0 ≤ x) (f := RInt) (by simp) (ev_cb (ea_cons (ev_int (i := 0)) (eaOf (ev_op (ev_var (i := 6) rfl) (pull (n := 4) rfl ev_int (by decide) (by decide)) (rv_ixD (rc := RAnyInt) ⟨SubR.refl _, SubR.refl _, SubR.refl _, SubR.refl _, trivial⟩ (by simp))))) fun vs G H e q Q k => ?_) fun low hlow => ?_
    · obtain ⟨v, v2, rfl, h1, i, _, h2⟩ := reps_two q
      exact rv_max2 _ G H e (.cons h1 (.cons h2 .nil)) Q fun z G' H' e' q => k z G' H' e' ⟨max 0 i, by omega, q⟩
    refine q_asg (r := RLst [RAnyInt, RAnyInt, RAnyInt, RAnyInt]) (by simp) (ev_lst (ea_cons (ev_op (ev_var (i := 5) rfl) (pull (n := 4) rfl ev_int (by decide) (by decide)) rv_anyadd) (ea_cons (ev_any (ev_op (ev_cb (eaOf (ev_var (i := 4) (r := RLst (lI (partW hv ct parts))) rfl)) (rv_max hne)) (ev_int (i := 1)) rv_sub) sub_any) (ea_cons (ev_any (ev_cb (eaOf (ev_var (i := 4) (r := RLst (lI (partW hv ct parts))) rfl)) (rv_max hne)) sub_any) (eaOf (ev_any (ev_op (ev_var (i := 5) rfl) (ev_int (i := 1)) rv_add) sub_any))))) (by simp)) ?_
    refine q_asgX (P := fun x : Int => low ≤ x ∧ 1 ≤ x) (f := RInt) (by simp) (ev_cb (ea_cons (ev_var (i := 7) (r := RInt low) rfl) (ea_cons (ev_int (i := 1)) (eaOf (ev_op (ev_var (i := 6) rfl) (pull (n := 4) rfl ev_int (by decide) (by decide)) (rv_ixD (rc := RAnyInt) ⟨SubR.refl _, SubR.refl _, SubR.refl _, SubR.refl _, trivial⟩ (by simp)))))) fun vs G H e q Q k => ?_) fun high hhigh => ?_
    · obtain ⟨v, v2, v3, rfl, h1, h2, i, _, h3⟩ := reps_three q
      exact rv_max3 _ G H e (.cons h1 (.cons h2 (.cons h3 .nil))) Q fun z G' H' e' q => k z G' H' e' ⟨max (max low 1) i, by omega, q⟩
    have e9 : (10 : Int) ^ (9 : Int).toNat = 1000000000 := by decide
    refine go_retB (ev_ex (min low 1000000000, min high 1000000000) ⟨p2, p6, by show 0 ≤ min low 1000000000; omega, by show min low 1000000000 ≤ 1000000000; omega, by show 1 ≤ min high 1000000000; omega, by show min high 1000000000 ≤ 1000000000; omega, by show min low 1000000000 ≤ min high 1000000000; omega⟩ (ev_tup (c := c) (ea_cons (ev_cb (ea_cons (ev_var (i := 7) (r := RInt low) rfl) (eaOf (ev_eq (ev_op (ev_int (i := 10)) (ev_int (i := 9)) (rv_pow (by unfold CPow; decide))) (by rw [e9])))) rv_min2) (eaOf (ev_cb (ea_cons (ev_var (i := 8) (r := RInt high) rfl) (eaOf (ev_eq (ev_op (ev_int (i := 10)) (ev_int (i := 9)) (rv_pow (by unfold CPow; decide))) (by rw [e9])))) rv_min2))) (by simp))) rfl hr) vs H Q E h
/-! rules -/
theorem len_Rule___init__ (vs : List V) (H : Hp) (Q : VK) (E : XK) (h : sp_Rule___init__ P w K vs H Q E) : vs.length = 4 := by obtain ⟨G, a, dx, parts, lo, hi, rfl, _⟩ := h; rfl
theorem whole_ok {lo hi i : Int} (h : lo ≤ i ∧ i ≤ hi) : Wh P w K lo hi (RInt i) true := by
  have := Wh.int (P := P) (w := w) (K := K) (lo := lo) (hi := hi) i
  rw [decide_eq_true h.1, decide_eq_true h.2] at this
  exact this
theorem rd_Rule___init__ (T : Tx P w K mg base) (hT : tsp.T = tabsT K) (vs : List V) (H : Hp) (Q : VK) (E : XK) (h : sp_Rule___init__ P w K vs H Q E) : t_Rule___init__ P w K { nx := fun _ H1 => Q .non H1, rt := Q } (start N_Rule___init__ vs) H := by
  obtain ⟨G, a, dx, parts, lo, hi, rfl, e, ha, ga, ok, fin⟩ := h
  have go : Go ⟨K, noB, G, H, [], []⟩ (t_Rule___init__ P w K) [some (im (RRef a)), some (im (RInt parts)), some (im (RInt lo)), some (im (RInt hi))] { nx := fun _ H1 => Q .non H1, rt := Q } := by
    refine q_no (et_not (et_B (ev_call0 (ea_cons (ev_var (i := 1) (r := RInt parts) rfl) (ea_cons ev_int (eaOf ev_int))) (spP_ok (I := R × Int × Int × Bool) (RInt parts, 2, 6, true) (whole_ok ⟨ok.p2, ok.p6⟩))))) rfl ?_
    refine q_no (et_not (et_B (ev_call0 (ea_cons (ev_var (i := 2) (r := RInt lo) rfl) (ea_cons ev_int (eaOf ev_int))) (spP_ok (I := R × Int × Int × Bool) (RInt lo, 0, 1000000000, true) (whole_ok ⟨ok.l0, ok.l9⟩))))) rfl ?_
    refine q_no (et_not (et_B (ev_call0 (ea_cons (ev_var (i := 3) (r := RInt hi) rfl) (ea_cons (ev_cb (ea_cons (ev_int (i := 1)) (eaOf (ev_var (i := 2) (r := RInt lo) rfl))) rv_max2) (eaOf ev_int))) (spP_ok (I := R × Int × Int × Bool) (RInt hi, max 1 lo, 1000000000, true) (whole_ok ⟨by show max 1 lo ≤ hi; have := ok.h1; have := ok.lh; omega, ok.h9⟩))))) rfl ?_
    intro σ G1 H1 F1 S
    obtain ⟨v0, s0, rfl, _⟩ := S.at_ 0 _ rfl
    obtain ⟨v1, s1, rfl, _⟩ := S.at_ 1 _ rfl
    obtain ⟨v2, s2, rfl, _⟩ := S.at_ 2 _ rfl
    obtain ⟨v3, s3, rfl, _⟩ := S.at_ 3 _ rfl
    have h1 : H1 a = some (.ins (He.ga K "Rule") dx []) := S.ext.keep a _ (fun z => z) (fun _ z => by cases z) ha
    refine ⟨_, s1, _, s0, a, _, dx, [], rfl, h1, k_Rule T, na_Rule_parts T, by decide, ?_⟩
    refine ⟨_, s2, _, s0, a, _, dx, _, rfl, upd_same, k_Rule T, na_Rule_low T, by show 1 < 1000; decide, ?_⟩
    refine ⟨_, s3, _, s0, a, _, dx, _, rfl, upd_same, k_Rule T, na_Rule_high T, by show 2 < 1000; decide, ?_⟩
    refine fin _ ⟨rfl, rfl, rfl⟩ _ (fun b o nb nt z => ?_) (fun b z => ?_) ?_ upd_same
    · rw [upd_ne nb, upd_ne nb, upd_ne nb]; exact S.ext.keep b o (fun z => z) nt z
    · by_cases y : b = a
      · subst y; rw [upd_same] at z; cases z
      · rw [upd_ne y, upd_ne y, upd_ne y] at z; exact S.ext.live b z
    · exact tab_put2 upd_same (show Dat2 (HO.ins _ _ _) from trivial) (tab_put2 upd_same (show Dat2 (HO.ins _ _ _) from trivial) (tab_put2 h1 trivial S.le.tb))
  exact go _ _ _ _ (Sta.start (rs := [RRef a, RInt parts, RInt lo, RInt hi]) (N := N_Rule___init__) e (.cons rfl (.cons rfl (.cons rfl (.cons rfl .nil)))))
section
variable {c : DL.Ctx} {ρ : DL.Env} {D : Ends} {u : TS} {s : Nat} {tas : TA} {parts lo hi : Int}
/-- Rule(..) -/
theorem q_mkRule (hs : s < ρ.length) (ha : EvA c tas ρ [RInt parts, RInt lo, RInt hi]) (ok : RlOk parts lo hi) (kx : Go c u (ρ.set s (some (im (RRule K parts lo hi)))) D) : Go c (tSeq (tAsg (tMake (He.ga K "Rule") (sp_Rule___init__ P w K) [] E0 tas) (gName s)) u) ρ D := go_seq fun σ G H F S => by
  refine ha σ G H F S _ fun vs G1 H1 F1 S1 n1 q => ?_
  obtain ⟨v1, v2, v3, rfl, rfl, rfl, rfl⟩ := reps_three q
  intro x dx hx hdx ne
  have gn : ∀ b, H1 b = none → G1 b = none := fun b e => by
    cases z : G1 b with
    | none => rfl
    | some o => rw [S1.le _ _ z] at e; cases e
  have e0 : Le G1 (upd (upd H1 dx (.own x)) x (.ins (He.ga K "Rule") dx [])) := ⟨fun b o z => by
    have n1 : b ≠ x := fun y => by subst y; rw [gn b hx] at z; cases z
    have n2 : b ≠ dx := fun y => by subst y; rw [gn b hdx] at z; cases z
    rw [upd_ne n1, upd_ne n2]; exact S1.le _ _ z, S1.le.nt, tab_new (by rw [upd_ne ne.symm]; exact hx) (tab_new hdx S1.le.tb)⟩
  refine ⟨G1, x, dx, parts, lo, hi, rfl, e0, upd_same, gn x hx, ok, fun fs hf H' keep live tab hH => ⟨rfl, ?_⟩⟩
  have up : ∀ b o, (∀ ps, o ≠ .tbl ps) → H1 b = some o → H' b = some o := fun b o nt e => by
    have n1 : b ≠ x := ne_of_none e hx
    have n2 : b ≠ dx := ne_of_none e hdx
    exact keep b o n1 nt (by rw [upd_ne n1, upd_ne n2]; exact e)
  have X : Ext noB G1 H1 (upd G1 x (.ins (He.ga K "Rule") dx fs)) H' := {
    keep := fun b o _ nt e => up b o nt e
    live := fun b e => by
      have z := live b e
      by_cases n1 : b = x
      · rw [n1]; exact hx
      · rw [upd_ne n1] at z
        by_cases n2 : b = dx
        · rw [n2]; exact hdx
        · rw [upd_ne n2] at z; exact z
    sub := same_upd (gn x hx)
    le := ⟨fun b o e => by
      by_cases y : b = x
      · subst y; rw [upd_same] at e; rw [← e]; exact hH
      · rw [upd_ne y] at e; exact up _ _ (fun ps z => by subst z; exact S1.le.nt b ps e) (S1.le _ _ e), S1.le.nt.upd (fun _ z => by cases z), tab⟩
    new := fun b h1 g => by rw [upd_ne (fun z => by subst z; exact h1 hx)]; exact g
    tab := fun _ => tab }
  exact kx _ _ _ _ ((S1.step X).set hs ⟨x, dx, fs, rfl, upd_same, hf⟩)
end
end EvC
set_option Elab.async false
set_option linter.all false
set_option maxRecDepth 100000
set_option maxHeartbeats 4000000
/-! R80j: sums, wastes, the heaviest. -/
namespace EvC
open PySem PySem.Spec PyProof.Rows L2 DL
variable [tsp : TabSpec] {P : Program} {w : World} {K : PySem.W.Frag} {mg : Str → Option Value} {base : Heap}
theorem fld_parts {parts lo hi : Int} : HasFld (He.ga K "Rule") "parts" (RRule K parts lo hi) (RInt parts) := fun v G ⟨a, dx, fs, e, i, h⟩ => ⟨a, dx, fs, .int parts, e, i, h.1, rfl⟩
theorem fld_low {parts lo hi : Int} : HasFld (He.ga K "Rule") "low" (RRule K parts lo hi) (RInt lo) := fun v G ⟨a, dx, fs, e, i, h⟩ => ⟨a, dx, fs, .int lo, e, i, h.2.1, rfl⟩
theorem fld_high {parts lo hi : Int} : HasFld (He.ga K "Rule") "high" (RRule K parts lo hi) (RInt hi) := fun v G ⟨a, dx, fs, e, i, h⟩ => ⟨a, dx, fs, .int hi, e, i, h.2.2, rfl⟩
/-- web.weight(name), web.names() -/
theorem ev_weight {c : DL.Ctx} {ρ : DL.Env} {i : Nat} {te : TE} {rw : R} {hv : List (Str × Int)} {n : Str} (h : ρ[i]? = some (some (im rw))) (hw : IsWeb c.K hv rw) (hn : Ev c te ρ (RStr n)) (hm : n ∈ hv.map (·.1)) : Ev c (tMeth (He.ga c.K "Web") "weight" (sp_Web_weight P w c.K) [] E0 (tVar i) (tCons te tNil)) ρ (RInt (look hv n)) :=
  ev_meth0 (ev_var h) (hw.ins _ (by decide) (by decide)) (eaOf hn) (spP_ok (I := R × List (Str × Int) × Str) (rw, hv, n) ⟨hw, hm⟩)
theorem ev_wnames {c : DL.Ctx} {ρ : DL.Env} {i : Nat} {rw : R} {hv : List (Str × Int)} (h : ρ[i]? = some (some (im rw))) (hw : IsWeb c.K hv rw) : Ev c (tMeth (He.ga c.K "Web") "names" (sp_Web_names P w c.K) [] E0 (tVar i) tNil) ρ (RLst (lS (hv.map (·.1)))) :=
  ev_meth0 (ev_var h) (hw.ins _ (by decide) (by decide)) ea_nil (spP_ok (I := R × List (Str × Int)) (rw, hv) hw)
theorem len_weight_sum (vs : List V) (H : Hp) (Q : VK) (E : XK) (h : sp_weight_sum P w K vs H Q E) : vs.length = 2 := by refine spP_len (n := 2) ?_ vs H Q E h; intro i; rfl
/-- an element of a list of texts -/
theorem lS_at {ns : List Str} {i : Nat} {r : R} (h : (lS ns)[i]? = some r) : ∃ n, ns[i]? = some n ∧ r = RStr n := by
  simp only [lS, List.getElem?_map, Option.map_eq_some_iff] at h
  obtain ⟨n, hn, rfl⟩ := h
  exact ⟨n, hn, rfl⟩
theorem rd_weight_sum (T : Tx P w K mg base) (hT : tsp.T = tabsT K) (vs : List V) (H : Hp) (Q : VK) (E : XK) (h : sp_weight_sum P w K vs H Q E) : t_weight_sum P w K { nx := fun _ H1 => Q .non H1, rt := Q } (start N_weight_sum vs) H :=
  body_P (K := K) (fun ⟨rw, hv, ns⟩ ⟨hw, hm, hl⟩ c D hK hb hr hx => by
    subst hK
    dsimp only at hw hm hl hr
    show Go c _ [some (im rw), some (im (RLst (lS ns))), none] D
    have e := evn_map (c := c) (ρ := [some (im rw), some (im (RLst (lS ns))), none]) (j := 2) (rs' := lI (ns.map (look hv))) (te := tMeth (He.ga c.K "Web") "weight" (sp_Web_weight P w c.K) [] E0 (tVar 0) (tCons (tVar 2) tNil)) rfl (ei_list (rs := lS ns) (ev_var (i := 1) rfl)) (by simp) (by simp; omega) fun Gl i r hr => by
      obtain ⟨n, hn, rfl⟩ := lS_at hr
      exact ⟨RInt (look hv n), by simp [hn], ev_weight (c := c.pin Gl) (i := 0) rfl hw (ev_var (i := 2) rfl) (hm n (List.mem_of_getElem? hn))⟩
    exact go_ret (ev_cb (eaOf (evn_ev e)) rv_sum) hr) vs H Q E h
theorem len_waste_by (vs : List V) (H : Hp) (Q : VK) (E : XK) (h : sp_waste_by P w K vs H Q E) : vs.length = 2 := by refine spP_len (n := 2) ?_ vs H Q E h; intro i; rfl
theorem lI_at {ns : List Int} {i : Nat} {r : R} (h : (lI ns)[i]? = some r) : ∃ n, ns[i]? = some n ∧ r = RInt n := by
  simp only [lI, List.getElem?_map, Option.map_eq_some_iff] at h
  obtain ⟨n, hn, rfl⟩ := h
  exact ⟨n, hn, rfl⟩
theorem rd_waste_by (T : Tx P w K mg base) (hT : tsp.T = tabsT K) (vs : List V) (H : Hp) (Q : VK) (E : XK) (h : sp_waste_by P w K vs H Q E) : t_waste_by P w K { nx := fun _ H1 => Q .non H1, rt := Q } (start N_waste_by vs) H :=
  body_P (K := K) (fun ⟨⟨parts, lo, hi⟩, ws⟩ hl c D hK hb hr hx => by
    subst hK
    dsimp only at hl hr
    show Go c _ [some (im (RRule c.K parts lo hi)), some (im (RLst (lI ws))), none] D
    have e := evn_map (c := c) (ρ := [some (im (RRule c.K parts lo hi)), some (im (RLst (lI ws))), none]) (j := 2) (rs' := lI (ws.map fun x => max 0 (x - hi) + max 0 (lo - x))) (te := tOp oAdd (tCB rMax2 (tCons (tC (.int 0)) (tCons (tOp oSub (tVar 2) (tFld c.K (tVar 0) "high")) tNil))) (tCB rMax2 (tCons (tC (.int 0)) (tCons (tOp oSub (tFld c.K (tVar 0) "low") (tVar 2)) tNil)))) rfl (ei_list (rs := lI ws) (ev_var (i := 1) rfl)) (by simp) (by simp; omega) fun Gl i r hr => by
      obtain ⟨n, hn, rfl⟩ := lI_at hr
      exact ⟨RInt _, by simp [hn], ev_op (ev_cb (ea_cons (ev_int (i := 0)) (eaOf (ev_op (ev_var (i := 2) (r := RInt n) rfl) (ev_fld (c := c.pin Gl) (ev_var (i := 0) rfl) fld_high (k_Rule T) (na_Rule_high T)) rv_sub))) rv_max2) (ev_cb (ea_cons (ev_int (i := 0)) (eaOf (ev_op (ev_fld (c := c.pin Gl) (ev_var (i := 0) rfl) fld_low (k_Rule T) (na_Rule_low T)) (ev_var (i := 2) (r := RInt n) rfl) rv_sub))) rv_max2) rv_add⟩
    exact go_ret (ev_cb (eaOf (evn_ev e)) rv_sum) hr) vs H Q E h
theorem len__law_waste (vs : List V) (H : Hp) (Q : VK) (E : XK) (h : sp__law_waste P w K vs H Q E) : vs.length = 2 := by refine spP_len (n := 2) ?_ vs H Q E h; intro i; rfl
theorem rd__law_waste (T : Tx P w K mg base) (hT : tsp.T = tabsT K) (vs : List V) (H : Hp) (Q : VK) (E : XK) (h : sp__law_waste P w K vs H Q E) : t__law_waste P w K { nx := fun _ H1 => Q .non H1, rt := Q } (start N__law_waste vs) H :=
  body_P (K := K) (fun ⟨⟨lo, hi⟩, ws⟩ hl c D hK hb hr hx => by
    subst hK
    dsimp only at hl hr
    show Go c _ [some (im (RLst (lI ws))), some (im (RTup c.K [RInt lo, RInt hi])), none] D
    have e := evn_map (c := c) (ρ := [some (im (RLst (lI ws))), some (im (RTup c.K [RInt lo, RInt hi])), none]) (j := 2) (rs' := lI (ws.map fun x => max 0 (x - hi) + max 0 (lo - x))) (te := tOp oAdd (tCB rMax2 (tCons (tC (.int 0)) (tCons (tOp oSub (tVar 2) (tOp (rIxT c.K) (tVar 1) (tC (.int 1)))) tNil))) (tCB rMax2 (tCons (tC (.int 0)) (tCons (tOp oSub (tOp (rIxT c.K) (tVar 1) (tC (.int 0))) (tVar 2)) tNil)))) rfl (ei_list (rs := lI ws) (ev_var (i := 0) rfl)) (by simp) (by simp; omega) fun Gl i r hr => by
      obtain ⟨n, hn, rfl⟩ := lI_at hr
      exact ⟨RInt _, by simp [hn], ev_op (ev_cb (ea_cons (ev_int (i := 0)) (eaOf (ev_op (ev_var (i := 2) (r := RInt n) rfl) (ev_op (ev_var (i := 1) rfl) ev_int (rv_ixT rfl)) rv_sub))) rv_max2) (ev_cb (ea_cons (ev_int (i := 0)) (eaOf (ev_op (ev_op (ev_var (i := 1) rfl) ev_int (rv_ixT rfl)) (ev_var (i := 2) (r := RInt n) rfl) rv_sub))) rv_max2) rv_add⟩
    exact go_ret (ev_cb (eaOf (evn_ev e)) rv_sum) hr) vs H Q E h
/-! the heaviest, by a key -/
theorem sortZ_heavy {hv : List (Str × Int)} {ns : List Str} : sortZ (ns.map fun n => 0 - look hv n) (ns.map V.str) = (heavyL hv ns).map V.str := by
  unfold sortZ heavyL
  have e : (ns.map fun n => 0 - look hv n).zip (ns.map V.str) = (ns.map fun n => (0 - look hv n, n)).map fun p => (p.1, V.str p.2) := by
    rw [List.map_map]
    induction ns with
    | nil => rfl
    | cons n ns ih => simp only [List.map_cons, List.zip_cons_cons, ih]; rfl
  rw [e, ← List.map_mergeSort (r := fun a b : Int × Str => decide (a.1 ≤ b.1)) fun a _ b _ => rfl, List.map_map, List.map_map]
  rfl
theorem len_heaviest (vs : List V) (H : Hp) (Q : VK) (E : XK) (h : sp_heaviest P w K vs H Q E) : vs.length = 3 := by refine spN_len (n := 3) ?_ vs H Q E h; intro i; rfl
theorem turns_heavy {c : DL.Ctx} {ρ : DL.Env} {σ : L2.St} {rw : R} {hv : List (Str × Int)} {cc : Addr} {q : Str} (hw : IsWeb c.K hv rw) (h0 : ρ[0]? = some (some (im rw))) : ∀ (ns : List Str) (G H : Hp) (F : Nat → Addr → Prop), (∀ n ∈ ns, n ∈ hv.map (·.1)) → Sta c ρ σ G H F → H cc = some (LamX.CodeO cc q) → ∀ Q : List Int → Hp → Prop,
    (∀ G' H', Sta c ρ σ G' H' F → Nxt G H F G' H' F → Q (ns.map fun n => 0 - look hv n) H') →
    turnsG (fun x H' Q' => H' cc = some (LamX.CodeO cc q) ∧ (tOp oSub (tC (.int 0)) (tMeth (He.ga c.K "Web") "weight" (sp_Web_weight P w c.K) [] E0 (tVar 1) (tCons (tVar 0) tNil))) (NdefX.startF ["name", "web"] [x] ([0].map (NdefX.slotAt σ))) H' Q') (ns.map V.str) H Q
  | [], G, H, F, _, S, _, Q, k => k G H S (Nxt.refl _ _ _)
  | n :: ns, G, H, F, hm, S, hc, Q, k => by
    obtain ⟨v, s0, qv, _⟩ := S.at_ 0 _ h0
    refine ⟨hc, ?_⟩
    have es : NdefX.startF ["name", "web"] [V.str n] ([0].map (NdefX.slotAt σ)) = L2.start ["name", "web"] [V.str n, v] := by
      show [some (V.str n)] ++ ([NdefX.slotAt σ 0] ++ List.replicate _ none) = _
      rw [show NdefX.slotAt σ 0 = some v by unfold NdefX.slotAt; rw [s0]]
      rfl
    rw [es]
    have S0 := Sta.start (K := c.K) (rs := [RStr n, rw]) (N := ["name", "web"]) S.le (.cons rfl (.cons qv .nil))
    have ev : Ev ⟨c.K, noB, G, H, [], []⟩ (tOp oSub (tC (.int 0)) (tMeth (He.ga c.K "Web") "weight" (sp_Web_weight P w c.K) [] E0 (tVar 1) (tCons (tVar 0) tNil))) [some (im (RStr n)), some (im rw)] (RInt (0 - look hv n)) :=
      ev_op (ev_int (i := 0)) (ev_weight (c := ⟨c.K, noB, G, H, [], []⟩) (i := 1) rfl hw (ev_var (i := 0) rfl) (hm n (.head _))) rv_sub
    refine ev _ _ _ _ S0 _ fun z G1 H1 F1 S1 n1 qz => ⟨_, qz, ?_⟩
    have x : Ext noB G H G1 H1 := S1.ext
    refine turns_heavy hw h0 ns G1 H1 F (fun m hm' => hm m (.tail _ hm')) (S.step x) (x.keep _ _ (fun z => z) (fun _ z => by cases z) hc) _ fun G2 H2 S2 n2 => ?_
    exact k G2 H2 S2 ((Nxt.of x).trans n2)
theorem evn_heavyL {c : DL.Ctx} {ρ : DL.Env} {rw : R} {hv : List (Str × Int)} {ns : List Str} {q : Str} (hw : IsWeb c.K hv rw) (h0 : ρ[0]? = some (some (im rw))) (h1 : ρ[1]? = some (some (im (RLst (lS ns))))) (hm : ∀ n ∈ ns, n ∈ hv.map (·.1)) (hT : tsp.T = tabsT c.K) :
    EvN c (tSortL c.K (tabsT c.K) q ["name", "web"] [0] (tCons (tVar 1) tNil) (tOp oSub (tC (.int 0)) (tMeth (He.ga c.K "Web") "weight" (sp_Web_weight P w c.K) [] E0 (tVar 1) (tCons (tVar 0) tNil)))) ρ (lS (heavyL hv ns)) := fun σ G H F S Q k => by
  refine eaOf (ev_var (i := 1) (r := RLst (lS ns)) h1) σ G H F S _ fun vs G1 H1 F1 S1 n1 qs => ?_
  obtain ⟨v, rfl, qv⟩ := reps_one qs
  obtain ⟨a, xs, rfl, e1, e2⟩ := RLst.out qv
  obtain rfl := reps_strs e2
  refine ⟨a, _, rfl, by rw [← hT]; exact S1.le.tb, .of (S1.le _ _ e1), fun cc H2 ln => ?_⟩
  have x : Ext noB G1 H1 G1 H2 := ⟨fun b o _ nt e => ln.ext b o e nt, ln.live, Same.refl _, ⟨fun b o e => ln.ext b o (S1.le _ _ e) (fun ps z => by subst z; exact S1.le.nt b ps e), S1.le.nt, by rw [hT]; exact ln.tabs⟩, fun _ _ g => g, fun _ => by rw [hT]; exact ln.tabs⟩
  have S2 := S1.step x
  refine turns_heavy (c := c) (ρ := ρ) (σ := σ) hw h0 ns G1 H2 F1 hm S2 ln.code _ fun G3 H3 S3 n3 _ l hl => ?_
  rw [sortZ_heavy]
  exact evh_new (P := HL (lS (heavyL hv ns))) S3 (n1.trans ((Nxt.of x).trans n3)) hl ⟨_, rfl, strs_reps _⟩ k
theorem rd_heaviest (T : Tx P w K mg base) (hT : tsp.T = tabsT K) (vs : List V) (H : Hp) (Q : VK) (E : XK) (h : sp_heaviest P w K vs H Q E) : t_heaviest P w K { nx := fun _ H1 => Q .non H1, rt := Q } (start N_heaviest vs) H :=
  body_N (K := K) (fun ⟨rw, hv, ns, m⟩ ⟨hw, hm, hl, h0⟩ c D hK hb hr => by
    subst hK
    dsimp only at hw hm hl h0 hr
    show Go c _ [some (im rw), some (im (RLst (lS ns))), some (im (RInt m))] D
    refine go_retN' (P := HL (lS (heavyOf hv ns m))) ?_ hr
    have e := evn_take (c := c) (ρ := [some (im rw), some (im (RLst (lS ns))), some (im (RInt m))]) (evn_ev (evn_heavyL (P := P) (w := w) (q := (("heaviest" : Str) ++ ".<locals>.") ++ "<lambda>") hw rfl rfl hm hT)) (ev_var (i := 2) (r := RInt m) rfl) h0
    rw [show (lS (heavyL hv ns)).take m.toNat = lS (heavyOf hv ns m) by simp [lS, heavyOf, List.map_take]] at e
    exact e) vs H Q E h
/-! the heaviest, by pairs -/
def idxN (hv : List (Str × Int)) (n : Str) : Nat := (hv.map (·.1)).idxOf n
theorem idxOf_nd : ∀ {l : List Str} {i : Nat} {a : Str}, l.Nodup → l[i]? = some a → l.idxOf a = i
  | [], _, _, _, h => by simp at h
  | x :: l, 0, a, _, h => by cases h; simp
  | x :: l, i + 1, a, nd, h => by
    rw [List.nodup_cons] at nd
    have hm : a ∈ l := List.mem_of_getElem? (show l[i]? = some a from h)
    have ne : (x == a) = false := beq_false_of_ne fun e => nd.1 (by rw [e]; exact hm)
    rw [List.idxOf_cons, ne, idxOf_nd nd.2 (show l[i]? = some a from h)]; rfl
theorem idx_pw {l : List Str} (nd : l.Nodup) : l.Pairwise fun a b => l.idxOf a < l.idxOf b := by
  refine List.pairwise_iff_getElem.mpr fun i j hi hj hij => ?_
  rw [idxOf_nd nd (List.getElem?_eq_getElem hi), idxOf_nd nd (List.getElem?_eq_getElem hj)]; exact hij
theorem two_sub {α : Type} : ∀ {l : List α} {x y : α}, x ∈ l → y ∈ l → x ≠ y → [x, y].Sublist l ∨ [y, x].Sublist l
  | [], _, _, h, _, _ => by cases h
  | z :: l, x, y, hx, hy, ne => by
    cases hx with
    | head =>
      cases hy with
      | head => exact absurd rfl ne
      | tail _ hy => exact .inl ((List.singleton_sublist.mpr hy).cons_cons _)
    | tail _ hx =>
      cases hy with
      | head => exact .inr ((List.singleton_sublist.mpr hx).cons_cons _)
      | tail _ hy => exact (two_sub hx hy ne).imp (fun s => s.cons _) fun s => s.cons _
theorem no_both {α : Type} : ∀ {l : List α} {x y : α}, l.Nodup → [x, y].Sublist l → ¬ [y, x].Sublist l
  | [], _, _, _, h, _ => by cases h
  | z :: l, x, y, nd, h, h2 => by
    rw [List.nodup_cons] at nd
    cases h with
    | cons _ h =>
      cases h2 with
      | cons _ h2 => exact no_both nd.2 h h2
      | cons_cons _ h2 => exact nd.1 (h.subset (by simp))
    | cons_cons _ h =>
      cases h2 with
      | cons _ h2 => exact nd.1 (h2.subset (by simp))
      | cons_cons _ h2 => exact nd.1 (h.subset (by simp))
def keyL (hv : List (Str × Int)) (n : Str) : Int × Int := (0 - look hv n, (idxN hv n : Nat))
theorem le_tr : ∀ (a b c : Int × Str), (fun a b : Int × Str => decide (a.1 ≤ b.1)) a b = true → (fun a b : Int × Str => decide (a.1 ≤ b.1)) b c = true → (fun a b : Int × Str => decide (a.1 ≤ b.1)) a c = true := fun a b c h1 h2 => by
  have h1 := of_decide_eq_true h1
  have h2 := of_decide_eq_true h2
  exact decide_eq_true (Int.le_trans h1 h2)
theorem le_tot : ∀ (a b : Int × Str), ((fun a b : Int × Str => decide (a.1 ≤ b.1)) a b || (fun a b : Int × Str => decide (a.1 ≤ b.1)) b a) = true := fun a b => by
  rcases Int.le_total a.1 b.1 with h | h
  · simp [h]
  · simp [h]
theorem heavyL_perm {hv : List (Str × Int)} {ns : List Str} : (heavyL hv ns).Perm ns := by
  unfold heavyL
  have := (List.mergeSort_perm (ns.map fun n => (0 - look hv n, n)) fun a b => decide (a.1 ≤ b.1)).map (·.2)
  rw [List.map_map] at this
  have e : ns.map ((fun p : Int × Str => p.2) ∘ fun n => (0 - look hv n, n)) = ns := by
    show ns.map (fun n => n) = ns
    simp
  rwa [e] at this
theorem heavyL_sorted {hv : List (Str × Int)} {ns : List Str} (nd : (hv.map (·.1)).Nodup) (hs : ns.Sublist (hv.map (·.1))) : ((heavyL hv ns).map (keyL hv)).Pairwise fun x y => SrtO.lexB y x = false := by
  have ndn : ns.Nodup := hs.nodup nd
  have ndL : (ns.map fun n => (0 - look hv n, n)).Nodup := List.pairwise_map.mpr (ndn.imp fun {a b} h e => h (Prod.mk.inj e).2)
  have pm := List.mergeSort_perm (ns.map fun n => (0 - look hv n, n)) fun a b => decide (a.1 ≤ b.1)
  have ndM := pm.nodup_iff.mpr ndL
  have st := List.pairwise_mergeSort le_tr le_tot (ns.map fun n => (0 - look hv n, n))
  have ip : ns.Pairwise fun a b => idxN hv a < idxN hv b := (idx_pw nd).sublist hs
  have main : ((ns.map fun n => (0 - look hv n, n)).mergeSort fun a b => decide (a.1 ≤ b.1)).Pairwise fun x y => x.1 < y.1 ∨ (x.1 = y.1 ∧ idxN hv x.2 < idxN hv y.2) := by
    refine List.pairwise_iff_forall_sublist.mpr fun {x y} hxy => ?_
    have h1 : x.1 ≤ y.1 := of_decide_eq_true ((List.pairwise_iff_forall_sublist.mp st) hxy)
    rcases Int.lt_or_eq_of_le h1 with h2 | h2
    · exact .inl h2
    refine .inr ⟨h2, ?_⟩
    have hx : x ∈ ns.map fun n => (0 - look hv n, n) := pm.mem_iff.mp (hxy.subset (by simp))
    have hy : y ∈ ns.map fun n => (0 - look hv n, n) := pm.mem_iff.mp (hxy.subset (by simp))
    have ne : x ≠ y := (List.pairwise_iff_forall_sublist.mp ndM) hxy
    have ipL : (ns.map fun n => (0 - look hv n, n)).Pairwise fun a b => idxN hv a.2 < idxN hv b.2 := List.pairwise_map.mpr ip
    rcases two_sub hx hy ne with s | s
    · exact (List.pairwise_iff_forall_sublist.mp ipL) s
    · have := List.pair_sublist_mergeSort le_tr le_tot (a := y) (b := x) (decide_eq_true (by omega)) s
      exact absurd this (no_both ndM hxy)
  have fst : ∀ x ∈ ((ns.map fun n => (0 - look hv n, n)).mergeSort fun a b => decide (a.1 ≤ b.1)), x.1 = 0 - look hv x.2 := fun x hx => by
    obtain ⟨n, _, rfl⟩ := List.mem_map.mp (pm.mem_iff.mp hx)
    rfl
  unfold heavyL
  rw [List.map_map]
  refine List.pairwise_map.mpr ?_
  refine List.Pairwise.imp_of_mem (fun {x y} hx hy h => ?_) main
  refine SrtO.lexB_no.mpr ?_
  show ¬ ((keyL hv y.2).1 < (keyL hv x.2).1 ∨ ((keyL hv y.2).1 = (keyL hv x.2).1 ∧ (keyL hv y.2).2 < (keyL hv x.2).2))
  have e1 := fst x hx
  have e2 := fst y hy
  unfold keyL
  dsimp only
  omega
/-- pairs of whole numbers, each a tuple of its own -/
abbrev RPr (p : Int × Int) : R := RTp [RInt p.1, RInt p.2]
def kOf (G : Hp) : V → Int × Int
  | .ref t => match G t with
    | some (.tup [.int a, .int b]) => (a, b)
    | _ => (0, 0)
  | _ => (0, 0)
theorem pr_out {p : Int × Int} {v : V} {G : Hp} (h : (RPr p).p v G) : ∃ t, v = .ref t ∧ G t = some (.tup [.int p.1, .int p.2]) := by
  obtain ⟨t, xs, rfl, h1, h2⟩ := h
  obtain ⟨v1, v2, rfl, e1, e2⟩ := reps_two h2
  rw [show v1 = _ from e1, show v2 = _ from e2] at h1
  exact ⟨t, rfl, h1⟩
theorem k_pr {p : Int × Int} {v : V} {G : Hp} (h : (RPr p).p v G) : kOf G v = p := by
  obtain ⟨t, rfl, h'⟩ := pr_out h
  unfold kOf
  dsimp only
  rw [h']
theorem reps_pr {ps : List (Int × Int)} {xs : List V} {G : Hp} (h : Reps (ps.map RPr) xs G) : xs.map (kOf G) = ps ∧ ∀ x ∈ xs, (RPr (kOf G x)).p x G := by
  induction ps generalizing xs with
  | nil => cases h; exact ⟨rfl, fun _ h => nomatch h⟩
  | cons p ps ih =>
    cases h with
    | cons q t =>
      obtain ⟨e, f⟩ := ih t
      refine ⟨by rw [List.map_cons, e, k_pr q], fun x hx => ?_⟩
      cases hx with
      | head => rw [k_pr q]; exact q
      | tail _ hx => exact f x hx
theorem pr_reps {G : Hp} : ∀ {ys : List V}, (∀ y ∈ ys, (RPr (kOf G y)).p y G) → Reps ((ys.map (kOf G)).map RPr) ys G
  | [], _ => .nil
  | y :: ys, h => .cons (h y (.head _)) (pr_reps fun z hz => h z (.tail _ hz))
theorem lex_uniq {l m : List (Int × Int)} (hl : l.Pairwise fun x y => SrtO.lexB y x = false) (hm : m.Pairwise fun x y => SrtO.lexB y x = false) (hp : l.Perm m) : l = m := by
  have O : SrtO.Swo SrtO.lexB := ⟨fun x y h => by
    have a := SrtO.lexB_iff.mp h
    refine SrtO.lexB_no.mpr ?_; omega, fun x y z h1 h2 => by
    have a := SrtO.lexB_no.mp h1
    have b := SrtO.lexB_no.mp h2
    refine SrtO.lexB_no.mpr ?_; omega⟩
  refine SrtO.stb_uniq O hl hm ⟨hp, fun x => ?_⟩
  have pf := hp.filter (SrtO.eqv SrtO.lexB x)
  have all : ∀ k : List (Int × Int), ∀ y ∈ k.filter (SrtO.eqv SrtO.lexB x), y = x := fun k y hy => by
    obtain ⟨e1, e2⟩ := SrtO.eqv_iff.mp (List.mem_filter.mp hy).2
    have a := SrtO.lexB_no.mp e1
    have b := SrtO.lexB_no.mp e2
    exact Prod.ext (by omega) (by omega)
  rw [List.eq_replicate_iff.mpr ⟨rfl, all l⟩, List.eq_replicate_iff.mpr ⟨rfl, all m⟩, pf.length_eq]
theorem rn_sortedPO {ps qs : List (Int × Int)} (hs : qs.Pairwise fun x y => SrtO.lexB y x = false) (hp : qs.Perm ps) : RVcN (rSortedPO K) [RLst (ps.map RPr)] (qs.map RPr) := fun vs G H e q Q k => by
  obtain ⟨v, rfl, q1⟩ := reps_one q
  obtain ⟨a, xs, rfl, h1, h2⟩ := RLst.out q1
  obtain ⟨ek, ef⟩ := reps_pr h2
  refine ⟨a, xs, kOf G, rfl, .of (e _ _ h1), fun x hx => ?_, fun ys p sy st hpn => ?_⟩
  · obtain ⟨t, rfl, h⟩ := pr_out (ef x hx)
    exact ⟨t, rfl, e _ _ h⟩
  · have py := st.perm
    have ey : ys.map (kOf G) = qs := lex_uniq (List.pairwise_map.mpr sy) hs (((py.map (kOf G)).trans (by rw [ek])).trans hp.symm)
    refine k p ys hpn ?_
    rw [← ey]
    exact pr_reps fun y hy => ef y (py.mem_iff.mp hy)
theorem len__law_heaviest (vs : List V) (H : Hp) (Q : VK) (E : XK) (h : sp__law_heaviest P w K vs H Q E) : vs.length = 3 := by refine spP_len (n := 3) ?_ vs H Q E h; intro i; rfl
theorem pr_tup {p : Int × Int} {K : PySem.W.Frag} : SubR (RPr p) (RTup K [RInt p.1, RInt p.2]) := fun v G h => RTp.tup h
theorem rd__law_heaviest (T : Tx P w K mg base) (hT : tsp.T = tabsT K) (vs : List V) (H : Hp) (Q : VK) (E : XK) (h : sp__law_heaviest P w K vs H Q E) : t__law_heaviest P w K { nx := fun _ H1 => Q .non H1, rt := Q } (start N__law_heaviest vs) H :=
  body_P (K := K) (fun ⟨rt, hv, ns, m⟩ ⟨hw, hs, h0⟩ c D hK hb hr hx => by
    subst hK
    dsimp only at hw hs h0 hr
    show Go c _ [some (im (RPlanT hv rt)), some (im (RLst (lS ns))), some (im (RInt m)), none, none, none, none] D
    have nd := hw.1.2.1
    have l8 : (hv.map (·.1)).length ≤ 8 := hw.1.1
    have ln : ns.length ≤ 8 := Nat.le_trans hs.length_le l8
    have e1 := evn_map (c := c) (ρ := [some (im (RPlanT hv rt)), some (im (RLst (lS ns))), some (im (RInt m)), none, none, none, none]) (j := 4) (rs' := (ns.map (keyL hv)).map RPr) (te := tTup (tCons (tOp oSub (tC (.int 0)) (tDGet (tDGet (tVar 0) (tC (.str "weights"))) (tVar 4))) (tCons (tBM c.K "list" (rIndex c.K) (tDGet (tVar 0) (tC (.str "names"))) (tCons (tVar 4) tNil)) tNil))) rfl (ei_list (rs := lS ns) (ev_var (i := 1) rfl)) (by simp) (by simp; omega) fun Gl i r hr => by
      obtain ⟨n, hn, rfl⟩ := lS_at hr
      have hm : n ∈ hv.map (·.1) := hs.subset (List.mem_of_getElem? hn)
      have hlt := List.idxOf_lt_length_iff.mpr hm
      have hix : (hv.map (·.1))[idxN hv n]? = some n := by
        show (hv.map (·.1))[(hv.map (·.1)).idxOf n]? = some n
        rw [List.getElem?_eq_getElem hlt, List.getElem_idxOf]
      exact ⟨RPr (keyL hv n), by simp [hn], ev_tp (ea_cons (ev_op (ev_int (i := 0)) (ev_dget (ev_weights (i := 0) (hv := hv) rfl) (ev_var (i := 4) (r := RStr n) rfl) key_str (look_in hm)) rv_sub) (eaOf (ev_index (c := c.pin Gl) (ev_names (i := 0) rfl) (ev_var (i := 4) (r := RStr n) rfl) hix fun k hk z => by
        have := idxOf_nd nd z
        have e : idxN hv n = k := this
        omega))) (by simp)⟩
    refine q_asg (r := RLst (((heavyL hv ns).map (keyL hv)).map RPr)) (by simp) (evn_ev (evn_cb (eaOf (evn_ev e1)) (rn_sortedPO (heavyL_sorted nd hs) ((heavyL_perm).map _)))) ?_
    have tk := evn_take (c := c) (ρ := [some (im (RPlanT hv rt)), some (im (RLst (lS ns))), some (im (RInt m)), some (im (RLst (((heavyL hv ns).map (keyL hv)).map RPr))), none, none, none]) (ev_var (i := 3) (r := RLst (((heavyL hv ns).map (keyL hv)).map RPr)) rfl) (ev_var (i := 2) (r := RInt m) rfl) h0
    rw [show (((heavyL hv ns).map (keyL hv)).map RPr).take m.toNat = ((heavyOf hv ns m).map (keyL hv)).map RPr by simp [heavyOf, List.map_take]] at tk
    have lh : (heavyOf hv ns m).length ≤ 8 := by
      unfold heavyOf
      rw [List.length_take, heavyL_perm.length_eq]; omega
    have e2 := evn_lc (c := c) (ρ := [some (im (RPlanT hv rt)), some (im (RLst (lS ns))), some (im (RInt m)), some (im (RLst (((heavyL hv ns).map (keyL hv)).map RPr))), none, none, none]) (g := gTup c.K 2 (gCons (gName 5) (gCons (gName 6) gNil))) (tt := tYes) (te := tOp (rIxL c.K) (tDGet (tVar 0) (tC (.str "names"))) (tVar 6)) (vs := [5, 6]) (fun i => (lS (heavyOf hv ns m)).take i) (fun v hv' s e => by
      rcases List.mem_cons.mp hv' with rfl | hv'
      · cases e
      · rcases List.mem_singleton.mp hv' with rfl
        cases e) (ei_list (evn_ev tk)) (by simp) (fun Gl i r hr => by
      simp only [List.getElem?_map, Option.map_eq_some_iff] at hr
      obtain ⟨p, ⟨n, hn, rfl⟩, rfl⟩ := hr
      have hm : n ∈ hv.map (·.1) := hs.subset (heavyL_perm.mem_iff.mp (List.mem_of_mem_take (List.mem_of_getElem? hn)))
      have hlt := List.idxOf_lt_length_iff.mpr hm
      have hix : (lS (hv.map (·.1)))[idxN hv n]? = some (RStr n) := by
        show ((hv.map (·.1)).map RStr)[(hv.map (·.1)).idxOf n]? = some (RStr n)
        rw [List.getElem?_map, List.getElem?_eq_getElem hlt, List.getElem_idxOf]; rfl
      have g := gg_tup (c := c.pin Gl) (ρ := [some (im (RPlanT hv rt)), some (im (RLst (lS ns))), some (im (RInt m)), some (im (RLst (((heavyL hv ns).map (keyL hv)).map RPr))), none, none, none]) (rs := [RInt (keyL hv n).1, RInt (keyL hv n).2]) (n := 2) (ggs_cons (gg_name (j := 5) (by simp)) (ggs_cons (gg_name (j := 6) (by simp)) ggs_nil)) rfl
      have g2 : GoG (c.pin Gl) (gTup c.K 2 (gCons (gName 5) (gCons (gName 6) gNil))) (RPr (keyL hv n)) _ _ _ := ⟨fun σ G H F x S q Q k => g.run σ G H F x S (pr_tup x G q) Q k, g.agree, g.len⟩
      refine ⟨_, _, fun b => b = true, g2, by simp, ep_yes, fun _ => ⟨RStr n, ev_op (ev_names (i := 0) (hv := hv) (rt := rt) rfl) (ev_var (i := 6) (r := RInt ((idxN hv n : Nat) : Int)) rfl) (rv_ixL (atI_nat' hix)), ?_⟩, fun z => by cases z⟩
      rw [List.take_add_one, show (lS (heavyOf hv ns m))[i]? = some (RStr n) by simp [hn]]; rfl) (fun i hi => by rw [List.length_take, List.length_map]; omega)
    rw [show (((heavyOf hv ns m).map (keyL hv)).map RPr).length = (lS (heavyOf hv ns m)).length by simp, List.take_length] at e2
    exact go_ret (evn_ev e2) hr) vs H Q E h
end EvC
set_option Elab.async false
set_option linter.all false
set_option maxRecDepth 100000
set_option maxHeartbeats 4000000
/-! R80k: what is a cutting; refusals; weights of parts. -/
namespace EvC
open PySem PySem.Spec PyProof.Rows L2 DL
variable [tsp : TabSpec] {P : Program} {w : World} {K : PySem.W.Frag} {mg : Str → Option Value} {base : Heap}
section
variable {c : DL.Ctx} {ρ : DL.Env} {ty td : TE} {r : R} {n : Str} {kvs : List (Key × R)} {m : Nat}
theorem rv_lenOD : RVc (rLenO P w) [RDic kvs] (RInt (kvs.length : Nat)) := fun vs G H e q Q k => by
  obtain ⟨v, rfl, q1⟩ := reps_one q
  obtain ⟨a, xs, rfl, h1, h2⟩ := RDic.out q1
  exact .inl ⟨a, xs, rfl, e _ _ h1, k _ G H (Ext.refl e) (by rw [h2.length]; rfl)⟩
theorem odd_le {G H : Hp} {a : Addr} (e : Le G H) (h : OddD P w G a m) : OddD P w H a m := h.elim (fun h => .inl (e _ _ h)) fun h => .inr ⟨e _ _ h.1, h.2⟩
theorem rv_lenOO (h : ∀ v G, r.p v G → ∃ a, v = .ref a ∧ OddD P w G a m) : RVc (rLenO P w) [r] (RInt (m : Nat)) := fun vs G H e q Q k => by
  obtain ⟨v, rfl, q1⟩ := reps_one q
  obtain ⟨a, rfl, h1⟩ := h v G q1
  exact .inr ⟨a, m, rfl, odd_le e h1, k _ G H (Ext.refl e) rfl⟩
theorem ev_dinOD (hy : Ev c ty ρ (RStr n)) (hd : Ev c td ρ (RDic kvs)) : Ev c (tDInO P w ty td) ρ (RBl (lookR kvs (.inr n)).isSome) := fun σ G H F S Q kk => by
  refine hy σ G H F S _ fun y G1 H1 F1 S1 n1 qy => ?_
  refine hd σ G1 H1 F1 S1 _ fun x G2 H2 F2 S2 n2 qx => ?_
  obtain ⟨a, xs, rfl, h1, h2⟩ := RDic.out qx
  obtain rfl : y = V.str n := qy
  refine ⟨a, rfl, .inl ⟨valV xs (.inr n), .k (k := .inr n) (S2.le _ _ h1), kk _ G2 H2 F2 S2 (n1.trans n2) ?_⟩⟩
  rcases kreps_look h2 (.inr n) with ⟨z, z2⟩ | ⟨r', v, z, hv, q⟩
  · rw [z, z2]; rfl
  · rw [z, hv]; rfl
theorem ev_dinON (h : ∀ v G, r.p v G → ∃ a, v = .ref a ∧ G a = some (NonO P w a)) (hy : Ev c ty ρ (RStr n)) (hd : Ev c td ρ r) : Ev c (tDInO P w ty td) ρ (RBl false) := fun σ G H F S Q kk => by
  refine hy σ G H F S _ fun y G1 H1 F1 S1 n1 qy => ?_
  refine hd σ G1 H1 F1 S1 _ fun x G2 H2 F2 S2 n2 qx => ?_
  obtain ⟨a, rfl, h1⟩ := h x G2 qx
  exact ⟨a, rfl, .inr ⟨n, qy, S2.le _ _ h1, kk _ G2 H2 F2 S2 (n1.trans n2) rfl⟩⟩
end
theorem len_fault_of (vs : List V) (H : Hp) (Q : VK) (E : XK) (h : sp_fault_of P w K vs H Q E) : vs.length = 3 := by refine spP_len (n := 3) ?_ vs H Q E h; intro i; rfl
abbrev RFault (b : Bool) : R := if b then RNon else exR notNon id
theorem fault_no {c : DL.Ctx} {ρ : DL.Env} {D : Ends} {te : TE} {rs : List R} {tas : TA} (hl : rs.length ≤ 100000) (ha : EvA c tas ρ rs) (hr : Rets c D (exR notNon id)) : Go c (tRet (tTup tas)) ρ D := go_ret (r := exR notNon id) (ev_weak (ev_tup ha hl) fun v G q => ⟨RTup c.K rs, nn_tup, q⟩) hr
abbrev tFaultIf (P : Program) (w : World) (K : PySem.W.Frag) : TT := (tOr (tNot (tB (tCB (rIsiO P w K) (tCons (tVar 2) (tCons (tC (.ty "dict")) tNil))))) (tOr (tTest (tOp rNe (tCB (rLenO P w) (tCons (tVar 2) tNil)) (tCB (rLenV K) (tCons (tVar 3) tNil)))) (tNot (tB (tCB (rAll K) (tCons (tLc (iList K (tVar 3)) (gName 4) tYes (tDInO P w (tVar 4) (tVar 2)) [4]) tNil))))))
theorem et_faultD {c : DL.Ctx} {x0 x1 : Option SP} {kvs : List (Key × R)} {ns : List Str} (hl : ns.length ≤ 8) : EvT c (tFaultIf P w c.K) [x0, x1, some (im (RDic kvs)), some (im (RLst (lS ns))), none]
    (!true || (!decide ((kvs.length : Int) = ((lS ns).length : Nat)) || !((ns.map fun n => (lookR kvs (.inr n)).isSome).all id))) := by
  refine et_or (et_not (et_B (ev_cb (ea_cons (ev_var (i := 2) rfl) (eaOf ev_c)) (rv_isiO ty_dic (b := true) (by decide +kernel))))) fun _ => et_or (et_test (ev_op (ev_cb (eaOf (ev_var (i := 2) rfl)) rv_lenOD) (ev_cb (eaOf (ev_var (i := 3) rfl)) rv_lenL) rv_neI)) fun _ => et_not (et_B (ev_cb (eaOf (evn_ev ?_)) rv_all))
  exact evn_map (j := 4) (rs' := lB (ns.map fun n => (lookR kvs (.inr n)).isSome)) rfl (ei_list (rs := lS ns) (ev_var (i := 3) rfl)) (by simp) (by simp; omega) fun Gl i r hr => by
    obtain ⟨n, hn, rfl⟩ := lS_at hr
    exact ⟨_, by simp [hn], ev_dinOD (ev_var (i := 4) rfl) (ev_var (i := 2) rfl)⟩
/-- the places, one by one -/
theorem go_faultFor {c : DL.Ctx} {D : Ends} {rw : R} {hv : List (Str × Int)} {parts : Int} {kvs : List (Key × R)} {f : Str → R × Bool} {b : Bool} {ns : List Str} (h : ∀ n ∈ ns, lookR kvs (.inr n) = some (f n).1 ∧ Wh P w c.K 0 (parts - 1) (f n).1 (f n).2) (hb : b = ns.all fun n => (f n).2) (hr : Rets c D (RFault b)) :
    Go c (tSeq (tFor (iList c.K (tVar 3)) (gName 4) (tIfS (tNot (tB (tCall (sp_is_whole P w c.K) [] E0 (tCons (tDGet (tVar 2) (tVar 4)) (tCons (tC (.int 0)) (tCons (tOp oSub (tVar 1) (tC (.int 1))) tNil)))))) (tRet (tTup (tCons (tC (.str "place")) (tCons (tVar 4) tNil)))) tNext)) (tRet (tC .non))) [some (im rw), some (im (RInt parts)), some (im (RDic kvs)), some (im (RLst (lS ns))), none] D := by
  refine q_for (fun i ρ => (∀ n ∈ ns.take i, (f n).2 = true) ∧ ∃ x4, ρ = [some (im rw), some (im (RInt parts)), some (im (RDic kvs)), some (im (RLst (lS ns))), x4]) (ei_list (rs := lS ns) (ev_var (i := 3) rfl)) ⟨fun n h => by simp at h, none, rfl⟩ ?_ ?_
  · rintro Gl i r ρ' hri ⟨hall, x4, rfl⟩
    obtain ⟨n, hn, rfl⟩ := lS_at hri
    have hm := List.mem_of_getElem? hn
    obtain ⟨h1, h2⟩ := h n hm
    refine ⟨_, _, gg_name (by simp), ?_⟩
    refine go_ifT (b := !(f n).2) (et_not (et_B (ev_call0 (ea_cons (ev_dget (ev_var (i := 2) rfl) (ev_var (i := 4) (r := RStr n) rfl) key_str h1) (ea_cons (ev_int (i := 0)) (eaOf (ev_op (ev_var (i := 1) rfl) (ev_int (i := 1)) rv_sub)))) (spP_ok (I := R × Int × Int × Bool) ((f n).1, 0, parts - 1, (f n).2) h2)))) (fun z => ?_) fun z => ?_
    · have e : b = false := by
        rw [hb, List.all_eq_false]
        exact ⟨n, hm, by simpa using z⟩
      subst e
      exact fault_no (te := tVar 4) (by simp) (ea_cons (ev_str (s := "place")) (eaOf (ev_var (i := 4) (r := RStr n) rfl))) hr
    · refine go_next fun σ G H F S => ⟨_, ⟨fun k hk => ?_, _, rfl⟩, G, F, S⟩
      rw [List.take_add_one, hn, List.mem_append] at hk
      rcases hk with hk | hk
      · exact hall k hk
      · obtain rfl : k = n := by simpa using hk
        simpa using z
  · rintro ρ' ⟨hall, x4, rfl⟩
    have e : b = true := by
      rw [hb, List.all_eq_true]
      intro n hn
      exact hall n (by simpa using hn)
    subst e
    exact go_ret ev_non hr
theorem rd_fault_of (T : Tx P w K mg base) (hT : tsp.T = tabsT K) (vs : List V) (H : Hp) (Q : VK) (E : XK) (h : sp_fault_of P w K vs H Q E) : t_fault_of P w K { nx := fun _ H1 => Q .non H1, rt := Q } (start N_fault_of vs) H :=
  body_P (K := K) (fun ⟨rw, hv, parts, r, b⟩ ⟨hw, hl, hk⟩ c D hK hb hr hx => by
    subst hK
    dsimp only at hw hl hk
    have hr : Rets c D (RFault b) := hr
    show Go c _ [some (im rw), some (im (RInt parts)), some (im r), none, none] D
    have hl' : (hv.map (·.1)).length ≤ 8 := by simpa using hl
    refine q_asg (by simp) (ev_wnames (i := 0) rfl hw) ?_
    cases hk with
    | @good ct hc =>
      have hlen : (dSI ct).length = (hv.map (·.1)).length := by rw [← hc.1.length_eq]; simp
      have hsome : ∀ n ∈ hv.map (·.1), lookR (dSI ct) (.inr n) = some (RInt (look ct n)) := fun n hn => look_cut hc hn
      refine q_no (et_faultD hl') ?_ (go_faultFor (f := fun n => (RInt (look ct n), true)) (hv := hv) (fun n hn => ⟨hsome n hn, whole_ok (by have := look_rng hc hn; omega)⟩) (by simp) hr)
      rw [decide_eq_true (by rw [hlen]; simp)]
      have : ((hv.map (·.1)).map fun n => (lookR (dSI ct) (.inr n)).isSome).all id = true := by
        rw [List.all_eq_true]
        intro x hx
        obtain ⟨n, hn, rfl⟩ := List.mem_map.mp hx
        rw [hsome n hn]; rfl
      rw [this]; rfl
    | @ty _ t h1 h2 =>
      exact q_ifT (b := true) (et_or (a := true) (b := true) (et_not (a := false) (et_B (ev_cb (ea_cons (ev_var (i := 2) rfl) (eaOf ev_c)) (rv_isiO h1 h2)))) fun z => by cases z) (fun _ => fault_no (te := tVar 0) (by simp) (eaOf (ev_str (s := "form"))) hr) fun z => by cases z
    | @lack kvs h1 =>
      refine q_ifT (et_faultD hl') (fun _ => fault_no (te := tVar 0) (by simp) (eaOf (ev_str (s := "form"))) hr) fun z => ?_
      exfalso
      simp only [Bool.not_true, Bool.false_or, Bool.or_eq_false_iff, Bool.not_eq_false', decide_eq_true_eq, List.all_eq_true] at z
      rcases h1 with h1 | ⟨n, hn, h1⟩
      · exact h1 (by have := z.1; simp at this ⊢; omega)
      · have := z.2 false (List.mem_map.mpr ⟨n, hn, by rw [h1]; rfl⟩)
        cases this
    | @val kvs f hlen hf n hn hfn =>
      refine q_no (et_faultD hl') ?_ (go_faultFor (f := f) (hv := hv) hf (by symm; rw [List.all_eq_false]; exact ⟨n, hn, by rw [hfn]; decide⟩) hr)
      rw [decide_eq_true (by rw [hlen]; simp)]
      have : ((hv.map (·.1)).map fun n => (lookR kvs (.inr n)).isSome).all id = true := by
        rw [List.all_eq_true]
        intro x hx
        obtain ⟨n, hn, rfl⟩ := List.mem_map.mp hx
        rw [(hf n hn).1]; rfl
      rw [this]; rfl
    | @odd _ m h1 h2 =>
      refine q_ifT (b := true) (et_is (et_or (et_not (a := true) (et_B (ev_cb (ea_cons (ev_var (i := 2) rfl) (eaOf ev_c)) (rv_isiOdd h1 (by decide +kernel))))) fun _ => et_or (b := true) (et_test (ev_op (ev_cb (eaOf (ev_var (i := 2) rfl)) (rv_lenOO h1)) (ev_cb (eaOf (ev_var (i := 3) rfl)) rv_lenL) rv_neI)) fun z => ?_) (by simp)) (fun _ => fault_no (te := tVar 0) (by simp) (eaOf (ev_str (s := "form"))) hr) fun z => by cases z
      exfalso
      simp at z
      exact h2 (by simp; omega)
    | @non _ h1 h2 =>
      have h3 : ∀ v G, r.p v G → ∃ a, v = .ref a ∧ OddD P w G a 1 := fun v G q => by
        obtain ⟨a, e1, e2⟩ := h1 v G q
        exact ⟨a, e1, .inr ⟨e2, rfl⟩⟩
      refine q_ifT (b := true) (et_is (et_or (et_not (a := true) (et_B (ev_cb (ea_cons (ev_var (i := 2) rfl) (eaOf ev_c)) (rv_isiOdd h3 (by decide +kernel))))) fun _ => et_or (b := true) (et_test (ev_op (ev_cb (eaOf (ev_var (i := 2) rfl)) (rv_lenOO h3)) (ev_cb (eaOf (ev_var (i := 3) rfl)) rv_lenL) rv_neI)) fun z => et_is (et_not (et_B (ev_cb (eaOf (evn_ev (evn_map (j := 4) (rs' := lB ((hv.map (·.1)).map fun _ => false)) rfl (ei_list (rs := lS (hv.map (·.1))) (ev_var (i := 3) rfl)) (by simp) (by simp; omega) fun Gl i r hr => ?_))) rv_all))) ?_) (by simp)) (fun _ => fault_no (te := tVar 0) (by simp) (eaOf (ev_str (s := "form"))) hr) fun z => by cases z
      · obtain ⟨n, hn, rfl⟩ := lS_at hr
        exact ⟨RBl false, by rw [List.getElem?_map, List.getElem?_map, hn]; rfl, ev_dinON h1 (ev_var (i := 4) rfl) (ev_var (i := 2) rfl)⟩
      · cases hv with
        | nil => exact absurd rfl h2
        | cons p hv => simp) vs H Q E h
theorem len_is_cutting (vs : List V) (H : Hp) (Q : VK) (E : XK) (h : sp_is_cutting P w K vs H Q E) : vs.length = 3 := by refine spP_len (n := 3) ?_ vs H Q E h; intro i; rfl
theorem rv_isNX : RV2 rIsN (exR notNon id) RNon (RBl false) := fun x y G H e ⟨r, hn, hx⟩ hy Q k => rv_isN hn x y G H e hx hy Q k
theorem rd_is_cutting (T : Tx P w K mg base) (hT : tsp.T = tabsT K) (vs : List V) (H : Hp) (Q : VK) (E : XK) (h : sp_is_cutting P w K vs H Q E) : t_is_cutting P w K { nx := fun _ H1 => Q .non H1, rt := Q } (start N_is_cutting vs) H :=
  body_P (K := K) (fun ⟨rw, hv, parts, r, b⟩ pre c D hK hb hr hx => by
    subst hK
    show Go c _ [some (im rw), some (im (RInt parts)), some (im r)] D
    have e := ev_call0 (c := c) (E := E0) (ea_cons (ev_var (i := 0) (ρ := [some (im rw), some (im (RInt parts)), some (im r)]) rfl) (ea_cons (ev_var (i := 1) rfl) (eaOf (ev_var (i := 2) rfl)))) (spP_ok (I := R × List (Str × Int) × Int × R × Bool) (pre := fun i => IsWeb c.K i.2.1 i.1 ∧ i.2.1.length ≤ 8 ∧ CutK P w c.K (i.2.1.map (·.1)) i.2.2.1 i.2.2.2.1 i.2.2.2.2) (as := fun i : R × List (Str × Int) × Int × R × Bool => [i.1, RInt i.2.2.1, i.2.2.2.1]) (res := fun i => if i.2.2.2.2 then RNon else exR notNon id) (rw, hv, parts, r, b) pre)
    cases b with
    | true => exact go_ret (ev_op e ev_non rv_isN0) hr
    | false => exact go_ret (ev_op e ev_non rv_isNX) hr) vs H Q E h
theorem len_need_cutting (vs : List V) (H : Hp) (Q : VK) (E : XK) (h : sp_need_cutting P w K vs H Q E) : vs.length = 3 := by refine spP_len (n := 3) ?_ vs H Q E h; intro i; rfl
theorem web8 {hv : List (Str × Int)} (h : WebOk hv) : hv.length ≤ 8 := by have := h.1.1; simpa using this
theorem rd_need_cutting (T : Tx P w K mg base) (hT : tsp.T = tabsT K) (vs : List V) (H : Hp) (Q : VK) (E : XK) (h : sp_need_cutting P w K vs H Q E) : t_need_cutting P w K { nx := fun _ H1 => Q .non H1, rt := Q } (start N_need_cutting vs) H :=
  body_P (K := K) (fun ⟨rw, ⟨hv, ct⟩, parts⟩ ⟨hw, ok⟩ c D hK hb hr hx => by
    subst hK
    dsimp only at hw ok
    show Go c _ [some (im rw), some (im (RInt parts)), some (im (RDSI ct))] D
    have e := ev_call0 (c := c) (E := E0) (ea_cons (ev_var (i := 0) (ρ := [some (im rw), some (im (RInt parts)), some (im (RDSI ct))]) rfl) (ea_cons (ev_var (i := 1) rfl) (eaOf (ev_var (i := 2) rfl)))) (spP_ok (I := R × List (Str × Int) × Int × R × Bool) (pre := fun i => IsWeb c.K i.2.1 i.1 ∧ i.2.1.length ≤ 8 ∧ CutK P w c.K (i.2.1.map (·.1)) i.2.2.1 i.2.2.2.1 i.2.2.2.2) (as := fun i : R × List (Str × Int) × Int × R × Bool => [i.1, RInt i.2.2.1, i.2.2.2.1]) (res := fun i => if i.2.2.2.2 then RNon else exR notNon id) (rw, hv, parts, RDSI ct, true) ⟨hw, web8 ok.web, .good ok.cut⟩)
    exact q_no1 (et_test (ev_op e ev_non rv_notN0)) rfl (nx_non hx hr)) vs H Q E h
/-! weights of parts -/
theorem len_part_weights (vs : List V) (H : Hp) (Q : VK) (E : XK) (h : sp_part_weights P w K vs H Q E) : vs.length = 3 := by refine spP_len (n := 3) ?_ vs H Q E h; intro i; rfl
theorem rd_part_weights (T : Tx P w K mg base) (hT : tsp.T = tabsT K) (vs : List V) (H : Hp) (Q : VK) (E : XK) (h : sp_part_weights P w K vs H Q E) : t_part_weights P w K { nx := fun _ H1 => Q .non H1, rt := Q } (start N_part_weights vs) H :=
  body_P (K := K) (fun ⟨rw, ⟨hv, ct⟩, parts⟩ ⟨hweb, ok⟩ c D hK hb hr hx => by
    subst hK
    dsimp only at hweb ok hr
    obtain ⟨hw, hc, h2, h6⟩ := ok
    show Go c _ [some (im rw), some (im (RInt parts)), some (im (RDSI ct)), none, none] D
    refine q_drop (ev_call0 (ea_cons (ev_var (i := 0) rfl) (ea_cons (ev_var (i := 1) rfl) (eaOf (ev_var (i := 2) rfl)))) (spP_ok (I := R × IW) (rw, (hv, ct), parts) ⟨hweb, hw, hc, h2, h6⟩)) ?_
    refine q_asgN (by simp) (evn_op (ev_lst (eaOf (ev_int (i := 0))) (by simp)) (ev_var (i := 1) rfl) (rn_rep (by omega))) ?_
    refine q_for (fun i ρ => ∃ x4, ρ = [some (im rw), some (im (RInt parts)), some (im (RDSI ct)), some (ownL (lI (pwAt hv ct parts i))), x4]) (ei_list (ev_wnames (i := 0) rfl hweb)) ⟨none, by simp [pwAt, lI]⟩ ?_ ?_
    · rintro Gl i r ρ' hr ⟨x4, rfl⟩
      obtain ⟨n, hn, rfl⟩ := lS_at hr
      simp only [List.getElem?_map, Option.map_eq_some_iff] at hn
      obtain ⟨p, hp, rfl⟩ := hn
      have hpm : p.1 ∈ hv.map (·.1) := List.mem_map.mpr ⟨p, List.mem_of_getElem? hp, rfl⟩
      obtain ⟨k0, k1⟩ := look_rng hc hpm
      have kl : (look ct p.1).toNat < (pwAt hv ct parts i).length := by rw [pwAt_length]; omega
      refine ⟨_, _, gg_name (by simp), ?_⟩
      refine go_augL (i := 3) (j := (look ct p.1).toNat) (rs := lI (pwAt hv ct parts i)) (a := (pwAt hv ct parts i).getD (look ct p.1).toNat 0) (b := p.2) rfl (ev_eq (ev_dget (ev_var (i := 2) (r := RDSI ct) rfl) (ev_var (i := 4) (r := RStr p.1) rfl) key_str (look_cut hc hpm)) (by rw [Int.toNat_of_nonneg k0])) (lI_get kl) (ev_eq (ev_weight (c := c.pin Gl) (i := 0) rfl hweb (ev_var (i := 4) (r := RStr p.1) rfl) hpm) (by rw [look_at hw.1.2.1 hp])) ?_
      rw [lI_addAt, ← pwAt_succ hp]
      intro σ G H F S
      exact ⟨_, ⟨_, rfl⟩, G, F, S⟩
    · rintro ρ' ⟨x4, rfl⟩
      rw [show (lS (hv.map (·.1))).length = hv.length by simp, pwAt_all]
      refine go_freeze 3 (P := HL (lI (partW hv ct parts))) rfl (by rw [hb]; simp) ?_
      exact go_ret (ev_var rfl) hr) vs H Q E h
/-! refusals -/
theorem len_NoCutting___init__ (vs : List V) (H : Hp) (Q : VK) (E : XK) (h : sp_NoCutting___init__ P w K vs H Q E) : vs.length = 2 := by obtain ⟨a, y, rfl, _⟩ := h; rfl
theorem rd_NoCutting___init__ (T : Tx P w K mg base) (hT : tsp.T = tabsT K) (vs : List V) (H : Hp) (Q : VK) (E : XK) (h : sp_NoCutting___init__ P w K vs H Q E) : t_NoCutting___init__ P w K { nx := fun _ H1 => Q .non H1, rt := Q } (start N_NoCutting___init__ vs) H := by
  obtain ⟨a, y, rfl, ha, k⟩ := h
  refine ⟨_, rfl, a, _, _, rfl, by show 1 ≤ 1000; decide, oex_NoCutting T, ha, ?_⟩
  exact ⟨_, rfl, _, rfl, a, _, rfl, oex_NoCutting T, nf_NoCutting T, .inl ⟨ha, fun dx h1 h2 => k dx h1 h2⟩⟩
theorem len_NoNumber___init__ (vs : List V) (H : Hp) (Q : VK) (E : XK) (h : sp_NoNumber___init__ P w K vs H Q E) : vs.length = 2 := by obtain ⟨a, y, rfl, _⟩ := h; rfl
theorem rd_NoNumber___init__ (T : Tx P w K mg base) (hT : tsp.T = tabsT K) (vs : List V) (H : Hp) (Q : VK) (E : XK) (h : sp_NoNumber___init__ P w K vs H Q E) : t_NoNumber___init__ P w K { nx := fun _ H1 => Q .non H1, rt := Q } (start N_NoNumber___init__ vs) H := by
  obtain ⟨a, y, rfl, ha, k⟩ := h
  refine ⟨_, rfl, a, _, _, rfl, by show 1 ≤ 1000; decide, oex_NoNumber T, ha, ?_⟩
  exact ⟨_, rfl, _, rfl, a, _, rfl, oex_NoNumber T, nf_NoNumber T, .inl ⟨ha, fun dx h1 h2 => k dx h1 h2⟩⟩
/-- this very value -/
def RAt (v0 : V) (r : R) : R := ⟨fun v G => v = v0 ∧ r.p v G, fun e ⟨h1, h2⟩ => ⟨h1, r.mono e h2⟩⟩
theorem at_sub {v0 : V} {r : R} : SubR (RAt v0 r) r := fun v G h => h.2
theorem ev_at {c : DL.Ctx} {ρ : DL.Env} {i : Nat} {v0 : V} {r : R} (h : ρ[i]? = some (some (im (RAt v0 r)))) : Ev c (tVar i) ρ r := ev_weak (ev_var h) at_sub
/-- what an exception C with this found does -/
def Raises (c : DL.Ctx) (E : XK) (C : Addr) (v0 : V) : Prop := ∀ (d : Addr) (fs : List (Str × V)) (G H : Hp), Ext c.B c.G0 c.H0 G H → G d = some (.xd fs) → fs.lookup ("found" : Str) = some v0 → E (.ref C) (some d) H
theorem go_raise {c : DL.Ctx} {ρ : DL.Env} {D : Ends} {E : XK} {C : Addr} {i : Nat} {v0 : V} {r : R} (hρ : ρ[i]? = some (some (im (RAt v0 r)))) (kE : Raises c E C v0) :
    Go c (fun _ σ H => tMkO C (spInit c.K C) [] (tCons (tVar i) tNil) σ H fun cls d H1 => E cls d H1) ρ D := fun σ G H F S => by
  obtain ⟨v, h1, ⟨rfl, q⟩, _⟩ := S.at_ i _ hρ
  refine ⟨_, h1, by show 1 ≤ 1000; decide, fun a ha => ⟨a, v, rfl, upd_same, fun dx hdx ne => ⟨rfl, dx, [(("found" : Str), v)], upd_same, by rw [upd_ne ne]; exact upd_same, by rw [upd_ne ne] at hdx; exact hdx, ?_⟩⟩⟩
  rw [upd_ne ne] at hdx
  have gn : G dx = none := by
    cases z : G dx with
    | none => rfl
    | some o => rw [S.le _ _ z] at hdx; cases hdx
  have up : ∀ b o, H b = some o → (upd (del (upd (upd (upd H a (exo a C none)) dx (exd dx [(("found" : Str), v)])) a (exo a C (some dx))) a) dx (.xd [(("found" : Str), v)])) b = some o := fun b o e => by
    have n1 : b ≠ a := ne_of_none e ha
    have n2 : b ≠ dx := ne_of_none e hdx
    rw [upd_ne n2]
    unfold del
    rw [if_neg n1, upd_ne n1, upd_ne n2, upd_ne n1]; exact e
  have X : Ext noB G H (upd G dx (.xd [(("found" : Str), v)])) (upd (del (upd (upd (upd H a (exo a C none)) dx (exd dx [(("found" : Str), v)])) a (exo a C (some dx))) a) dx (.xd [(("found" : Str), v)])) := {
    keep := fun b o _ _ e => up b o e
    live := fun b e => by
      cases z : H b with
      | none => rfl
      | some o => rw [up b o z] at e; cases e
    sub := same_upd gn
    le := ⟨fun b o e => by
      by_cases y : b = dx
      · subst y; rw [upd_same] at e; rw [← e]; exact upd_same
      · rw [upd_ne y] at e; exact up _ _ (S.le _ _ e), S.le.nt.upd (fun _ z => by cases z), fun p hp => (S.le.tb p hp).ext up⟩
    new := fun b h1 g => by rw [upd_ne (fun z => by subst z; exact h1 hdx)]; exact g
    tab := fun t p hp => (t p hp).ext up }
  exact kE dx _ _ _ (S.ext.trans X fun a z => z.elim) upd_same (by simp)
theorem reps_four {r r2 r3 r4 : R} {vs : List V} {G : Hp} (h : Reps [r, r2, r3, r4] vs G) : ∃ v v2 v3 v4, vs = [v, v2, v3, v4] ∧ r.p v G ∧ r2.p v2 G ∧ r3.p v3 G ∧ r4.p v4 G := by
  cases h with
  | cons q t => obtain ⟨v, v2, v3, rfl, p, p2, p3⟩ := reps_three t; exact ⟨_, _, _, _, rfl, q, p, p2, p3⟩
theorem reps_five {r r2 r3 r4 r5 : R} {vs : List V} {G : Hp} (h : Reps [r, r2, r3, r4, r5] vs G) : ∃ v v2 v3 v4 v5, vs = [v, v2, v3, v4, v5] ∧ r.p v G ∧ r2.p v2 G ∧ r3.p v3 G ∧ r4.p v4 G ∧ r5.p v5 G := by
  cases h with
  | cons q t => obtain ⟨v, v2, v3, v4, rfl, p, p2, p3, p4⟩ := reps_four t; exact ⟨_, _, _, _, _, rfl, q, p, p2, p3, p4⟩
/-- is_cutting(web, rule.parts, e) -/
theorem ev_isCut {c : DL.Ctx} {ρ : DL.Env} {i0 i1 : Nat} {te : TE} {rw r : R} {hv : List (Str × Int)} {parts lo hi : Int} {b : Bool} (T : Tx P w c.K mg base) (h0 : ρ[i0]? = some (some (im rw))) (h1 : ρ[i1]? = some (some (im (RRule c.K parts lo hi)))) (he : Ev c te ρ r) (hc : CutIs P w c.K (rw, hv, (parts, lo, hi), r) b) :
    Ev c (tCall (sp_is_cutting P w c.K) [] E0 (tCons (tVar i0) (tCons (tFld c.K (tVar i1) "parts") (tCons te tNil)))) ρ (RBl b) :=
  ev_call0 (ea_cons (ev_var h0) (ea_cons (ev_fld (ev_var h1) fld_parts (k_Rule T) (na_Rule_parts T)) (eaOf he))) (spP_ok (I := R × List (Str × Int) × Int × R × Bool) (rw, hv, parts, r, b) hc)
theorem Pz.cutIs {K : PySem.W.Frag} {z : Pz} {rw : R} (hw : IsWeb K z.hv rw) (ok : z.ok) : CutIs P w K (rw, z.hv, (z.parts, z.lo, z.hi), RDSI z.ct) true := ⟨hw, web8 ok.ct.web, .good ok.ct.cut⟩
theorem len_need_both (vs : List V) (H : Hp) (Q : VK) (E : XK) (h : sp_need_both P w K vs H Q E) : vs.length = 4 := by
  rcases h with h | ⟨i, G, _, q, _⟩ | ⟨i, G, _, q, _⟩
  · refine spP_len (n := 4) ?_ vs H Q E h; intro i; rfl
  · rw [← q.length]; rfl
  · rw [← q.length]; rfl
theorem rd_need_both (T : Tx P w K mg base) (hT : tsp.T = tabsT K) (vs : List V) (H : Hp) (Q : VK) (E : XK) (h : sp_need_both P w K vs H Q E) : t_need_both P w K E { nx := fun _ H1 => Q .non H1, rt := Q } (start N_need_both vs) H := by
  rcases h with h | ⟨⟨⟨rw, hv, ⟨parts, lo, hi⟩, r⟩, rb⟩, G, e, q, hc, k⟩ | ⟨⟨⟨rw, hv, ⟨parts, lo, hi⟩, r⟩, rb⟩, G, e, q, ⟨hc, hwh⟩, k⟩
  · exact body_P (K := K) (fun ⟨rw, z⟩ ⟨hw, ok⟩ c D hK hb hr hx => by
      subst hK
      dsimp only at hw ok
      show Go c _ [some (im rw), some (im (RRule c.K z.parts z.lo z.hi)), some (im (RDSI z.ct)), some (im (RInt z.b))] D
      refine q_no (et_not (et_B (ev_isCut (i0 := 0) (i1 := 1) T rfl rfl (ev_var (i := 2) rfl) (z.cutIs hw ok)))) rfl ?_
      exact q_no1 (et_not (et_B (ev_call0 (ea_cons (ev_var (i := 3) rfl) (ea_cons (ev_int (i := 0)) (eaOf (ev_int (i := 60))))) (spP_ok (I := R × Int × Int × Bool) (RInt z.b, 0, 60, true) (whole_ok ⟨ok.b0, ok.b6⟩))))) rfl (nx_non hx hr)) vs H Q E h
  · obtain ⟨v0, v1, v2, v3, rfl, q0, q1, q2, q3⟩ := reps_four q
    have go : Go ⟨K, noB, G, H, [], []⟩ (t_need_both P w K E) [some (im rw), some (im (RRule K parts lo hi)), some (im (RAt v2 r)), some (im rb)] { nx := fun _ H1 => Q .non H1, rt := Q } :=
      q_ifT (et_not (et_B (ev_isCut (c := ⟨K, noB, G, H, [], []⟩) (i0 := 0) (i1 := 1) T rfl rfl (ev_at (i := 2) rfl) hc))) (fun _ => go_raise (c := ⟨K, noB, G, H, [], []⟩) rfl fun d fs G' H' x hd hf => k d v2 fs G' H' rfl x hd hf) fun z => by cases z
    exact go _ _ _ _ (Sta.start (rs := [rw, RRule K parts lo hi, RAt v2 r, rb]) (N := N_need_both) e (.cons q0 (.cons q1 (.cons ⟨rfl, q2⟩ (.cons q3 .nil)))))
  · obtain ⟨v0, v1, v2, v3, rfl, q0, q1, q2, q3⟩ := reps_four q
    have go : Go ⟨K, noB, G, H, [], []⟩ (t_need_both P w K E) [some (im rw), some (im (RRule K parts lo hi)), some (im r), some (im (RAt v3 rb))] { nx := fun _ H1 => Q .non H1, rt := Q } := by
      refine q_no (et_not (et_B (ev_isCut (c := ⟨K, noB, G, H, [], []⟩) (i0 := 0) (i1 := 1) T rfl rfl (ev_var (i := 2) rfl) hc))) rfl ?_
      exact go_ifT (et_not (et_B (ev_call0 (ea_cons (ev_at (i := 3) rfl) (ea_cons (ev_int (i := 0)) (eaOf (ev_int (i := 60))))) (spP_ok (I := R × Int × Int × Bool) (rb, 0, 60, false) hwh)))) (fun _ => go_raise (c := ⟨K, noB, G, H, [], []⟩) rfl fun d fs G' H' x hd hf => k d v3 fs G' H' rfl x hd hf) fun z => by cases z
    exact go _ _ _ _ (Sta.start (rs := [rw, RRule K parts lo hi, r, RAt v3 rb]) (N := N_need_both) e (.cons q0 (.cons q1 (.cons q2 (.cons ⟨rfl, q3⟩ .nil)))))
theorem len_waste_of (vs : List V) (H : Hp) (Q : VK) (E : XK) (h : sp_waste_of P w K vs H Q E) : vs.length = 3 := by
  rcases h with h | ⟨i, G, _, q, _⟩
  · refine spP_len (n := 3) ?_ vs H Q E h; intro i; rfl
  · rw [← q.length]; rfl
/-- part_weights(web, rule.parts, cutting) -/
theorem ev_partW {c : DL.Ctx} {ρ : DL.Env} {i0 i1 i2 : Nat} {rw : R} {z : Pz} (T : Tx P w c.K mg base) (h0 : ρ[i0]? = some (some (im rw))) (h1 : ρ[i1]? = some (some (im (RRule c.K z.parts z.lo z.hi)))) (h2 : ρ[i2]? = some (some (im (RDSI z.ct)))) (hw : IsWeb c.K z.hv rw) (ok : z.ok) :
    Ev c (tCall (sp_part_weights P w c.K) [] E0 (tCons (tVar i0) (tCons (tFld c.K (tVar i1) "parts") (tCons (tVar i2) tNil)))) ρ (RLst (lI (partW z.hv z.ct z.parts))) :=
  ev_call0 (ea_cons (ev_var h0) (ea_cons (ev_fld (ev_var h1) fld_parts (k_Rule T) (na_Rule_parts T)) (eaOf (ev_var h2)))) (spP_ok (I := R × IW) (rw, (z.hv, z.ct), z.parts) ⟨hw, ok.ct⟩)
theorem rd_waste_of (T : Tx P w K mg base) (hT : tsp.T = tabsT K) (vs : List V) (H : Hp) (Q : VK) (E : XK) (h : sp_waste_of P w K vs H Q E) : t_waste_of P w K E { nx := fun _ H1 => Q .non H1, rt := Q } (start N_waste_of vs) H := by
  rcases h with h | ⟨⟨rw, hv, ⟨parts, lo, hi⟩, r⟩, G, e, q, hc, k⟩
  · exact body_P (K := K) (fun ⟨rw, z⟩ ⟨hw, ok⟩ c D hK hb hr hx => by
      subst hK
      dsimp only at hw ok hr
      show Go c _ [some (im rw), some (im (RRule c.K z.parts z.lo z.hi)), some (im (RDSI z.ct))] D
      refine q_no (et_not (et_B (ev_isCut (i0 := 0) (i1 := 1) T rfl rfl (ev_var (i := 2) rfl) (z.cutIs hw ok)))) rfl ?_
      have p6 := ok.ct.p6
      exact go_ret (ev_call0 (ea_cons (ev_var (i := 1) rfl) (eaOf (ev_partW (i0 := 0) (i1 := 1) (i2 := 2) T rfl rfl rfl hw ok))) (spP_ok (I := (Int × Int × Int) × List Int) ((z.parts, z.lo, z.hi), partW z.hv z.ct z.parts) (by show (partW z.hv z.ct z.parts).length ≤ 100; rw [partW_length]; omega))) hr) vs H Q E h
  · obtain ⟨v0, v1, v2, rfl, q0, q1, q2⟩ := reps_three q
    have go : Go ⟨K, noB, G, H, [], []⟩ (t_waste_of P w K E) [some (im rw), some (im (RRule K parts lo hi)), some (im (RAt v2 r))] { nx := fun _ H1 => Q .non H1, rt := Q } :=
      q_ifT (et_not (et_B (ev_isCut (c := ⟨K, noB, G, H, [], []⟩) (i0 := 0) (i1 := 1) T rfl rfl (ev_at (i := 2) rfl) hc))) (fun _ => go_raise (c := ⟨K, noB, G, H, [], []⟩) rfl fun d fs G' H' x hd hf => k d v2 fs G' H' rfl x hd hf) fun z => by cases z
    exact go _ _ _ _ (Sta.start (rs := [rw, RRule K parts lo hi, RAt v2 r]) (N := N_waste_of) e (.cons q0 (.cons q1 (.cons ⟨rfl, q2⟩ .nil))))
end EvC
set_option Elab.async false
set_option linter.all false
set_option maxRecDepth 100000
set_option maxHeartbeats 4000000
/-! R80l: names of parts; papers. -/
namespace EvC
open PySem PySem.Spec PyProof.Rows L2 DL
variable [tsp : TabSpec] {P : Program} {w : World} {K : PySem.W.Frag} {mg : Str → Option Value} {base : Heap}
theorem len_part_names (vs : List V) (H : Hp) (Q : VK) (E : XK) (h : sp_part_names P w K vs H Q E) : vs.length = 3 := by refine spP_len (n := 3) ?_ vs H Q E h; intro i; rfl
theorem inside_app {ns : List Str} {n : Str} {ct : List (Str × Int)} {p : Int} : insideOf (ns ++ [n]) ct p = if look ct n = p then insideOf ns ct p ++ [n] else insideOf ns ct p := by
  unfold insideOf
  rw [List.filter_append]
  by_cases z : look ct n = p
  · rw [if_pos z]; simp [z]
  · rw [if_neg z]; simp [z]
def insAll (ns : List Str) (ct : List (Str × Int)) (m : Nat) : List (List Str) := (List.range m).map fun p => insideOf ns ct (p : Nat)
theorem insAll_nil {ct : List (Str × Int)} {m : Nat} : insAll [] ct m = List.replicate m [] := by
  unfold insAll
  refine List.eq_replicate_iff.mpr ⟨by simp, fun b hb => ?_⟩
  obtain ⟨p, _, rfl⟩ := List.mem_map.mp hb
  rfl
theorem insAll_get {ns : List Str} {ct : List (Str × Int)} {m k : Nat} (h : k < m) : (insAll ns ct m)[k]? = some (insideOf ns ct (k : Nat)) := by
  unfold insAll
  rw [List.getElem?_map, List.getElem?_range h]; rfl
theorem insAll_step {ns : List Str} {n : Str} {ct : List (Str × Int)} {m k : Nat} (h : look ct n = (k : Nat)) (hk : k < m) : (insAll ns ct m).set k (insideOf ns ct (k : Nat) ++ [n]) = insAll (ns ++ [n]) ct m := by
  have hl : (insAll ns ct m).length = m := by simp [insAll]
  apply List.ext_getElem?
  intro j
  by_cases z : j < m
  · rw [insAll_get z]
    by_cases y : j = k
    · subst y
      rw [List.getElem?_set_self (by omega), inside_app, if_pos h]
    · rw [List.getElem?_set_ne (Ne.symm y), insAll_get z, inside_app, if_neg (by rw [h]; omega)]
  · rw [List.getElem?_eq_none (by rw [List.length_set]; omega), List.getElem?_eq_none (by simp [insAll]; omega)]
theorem rd_part_names (T : Tx P w K mg base) (hT : tsp.T = tabsT K) (vs : List V) (H : Hp) (Q : VK) (E : XK) (h : sp_part_names P w K vs H Q E) : t_part_names P w K { nx := fun _ H1 => Q .non H1, rt := Q } (start N_part_names vs) H :=
  body_P (K := K) (fun ⟨rw, ⟨hv, ct⟩, parts⟩ ⟨hweb, ok⟩ c D hK hb hr hx => by
    subst hK
    dsimp only at hweb ok hr
    obtain ⟨hw, hc, h2, h6⟩ := ok
    have l8 := web8 hw
    show Go c _ [some (im rw), some (im (RInt parts)), some (im (RDSI ct)), none, none, none] D
    refine q_drop (ev_call0 (ea_cons (ev_var (i := 0) rfl) (ea_cons (ev_var (i := 1) rfl) (eaOf (ev_var (i := 2) rfl)))) (spP_ok (I := R × IW) (rw, (hv, ct), parts) ⟨hweb, hw, hc, h2, h6⟩)) ?_
    refine q_mkLL (s := 3) (j := 4) (by simp) rfl (ev_var (i := 1) rfl) (by omega) ?_
    refine q_for (fun i ρ => ∃ x5, ρ = [some (im rw), some (im (RInt parts)), some (im (RDSI ct)), some (ownLL (insAll ((hv.map (·.1)).take i) ct parts.toNat)), none, x5]) (ei_list (ev_wnames (i := 0) rfl hweb)) ⟨none, by rw [List.take_zero, insAll_nil]; rfl⟩ ?_ ?_
    · rintro Gl i r ρ' hri ⟨x5, rfl⟩
      obtain ⟨n, hn, rfl⟩ := lS_at hri
      have hm := List.mem_of_getElem? hn
      obtain ⟨k0, k1⟩ := look_rng hc hm
      have hk : (look ct n).toNat < parts.toNat := by omega
      have hk2 : look ct n = ((look ct n).toNat : Nat) := (Int.toNat_of_nonneg k0).symm
      refine ⟨_, _, gg_name (by simp), ?_⟩
      refine go_llApp (c := c.pin Gl) (s := 3) (i := 5) (k := (look ct n).toNat) (n := n) rfl (ev_eq (ev_dget (ev_var (i := 2) (r := RDSI ct) rfl) (ev_var (i := 5) (r := RStr n) rfl) key_str (look_cut hc hm)) (by rw [← hk2])) (insAll_get hk) ?_ rfl ?_
      · have : (insideOf ((hv.map (·.1)).take i) ct ((look ct n).toNat : Nat)).length ≤ ((hv.map (·.1)).take i).length := List.length_filter_le _ _
        rw [List.length_take, List.length_map] at this
        omega
      · rw [insAll_step hk2 hk]
        intro σ G H F S
        refine ⟨_, ⟨some (im (RStr n)), ?_⟩, G, F, S⟩
        rw [List.take_add_one, hn]; rfl
    · rintro ρ' ⟨x5, rfl⟩
      rw [show (hv.map (·.1)).take (lS (hv.map (·.1))).length = hv.map (·.1) by rw [List.length_map, List.take_length]]
      refine go_freezeLL 3 (lss := insAll (hv.map (·.1)) ct parts.toNat) rfl (by rw [hb]; simp) ?_
      refine go_ret (ev_eq (ev_var rfl) ?_) hr
      unfold insAll
      rw [List.map_map]; rfl) vs H Q E h
/-! papers -/
theorem Pz.paper_some {z : Pz} {i : Nat} {x : Str × Int × List Str} (h : ∀ j, j < i → z.at_ j = none) (hi : i < z.parts.toNat) (hx : z.at_ i = some x) : z.paper = some x := by
  unfold Pz.paper
  have : List.range z.parts.toNat = List.range i ++ i :: (List.range' (i + 1) (z.parts.toNat - i - 1)) := by
    rw [List.range_eq_range', List.range_eq_range', show z.parts.toNat = i + (1 + (z.parts.toNat - i - 1)) by omega, ← List.range'_append, ← List.range'_append]
    simp [List.range'_succ]
  rw [this, List.findSome?_append]
  have e : (List.range i).findSome? z.at_ = none := List.findSome?_eq_none_iff.mpr fun j hj => h j (List.mem_range.mp hj)
  rw [e, List.findSome?_cons, hx]; rfl
theorem Pz.paper_none {z : Pz} (h : ∀ j, j < z.parts.toNat → z.at_ j = none) : z.paper = none := List.findSome?_eq_none_iff.mpr fun j hj => h j (List.mem_range.mp hj)
theorem heavyOf_sub {hv : List (Str × Int)} {ns : List Str} {m : Int} : ∀ n ∈ heavyOf hv ns m, n ∈ ns := fun n hn => heavyL_perm.mem_iff.mp (List.mem_of_mem_take hn)
theorem heavyOf_len {hv : List (Str × Int)} {ns : List Str} {m : Int} : (heavyOf hv ns m).length ≤ ns.length := by
  unfold heavyOf
  rw [List.length_take, heavyL_perm.length_eq]; omega
theorem inside_sub {ns : List Str} {ct : List (Str × Int)} {p : Int} : (insideOf ns ct p).Sublist ns := List.filter_sublist
theorem outside_sub {ns : List Str} {ct : List (Str × Int)} {p : Int} : (outsideOf ns ct p).Sublist ns := List.filter_sublist
theorem len__law_paper (vs : List V) (H : Hp) (Q : VK) (E : XK) (h : sp__law_paper P w K vs H Q E) : vs.length = 5 := by refine spP_len (n := 5) ?_ vs H Q E h; intro i; rfl
/-- [x for x in names if cutting[x] == part], .. != part -/
theorem evn_filt {c : DL.Ctx} {ρ : DL.Env} {te : TE} {ta tp : TE} {j : Nat} {ns : List Str} {ct : List (Str × Int)} {p : Int} {o : R2} {pr : Str → Bool} (hj : ρ[j]? = some none) (hl : ns.length ≤ 1000) (hn : Ev c te ρ (RLst (lS ns))) (hct : ∀ n ∈ ns, lookR (dSI ct) (.inr n) = some (RInt (look ct n)))
    (hc : ∀ Gl r, Ev (c.pin Gl) ta (ρ.set j (some (im r))) (RDSI ct)) (hp : ∀ Gl r, Ev (c.pin Gl) tp (ρ.set j (some (im r))) (RInt p)) (ho : ∀ n, RV2 o (RInt (look ct n)) (RInt p) (RBl (pr n))) :
    EvN c (tLc (iList c.K te) (gName j) (tTest (tOp o (tDGet ta (tVar j)) tp)) (tVar j) [j]) ρ (lS (ns.filter pr)) := by
  have hjl : j < ρ.length := (List.getElem?_eq_some_iff.mp hj).1
  have h := evn_lc (c := c) (ρ := ρ) (te := tVar j) (tt := tTest (tOp o (tDGet ta (tVar j)) tp)) (g := gName j) (vs := [j]) (fun i => lS ((ns.take i).filter pr)) (fun v hv s e => by
    rw [List.mem_singleton] at hv; subst hv; rw [hj] at e; cases e) (ei_list (rs := lS ns) hn) (by simp) (fun Gl i r hr => by
    obtain ⟨n, hn, rfl⟩ := lS_at hr
    have hself : (ρ.set j (some (im (RStr n))))[j]? = some (some (im (RStr n))) := List.getElem?_set_self hjl
    have e1 : (ns.take (i + 1)).filter pr = (ns.take i).filter pr ++ if pr n then [n] else [] := by
      rw [List.take_add_one, hn, List.filter_append]
      cases z : pr n <;> simp [z]
    refine ⟨_, _, fun b => b = pr n, gg_name hjl, fun _ z => z, et_test (ev_op (ev_dget (hc Gl _) (ev_var hself) key_str (hct n (List.mem_of_getElem? hn))) (hp Gl _) (ho n)), fun z => ⟨RStr n, ev_var hself, ?_⟩, fun z => ?_⟩
    · rw [e1, ← z]; simp
    · rw [e1, ← z]; simp) (fun i hi => by
      rw [List.length_map]
      have := List.length_filter_le pr (ns.take i)
      rw [List.length_take] at this
      omega)
  rw [show (ns.take (lS ns).length).filter pr = ns.filter pr by simp] at h
  exact h
/-- sum([plan["weights"][x] for x in names]) -/
theorem ev_wsum {c : DL.Ctx} {ρ : DL.Env} {i0 i1 j : Nat} {hv : List (Str × Int)} {rt : R} {ns : List Str} (hj : ρ[j]? = some none) (h0 : ρ[i0]? = some (some (im (RPlanT hv rt)))) (ne : i0 ≠ j) (h1 : ρ[i1]? = some (some (im (RLst (lS ns))))) (hm : ∀ n ∈ ns, n ∈ hv.map (·.1)) (hl : ns.length ≤ 1000) :
    EvN c (tLc (iList c.K (tVar i1)) (gName j) tYes (tDGet (tDGet (tVar i0) (tC (.str "weights"))) (tVar j)) [j]) ρ (lI (ns.map (look hv))) := by
  have hjl : j < ρ.length := (List.getElem?_eq_some_iff.mp hj).1
  exact evn_map hj (ei_list (rs := lS ns) (ev_var h1)) (by simp) (by simp; omega) fun Gl i r hr => by
    obtain ⟨n, hn, rfl⟩ := lS_at hr
    exact ⟨RInt (look hv n), by simp [hn], ev_dget (ev_weights (hv := hv) (rt := rt) (by rw [List.getElem?_set_ne (Ne.symm ne)]; exact h0)) (ev_var (r := RStr n) (List.getElem?_set_self hjl)) key_str (look_in (hm n (List.mem_of_getElem? hn)))⟩
theorem rd__law_paper (T : Tx P w K mg base) (hT : tsp.T = tabsT K) (vs : List V) (H : Hp) (Q : VK) (E : XK) (h : sp__law_paper P w K vs H Q E) : t__law_paper P w K { nx := fun _ H1 => Q .non H1, rt := Q } (start N__law_paper vs) H :=
  body_P (K := K) (fun ⟨rt, z⟩ ok c D hK hb hr hx => by
    subst hK
    have ok : z.ok := ok
    have hr : Rets c D (RPap c.K z.paper) := hr
    have p2 := ok.ct.p2
    have p6 := ok.ct.p6
    have hwb := ok.ct.web
    have l8 := web8 hwb
    have hct : ∀ n ∈ z.ns, lookR (dSI z.ct) (.inr n) = some (RInt (look z.ct n)) := fun n hn => look_cut ok.ct.cut hn
    show Go c _ [some (im (RPlanT z.hv rt)), some (im (RInt z.parts)), some (im (RTup c.K [RInt z.lo, RInt z.hi])), some (im (RDSI z.ct)), some (im (RInt z.b)), none, none, none, none, none, none] D
    refine q_asg (by simp) (ev_call0 (ea_cons (ev_var (i := 0) rfl) (ea_cons (ev_var (i := 1) rfl) (eaOf (ev_var (i := 3) rfl)))) (spP_ok (I := R × IW) (rt, (z.hv, z.ct), z.parts) ok.ct)) ?_
    refine q_for (fun i ρ => (∀ j, j < i → z.at_ j = none) ∧ ∃ x6 x7 x9 x10, ρ = [some (im (RPlanT z.hv rt)), some (im (RInt z.parts)), some (im (RTup c.K [RInt z.lo, RInt z.hi])), some (im (RDSI z.ct)), some (im (RInt z.b)), some (im (RLst (lI (partW z.hv z.ct z.parts)))), x6, x7, none, x9, x10]) (ei_rng1 (n := z.parts) (eaOf (ev_var (i := 1) rfl)) (by omega)) ⟨fun j h => by omega, none, none, none, none, rfl⟩ ?_ ?_
    · rintro Gl i r ρ' hri ⟨hno, x6, x7, x9, x10, rfl⟩
      have hi : i < z.parts.toNat := by simpa [rngs] using (List.getElem?_eq_some_iff.mp hri).1
      have er : r = RInt (i : Int) := by simp [rngs, hi] at hri; exact hri.symm
      subst er
      have hwt : (lI (partW z.hv z.ct z.parts))[i]? = some (RInt (z.wt i)) := lI_get (by rw [partW_length]; exact hi)
      have hrd : Rets (c.pin Gl) D (RPap c.K z.paper) := hr
      refine ⟨_, _, gg_name (by simp), ?_⟩
      refine q_asg (by simp) (evn_ev (evn_filt (c := c.pin Gl) (j := 8) (ns := z.ns) (ct := z.ct) (p := (i : Nat)) (pr := fun s => decide (look z.ct s = (i : Nat))) rfl (by simp; omega) (ev_names (i := 0) rfl) hct (fun Gl' r => ev_var (i := 3) rfl) (fun Gl' r => ev_var (i := 6) (r := RInt (i : Nat)) rfl) (fun n => rv_eqI))) ?_
      refine q_asg (by simp) (ev_call0 (ea_cons (ev_var (i := 0) rfl) (ea_cons (ev_var (i := 7) rfl) (eaOf (ev_var (i := 4) rfl)))) (spP_ok (I := R × List (Str × Int) × List Str × Int) (rt, z.hv, insideOf z.ns z.ct (i : Nat), z.b) ⟨hwb, inside_sub, ok.b0⟩)) ?_
      have hinm : ∀ n ∈ z.inn (i : Nat), n ∈ z.ns := fun n hn => inside_sub.subset (heavyOf_sub n hn)
      have hinl : (z.inn (i : Nat)).length ≤ 1000 := by
        have h1 : (z.inn (i : Nat)).length ≤ _ := heavyOf_len
        have h2 : (insideOf z.ns z.ct (i : Nat)).length ≤ z.ns.length := inside_sub.length_le
        have h3 : z.ns.length = z.hv.length := by simp
        omega
      refine q_may (et_test (ev_op (ev_op (ev_op (ev_var (i := 5) rfl) (ev_var (i := 6) (r := RInt (i : Nat)) rfl) (rv_ixL (atI_nat' hwt))) (ev_cb (eaOf (evn_ev (ev_wsum (c := c.pin Gl) (i0 := 0) (i1 := 9) (j := 8) (ns := z.inn (i : Nat)) rfl rfl (by decide) rfl hinm hinl))) rv_sum) rv_sub) (ev_op (ev_var (i := 2) rfl) ev_int (rv_ixT rfl)) rv_gt)) (fun e => ?_) fun e => ?_
      · have e := of_decide_eq_true e
        have hat : z.at_ i = some (("heavy" : Str), (i : Int), z.inn (i : Nat)) := by unfold Pz.at_; exact if_pos e
        have hp := z.paper_some hno hi hat
        rw [hp] at hrd
        exact go_ret (ev_tup (c := c.pin Gl) (ea_cons (ev_str (s := "heavy")) (ea_cons (ev_var (i := 6) (r := RInt (i : Nat)) rfl) (eaOf (ev_var (i := 9) (r := RLst (lS (z.inn (i : Nat)))) rfl)))) (by simp)) hrd
      · have e := of_decide_eq_false e
        refine q_asg (by simp) (evn_ev (evn_filt (c := c.pin Gl) (j := 8) (ns := z.ns) (ct := z.ct) (p := (i : Nat)) (pr := fun s => !decide (look z.ct s = (i : Nat))) rfl (by simp; omega) (ev_names (i := 0) rfl) hct (fun Gl' r => ev_var (i := 3) rfl) (fun Gl' r => ev_var (i := 6) (r := RInt (i : Nat)) rfl) (fun n => rv_neI))) ?_
        refine q_asg (by simp) (ev_call0 (ea_cons (ev_var (i := 0) rfl) (ea_cons (ev_var (i := 10) rfl) (eaOf (ev_var (i := 4) rfl)))) (spP_ok (I := R × List (Str × Int) × List Str × Int) (rt, z.hv, outsideOf z.ns z.ct (i : Nat), z.b) ⟨hwb, outside_sub, ok.b0⟩)) ?_
        have houm : ∀ n ∈ z.out (i : Nat), n ∈ z.ns := fun n hn => outside_sub.subset (heavyOf_sub n hn)
        have houl : (z.out (i : Nat)).length ≤ 1000 := by
          have h1 : (z.out (i : Nat)).length ≤ _ := heavyOf_len
          have h2 : (outsideOf z.ns z.ct (i : Nat)).length ≤ z.ns.length := outside_sub.length_le
          have h3 : z.ns.length = z.hv.length := by simp
          omega
        refine go_ifT (et_test (ev_op (ev_op (ev_op (ev_var (i := 5) rfl) (ev_var (i := 6) (r := RInt (i : Nat)) rfl) (rv_ixL (atI_nat' hwt))) (ev_cb (eaOf (evn_ev (ev_wsum (c := c.pin Gl) (i0 := 0) (i1 := 9) (j := 8) (ns := z.out (i : Nat)) rfl rfl (by decide) rfl houm houl))) rv_sum) rv_add) (ev_op (ev_var (i := 2) rfl) ev_int (rv_ixT rfl)) rv_lt)) (fun e2 => ?_) fun e2 => ?_
        · have e2 := of_decide_eq_true e2
          have hat : z.at_ i = some (("light" : Str), (i : Int), z.out (i : Nat)) := by unfold Pz.at_; rw [if_neg (show ¬ z.hi < z.wt i - wsum z.hv (z.inn (i : Nat)) from e)]; exact if_pos e2
          have hp := z.paper_some hno hi hat
          rw [hp] at hrd
          exact go_ret (ev_tup (c := c.pin Gl) (ea_cons (ev_str (s := "light")) (ea_cons (ev_var (i := 6) (r := RInt (i : Nat)) rfl) (eaOf (ev_var (i := 9) (r := RLst (lS (z.out (i : Nat)))) rfl)))) (by simp)) hrd
        · have e2 := of_decide_eq_false e2
          have hat : z.at_ i = none := by unfold Pz.at_; rw [if_neg (show ¬ z.hi < z.wt i - wsum z.hv (z.inn (i : Nat)) from e)]; exact if_neg e2
          refine go_next fun σ G H F S => ⟨_, ⟨fun j hj => ?_, _, _, _, _, rfl⟩, G, F, S⟩
          by_cases y : j = i
          · rw [y]; exact hat
          · exact hno j (by omega)
    · rintro ρ' ⟨hno, x6, x7, x9, x10, rfl⟩
      have hp := z.paper_none (by simpa [rngs] using hno)
      rw [hp] at hr
      exact go_ret ev_non hr) vs H Q E h
end EvC
set_option Elab.async false
set_option linter.all false
set_option maxRecDepth 100000
set_option maxHeartbeats 4000000
/-! R80m: the told paper. -/
namespace EvC
open PySem PySem.Spec PyProof.Rows L2 DL
variable [tsp : TabSpec] {P : Program} {w : World} {K : PySem.W.Frag} {mg : Str → Option Value} {base : Heap}
theorem spOr_ok {a b : Sp} {rs : List R} {rc : R} (h : SpOk a rs rc) : SpOk (spOr a b) rs rc := fun E vs G H e q Q k => .inl (h E vs G H e q Q k)
/-- a return of a new paper -/
def RetsPap (c : DL.Ctx) (D : Ends) (pap : Pap) : Prop := (pap = none → ∀ G H, Ext c.B c.G0 c.H0 G H → D.rt .non H) ∧
  ∀ w p ns, pap = some (w, p, ns) → ∀ (t l : Addr) (G H : Hp), Ext c.B c.G0 c.H0 G H → G t = some (.tup [.str w, .int p, .ref l]) → c.H0 l = none → G l = none → H l = some (.lst (ns.map V.str)) → D.rt (.ref t) H
section
variable {c : DL.Ctx} {ρ : DL.Env} {D : Ends} {u : TS} {E : XK} {s i6 : Nat} {wd : Str} {p : Int} {ns : List Str}
theorem go_retPap (h6 : ρ[i6]? = some (some (im (RInt p)))) (h8 : ρ[s]? = some (some (ownL (lS ns)))) (hb : s ∉ c.bs) (k : RetsPap c D (some (wd, p, ns))) : Go c (tRet (tTup (tCons (tC (.str wd)) (tCons (tVar i6) (tCons (tVar s) tNil))))) ρ D := fun σ G H F S => by
  obtain ⟨v6, s6, rfl, _⟩ := S.at_ i6 _ h6
  obtain ⟨l, o, h1, h2, ⟨xs, rfl, h3⟩, hF, _⟩ := S.view h8
  obtain ⟨gl, _, h0⟩ := S.out s l hF
  rw [reps_strs h3] at h2
  refine ⟨_, s6, _, h1, by show 3 ≤ sizeLine; decide, fun t ht => ?_⟩
  have X : Ext noB G H (upd G t (.tup [.str wd, .int p, .ref l])) (upd H t (.tup [.str wd, .int p, .ref l])) := Ext.laid S.le ht
  have ne : l ≠ t := fun z => by subst z; rw [h2] at ht; cases ht
  exact k.2 wd p ns rfl t l _ _ (S.ext.trans X fun a z => z.elim) upd_same (h0.elim (fun z => absurd z.2 hb) id) (by rw [upd_ne ne]; exact gl) (by rw [upd_ne ne]; exact h2)
/-- need_both, of what is no cutting -/
theorem go_needC {rw r rb : R} {hv : List (Str × Int)} {parts lo hi : Int} {v0 : V} {i0 i1 i2 i3 : Nat} (h0 : ρ[i0]? = some (some (im rw))) (h1 : ρ[i1]? = some (some (im (RRule c.K parts lo hi)))) (h2 : ρ[i2]? = some (some (im (RAt v0 r)))) (h3 : ρ[i3]? = some (some (im rb))) (hc : CutIs P w c.K (rw, hv, (parts, lo, hi), r) false) (kE : Raises c E (He.ga c.K "NoCutting") v0) :
    Go c (tSeq (tDrop (tCall (sp_need_both P w c.K) [] E (tCons (tVar i0) (tCons (tVar i1) (tCons (tVar i2) (tCons (tVar i3) tNil)))))) u) ρ D := fun σ G H F S => by
  show tCall (sp_need_both P w c.K) [] E (tCons (tVar i0) (tCons (tVar i1) (tCons (tVar i2) (tCons (tVar i3) tNil)))) σ H _
  refine (ea_cons (ev_var h0) (ea_cons (ev_var h1) (ea_cons (ev_var h2) (eaOf (ev_var h3))))) σ G H F S _ fun vs G1 H1 F1 S1 n1 q => ?_
  obtain ⟨v0', v1, v2, v3, rfl, q0, q1, ⟨rfl, q2⟩, q3⟩ := reps_four q
  exact .inr (.inl ⟨((rw, hv, (parts, lo, hi), r), rb), G1, S1.le, .cons q0 (.cons q1 (.cons q2 (.cons q3 .nil))), hc, fun d v fs G' H' hv x hd hf => by
    cases hv
    exact kE d fs G' H' (S1.ext.trans x fun a z => z.elim) hd hf⟩)
/-- need_both, of what is no budget -/
theorem go_needN {rw r rb : R} {hv : List (Str × Int)} {parts lo hi : Int} {v0 : V} {i0 i1 i2 i3 : Nat} (h0 : ρ[i0]? = some (some (im rw))) (h1 : ρ[i1]? = some (some (im (RRule c.K parts lo hi)))) (h2 : ρ[i2]? = some (some (im r))) (h3 : ρ[i3]? = some (some (im (RAt v0 rb)))) (hc : CutIs P w c.K (rw, hv, (parts, lo, hi), r) true ∧ Wh P w c.K 0 60 rb false) (kE : Raises c E (He.ga c.K "NoNumber") v0) :
    Go c (tSeq (tDrop (tCall (sp_need_both P w c.K) [] E (tCons (tVar i0) (tCons (tVar i1) (tCons (tVar i2) (tCons (tVar i3) tNil)))))) u) ρ D := fun σ G H F S => by
  show tCall (sp_need_both P w c.K) [] E (tCons (tVar i0) (tCons (tVar i1) (tCons (tVar i2) (tCons (tVar i3) tNil)))) σ H _
  refine (ea_cons (ev_var h0) (ea_cons (ev_var h1) (ea_cons (ev_var h2) (eaOf (ev_var h3))))) σ G H F S _ fun vs G1 H1 F1 S1 n1 q => ?_
  obtain ⟨v0', v1, v2, v3, rfl, q0, q1, q2, ⟨rfl, q3⟩⟩ := reps_four q
  exact .inr (.inr ⟨((rw, hv, (parts, lo, hi), r), rb), G1, S1.le, .cons q0 (.cons q1 (.cons q2 (.cons q3 .nil))), hc, fun d v fs G' H' hv x hd hf => by
    cases hv
    exact kE d fs G' H' (S1.ext.trans x fun a z => z.elim) hd hf⟩)
theorem q_needOk {rw : R} {z : Pz} {i0 i1 i2 i3 : Nat} (h0 : ρ[i0]? = some (some (im rw))) (h1 : ρ[i1]? = some (some (im (RRule c.K z.parts z.lo z.hi)))) (h2 : ρ[i2]? = some (some (im (RDSI z.ct)))) (h3 : ρ[i3]? = some (some (im (RInt z.b)))) (hw : IsWeb c.K z.hv rw) (ok : z.ok) (k : Go c u ρ D) :
    Go c (tSeq (tDrop (tCall (sp_need_both P w c.K) [] E (tCons (tVar i0) (tCons (tVar i1) (tCons (tVar i2) (tCons (tVar i3) tNil)))))) u) ρ D :=
  q_drop (ev_call0 (ea_cons (ev_var h0) (ea_cons (ev_var h1) (ea_cons (ev_var h2) (eaOf (ev_var h3))))) (spOr_ok (spP_ok (I := R × Pz) (as := fun i : R × Pz => asZ c.K i.1 i.2 ++ [RInt i.2.b]) (pre := fun i => IsWeb c.K i.2.hv i.1 ∧ i.2.ok) (res := fun _ => RNon) (rw, z) ⟨hw, ok⟩))) k
end
theorem len_stuck_paper (vs : List V) (H : Hp) (Q : VK) (E : XK) (h : sp_stuck_paper P w K vs H Q E) : vs.length = 4 := by
  rcases h with ⟨i, G, _, q, _⟩ | ⟨i, G, _, q, _⟩ | ⟨i, G, _, q, _⟩ <;> rw [← q.length] <;> rfl
/-- an element of enumerate(xs) -/
theorem enum_at {K : PySem.W.Frag} {ws : List Int} {i : Nat} {r : R} (h : (enums K (lI ws))[i]? = some r) : i < ws.length ∧ r = RTup K [RInt (i : Nat), RInt (ws.getD i 0)] := by
  unfold enums at h
  rw [List.getElem?_zipWith] at h
  by_cases z : i < ws.length
  · rw [List.getElem?_range (by simpa using z), lI_get z] at h
    exact ⟨z, (Option.some.inj h).symm⟩
  · rw [List.getElem?_eq_none (l := lI ws) (by simpa using z)] at h
    cases hh : (List.range (lI ws).length)[i]? <;> rw [hh] at h <;> cases h
theorem rd_stuck_paper (T : Tx P w K mg base) (hT : tsp.T = tabsT K) (vs : List V) (H : Hp) (Q : VK) (E : XK) (h : sp_stuck_paper P w K vs H Q E) : t_stuck_paper P w K E { nx := fun _ H1 => Q .non H1, rt := Q } (start N_stuck_paper vs) H := by
  rcases h with ⟨⟨rw, z⟩, G, e, q, ⟨hw, ok⟩, kn, ks⟩ | ⟨⟨⟨rw, hv, ⟨parts, lo, hi⟩, r⟩, rb⟩, G, e, q, hc, k⟩ | ⟨⟨⟨rw, hv, ⟨parts, lo, hi⟩, r⟩, rb⟩, G, e, q, hc, k⟩
  · dsimp only at hw ok kn ks
    have p2 := ok.ct.p2
    have p6 := ok.ct.p6
    have hwb := ok.ct.web
    have l8 := web8 hwb
    have nsl : z.ns.length = z.hv.length := by simp
    have hct : ∀ n ∈ z.ns, lookR (dSI z.ct) (.inr n) = some (RInt (look z.ct n)) := fun n hn => look_cut ok.ct.cut hn
    have key : ∀ (c : DL.Ctx) (D : Ends), c.K = K → c.bs = [] → RetsPap c D z.paper → Go c (t_stuck_paper P w K E) [some (im rw), some (im (RRule K z.parts z.lo z.hi)), some (im (RDSI z.ct)), some (im (RInt z.b)), none, none, none, none, none, none, none] D := by
      intro c D hK hb hr
      subst hK
      refine q_needOk (i0 := 0) (i1 := 1) (i2 := 2) (i3 := 3) rfl rfl rfl rfl hw ok ?_
      refine q_asg (by simp) (ev_partW (i0 := 0) (i1 := 1) (i2 := 2) T rfl rfl rfl hw ok) ?_
      refine q_asg (by simp) (ev_call0 (ea_cons (ev_var (i := 0) rfl) (ea_cons (ev_fld (ev_var (i := 1) rfl) fld_parts (k_Rule T) (na_Rule_parts T)) (eaOf (ev_var (i := 2) rfl)))) (spP_ok (I := R × IW) (rw, (z.hv, z.ct), z.parts) ⟨hw, ok.ct⟩)) ?_
      refine q_for (fun i ρ => (∀ j, j < i → z.at_ j = none) ∧ ∃ x6 x7 x8 x9, ρ = [some (im rw), some (im (RRule c.K z.parts z.lo z.hi)), some (im (RDSI z.ct)), some (im (RInt z.b)), some (im (RLst (lI (partW z.hv z.ct z.parts)))), some (im (RLst ((List.range z.parts.toNat).map fun p => RLst (lS (insideOf z.ns z.ct (p : Nat)))))), x6, x7, x8, x9, none]) (ei_enum (rs := lI (partW z.hv z.ct z.parts)) (eaOf (ev_var (i := 4) rfl))) ⟨fun j h => by omega, none, none, none, none, rfl⟩ ?_ ?_
      · rintro Gl i r ρ' hri ⟨hno, x6, x7, x8, x9, rfl⟩
        obtain ⟨hi, rfl⟩ := enum_at hri
        rw [partW_length] at hi
        have hrd : RetsPap (c.pin Gl) D z.paper := hr
        refine ⟨_, _, gg_tup (c := c.pin Gl) (rs := [RInt (i : Nat), RInt (z.wt i)]) (ggs_cons (gg_name (by simp)) (ggs_cons (gg_name (by simp)) ggs_nil)) rfl, ?_⟩
        have hinx : ((List.range z.parts.toNat).map fun p => RLst (lS (insideOf z.ns z.ct (p : Nat))))[i]? = some (RLst (lS (insideOf z.ns z.ct (i : Nat)))) := by rw [List.getElem?_map, List.getElem?_range hi]; rfl
        have hil : (insideOf z.ns z.ct (i : Nat)).length ≤ z.ns.length := inside_sub.length_le
        have hol : (outsideOf z.ns z.ct (i : Nat)).length ≤ z.ns.length := outside_sub.length_le
        have hinl : (z.inn (i : Nat)).length ≤ 100 := by
          have h1 : (z.inn (i : Nat)).length ≤ _ := heavyOf_len
          omega
        have houl : (z.out (i : Nat)).length ≤ 100 := by
          have h1 : (z.out (i : Nat)).length ≤ _ := heavyOf_len
          omega
        have hinm : ∀ n ∈ z.inn (i : Nat), n ∈ z.ns := fun n hn => inside_sub.subset (heavyOf_sub n hn)
        have houm : ∀ n ∈ z.out (i : Nat), n ∈ z.ns := fun n hn => outside_sub.subset (heavyOf_sub n hn)
        refine q_asgN (P := HL (lS (z.inn (i : Nat)))) (by simp) (evh_call0 (ea_cons (ev_var (i := 0) rfl) (ea_cons (ev_op (ev_var (i := 5) rfl) (ev_var (i := 6) (r := RInt (i : Nat)) rfl) (rv_ixL (atI_nat' hinx))) (eaOf (ev_var (i := 3) rfl)))) (spN_ok (I := R × List (Str × Int) × List Str × Int) (rw, z.hv, insideOf z.ns z.ct (i : Nat), z.b) ⟨hw, fun n hn => inside_sub.subset hn, by show (insideOf z.ns z.ct (i : Nat)).length ≤ 100; omega, ok.b0⟩)) ?_
        refine q_may (et_test (ev_op (ev_op (ev_var (i := 7) rfl) (ev_callO2 (P := HL (lS (z.inn (i : Nat)))) (i := 8) rfl (ev_var (i := 0) rfl) (spP_ok (I := R × List (Str × Int) × List Str) (rw, z.hv, z.inn (i : Nat)) ⟨hw, hinm, hinl⟩) sc_int) rv_sub) (ev_fld (ev_var (i := 1) rfl) fld_high (k_Rule T) (na_Rule_high T)) rv_gt)) (fun e => ?_) fun e => ?_
        · have e := of_decide_eq_true e
          have hat : z.at_ i = some (("heavy" : Str), (i : Int), z.inn (i : Nat)) := by unfold Pz.at_; exact if_pos e
          have hp := z.paper_some hno hi hat
          rw [hp] at hrd
          exact go_retPap (c := c.pin Gl) (i6 := 6) (s := 8) (p := (i : Nat)) (ns := z.inn (i : Nat)) rfl rfl (by show 8 ∉ c.bs; rw [hb]; simp) hrd
        · have e := of_decide_eq_false e
          refine q_asgN (P := HL (lS (z.out (i : Nat)))) (by simp) (evh_call0 (ea_cons (ev_var (i := 0) rfl) (ea_cons (evn_ev (evn_filt (c := c.pin Gl) (j := 10) (ns := z.ns) (ct := z.ct) (p := (i : Nat)) (pr := fun s => !decide (look z.ct s = (i : Nat))) rfl (by omega) (ev_wnames (c := c.pin Gl) (i := 0) rfl hw) hct (fun Gl' r => ev_var (i := 2) rfl) (fun Gl' r => ev_var (i := 6) (r := RInt (i : Nat)) rfl) (fun n => rv_neI))) (eaOf (ev_var (i := 3) rfl)))) (spN_ok (I := R × List (Str × Int) × List Str × Int) (rw, z.hv, outsideOf z.ns z.ct (i : Nat), z.b) ⟨hw, fun n hn => outside_sub.subset hn, by show (outsideOf z.ns z.ct (i : Nat)).length ≤ 100; omega, ok.b0⟩)) ?_
          refine go_ifT (et_test (ev_op (ev_op (ev_var (i := 7) rfl) (ev_callO2 (P := HL (lS (z.out (i : Nat)))) (i := 9) rfl (ev_var (i := 0) rfl) (spP_ok (I := R × List (Str × Int) × List Str) (rw, z.hv, z.out (i : Nat)) ⟨hw, houm, houl⟩) sc_int) rv_add) (ev_fld (ev_var (i := 1) rfl) fld_low (k_Rule T) (na_Rule_low T)) rv_lt)) (fun e2 => ?_) fun e2 => ?_
          · have e2 := of_decide_eq_true e2
            have hat : z.at_ i = some (("light" : Str), (i : Int), z.out (i : Nat)) := by unfold Pz.at_; rw [if_neg (show ¬ z.hi < z.wt i - wsum z.hv (z.inn (i : Nat)) from e)]; exact if_pos e2
            have hp := z.paper_some hno hi hat
            rw [hp] at hrd
            exact go_retPap (c := c.pin Gl) (i6 := 6) (s := 9) (p := (i : Nat)) (ns := z.out (i : Nat)) rfl rfl (by show 9 ∉ c.bs; rw [hb]; simp) hrd
          · have e2 := of_decide_eq_false e2
            have hat : z.at_ i = none := by unfold Pz.at_; rw [if_neg (show ¬ z.hi < z.wt i - wsum z.hv (z.inn (i : Nat)) from e)]; exact if_neg e2
            refine go_next fun σ G H F S => ⟨_, ⟨fun j hj => ?_, _, _, _, _, rfl⟩, G, F, S⟩
            by_cases y : j = i
            · rw [y]; exact hat
            · exact hno j (by omega)
      · rintro ρ' ⟨hno, x6, x7, x8, x9, rfl⟩
        have hel : (enums c.K (lI (partW z.hv z.ct z.parts))).length = z.parts.toNat := by simp [enums, partW_length]
        rw [hel] at hno
        have hp := z.paper_none hno
        exact go_ret (r := RNon) ev_non fun v G H x qv => by rw [show v = .non from qv]; exact hr.1 hp G H x
    exact key ⟨K, noB, G, H, [], []⟩ _ rfl rfl ⟨kn, fun w p ns hp t l G' H' x gt hl gl hh => ks w p ns hp t l G' H' x gt hl gl hh⟩ _ _ _ _ (Sta.start (rs := [rw, RRule K z.parts z.lo z.hi, RDSI z.ct, RInt z.b]) (N := N_stuck_paper) e q)
  · obtain ⟨v0, v1, v2, v3, rfl, q0, q1, q2, q3⟩ := reps_four q
    have go : Go ⟨K, noB, G, H, [], []⟩ (t_stuck_paper P w K E) [some (im rw), some (im (RRule K parts lo hi)), some (im (RAt v2 r)), some (im rb), none, none, none, none, none, none, none] { nx := fun _ H1 => Q .non H1, rt := Q } :=
      go_needC (c := ⟨K, noB, G, H, [], []⟩) (i0 := 0) (i1 := 1) (i2 := 2) (i3 := 3) rfl rfl rfl rfl hc fun d fs G' H' x hd hf => k d v2 fs G' H' rfl x hd hf
    exact go _ _ _ _ (Sta.start (rs := [rw, RRule K parts lo hi, RAt v2 r, rb]) (N := N_stuck_paper) e (.cons q0 (.cons q1 (.cons ⟨rfl, q2⟩ (.cons q3 .nil)))))
  · obtain ⟨v0, v1, v2, v3, rfl, q0, q1, q2, q3⟩ := reps_four q
    have go : Go ⟨K, noB, G, H, [], []⟩ (t_stuck_paper P w K E) [some (im rw), some (im (RRule K parts lo hi)), some (im r), some (im (RAt v3 rb)), none, none, none, none, none, none, none] { nx := fun _ H1 => Q .non H1, rt := Q } :=
      go_needN (c := ⟨K, noB, G, H, [], []⟩) (i0 := 0) (i1 := 1) (i2 := 2) (i3 := 3) rfl rfl rfl rfl hc fun d fs G' H' x hd hf => k d v3 fs G' H' rfl x hd hf
    exact go _ _ _ _ (Sta.start (rs := [rw, RRule K parts lo hi, r, RAt v3 rb]) (N := N_stuck_paper) e (.cons q0 (.cons q1 (.cons q2 (.cons ⟨rfl, q3⟩ .nil)))))
end EvC
set_option Elab.async false
set_option linter.all false
set_option maxRecDepth 100000
set_option maxHeartbeats 4000000
/-! R80n: what shows that so few do not do. -/
namespace EvC
open PySem PySem.Spec PyProof.Rows L2 DL
variable [tsp : TabSpec] {P : Program} {w : World} {K : PySem.W.Frag} {mg : Str → Option Value} {base : Heap}
/-! words, numbers, lists -/
def Dt.ty : Dt → String
  | .str _ => "str" | .num _ => "int" | .bl _ => "bool" | .non => "NoneType" | .lst _ => "list"
theorem dt_ty {d : Dt} : TyR K (RDt d) d.ty := by
  cases d with
  | str s => exact ty_str
  | num i => exact ty_int
  | bl b => exact ty_bl
  | non => exact ty_non
  | lst ss => exact ty_lst
def Dt.isStr : Dt → Bool
  | .str _ => true | _ => false
theorem dt_str {d : Dt} : kitB d.ty "str" = some d.isStr := by
  cases d with
  | str s => exact (by decide +kernel : kitB "str" "str" = some true)
  | num i => exact (by decide +kernel : kitB "int" "str" = some false)
  | bl b => exact (by decide +kernel : kitB "bool" "str" = some false)
  | non => exact (by decide +kernel : kitB "NoneType" "str" = some false)
  | lst ss => exact (by decide +kernel : kitB "list" "str" = some false)
def Dt.isInt : Dt → Bool
  | .num _ => true | .bl _ => true | _ => false
theorem dt_int {d : Dt} : kitB d.ty "int" = some d.isInt := by
  cases d with
  | str s => exact (by decide +kernel : kitB "str" "int" = some false)
  | num i => exact (by decide +kernel : kitB "int" "int" = some true)
  | bl b => exact (by decide +kernel : kitB "bool" "int" = some true)
  | non => exact (by decide +kernel : kitB "NoneType" "int" = some false)
  | lst ss => exact (by decide +kernel : kitB "list" "int" = some false)
def Dt.isBool : Dt → Bool
  | .bl _ => true | _ => false
theorem dt_bool {d : Dt} : kitB d.ty "bool" = some d.isBool := by
  cases d with
  | str s => exact (by decide +kernel : kitB "str" "bool" = some false)
  | num i => exact (by decide +kernel : kitB "int" "bool" = some false)
  | bl b => exact (by decide +kernel : kitB "bool" "bool" = some true)
  | non => exact (by decide +kernel : kitB "NoneType" "bool" = some false)
  | lst ss => exact (by decide +kernel : kitB "list" "bool" = some false)
def Dt.wh (lo hi : Int) : Dt → Bool
  | .num i => decide (lo ≤ i) && decide (i ≤ hi) | _ => false
theorem dt_wh {d : Dt} {lo hi : Int} : Wh P w K lo hi (RDt d) (d.wh lo hi) := by
  cases d with
  | str s => exact .other ty_str (by decide +kernel)
  | num i => exact .int i
  | bl b => exact .bl b
  | non => exact .other ty_non (by decide +kernel)
  | lst ss => exact .other ty_lst (by decide +kernel)
theorem rv_eqDt {d : Dt} {s : Str} : RV2 (rEqX K) (RDt d) (RStr s) (RBl (decide (d = .str s))) := fun x y G H e hx hy Q k => by
  obtain rfl : y = .str s := hy
  have fin : ∀ b : Bool, b = decide (d = .str s) → Q (.bl b) H := fun b hb => k _ G H (Ext.refl e) (by rw [hb]; rfl)
  cases d with
  | str t =>
    obtain rfl : x = .str t := hx
    exact .inl ⟨rfl, fin _ (by simp)⟩
  | num t =>
    obtain rfl : x = .int t := hx
    exact .inl ⟨rfl, fin _ (by simp)⟩
  | bl t =>
    obtain rfl : x = .bl t := hx
    exact .inl ⟨rfl, fin _ (by simp)⟩
  | non =>
    obtain rfl : x = .non := hx
    exact .inl ⟨rfl, fin _ (by simp)⟩
  | lst ss =>
    obtain ⟨a, xs, rfl, h1, h2⟩ := RLst.out hx
    exact .inr ⟨a, s, xs, rfl, rfl, .of (e _ _ h1), fin _ (by simp)⟩
theorem in_core {neg : Bool} {d : Dt} {ns : List Str} {x : V} {p : Addr} {G H : Hp} (e : Le G H) (hx : (RDt d).p x G) (hq : SqL K H p (ns.map V.str) ∨ SqT K H p (ns.map V.str)) {Q : VK} (k : Q (.bl (if neg then !decide (d ∈ ns.map Dt.str) else decide (d ∈ ns.map Dt.str))) H) : rInX K neg x (.ref p) H Q := by
  have no : (∀ s, d ≠ .str s) → decide (d ∈ ns.map Dt.str) = false := fun h => by
    rw [decide_eq_false_iff_not]
    intro z
    obtain ⟨s, _, hs⟩ := List.mem_map.mp z
    exact h s hs.symm
  cases d with
  | str s =>
    obtain rfl : x = .str s := hx
    refine .inl ⟨p, _, rfl, hq, rfl, flat_strs ns, ?_⟩
    rw [inV_str]
    have : decide (s ∈ ns) = decide (Dt.str s ∈ ns.map Dt.str) := by
      congr 1
      simp
    rw [this]; exact k
  | num t =>
    obtain rfl : x = .int t := hx
    refine .inl ⟨p, _, rfl, hq, rfl, flat_strs ns, ?_⟩
    rw [inV_no (fun _ => rfl), ← no (fun s z => by cases z)]; exact k
  | bl t =>
    obtain rfl : x = .bl t := hx
    refine .inl ⟨p, _, rfl, hq, rfl, flat_strs ns, ?_⟩
    rw [inV_no (fun _ => rfl), ← no (fun s z => by cases z)]; exact k
  | non =>
    obtain rfl : x = .non := hx
    refine .inl ⟨p, _, rfl, hq, rfl, flat_strs ns, ?_⟩
    rw [inV_no (fun _ => rfl), ← no (fun s z => by cases z)]; exact k
  | lst ss =>
    obtain ⟨a, xs, rfl, h1, h2⟩ := RLst.out hx
    refine .inr ⟨p, a, ns, xs, rfl, hq, rfl, .of (e _ _ h1), ?_⟩
    rw [no (fun s z => by cases z)] at k
    cases neg <;> exact k
theorem rv_inDt {neg : Bool} {d : Dt} {ns : List Str} : RV2 (rInX K neg) (RDt d) (RLst (lS ns)) (RBl (if neg then !decide (d ∈ ns.map Dt.str) else decide (d ∈ ns.map Dt.str))) := fun x y G H e hx hy Q k => by
  obtain ⟨p, xs, rfl, h1, h2⟩ := RLst.out hy
  rw [reps_strs h2] at h1
  exact in_core e hx (.inl (.of (e _ _ h1))) (k _ G H (Ext.refl e) rfl)
theorem rv_inDtT {neg : Bool} {d : Dt} {ns : List Str} : RV2 (rInX K neg) (RDt d) (RTup K (lS ns)) (RBl (if neg then !decide (d ∈ ns.map Dt.str) else decide (d ∈ ns.map Dt.str))) := fun x y G H e hx hy Q k => by
  obtain ⟨p, xs, rfl, h1, h2⟩ := hy
  rw [reps_strs h2] at h1
  exact in_core e hx (.inr (sqt_same e.same h1)) (k _ G H (Ext.refl e) rfl)
theorem lS_dt {ss : List Str} : (ss.map Dt.str).map RDt = lS ss := by
  rw [List.map_map]; rfl
theorem mem_dt {s : Str} {ss : List Str} : Dt.str s ∈ ss.map Dt.str ↔ s ∈ ss := by simp
/-! kinds -/
theorem kinds_some {kin : List Str} : ∀ {ds : List Dt} {ss r : List Str}, kinds kin ss ds = some r → ∃ ts, r = ss ++ ts ∧ ds = ts.map Dt.str ∧ ∀ t ∈ ts, t ∈ kin
  | [], ss, r, h => ⟨[], by rw [List.append_nil]; exact (Option.some.inj h).symm, rfl, fun _ h => nomatch h⟩
  | .str s :: ds, ss, r, h => by
    unfold kinds at h
    split at h
    · rename_i z
      obtain ⟨ts, h1, h2, h3⟩ := kinds_some h
      refine ⟨s :: ts, by rw [h1, List.append_assoc]; rfl, by rw [h2]; rfl, fun t ht => ?_⟩
      cases ht with
      | head => exact z.1
      | tail _ ht => exact h3 t ht
    · cases h
  | .num _ :: _, _, _, h => by cases h
  | .bl _ :: _, _, _, h => by cases h
  | .non :: _, _, _, h => by cases h
  | .lst _ :: _, _, _, h => by cases h
theorem areH_some {hv : List (Str × Int)} {kin : List Str} {ds : List Dt} {b : Int} (h : areH hv kin ds b = true) : ∃ ss : List Str, ds = ss.map Dt.str ∧ ∀ t ∈ ss, t ∈ kin := by
  unfold areH at h
  split at h
  · cases h
  · split at h
    · cases h
    · rename_i ss hk
      obtain ⟨ts, h1, h2, h3⟩ := kinds_some hk
      exact ⟨ts, h2, h3⟩
theorem areH_none {hv : List (Str × Int)} {kin : List Str} {ds : List Dt} {b : Int} (h : kinds kin [] ds = none) : areH hv kin ds b = false := by
  unfold areH
  split
  · rfl
  · rw [h]
theorem areH_len {hv : List (Str × Int)} {kin : List Str} {ds : List Dt} {b : Int} (h : (ds.length : Int) ≠ min b kin.length) : areH hv kin ds b = false := by
  unfold areH
  rw [if_pos h]
theorem strsOf_str : ∀ ss : List Str, strsOf (ss.map Dt.str) = ss
  | [] => rfl
  | s :: ss => by
    have := strsOf_str ss
    unfold strsOf at this ⊢
    rw [List.map_cons, List.filterMap_cons]
    simp [this]
/-- one more of a kind -/
theorem kinds_step {kin ss : List Str} {ds r : List Dt} {d : Dt} (hd : ds = d :: r) : kinds kin ss ds = (match d with
    | .str s => if s ∈ kin ∧ s ∉ ss then kinds kin (ss ++ [s]) r else none
    | _ => none) := by
  subst hd
  cases d <;> rfl
/-- so far: the first i are texts of a kind -/
structure Far (kin : List Str) (ds : List Dt) (i : Nat) (ss : List Str) : Prop where
  k : kinds kin [] ds = kinds kin ss (ds.drop i)
  t : ds.take i = ss.map Dt.str
theorem Far.step {kin : List Str} {ds : List Dt} {i : Nat} {ss : List Str} {s : Str} (h : Far kin ds i ss) (hd : ds[i]? = some (.str s)) (h1 : s ∈ kin) (h2 : s ∉ ss) : Far kin ds (i + 1) (ss ++ [s]) := by
  have hl := (List.getElem?_eq_some_iff.mp hd).1
  have e : ds.drop i = .str s :: ds.drop (i + 1) := by
    rw [List.drop_eq_getElem_cons hl, (List.getElem?_eq_some_iff.mp hd).2]
  refine ⟨?_, ?_⟩
  · rw [h.k, kinds_step e]
    exact if_pos ⟨h1, h2⟩
  · rw [List.take_add_one, hd, h.t, List.map_append]; rfl
theorem Far.no {kin : List Str} {ds : List Dt} {i : Nat} {ss : List Str} {d : Dt} (h : Far kin ds i ss) (hd : ds[i]? = some d) (h1 : ¬ ∃ s, d = .str s ∧ s ∈ kin ∧ s ∉ ss) : kinds kin [] ds = none := by
  have hl := (List.getElem?_eq_some_iff.mp hd).1
  have e : ds.drop i = d :: ds.drop (i + 1) := by
    rw [List.drop_eq_getElem_cons hl, (List.getElem?_eq_some_iff.mp hd).2]
  rw [h.k, kinds_step e]
  cases d with
  | str s => exact if_neg fun z => h1 ⟨s, rfl, z⟩
  | num _ => rfl
  | bl _ => rfl
  | non => rfl
  | lst _ => rfl
theorem Far.all {kin : List Str} {ds : List Dt} {ss : List Str} (h : Far kin ds ds.length ss) : kinds kin [] ds = some ss ∧ ds = ss.map Dt.str := by
  obtain ⟨k, t⟩ := h
  rw [List.drop_length] at k
  rw [List.take_length] at t
  exact ⟨k, t⟩
/-- [f(x) for x in names if x not in some] -/
theorem evn_left {c : DL.Ctx} {ρ : DL.Env} {tn te : TE} {o : R2} {i j : Nat} {ns ss : List Str} {f : Str → Int} (hj : ρ[j]? = some none) (ne : i ≠ j) (hl : ns.length ≤ 1000) (hn : Ev c tn ρ (RLst (lS ns))) (hi : ρ[i]? = some (some (im (RLst (lS ss)))))
    (ho : ∀ n, RV2 o (RStr n) (RLst (lS ss)) (RBl (!decide (n ∈ ss)))) (hf : ∀ Gl, ∀ n ∈ ns, Ev (c.pin Gl) te (ρ.set j (some (im (RStr n)))) (RInt (f n))) :
    EvN c (tLc (iList c.K tn) (gName j) (tTest (tOp o (tVar j) (tVar i))) te [j]) ρ (lI ((ns.filter fun n => !decide (n ∈ ss)).map f)) := by
  have hjl : j < ρ.length := (List.getElem?_eq_some_iff.mp hj).1
  have h := evn_lc (c := c) (ρ := ρ) (te := te) (tt := tTest (tOp o (tVar j) (tVar i))) (g := gName j) (vs := [j]) (fun k => lI (((ns.take k).filter fun n => !decide (n ∈ ss)).map f)) (fun v hv s e => by
    rw [List.mem_singleton] at hv; subst hv; rw [hj] at e; cases e) (ei_list (rs := lS ns) hn) (by simp) (fun Gl k r hr => by
    obtain ⟨n, hn, rfl⟩ := lS_at hr
    have hself : (ρ.set j (some (im (RStr n))))[j]? = some (some (im (RStr n))) := List.getElem?_set_self hjl
    have hoth : (ρ.set j (some (im (RStr n))))[i]? = some (some (im (RLst (lS ss)))) := by rw [List.getElem?_set_ne (Ne.symm ne)]; exact hi
    have e1 : ((ns.take (k + 1)).filter fun n => !decide (n ∈ ss)) = ((ns.take k).filter fun n => !decide (n ∈ ss)) ++ if (!decide (n ∈ ss)) = true then [n] else [] := by
      rw [List.take_add_one, hn, List.filter_append]
      cases z : decide (n ∈ ss) <;> simp_all
    refine ⟨_, _, fun b => b = !decide (n ∈ ss), gg_name hjl, fun _ z => z, et_test (ev_op (ev_var hself) (ev_var hoth) (ho n)), fun z => ⟨RInt (f n), hf Gl n (List.mem_of_getElem? hn), ?_⟩, fun z => ?_⟩
    · rw [e1, if_pos z.symm]; simp
    · rw [e1, if_neg (by rw [← z]; decide)]; simp) (fun k hk => by
      rw [List.length_map, List.length_map]
      have := List.length_filter_le (fun n => !decide (n ∈ ss)) (ns.take k)
      rw [List.length_take] at this
      omega)
  rw [show ns.take (lS ns).length = ns by simp] at h
  exact h
theorem len_are_heaviest (vs : List V) (H : Hp) (Q : VK) (E : XK) (h : sp_are_heaviest P w K vs H Q E) : vs.length = 4 := by refine spP_len (n := 4) ?_ vs H Q E h; intro i; rfl
theorem rd_are_heaviest (T : Tx P w K mg base) (hT : tsp.T = tabsT K) (vs : List V) (H : Hp) (Q : VK) (E : XK) (h : sp_are_heaviest P w K vs H Q E) : t_are_heaviest P w K { nx := fun _ H1 => Q .non H1, rt := Q } (start N_are_heaviest vs) H :=
  body_P (K := K) (fun ⟨⟨rw, hv, kin⟩, ⟨r, o⟩, b⟩ ⟨hw, hwb, hm, hl, hk, hb0⟩ c D hK hb hr hx => by
    subst hK
    dsimp only at hw hwb hm hl hk hb0
    show Go c _ [some (im rw), some (im (RLst (lS kin))), some (im r), some (im (RInt b)), none, none, none] D
    cases hk with
    | @tup ds =>
      have hr : Rets c D (RBl false) := hr
      exact q_ifT (b := true) (et_or (a := true) (b := true) (et_not (a := false) (et_B (ev_cb (ea_cons (ev_var (i := 2) rfl) (eaOf ev_c)) (rv_isi ty_tup (by decide +kernel))))) fun z => by cases z) (fun _ => go_ret ev_bl hr) fun z => by cases z
    | @lst ds hds hdl =>
      have hr : Rets c D (RBl (areH hv kin ds b)) := hr
      refine q_may (b := !decide ((ds.length : Int) = min b kin.length)) (et_is (et_or (a := false) (et_not (a := true) (et_B (ev_cb (ea_cons (ev_var (i := 2) rfl) (eaOf ev_c)) (rv_isi ty_lst (by decide +kernel))))) fun _ => et_test (ev_op (ev_cb (eaOf (ev_var (i := 2) rfl)) rv_lenL) (ev_cb (ea_cons (ev_var (i := 3) rfl) (eaOf (ev_cb (eaOf (ev_var (i := 1) rfl)) rv_lenL))) rv_min2) rv_neI)) (by simp)) (fun z => ?_) fun z => ?_
      · rw [areH_len (by simpa using z)] at hr
        exact go_ret ev_bl hr
      have hlen : (ds.length : Int) = min b kin.length := by simpa using z
      refine q_for (fun i ρ => ∃ ss, Far kin ds i ss ∧ ∃ x4 x5, ρ = [some (im rw), some (im (RLst (lS kin))), some (im (RLst (ds.map RDt))), some (im (RInt b)), x4, x5, none]) (ei_enum (rs := ds.map RDt) (eaOf (ev_var (i := 2) rfl))) ⟨[], ⟨rfl, by simp⟩, none, none, rfl⟩ ?_ ?_
      · rintro Gl i r ρ' hri ⟨ss, far, x4, x5, rfl⟩
        obtain ⟨hi, r0, h0, rfl⟩ := enum_at2 hri
        simp only [List.getElem?_map, Option.map_eq_some_iff] at h0
        obtain ⟨d, hd, rfl⟩ := h0
        have hrd : Rets (c.pin Gl) D (RBl (areH hv kin ds b)) := hr
        refine ⟨_, _, gg_tup (c := c.pin Gl) (rs := [RInt (i : Nat), RDt d]) (ggs_cons (gg_name (by simp)) (ggs_cons (gg_name (by simp)) ggs_nil)) rfl, ?_⟩
        have etk : Ev (c.pin Gl) (tSl (rSlL c.K) (tVar 2) tNoPart (tPart (tVar 4))) [some (im rw), some (im (RLst (lS kin))), some (im (RLst (ds.map RDt))), some (im (RInt b)), some (im (RInt (i : Nat))), some (im (RDt d)), none] (RLst (lS ss)) := by
          have e := evn_ev (evn_take (c := c.pin Gl) (ρ := [some (im rw), some (im (RLst (lS kin))), some (im (RLst (ds.map RDt))), some (im (RInt b)), some (im (RInt (i : Nat))), some (im (RDt d)), none]) (ev_var (i := 2) (r := RLst (ds.map RDt)) rfl) (ev_var (i := 4) (r := RInt (i : Nat)) rfl) (by omega))
          rw [Int.toNat_natCast, ← List.map_take, far.t, lS_dt] at e
          exact e
        refine go_ifT (et_or (a := !d.isStr) (b := !(decide (d ∈ kin.map Dt.str)) || decide (d ∈ ss.map Dt.str)) (et_not (et_B (ev_cb (ea_cons (ev_var (i := 5) rfl) (eaOf ev_c)) (rv_isiO dt_ty dt_str)))) fun _ => et_or (et_test (ev_op (ev_var (i := 5) rfl) (ev_var (i := 1) rfl) rv_inDt)) fun _ => et_test (ev_op (ev_var (i := 5) rfl) etk rv_inDt)) (fun e => ?_) fun e => ?_
        · have hno : ¬ ∃ s, d = .str s ∧ s ∈ kin ∧ s ∉ ss := by
            rintro ⟨s, rfl, h1, h2⟩
            simp [Dt.isStr, h1, h2] at e
          rw [areH_none (far.no hd hno)] at hrd
          exact go_ret ev_bl hrd
        · have hyes : ∃ s, d = .str s ∧ s ∈ kin ∧ s ∉ ss := by
            cases d with
            | str s => exact ⟨s, rfl, by simpa [Dt.isStr] using e⟩
            | num i => simp [Dt.isStr] at e
            | bl b => simp [Dt.isStr] at e
            | non => simp [Dt.isStr] at e
            | lst l => simp [Dt.isStr] at e
          obtain ⟨s, rfl, h1, h2⟩ := hyes
          exact go_next fun σ G H F S => ⟨_, ⟨ss ++ [s], far.step hd h1 h2, _, _, rfl⟩, G, F, S⟩
      · rintro ρ' ⟨ss, far, x4, x5, rfl⟩
        rw [show (enums c.K (ds.map RDt)).length = ds.length by simp [enums]] at far
        obtain ⟨hk, hds2⟩ := far.all
        subst hds2
        rw [lS_dt]
        obtain ⟨ts, h1, h2, hsub⟩ := kinds_some hk
        have ets : ss = ts := by simpa using h1
        subst ets
        have sok : ∀ s ∈ ss, PyData.strOk s = true := fun s hs => hds (.str s) (mem_dt.mpr hs)
        have ssl : ss.length ≤ 100 := by simpa using hdl
        have ea : areH hv kin (ss.map Dt.str) b = (decide (((kin.filter fun n => !decide (n ∈ ss)).map (look hv)) = []) || (decide (ss = []) || decide (lmax ((kin.filter fun n => !decide (n ∈ ss)).map (look hv)) ≤ lmin (ss.map (look hv))))) := by
          unfold areH
          rw [if_neg (by simpa using hlen), hk]
        rw [ea] at hr
        refine go_forget (i := 5) ?_
        refine q_asg (by simp) (evn_ev (evn_left (c := c) (i := 2) (j := 5) (ns := kin) (ss := ss) (f := look hv) rfl (by decide) (by omega) (ev_var (i := 1) rfl) rfl (fun n => rv_inNS) fun Gl n hn => ev_weight (c := c.pin Gl) (i := 0) rfl hw (ev_var (i := 5) rfl) (hm n hn))) ?_
        refine go_ret (ev_orV (ev_op (ev_var (i := 6) rfl) (ev_lst ea_nil (by simp)) rv_eqNilI) fun z1 => ev_orV (ev_op (ev_var (i := 2) (r := RLst (lS ss)) rfl) (ev_lst ea_nil (by simp)) (rv_eqNilS sok)) fun z2 => ev_op (ev_cb (eaOf (ev_var (i := 6) rfl)) (rv_max (of_decide_eq_false z1))) (ev_cb (eaOf (evn_ev ?_)) (rv_min (ns := ss.map (look hv)) fun y => of_decide_eq_false z2 (by simpa using y))) rv_le) hr
        exact evn_map (j := 5) (rs' := lI (ss.map (look hv))) rfl (ei_list (rs := lS ss) (ev_var (i := 2) rfl)) (by simp) (by simp; omega) fun Gl i r hri => by
          obtain ⟨n, hn, rfl⟩ := lS_at hri
          exact ⟨RInt (look hv n), by simp [hn], ev_weight (c := c.pin Gl) (i := 0) rfl hw (ev_var (i := 5) rfl) (hm n (hsub n (List.mem_of_getElem? hn)))⟩) vs H Q E h
end EvC
set_option Elab.async false
set_option linter.all false
set_option maxRecDepth 100000
set_option maxHeartbeats 4000000
/-! R80o: shows_stuck, and the law's own. -/
namespace EvC
open PySem PySem.Spec PyProof.Rows L2 DL
variable [tsp : TabSpec] {P : Program} {w : World} {K : PySem.W.Frag} {mg : Str → Option Value} {base : Heap}
section
variable {c : DL.Ctx} {ρ ρ2 : DL.Env} {D : Ends} {te : TE} {tg : TG} {u : TS} {r : R} {js : List Nat}
theorem go_asgT (h : Ev c te ρ r) (g : GoG c tg r ρ ρ2 js) (k : Nx c D.nx ρ2) : Go c (tAsg te tg) ρ D := fun σ G H F S => h σ G H F S _ fun v G' H' F' S' _ q => g.run σ G' H' F' v S' q _ fun σ2 F2 S2 _ _ => k _ _ _ _ S2
theorem q_asgT (h : Ev c te ρ r) (g : GoG c tg r ρ ρ2 js) (k : Go c u ρ2 D) : Go c (tSeq (tAsg te tg) u) ρ D := go_seq (go_asgT h g k)
theorem ret_bl {b b' : Bool} (hr : Rets c D (RBl b)) (e : b = b') (h : Ev c te ρ (RBl b')) : Go c (tRet te) ρ D := go_ret h (e ▸ hr)
end
theorem lk_len {r : R} {ds : List Dt} (h : Lk K r (some ds)) : r = RLst (ds.map RDt) ∧ ds.length ≤ 100 := by
  cases h with
  | lst hn hl => exact ⟨rfl, hl⟩
theorem Dt.wh_num {lo hi : Int} {d : Dt} (h : d.wh lo hi = true) : ∃ p, d = .num p ∧ lo ≤ p ∧ p ≤ hi := by
  cases d with
  | num i => simp [Dt.wh] at h; exact ⟨i, rfl, h⟩
  | str s => cases h
  | bl b => cases h
  | non => cases h
  | lst l => cases h
def Pz.showsO (z : Pz) (wd pd : Dt) : Option (List Dt) → Bool
  | some ds => z.shows (.t3 wd pd ds)
  | none => false
theorem shows_eq {z : Pz} {s : Str} {p : Int} {ds : List Dt} : z.shows (.t3 (.str s) (.num p) ds) = if 0 ≤ p ∧ p < z.parts then
      (if s = "heavy" then areH z.hv (insideOf z.ns z.ct p) ds z.b && decide (z.hi < z.wt p.toNat - wsum z.hv (strsOf ds))
       else if s = "light" then areH z.hv (outsideOf z.ns z.ct p) ds z.b && decide (z.wt p.toNat + wsum z.hv (strsOf ds) < z.lo) else false) else false := rfl
theorem shows_nonum {z : Pz} {wd pd : Dt} {o : Option (List Dt)} (h : pd.wh 0 (z.parts - 1) = false) : z.showsO wd pd o = false := by
  cases o with
  | none => rfl
  | some ds =>
    cases wd <;> cases pd <;> try rfl
    rename_i s p
    show z.shows (.t3 (.str s) (.num p) ds) = false
    rw [shows_eq]
    rw [if_neg]
    simp [Dt.wh] at h
    omega
theorem shows_heavy {z : Pz} {p : Int} {ds : List Dt} (h0 : 0 ≤ p) (h1 : p < z.parts) : z.shows (.t3 (.str "heavy") (.num p) ds) = (areH z.hv (insideOf z.ns z.ct p) ds z.b && decide (z.hi < z.wt p.toNat - wsum z.hv (strsOf ds))) := by
  rw [shows_eq, if_pos ⟨h0, h1⟩]
  exact if_pos rfl
theorem light_ne : ¬ (("light" : Str) = "heavy") := by decide
theorem shows_light {z : Pz} {p : Int} {ds : List Dt} (h0 : 0 ≤ p) (h1 : p < z.parts) : z.shows (.t3 (.str "light") (.num p) ds) = (areH z.hv (outsideOf z.ns z.ct p) ds z.b && decide (z.wt p.toNat + wsum z.hv (strsOf ds) < z.lo)) := by
  rw [shows_eq, if_pos ⟨h0, h1⟩]
  rw [if_neg light_ne]
  exact if_pos rfl
theorem shows_noword {z : Pz} {wd pd : Dt} {o : Option (List Dt)} (h1 : wd ≠ .str "heavy") (h2 : wd ≠ .str "light") : z.showsO wd pd o = false := by
  cases o with
  | none => rfl
  | some ds =>
    cases wd <;> cases pd <;> try rfl
    rename_i s p
    show z.shows (.t3 (.str s) (.num p) ds) = false
    rw [shows_eq]
    split
    · rw [if_neg (fun e => h1 (by rw [e])), if_neg (fun e => h2 (by rw [e]))]
    · rfl
theorem len_shows_stuck (vs : List V) (H : Hp) (Q : VK) (E : XK) (h : sp_shows_stuck P w K vs H Q E) : vs.length = 5 := by
  rcases h with h | ⟨i, G, _, q, _⟩ | ⟨i, G, _, q, _⟩
  · refine spP_len (n := 5) ?_ vs H Q E h; intro i; rfl
  · rw [← q.length]; rfl
  · rw [← q.length]; rfl
/-- behind the first test: three things, the second a part's number -/
theorem go_shows3 {c : DL.Ctx} {D : Ends} {E : XK} {rw r3 : R} {z : Pz} {wd pd : Dt} {o : Option (List Dt)} (T : Tx P w c.K mg base) (hw : IsWeb c.K z.hv rw) (ok : z.ok) (hk : Lk c.K r3 o) (hr : Rets c D (RBl (z.showsO wd pd o))) :
    Go c (tSeq (tIfS (tOr (tNot (tB (tCB (rIsi c.K) (tCons (tVar 4) (tCons (tC (.ty "tuple")) tNil))))) (tOr (tTest (tOp rNe (tCB (rLenV c.K) (tCons (tVar 4) tNil)) (tC (.int 3)))) (tNot (tB (tCall (sp_is_whole P w c.K) [] E0 (tCons (tOp (rIxT c.K) (tVar 4) (tC (.int 1))) (tCons (tC (.int 0)) (tCons (tOp oSub (tFld c.K (tVar 1) "parts") (tC (.int 1))) tNil)))))))) (tRet (tC (.bl false))) tNext)
      (tSeq (tAsg (tVar 4) (gTup c.K 3 (gCons (gName 5) (gCons (gName 6) (gCons (gName 7) gNil)))))
      (tSeq (tAsg (tOp (rIxL c.K) (tCall (sp_part_weights P w c.K) [] E0 (tCons (tVar 0) (tCons (tFld c.K (tVar 1) "parts") (tCons (tVar 2) tNil)))) (tVar 6)) (gName 8))
      (tSeq (tAsg (tLc (iList c.K (tMeth (He.ga c.K "Web") "names" (sp_Web_names P w c.K) [] E0 (tVar 0) tNil)) (gName 10) (tTest (tOp rEq (tDGet (tVar 2) (tVar 10)) (tVar 6))) (tVar 10) [10]) (gName 9))
      (tSeq (tIfS (tTest (tOp (rEqX c.K) (tVar 5) (tC (.str "heavy")))) (tRet (tAndV (tCall (sp_are_heaviest P w c.K) [] E0 (tCons (tVar 0) (tCons (tVar 9) (tCons (tVar 7) (tCons (tVar 3) tNil))))) (tOp oGt (tOp oSub (tVar 8) (tCall (sp_weight_sum P w c.K) [] E0 (tCons (tVar 0) (tCons (tVar 7) tNil)))) (tFld c.K (tVar 1) "high")))) tNext)
      (tSeq (tAsg (tLc (iList c.K (tMeth (He.ga c.K "Web") "names" (sp_Web_names P w c.K) [] E0 (tVar 0) tNil)) (gName 10) (tTest (tOp rNe (tDGet (tVar 2) (tVar 10)) (tVar 6))) (tVar 10) [10]) (gName 11))
      (tSeq (tIfS (tTest (tOp (rEqX c.K) (tVar 5) (tC (.str "light")))) (tRet (tAndV (tCall (sp_are_heaviest P w c.K) [] E0 (tCons (tVar 0) (tCons (tVar 11) (tCons (tVar 7) (tCons (tVar 3) tNil))))) (tOp oLt (tOp oAdd (tVar 8) (tCall (sp_weight_sum P w c.K) [] E0 (tCons (tVar 0) (tCons (tVar 7) tNil)))) (tFld c.K (tVar 1) "low")))) tNext)
      (tRet (tC (.bl false))))))))))
      [some (im rw), some (im (RRule c.K z.parts z.lo z.hi)), some (im (RDSI z.ct)), some (im (RInt z.b)), some (im (RTup c.K [RDt wd, RDt pd, r3])), none, none, none, none, none, none, none] D := by
  have p2 := ok.ct.p2
  have p6 := ok.ct.p6
  have hwb := ok.ct.web
  have l8 := web8 hwb
  have nsl : z.ns.length = z.hv.length := by simp
  have hct : ∀ n ∈ z.ns, lookR (dSI z.ct) (.inr n) = some (RInt (look z.ct n)) := fun n hn => look_cut ok.ct.cut hn
  refine q_may (b := !(pd.wh 0 (z.parts - 1))) (et_is (et_or (a := false) (et_not (a := true) (et_B (ev_cb (ea_cons (ev_var (i := 4) rfl) (eaOf ev_c)) (rv_isi ty_tup (by decide +kernel))))) fun _ => et_or (a := false) (et_is (et_test (ev_op (ev_cb (eaOf (ev_var (i := 4) (r := RTup c.K [RDt wd, RDt pd, r3]) rfl)) rv_lenT) (ev_int (i := 3)) rv_neI)) (by simp)) fun _ => et_not (et_B (ev_call0 (ea_cons (ev_op (ev_var (i := 4) rfl) (ev_int (i := 1)) (rv_ixT (r := RDt pd) rfl)) (ea_cons (ev_int (i := 0)) (eaOf (ev_op (ev_fld (ev_var (i := 1) rfl) fld_parts (k_Rule T) (na_Rule_parts T)) (ev_int (i := 1)) rv_sub)))) (spP_ok (I := R × Int × Int × Bool) (RDt pd, 0, z.parts - 1, pd.wh 0 (z.parts - 1)) dt_wh)))) (by simp)) (fun e => ?_) fun e => ?_
  · rw [shows_nonum (by simpa using e)] at hr
    exact go_ret ev_bl hr
  obtain ⟨p, rfl, h0, h1⟩ := Dt.wh_num (by simpa using e)
  have h1' : p < z.parts := by omega
  refine q_asgT (r := RTup c.K [RDt wd, RInt p, r3]) (ev_var (i := 4) rfl) (gg_tup (rs := [RDt wd, RInt p, r3]) (ggs_cons (gg_name (by simp)) (ggs_cons (gg_name (by simp)) (ggs_cons (gg_name (by simp)) ggs_nil))) rfl) ?_
  have hwt : (lI (partW z.hv z.ct z.parts))[p.toNat]? = some (RInt (z.wt p.toNat)) := lI_get (by rw [partW_length]; omega)
  refine q_asg (by simp) (ev_op (ev_partW (i0 := 0) (i1 := 1) (i2 := 2) T rfl rfl rfl hw ok) (ev_var (i := 6) (r := RInt p) rfl) (rv_ixL (atI_int h0 hwt))) ?_
  refine q_asg (r := RLst (lS (insideOf z.ns z.ct p))) (by simp) (evn_ev (evn_filt (j := 10) (ns := z.ns) (ct := z.ct) (p := p) (pr := fun s => decide (look z.ct s = p)) rfl (by omega) (ev_wnames (i := 0) rfl hw) hct (fun Gl' r => ev_var (i := 2) rfl) (fun Gl' r => ev_var (i := 6) (r := RInt p) rfl) (fun n => rv_eqI))) ?_
  have hil : (insideOf z.ns z.ct p).length ≤ z.ns.length := inside_sub.length_le
  have hol : (outsideOf z.ns z.ct p).length ≤ z.ns.length := outside_sub.length_le
  refine q_may (et_test (ev_op (ev_var (i := 5) (r := RDt wd) rfl) (ev_str (s := "heavy")) rv_eqDt)) (fun e => ?_) fun e => ?_
  · obtain rfl := of_decide_eq_true e
    cases o with
    | none =>
      exact ret_bl hr (b' := false && true) rfl (ev_andV (a := false) (b := true) (ev_call0 (ea_cons (ev_var (i := 0) rfl) (ea_cons (ev_var (i := 9) rfl) (ea_cons (ev_var (i := 7) rfl) (eaOf (ev_var (i := 3) rfl))))) (spP_ok (I := (R × List (Str × Int) × List Str) × (R × Option (List Dt)) × Int) ((rw, z.hv, insideOf z.ns z.ct p), (r3, none), z.b) ⟨hw, hwb, fun n hn => inside_sub.subset hn, by show (insideOf z.ns z.ct p).length ≤ 100; omega, hk, ok.b0⟩)) fun z => by cases z)
    | some ds =>
      obtain ⟨rfl, dl⟩ := lk_len hk
      refine ret_bl hr (shows_heavy h0 h1') (ev_andV (ev_call0 (ea_cons (ev_var (i := 0) rfl) (ea_cons (ev_var (i := 9) rfl) (ea_cons (ev_var (i := 7) rfl) (eaOf (ev_var (i := 3) rfl))))) (spP_ok (I := (R × List (Str × Int) × List Str) × (R × Option (List Dt)) × Int) ((rw, z.hv, insideOf z.ns z.ct p), (RLst (ds.map RDt), some ds), z.b) ⟨hw, hwb, fun n hn => inside_sub.subset hn, by show (insideOf z.ns z.ct p).length ≤ 100; omega, hk, ok.b0⟩)) fun ha => ?_)
      obtain ⟨ss, rfl, hss⟩ := areH_some ha
      rw [strsOf_str]
      exact ev_op (ev_op (ev_var (i := 8) rfl) (ev_call0 (ea_cons (ev_var (i := 0) rfl) (eaOf (ev_eq (ev_var (i := 7) rfl) (by rw [lS_dt])))) (spP_ok (I := R × List (Str × Int) × List Str) (rw, z.hv, ss) ⟨hw, fun n hn => inside_sub.subset (hss n hn), by simpa using dl⟩)) rv_sub) (ev_fld (ev_var (i := 1) rfl) fld_high (k_Rule T) (na_Rule_high T)) rv_gt
  have hnh := of_decide_eq_false e
  refine q_asg (r := RLst (lS (outsideOf z.ns z.ct p))) (by simp) (evn_ev (evn_filt (j := 10) (ns := z.ns) (ct := z.ct) (p := p) (pr := fun s => !decide (look z.ct s = p)) rfl (by omega) (ev_wnames (i := 0) rfl hw) hct (fun Gl' r => ev_var (i := 2) rfl) (fun Gl' r => ev_var (i := 6) (r := RInt p) rfl) (fun n => rv_neI))) ?_
  refine q_may (et_test (ev_op (ev_var (i := 5) (r := RDt wd) rfl) (ev_str (s := "light")) rv_eqDt)) (fun e => ?_) fun e => ?_
  · obtain rfl := of_decide_eq_true e
    cases o with
    | none =>
      exact ret_bl hr (b' := false && true) rfl (ev_andV (a := false) (b := true) (ev_call0 (ea_cons (ev_var (i := 0) rfl) (ea_cons (ev_var (i := 11) rfl) (ea_cons (ev_var (i := 7) rfl) (eaOf (ev_var (i := 3) rfl))))) (spP_ok (I := (R × List (Str × Int) × List Str) × (R × Option (List Dt)) × Int) ((rw, z.hv, outsideOf z.ns z.ct p), (r3, none), z.b) ⟨hw, hwb, fun n hn => outside_sub.subset hn, by show (outsideOf z.ns z.ct p).length ≤ 100; omega, hk, ok.b0⟩)) fun z => by cases z)
    | some ds =>
      obtain ⟨rfl, dl⟩ := lk_len hk
      refine ret_bl hr (shows_light h0 h1') (ev_andV (ev_call0 (ea_cons (ev_var (i := 0) rfl) (ea_cons (ev_var (i := 11) rfl) (ea_cons (ev_var (i := 7) rfl) (eaOf (ev_var (i := 3) rfl))))) (spP_ok (I := (R × List (Str × Int) × List Str) × (R × Option (List Dt)) × Int) ((rw, z.hv, outsideOf z.ns z.ct p), (RLst (ds.map RDt), some ds), z.b) ⟨hw, hwb, fun n hn => outside_sub.subset hn, by show (outsideOf z.ns z.ct p).length ≤ 100; omega, hk, ok.b0⟩)) fun ha => ?_)
      obtain ⟨ss, rfl, hss⟩ := areH_some ha
      rw [strsOf_str]
      exact ev_op (ev_op (ev_var (i := 8) rfl) (ev_call0 (ea_cons (ev_var (i := 0) rfl) (eaOf (ev_eq (ev_var (i := 7) rfl) (by rw [lS_dt])))) (spP_ok (I := R × List (Str × Int) × List Str) (rw, z.hv, ss) ⟨hw, fun n hn => outside_sub.subset (hss n hn), by simpa using dl⟩)) rv_add) (ev_fld (ev_var (i := 1) rfl) fld_low (k_Rule T) (na_Rule_low T)) rv_lt
  have hnl := of_decide_eq_false e
  rw [shows_noword hnh hnl] at hr
  exact go_ret ev_bl hr
theorem rd_shows_stuck (T : Tx P w K mg base) (hT : tsp.T = tabsT K) (vs : List V) (H : Hp) (Q : VK) (E : XK) (h : sp_shows_stuck P w K vs H Q E) : t_shows_stuck P w K E { nx := fun _ H1 => Q .non H1, rt := Q } (start N_shows_stuck vs) H := by
  rcases h with h | ⟨⟨⟨rw, hv, ⟨parts, lo, hi⟩, r⟩, rb⟩, G, e, q, hc, k⟩ | ⟨⟨⟨rw, hv, ⟨parts, lo, hi⟩, r⟩, rb⟩, G, e, q, hc, k⟩
  · exact body_P (K := K) (fun ⟨rw, z, r, th⟩ ⟨hw, ok, hth⟩ c D hK hb hr hx => by
      subst hK
      dsimp only at hw ok hth hr
      show Go c _ [some (im rw), some (im (RRule c.K z.parts z.lo z.hi)), some (im (RDSI z.ct)), some (im (RInt z.b)), some (im r), none, none, none, none, none, none, none] D
      refine q_needOk (i0 := 0) (i1 := 1) (i2 := 2) (i3 := 3) rfl rfl rfl rfl hw ok ?_
      cases hth with
      | @t3 wd pd ds h1 h2 h3 h4 => exact go_shows3 (E := E) T hw ok (.lst h3 h4) hr
      | @t3t wd pd ds h1 h2 h3 h4 => exact go_shows3 (E := E) T hw ok (.tup (ds := ds)) hr
      | @ty _ t h1 h2 =>
        exact q_ifT (b := true) (et_or (a := true) (b := true) (et_not (a := false) (et_B (ev_cb (ea_cons (ev_var (i := 4) rfl) (eaOf ev_c)) (rv_isi h1 h2)))) fun z => by cases z) (fun _ => go_ret ev_bl hr) fun z => by cases z
      | @len rs h1 h2 =>
        refine q_ifT (b := true) (et_is (et_or (a := false) (b := true) (et_not (a := true) (et_B (ev_cb (ea_cons (ev_var (i := 4) rfl) (eaOf ev_c)) (rv_isi ty_tup (by decide +kernel))))) fun _ => et_or (a := true) (b := true) (et_is (et_test (ev_op (ev_cb (eaOf (ev_var (i := 4) (r := RTup c.K rs) rfl)) rv_lenT) (ev_int (i := 3)) rv_neI)) ?_) fun z => by cases z) rfl) (fun _ => go_ret ev_bl hr) fun z => by cases z
        rw [decide_eq_false (by omega)]; rfl) vs H Q E h
  · obtain ⟨v0, v1, v2, v3, v4, rfl, q0, q1, q2, q3, q4⟩ := reps_five q
    have go : Go ⟨K, noB, G, H, [], []⟩ (t_shows_stuck P w K E) [some (im rw), some (im (RRule K parts lo hi)), some (im (RAt v2 r)), some (im rb), some (im RNon), none, none, none, none, none, none, none] { nx := fun _ H1 => Q .non H1, rt := Q } :=
      go_needC (c := ⟨K, noB, G, H, [], []⟩) (i0 := 0) (i1 := 1) (i2 := 2) (i3 := 3) rfl rfl rfl rfl hc fun d fs G' H' x hd hf => k d v2 fs G' H' rfl x hd hf
    exact go _ _ _ _ (Sta.start (rs := [rw, RRule K parts lo hi, RAt v2 r, rb, RNon]) (N := N_shows_stuck) e (.cons q0 (.cons q1 (.cons ⟨rfl, q2⟩ (.cons q3 (.cons q4 .nil))))))
  · obtain ⟨v0, v1, v2, v3, v4, rfl, q0, q1, q2, q3, q4⟩ := reps_five q
    have go : Go ⟨K, noB, G, H, [], []⟩ (t_shows_stuck P w K E) [some (im rw), some (im (RRule K parts lo hi)), some (im r), some (im (RAt v3 rb)), some (im RNon), none, none, none, none, none, none, none] { nx := fun _ H1 => Q .non H1, rt := Q } :=
      go_needN (c := ⟨K, noB, G, H, [], []⟩) (i0 := 0) (i1 := 1) (i2 := 2) (i3 := 3) rfl rfl rfl rfl hc fun d fs G' H' x hd hf => k d v3 fs G' H' rfl x hd hf
    exact go _ _ _ _ (Sta.start (rs := [rw, RRule K parts lo hi, r, RAt v3 rb, RNon]) (N := N_shows_stuck) e (.cons q0 (.cons q1 (.cons q2 (.cons ⟨rfl, q3⟩ (.cons q4 .nil))))))
end EvC
set_option Elab.async false
set_option linter.all false
set_option maxRecDepth 100000
set_option maxHeartbeats 4000000
/-! R80p: what shows, by the law. -/
namespace EvC
open PySem PySem.Spec PyProof.Rows L2 DL
variable [tsp : TabSpec] {P : Program} {w : World} {K : PySem.W.Frag} {mg : Str → Option Value} {base : Heap}
theorem look_bounds {hv : List (Str × Int)} {n : Str} (h : WebOk hv) (hn : n ∈ hv.map (·.1)) : 1 ≤ look hv n ∧ look hv n ≤ 16000000 := h.2 _ (look_mem hn)
/-- the law's test is the program's -/
theorem max_min {left taken : List Int} (hl : ∀ x ∈ left, 1 ≤ x ∧ x ≤ 16000000) (ht : ∀ x ∈ taken, 1 ≤ x ∧ x ≤ 16000000) :
    (decide (left = []) || (decide (taken = []) || decide (lmax left ≤ lmin taken))) = !decide (lmin (taken ++ [1000000000]) < lmax (left ++ [0])) := by
  have hM := lmax_mem (ns := left ++ [0]) (by simp)
  have hm := lmin_mem (ns := taken ++ [1000000000]) (by simp)
  have gM : ∀ x ∈ left, x ≤ lmax (left ++ [0]) := fun x hx => lmax_ge (List.mem_append_left _ hx)
  have gm : ∀ x ∈ taken, lmin (taken ++ [1000000000]) ≤ x := fun x hx => lmin_le (List.mem_append_left _ hx)
  generalize lmax (left ++ [0]) = M at hM gM ⊢
  generalize lmin (taken ++ [1000000000]) = m at hm gm ⊢
  have b1 : M ≤ 16000000 ∧ (M = 0 ∨ M ≤ lmax left) := by
    rcases List.mem_append.mp hM with h | h
    · exact ⟨(hl M h).2, .inr (lmax_ge h)⟩
    · obtain rfl : M = 0 := by simpa using h
      exact ⟨by decide, .inl rfl⟩
  have b2 : 1 ≤ m ∧ (m = 1000000000 ∨ lmin taken ≤ m) := by
    rcases List.mem_append.mp hm with h | h
    · exact ⟨(ht m h).1, .inr (lmin_le h)⟩
    · obtain rfl : m = 1000000000 := by simpa using h
      exact ⟨by decide, .inl rfl⟩
  by_cases z1 : left = []
  · subst z1
    have : M = 0 := by simpa using hM
    rw [decide_eq_false (show ¬ m < M by omega)]; simp
  by_cases z2 : taken = []
  · subst z2
    have : m = 1000000000 := by simpa using hm
    rw [decide_eq_false (show ¬ m < M by omega)]; simp
  rw [decide_eq_false z1, decide_eq_false z2, Bool.false_or, Bool.false_or]
  have c1 := gM _ (lmax_mem z1)
  have c2 := gm _ (lmin_mem z2)
  by_cases z3 : lmax left ≤ lmin taken
  · rw [decide_eq_true z3, decide_eq_false (show ¬ m < M by omega)]; rfl
  · rw [decide_eq_false z3, decide_eq_true (show m < M by omega)]; rfl
theorem areH_full {hv : List (Str × Int)} {kin ss : List Str} {ds : List Dt} {b : Int} (hw : WebOk hv) (hm : ∀ n ∈ kin, n ∈ hv.map (·.1)) (hk : kinds kin [] ds = some ss) (hs : ∀ n ∈ ss, n ∈ kin) :
    areH hv kin ds b = !(!decide ((ds.length : Int) = min b kin.length) || decide (lmin (ss.map (look hv) ++ [1000000000]) < lmax ((kin.filter fun n => !decide (n ∈ ss)).map (look hv) ++ [0]))) := by
  by_cases z : (ds.length : Int) = min b kin.length
  · unfold areH
    rw [if_neg (by simpa using z), hk]
    have e := max_min (left := (kin.filter fun n => !decide (n ∈ ss)).map (look hv)) (taken := ss.map (look hv)) (fun x hx => by
      obtain ⟨n, hn, rfl⟩ := List.mem_map.mp hx
      exact look_bounds hw (hm n (List.mem_filter.mp hn).1)) fun x hx => by
      obtain ⟨n, hn, rfl⟩ := List.mem_map.mp hx
      exact look_bounds hw (hm n (hs n hn))
    have e2 : decide (ss.map (look hv) = []) = decide (ss = []) := by
      congr 1; simp
    rw [e2] at e
    dsimp only
    rw [e, decide_eq_true z]; simp
  · rw [areH_len z, decide_eq_false z]; rfl
theorem rv_eqB {a b : Bool} : RV2 rEq (RBl a) (RBl b) (RBl (a == b)) := fun x y G H e hx hy Q k => by
  obtain rfl : x = .bl a := hx
  obtain rfl : y = .bl b := hy
  refine ⟨rfl, k _ G H (Ext.refl e) ?_⟩
  show V.bl _ = V.bl _
  cases a <;> cases b <;> rfl
/-- [x for x in names if ..] -/
theorem evn_filtG {c : DL.Ctx} {ρ : DL.Env} {te : TE} {tt : TT} {j : Nat} {ns : List Str} {pr : Str → Bool} (hj : ρ[j]? = some none) (hl : ns.length ≤ 1000) (hn : Ev c te ρ (RLst (lS ns))) (ht : ∀ Gl, ∀ n ∈ ns, EvT (c.pin Gl) tt (ρ.set j (some (im (RStr n)))) (pr n)) :
    EvN c (tLc (iList c.K te) (gName j) tt (tVar j) [j]) ρ (lS (ns.filter pr)) := by
  have hjl : j < ρ.length := (List.getElem?_eq_some_iff.mp hj).1
  have h := evn_lc (c := c) (ρ := ρ) (te := tVar j) (tt := tt) (g := gName j) (vs := [j]) (fun i => lS ((ns.take i).filter pr)) (fun v hv s e => by
    rw [List.mem_singleton] at hv; subst hv; rw [hj] at e; cases e) (ei_list (rs := lS ns) hn) (by simp) (fun Gl i r hr => by
    obtain ⟨n, hn, rfl⟩ := lS_at hr
    have hself : (ρ.set j (some (im (RStr n))))[j]? = some (some (im (RStr n))) := List.getElem?_set_self hjl
    have e1 : (ns.take (i + 1)).filter pr = (ns.take i).filter pr ++ if pr n then [n] else [] := by
      rw [List.take_add_one, hn, List.filter_append]
      cases z : pr n <;> simp [z]
    refine ⟨_, _, fun b => b = pr n, gg_name hjl, fun _ z => z, ht Gl n (List.mem_of_getElem? hn), fun z => ⟨RStr n, ev_var hself, ?_⟩, fun z => ?_⟩
    · rw [e1, ← z]; simp
    · rw [e1, ← z]; simp) (fun i hi => by
      rw [List.length_map]
      have := List.length_filter_le pr (ns.take i)
      rw [List.length_take] at this
      omega)
  rw [show (ns.take (lS ns).length).filter pr = ns.filter pr by simp] at h
  exact h
def kinOf (z : Pz) (p : Int) (hv : Bool) : List Str := if hv then insideOf z.ns z.ct p else outsideOf z.ns z.ct p
theorem kinOf_sub {z : Pz} {p : Int} {b : Bool} : (kinOf z p b).Sublist z.ns := by
  cases b
  · exact outside_sub
  · exact inside_sub
theorem kin_filt {z : Pz} {p : Int} {b : Bool} : z.ns.filter (fun n => decide (look z.ct n = p) == b) = kinOf z p b := by
  cases b
  · show z.ns.filter _ = z.ns.filter _
    congr 1; funext n
    cases decide (look z.ct n = p) <;> rfl
  · show z.ns.filter _ = z.ns.filter _
    congr 1; funext n
    cases decide (look z.ct n = p) <;> rfl
abbrev wordOf (b : Bool) : Str := if b then "heavy" else "light"
theorem word_dec {b : Bool} : decide (Dt.str (wordOf b) = .str "heavy") = b := by
  cases b
  · exact decide_eq_false fun z => light_ne (by injection z)
  · exact decide_eq_true rfl
theorem shows_word {z : Pz} {p : Int} {ss : List Str} {b : Bool} (h0 : 0 ≤ p) (h1 : p < z.parts) : z.shows (.t3 (.str (wordOf b)) (.num p) (ss.map Dt.str)) = (areH z.hv (kinOf z p b) (ss.map Dt.str) z.b && (if b then decide (z.hi < z.wt p.toNat - wsum z.hv ss) else decide (z.wt p.toNat + wsum z.hv ss < z.lo))) := by
  cases b
  · have := shows_light (z := z) (p := p) (ds := ss.map Dt.str) h0 h1
    rw [strsOf_str] at this
    exact this
  · have := shows_heavy (z := z) (p := p) (ds := ss.map Dt.str) h0 h1
    rw [strsOf_str] at this
    exact this
theorem shows_areH {z : Pz} {p : Int} {ds : List Dt} {b : Bool} (h0 : 0 ≤ p) (h1 : p < z.parts) (h : areH z.hv (kinOf z p b) ds z.b = false) : z.shows (.t3 (.str (wordOf b)) (.num p) ds) = false := by
  cases b
  · have e := shows_light (z := z) (p := p) (ds := ds) h0 h1
    have h' : areH z.hv (outsideOf z.ns z.ct p) ds z.b = false := h
    rw [h'] at e; exact e
  · have e := shows_heavy (z := z) (p := p) (ds := ds) h0 h1
    have h' : areH z.hv (insideOf z.ns z.ct p) ds z.b = false := h
    rw [h'] at e; exact e
theorem len__law_shows (vs : List V) (H : Hp) (Q : VK) (E : XK) (h : sp__law_shows P w K vs H Q E) : vs.length = 6 := by refine spP_len (n := 6) ?_ vs H Q E h; intro i; rfl
abbrev envLS (c : DL.Ctx) (rt r : R) (z : Pz) (rest : List (Option SP)) : DL.Env := some (im (RPlanT z.hv rt)) :: some (im (RInt z.parts)) :: some (im (RTup c.K [RInt z.lo, RInt z.hi])) :: some (im (RDSI z.ct)) :: some (im (RInt z.b)) :: some (im r) :: rest
theorem rd__law_shows (T : Tx P w K mg base) (hT : tsp.T = tabsT K) (vs : List V) (H : Hp) (Q : VK) (E : XK) (h : sp__law_shows P w K vs H Q E) : t__law_shows P w K { nx := fun _ H1 => Q .non H1, rt := Q } (start N__law_shows vs) H :=
  body_P (K := K) (fun ⟨rt, z, r, th⟩ ⟨ok, hth⟩ c D hK hb hr hx => by
    subst hK
    dsimp only at ok hth hr
    have p2 := ok.ct.p2
    have p6 := ok.ct.p6
    have hwb := ok.ct.web
    have l8 := web8 hwb
    have nsl : z.ns.length = z.hv.length := by simp
    have hct : ∀ n ∈ z.ns, lookR (dSI z.ct) (.inr n) = some (RInt (look z.ct n)) := fun n hn => look_cut ok.ct.cut hn
    show Go c _ (envLS c rt r z [none, none, none, none, none, none, none, none, none]) D
    -- three things
    have key : ∀ (wd pd : Dt) (r3 : R) (o : Option (List Dt)), Lk c.K r3 o → Rets c D (RBl (z.showsO wd pd o)) → Go c (t__law_shows P w c.K) (envLS c rt (RTup c.K [RDt wd, RDt pd, r3]) z [none, none, none, none, none, none, none, none, none]) D := by
      intro wd pd r3 o hk hr
      refine q_may (b := !decide (wd ∈ (["heavy", "light"] : List Str).map Dt.str)) (et_is (et_or (a := false) (et_not (a := true) (et_B (ev_cb (ea_cons (ev_var (i := 5) rfl) (eaOf ev_c)) (rv_isi ty_tup (by decide +kernel))))) fun _ => et_or (a := false) (et_is (et_test (ev_op (ev_cb (eaOf (ev_var (i := 5) (r := RTup c.K [RDt wd, RDt pd, r3]) rfl)) rv_lenT) (ev_int (i := 3)) rv_neI)) (by simp)) fun _ => et_test (ev_op (ev_op (ev_var (i := 5) rfl) (ev_int (i := 0)) (rv_ixT (r := RDt wd) rfl)) (ev_tup (c := c) (ea_cons (ev_str (s := "heavy")) (eaOf (ev_str (s := "light")))) (by simp)) (rv_inDtT (ns := ["heavy", "light"])))) (by simp)) (fun e => ?_) fun e => ?_
      · have hno : wd ∉ (["heavy", "light"] : List Str).map Dt.str := of_decide_eq_false (by simpa using e)
        rw [shows_noword (fun y => hno (by rw [y]; simp)) (fun y => hno (by rw [y]; simp))] at hr
        exact go_ret ev_bl hr
      have hin : wd ∈ (["heavy", "light"] : List Str).map Dt.str := by
        rcases Decidable.em (wd ∈ (["heavy", "light"] : List Str).map Dt.str) with h | h
        · exact h
        · rw [decide_eq_false h] at e; cases e
      obtain ⟨hvb, rfl⟩ : ∃ b : Bool, wd = .str (wordOf b) := by
        rw [List.map_cons, List.map_cons, List.mem_cons, List.map_nil, List.mem_singleton] at hin
        rcases hin with h | h
        · exact ⟨true, h⟩
        · exact ⟨false, h⟩
      refine q_asgT (r := RTup c.K [RStr (wordOf hvb), RDt pd, r3]) (ev_var (i := 5) rfl) (gg_tup (rs := [RStr (wordOf hvb), RDt pd, r3]) (ggs_cons (gg_name (by simp)) (ggs_cons (gg_name (by simp)) (ggs_cons (gg_name (by simp)) ggs_nil))) rfl) ?_
      show Go c _ (envLS c rt (RTup c.K [RStr (wordOf hvb), RDt pd, r3]) z [some (im (RStr (wordOf hvb))), some (im (RDt pd)), some (im r3), none, none, none, none, none, none]) D
      -- the second: a number
      have bad : ∀ {b : Bool}, EvT c (tOr (tNot (tB (tCB (rIsi c.K) (tCons (tVar 7) (tCons (tC (.ty "int")) tNil))))) (tOr (tB (tCB (rIsi c.K) (tCons (tVar 7) (tCons (tC (.ty "bool")) tNil)))) (tOr (tNot (tTest (tChain oLe oLt (tC (.int 0)) (tVar 7) (tVar 1)))) (tNot (tB (tCB (rIsi c.K) (tCons (tVar 8) (tCons (tC (.ty "list")) tNil)))))))) (envLS c rt (RTup c.K [RStr (wordOf hvb), RDt pd, r3]) z [some (im (RStr (wordOf hvb))), some (im (RDt pd)), some (im r3), none, none, none, none, none, none]) b → b = true → z.showsO (.str (wordOf hvb)) pd o = false → ∀ u, Go c (tSeq (tIfS (tOr (tNot (tB (tCB (rIsi c.K) (tCons (tVar 7) (tCons (tC (.ty "int")) tNil))))) (tOr (tB (tCB (rIsi c.K) (tCons (tVar 7) (tCons (tC (.ty "bool")) tNil)))) (tOr (tNot (tTest (tChain oLe oLt (tC (.int 0)) (tVar 7) (tVar 1)))) (tNot (tB (tCB (rIsi c.K) (tCons (tVar 8) (tCons (tC (.ty "list")) tNil)))))))) (tRet (tC (.bl false))) tNext) u) (envLS c rt (RTup c.K [RStr (wordOf hvb), RDt pd, r3]) z [some (im (RStr (wordOf hvb))), some (im (RDt pd)), some (im r3), none, none, none, none, none, none]) D := fun {b} ht hb' hs u => by
        subst hb'
        rw [hs] at hr
        exact q_ifT ht (fun _ => go_ret ev_bl hr) fun z => by cases z
      have isi7 : EvT c (tB (tCB (rIsi c.K) (tCons (tVar 7) (tCons (tC (.ty "int")) tNil)))) (envLS c rt (RTup c.K [RStr (wordOf hvb), RDt pd, r3]) z [some (im (RStr (wordOf hvb))), some (im (RDt pd)), some (im r3), none, none, none, none, none, none]) pd.isInt := et_B (ev_cb (ea_cons (ev_var (i := 7) rfl) (eaOf ev_c)) (rv_isi dt_ty dt_int))
      have isb7 : EvT c (tB (tCB (rIsi c.K) (tCons (tVar 7) (tCons (tC (.ty "bool")) tNil)))) (envLS c rt (RTup c.K [RStr (wordOf hvb), RDt pd, r3]) z [some (im (RStr (wordOf hvb))), some (im (RDt pd)), some (im r3), none, none, none, none, none, none]) pd.isBool := et_B (ev_cb (ea_cons (ev_var (i := 7) rfl) (eaOf ev_c)) (rv_isi dt_ty dt_bool))
      by_cases hnum : ∃ p, pd = .num p
      case neg =>
        have hs : z.showsO (.str (wordOf hvb)) pd o = false := shows_nonum (by cases pd <;> first | rfl | exact absurd ⟨_, rfl⟩ hnum)
        by_cases hi : pd.isInt = true
        · have hbo : pd.isBool = true := by cases pd <;> first | rfl | exact absurd ⟨_, rfl⟩ hnum | (cases hi)
          rw [hi] at isi7; rw [hbo] at isb7
          exact bad (et_or (a := false) (et_not isi7) fun _ => et_or (a := true) (b := true) isb7 fun z => by cases z) rfl hs _
        · have hi' : pd.isInt = false := by simpa using hi
          rw [hi'] at isi7
          exact bad (et_or (a := true) (b := true) (et_not isi7) fun z => by cases z) rfl hs _
      obtain ⟨p, rfl⟩ := hnum
      have chain : EvT c (tTest (tChain oLe oLt (tC (.int 0)) (tVar 7) (tVar 1))) (envLS c rt (RTup c.K [RStr (wordOf hvb), RDt (.num p), r3]) z [some (im (RStr (wordOf hvb))), some (im (RDt (.num p))), some (im r3), none, none, none, none, none, none]) (decide (0 ≤ p) && decide (p < z.parts)) := et_test (ev_chain (ev_int (i := 0)) (ev_var (i := 7) (r := RInt p) rfl) (ev_var (i := 1) (r := RInt z.parts) rfl) rv_le rv_lt)
      by_cases hp : 0 ≤ p ∧ p < z.parts
      case neg =>
        have hcf : (decide (0 ≤ p) && decide (p < z.parts)) = false := by
          rw [Bool.and_eq_false_iff, decide_eq_false_iff_not, decide_eq_false_iff_not]
          omega
        rw [hcf] at chain
        exact bad (et_or (a := false) (et_not isi7) fun _ => et_or (a := false) isb7 fun _ => et_or (a := true) (b := true) (et_not chain) fun z => by cases z) rfl (shows_nonum (by simp [Dt.wh]; omega)) _
      obtain ⟨h0, h1⟩ := hp
      rw [decide_eq_true h0, decide_eq_true h1] at chain
      cases hk with
      | @tup ds =>
        exact bad (et_or (a := false) (et_not isi7) fun _ => et_or (a := false) isb7 fun _ => et_or (a := false) (et_not chain) fun _ => et_not (a := false) (et_B (ev_cb (ea_cons (ev_var (i := 8) rfl) (eaOf ev_c)) (rv_isi ty_tup (by decide +kernel))))) rfl rfl _
      | @lst ds hds hdl =>
        have hr : Rets c D (RBl (z.shows (.t3 (.str (wordOf hvb)) (.num p) ds))) := hr
        refine q_no (et_or (a := false) (et_not isi7) fun _ => et_or (a := false) isb7 fun _ => et_or (a := false) (et_not chain) fun _ => et_not (a := true) (et_B (ev_cb (ea_cons (ev_var (i := 8) rfl) (eaOf ev_c)) (rv_isi ty_lst (by decide +kernel))))) rfl ?_
        -- the kind
        refine q_asg (r := RLst (lS (kinOf z p hvb))) (by simp) (evn_ev (by
          rw [← kin_filt]
          exact evn_filtG (c := c) (j := 10) (ns := z.ns) rfl (by omega) (ev_names (i := 0) rfl) fun Gl n hn => et_test (ev_op (ev_op (ev_dget (ev_var (i := 3) rfl) (ev_var (i := 10) (r := RStr n) rfl) key_str (hct n hn)) (ev_var (i := 7) (r := RInt p) rfl) rv_eqI) (ev_eq (ev_op (ev_var (i := 6) (r := RDt (.str (wordOf hvb))) rfl) (ev_str (s := "heavy")) rv_eqDt) (by rw [word_dec])) rv_eqB))) ?_
        have hkl : (kinOf z p hvb).length ≤ z.ns.length := kinOf_sub.length_le
        have hkm : ∀ n ∈ kinOf z p hvb, n ∈ z.hv.map (·.1) := fun n hn => kinOf_sub.subset hn
        refine q_for (fun i ρ => ∃ ss, Far (kinOf z p hvb) ds i ss ∧ ∃ x10 x11, ρ = envLS c rt (RTup c.K [RStr (wordOf hvb), RDt (.num p), RLst (ds.map RDt)]) z [some (im (RStr (wordOf hvb))), some (im (RInt p)), some (im (RLst (ds.map RDt))), some (im (RLst (lS (kinOf z p hvb)))), x10, x11, none, none, none]) (ei_enum (rs := ds.map RDt) (eaOf (ev_var (i := 8) rfl))) ⟨[], ⟨rfl, by simp⟩, none, none, rfl⟩ ?_ ?_
        · rintro Gl i r ρ' hri ⟨ss, far, x10, x11, rfl⟩
          obtain ⟨hi, r0, hr0, rfl⟩ := enum_at2 hri
          simp only [List.getElem?_map, Option.map_eq_some_iff] at hr0
          obtain ⟨d, hd, rfl⟩ := hr0
          have hrd : Rets (c.pin Gl) D (RBl (z.shows (.t3 (.str (wordOf hvb)) (.num p) ds))) := hr
          refine ⟨_, _, gg_tup (c := c.pin Gl) (rs := [RInt (i : Nat), RDt d]) (ggs_cons (gg_name (by simp)) (ggs_cons (gg_name (by simp)) ggs_nil)) rfl, ?_⟩
          show Go (c.pin Gl) _ (envLS c rt (RTup c.K [RStr (wordOf hvb), RDt (.num p), RLst (ds.map RDt)]) z [some (im (RStr (wordOf hvb))), some (im (RInt p)), some (im (RLst (ds.map RDt))), some (im (RLst (lS (kinOf z p hvb)))), some (im (RDt d)), some (im (RInt (i : Nat))), none, none, none]) _
          have etk : Ev (c.pin Gl) (tSl (rSlL c.K) (tVar 8) tNoPart (tPart (tVar 11))) (envLS c rt (RTup c.K [RStr (wordOf hvb), RDt (.num p), RLst (ds.map RDt)]) z [some (im (RStr (wordOf hvb))), some (im (RInt p)), some (im (RLst (ds.map RDt))), some (im (RLst (lS (kinOf z p hvb)))), some (im (RDt d)), some (im (RInt (i : Nat))), none, none, none]) (RLst (lS ss)) := by
            have e := evn_ev (evn_take (c := c.pin Gl) (ρ := envLS c rt (RTup c.K [RStr (wordOf hvb), RDt (.num p), RLst (ds.map RDt)]) z [some (im (RStr (wordOf hvb))), some (im (RInt p)), some (im (RLst (ds.map RDt))), some (im (RLst (lS (kinOf z p hvb)))), some (im (RDt d)), some (im (RInt (i : Nat))), none, none, none]) (ev_var (i := 8) (r := RLst (ds.map RDt)) rfl) (ev_var (i := 11) (r := RInt (i : Nat)) rfl) (by omega))
            rw [Int.toNat_natCast, ← List.map_take, far.t, lS_dt] at e
            exact e
          refine go_ifT (et_or (et_test (ev_op (ev_var (i := 10) rfl) (ev_var (i := 9) rfl) rv_inDt)) fun _ => et_test (ev_op (ev_var (i := 10) rfl) etk rv_inDt)) (fun e => ?_) fun e => ?_
          · have hno : ¬ ∃ s, d = .str s ∧ s ∈ kinOf z p hvb ∧ s ∉ ss := by
              rintro ⟨s, rfl, h1, h2⟩
              simp [h1, h2] at e
            rw [shows_areH h0 h1 (areH_none (far.no hd hno))] at hrd
            exact go_ret ev_bl hrd
          · have e1 : d ∈ (kinOf z p hvb).map Dt.str ∧ d ∉ ss.map Dt.str := by simpa using e
            obtain ⟨s, hs, rfl⟩ := List.mem_map.mp e1.1
            have h2 : s ∉ ss := fun y => e1.2 (mem_dt.mpr y)
            exact go_next fun σ G H F S => ⟨_, ⟨ss ++ [s], far.step hd hs h2, _, _, rfl⟩, G, F, S⟩
        · rintro ρ' ⟨ss, far, x10, x11, rfl⟩
          rw [show (enums c.K (ds.map RDt)).length = ds.length by simp [enums]] at far
          obtain ⟨hk, hds2⟩ := far.all
          subst hds2
          rw [lS_dt]
          obtain ⟨ts, e1, e2, hsub⟩ := kinds_some hk
          have ets : ss = ts := by simpa using e1
          subst ets
          have ssl : ss.length ≤ 100 := by simpa using hdl
          have hssm : ∀ n ∈ ss, n ∈ z.hv.map (·.1) := fun n hn => hkm n (hsub n hn)
          have ea := areH_full (b := z.b) hwb hkm hk hsub
          refine go_forget (i := 10) ?_
          show Go c _ (envLS c rt (RTup c.K [RStr (wordOf hvb), RDt (.num p), RLst (lS ss)]) z [some (im (RStr (wordOf hvb))), some (im (RInt p)), some (im (RLst (lS ss))), some (im (RLst (lS (kinOf z p hvb)))), none, x11, none, none, none]) D
          refine q_asg (by simp) (evn_ev (evn_left (c := c) (i := 8) (j := 10) (ns := kinOf z p hvb) (ss := ss) (f := look z.hv) rfl (by decide) (by omega) (ev_var (i := 9) rfl) rfl (fun n => fun x y G H e hx hy Q k => rv_inDt (neg := true) (d := .str n) x y G H e hx hy Q fun zz G' H' e' q => k zz G' H' e' (by rw [show zz = _ from q]; show V.bl _ = V.bl _; congr 2; simp)) fun Gl n hn => ev_dget (ev_weights (i := 0) (hv := z.hv) rfl) (ev_var (i := 10) (r := RStr n) rfl) key_str (look_in (hkm n hn)))) ?_
          refine q_asg (by simp) (evn_ev (ev_wsum (c := c) (i0 := 0) (i1 := 8) (j := 10) (ns := ss) rfl rfl (by decide) rfl hssm (by omega))) ?_
          have e9 : (10 : Int) ^ (9 : Int).toNat = 1000000000 := by decide
          have cat1 : ∀ {ρ : DL.Env} {left : List Int} {i : Nat}, ρ[i]? = some (some (im (RLst (lI left)))) → left.length ≤ 1000 → Ev c (tOp rCat (tVar i) (tLst (tCons (tC (.int 0)) tNil))) ρ (RLst (lI (left ++ [0]))) := fun {ρ left i} h hl => by
            have e := evn_ev (evn_op (c := c) (ρ := ρ) (ev_var h) (ev_lst (eaOf (ev_int (i := 0))) (by simp)) (rn_cat (by simp; omega)))
            rw [show lI left ++ [RInt 0] = lI (left ++ [0]) by simp [lI]] at e
            exact e
          have cat2 : ∀ {ρ : DL.Env} {left : List Int} {i : Nat}, ρ[i]? = some (some (im (RLst (lI left)))) → left.length ≤ 1000 → Ev c (tOp rCat (tVar i) (tLst (tCons (tOp oPow (tC (.int 10)) (tC (.int 9))) tNil))) ρ (RLst (lI (left ++ [1000000000]))) := fun {ρ left i} h hl => by
            have e := evn_ev (evn_op (c := c) (ρ := ρ) (ev_var h) (ev_lst (eaOf (ev_eq (ev_op (ev_int (i := 10)) (ev_int (i := 9)) (rv_pow (by unfold CPow; decide))) (by rw [e9]))) (by simp)) (rn_cat (by simp; omega)))
            rw [show lI left ++ [RInt 1000000000] = lI (left ++ [1000000000]) by simp [lI]] at e
            exact e
          refine q_may (et_or (et_test (ev_op (ev_cb (eaOf (ev_var (i := 8) (r := RLst (lS ss)) rfl)) rv_lenL) (ev_cb (ea_cons (ev_var (i := 4) rfl) (eaOf (ev_cb (eaOf (ev_var (i := 9) rfl)) rv_lenL))) rv_min2) rv_neI)) fun _ => et_test (ev_op (ev_cb (eaOf (cat1 (i := 12) (left := ((kinOf z p hvb).filter fun n => !decide (n ∈ ss)).map (look z.hv)) rfl ?_)) (rv_max (by simp))) (ev_cb (eaOf (cat2 (i := 13) (left := ss.map (look z.hv)) rfl (by simp; omega))) (rv_min (by simp))) rv_gt)) (fun e => ?_) fun e => ?_
          · rw [List.length_map]
            have := List.length_filter_le (fun n => !decide (n ∈ ss)) (kinOf z p hvb)
            omega
          · have ef : areH z.hv (kinOf z p hvb) (ss.map Dt.str) z.b = false := by
              rw [ea]
              simp only [List.length_map] at e ⊢
              rw [e]; rfl
            rw [shows_areH h0 h1 ef] at hr
            exact go_ret ev_bl hr
          · have et : areH z.hv (kinOf z p hvb) (ss.map Dt.str) z.b = true := by
              rw [ea]
              simp only [List.length_map] at e ⊢
              rw [e]; rfl
            rw [shows_word h0 h1, et, Bool.true_and] at hr
            have hwt : (lI (partW z.hv z.ct z.parts))[p.toNat]? = some (RInt (z.wt p.toNat)) := lI_get (by rw [partW_length]; omega)
            refine q_asg (by simp) (ev_op (ev_call0 (ea_cons (ev_var (i := 0) rfl) (ea_cons (ev_var (i := 1) rfl) (eaOf (ev_var (i := 3) rfl)))) (spP_ok (I := R × IW) (rt, (z.hv, z.ct), z.parts) ok.ct)) (ev_var (i := 7) (r := RInt p) rfl) (rv_ixL (atI_int h0 hwt))) ?_
            refine q_may (b := hvb) (et_is (et_test (ev_op (ev_var (i := 6) (r := RDt (.str (wordOf hvb))) rfl) (ev_str (s := "heavy")) rv_eqDt)) word_dec) (fun e => ?_) fun e => ?_
            · subst e
              exact ret_bl hr rfl (ev_op (ev_op (ev_var (i := 14) rfl) (ev_cb (eaOf (ev_var (i := 13) (r := RLst (lI (ss.map (look z.hv)))) rfl)) rv_sum) rv_sub) (ev_op (ev_var (i := 2) rfl) (ev_int (i := 1)) (rv_ixT (r := RInt z.hi) rfl)) rv_gt)
            · subst e
              exact ret_bl hr rfl (ev_op (ev_op (ev_var (i := 14) rfl) (ev_cb (eaOf (ev_var (i := 13) (r := RLst (lI (ss.map (look z.hv)))) rfl)) rv_sum) rv_add) (ev_op (ev_var (i := 2) rfl) (ev_int (i := 0)) (rv_ixT (r := RInt z.lo) rfl)) rv_lt)
    cases hth with
    | @t3 wd pd ds h1 h2 h3 h4 => exact key wd pd _ (some ds) (.lst h3 h4) hr
    | @t3t wd pd ds h1 h2 h3 h4 => exact key wd pd _ none (.tup (ds := ds)) hr
    | @ty _ t h1 h2 =>
      exact q_ifT (b := true) (et_or (a := true) (b := true) (et_not (a := false) (et_B (ev_cb (ea_cons (ev_var (i := 5) rfl) (eaOf ev_c)) (rv_isi h1 h2)))) fun z => by cases z) (fun _ => go_ret ev_bl hr) fun z => by cases z
    | @len rs h1 h2 =>
      refine q_ifT (b := true) (et_is (et_or (a := false) (b := true) (et_not (a := true) (et_B (ev_cb (ea_cons (ev_var (i := 5) rfl) (eaOf ev_c)) (rv_isi ty_tup (by decide +kernel))))) fun _ => et_or (a := true) (b := true) (et_is (et_test (ev_op (ev_cb (eaOf (ev_var (i := 5) (r := RTup c.K rs) rfl)) rv_lenT) (ev_int (i := 3)) rv_neI)) ?_) fun z => by cases z) rfl) (fun _ => go_ret ev_bl hr) fun z => by cases z
      rw [decide_eq_false (by omega)]; rfl) vs H Q E h
end EvC
set_option Elab.async false
set_option linter.all false
set_option maxRecDepth 100000
set_option maxHeartbeats 4000000
/-! R80q: papers spoilt. -/
namespace EvC
open PySem PySem.Spec PyProof.Rows L2 DL
variable [tsp : TabSpec] {P : Program} {w : World} {K : PySem.W.Frag} {mg : Str → Option Value} {base : Heap}
theorem ev_neg {c : DL.Ctx} {ρ : DL.Env} {te : TE} {i : Int} (h : Ev c te ρ (RInt i)) : Ev c (tUn (rU fun i => .int (-i)) te) ρ (RInt (-i)) := ev_un h fun x G H e hx Q k => ⟨i, hx, k _ G H (Ext.refl e) rfl⟩
theorem allSub_strs {Pa : Str → Prop} : ∀ {ns : List Str}, (∀ s ∈ ns, Pa s) → AllSub (lS ns) (exR Pa RStr)
  | [], _ => trivial
  | n :: ns, h => ⟨sub_ex n (h n (.head _)) (SubR.refl _), allSub_strs fun s hs => h s (.tail _ hs)⟩
theorem dtok_strs {ns : List Str} (h : ∀ s ∈ ns, PyData.strOk s = true) : ∀ d ∈ ns.map Dt.str, DtOk d := fun d hd => by
  obtain ⟨s, hs, rfl⟩ := List.mem_map.mp hd
  exact h s hs
theorem len__law_spoilt (vs : List V) (H : Hp) (Q : VK) (E : XK) (h : sp__law_spoilt P w K vs H Q E) : vs.length = 4 := by refine spB_len (n := 3) ?_ vs H Q E h; intro i; rfl
theorem rd__law_spoilt (T : Tx P w K mg base) (hT : tsp.T = tabsT K) (vs : List V) (H : Hp) (Q : VK) (E : XK) (h : sp__law_spoilt P w K vs H Q E) : t__law_spoilt P w K { nx := fun _ H1 => Q .non H1, rt := Q } (start N__law_spoilt vs) H :=
  body_B (K := K) (fun ⟨⟨hv, rt⟩, parts, wd, p, ns⟩ ⟨hnm, hwd, hok, hnl⟩ c D st hK hb hr hx => by
    subst hK
    dsimp only at hnm hwd hok hnl hr
    show Go c _ [some (ownAt st HState), some (im (RPlanT hv rt)), some (im (RInt parts)), some (im (RTup c.K [RStr wd, RInt p, RLst (lS ns)])), none, none, none, none, none, none, none] D
    have pull : ∀ {c' : DL.Ctx} {ρ : DL.Env} {te : TE} {n : Int}, ρ[0]? = some (some (ownAt st HState)) → Ev c' te ρ (RInt n) → 0 < n → n < 1073741824 → Ev c' (tCall (sp__law_pull P w c.K) [] E0 (tCons (tVar 0) (tCons te tNil))) ρ (RDigit n) := fun h0 he h1 h2 => ev_callB (ownAt_own st HState) h0 (eaOf he) (spB_ok _ ⟨h1, h2⟩)
    have hb6 : 6 ∉ c.bs := by rw [hb]; simp
    have nok := nms_ok hnm
    have n8 : (hv.map (·.1)).length ≤ 8 := hnm.1
    refine q_asgT (ev_var (i := 3) rfl) (gg_tup (rs := [RStr wd, RInt p, RLst (lS ns)]) (ggs_cons (gg_name (by simp)) (ggs_cons (gg_name (by simp)) (ggs_cons (gg_name (by simp)) ggs_nil))) rfl) ?_
    refine q_asgN (by simp) (evn_cb (eaOf (ev_var (i := 6) rfl)) rn_listL) ?_
    refine q_asgX (P := fun d : Int => 0 ≤ d ∧ d < 9) (f := RInt) (by simp) (pull (n := 9) rfl ev_int (by decide) (by decide)) fun way hway => ?_
    refine q_asgX (P := fun d : Int => 0 ≤ d ∧ d < (ns.length : Nat) + 1) (f := RInt) (by simp) (ev_weak (pull (n := ((lS ns).length : Nat) + 1) rfl (ev_op (ev_cbO (P := HL (lS ns)) rfl rv_lenL sc_int) (ev_int (i := 1)) rv_add) (by omega) (by simp; omega)) fun v G ⟨d, hd, q⟩ => ⟨d, by simpa using hd, q⟩) fun at' hat => ?_
    -- what comes out
    have fin : ∀ (wd' pd : Dt) (ds : List Dt) (rs : List R) (x9 x10 : Option SP), rs = ds.map RDt → DtOk wd' → DtOk pd → (∀ d ∈ ds, DtOk d) → ds.length ≤ 100 →
        Nx c ((tRet (tTup (tCons (tVar 4) (tCons (tVar 5) (tCons (tVar 6) tNil))))) D) [some (ownAt st HState), some (im (RPlanT hv rt)), some (im (RInt parts)), some (im (RTup c.K [RStr wd, RInt p, RLst (lS ns)])), some (im (RDt wd')), some (im (RDt pd)), some (ownL rs), some (im (RInt way)), some (im (RInt at')), x9, x10] := by
      intro wd' pd ds rs x9 x10 e h1 h2 h3 h4
      subst e
      refine nx_go (go_freeze 6 (P := HL (ds.map RDt)) rfl hb6 ?_)
      exact go_retB (ev_ex (f := fun x : R × Th => x.1) (RTup c.K [RDt wd', RDt pd, RLst (ds.map RDt)], Th.t3 wd' pd ds) (IsTh.t3 h1 h2 h3 h4) (ev_tup (c := c) (ea_cons (ev_var (i := 4) rfl) (ea_cons (ev_var (i := 5) rfl) (eaOf (ev_var (i := 6) rfl)))) (by simp))) rfl hr
    have hwd' : DtOk (.str wd) := hwd
    have ds0 := dtok_strs hok
    refine go_seq (go_ifT (et_test (ev_op (ev_var (i := 7) rfl) (ev_int (i := 0)) rv_eqI)) (fun _ => ?_) fun _ => ?_)
    · exact go_rev (i := 6) rfl (fin (.str wd) (.num p) ((ns.map Dt.str).reverse) _ _ _ (by rw [List.map_reverse, lS_dt]) hwd' trivial (fun d hd => ds0 d (List.mem_reverse.mp hd)) (by simp; omega))
    refine go_ifT (et_test (ev_op (ev_var (i := 7) rfl) (ev_int (i := 1)) rv_eqI)) (fun _ => ?_) fun _ => ?_
    · exact go_asgX (P := DtOk) (f := RDt) (by simp) (ev_op (ev_lst (ea_cons (ev_op (ev_var (i := 5) (r := RInt p) rfl) (ev_int (i := 1)) rv_add) (ea_cons (ev_op (ev_var (i := 5) (r := RInt p) rfl) (ev_int (i := 1)) rv_sub) (ea_cons (ev_var (i := 2) (r := RInt parts) rfl) (ea_cons (ev_neg (ev_int (i := 1))) (ea_cons (ev_bl (b := true)) (ea_cons ev_non (eaOf (ev_str (s := "0"))))))))) (by simp)) (pull (n := 7) rfl ev_int (by decide) (by decide)) (rv_ixD ⟨sub_ex (.num (p + 1)) trivial (SubR.refl _), sub_ex (.num (p - 1)) trivial (SubR.refl _), sub_ex (.num parts) trivial (SubR.refl _), sub_ex (.num (-1)) trivial (SubR.refl _), sub_ex (.bl true) trivial (SubR.refl _), sub_ex .non trivial (SubR.refl _), sub_ex (.str "0") (show PyData.strOk "0" = true by decide +kernel) (SubR.refl _), trivial⟩ (by simp))) fun d hd =>
        fin (.str wd) d (ns.map Dt.str) _ _ _ lS_dt.symm hwd' hd ds0 (by simp; omega)
    refine go_ifT (et_test (ev_op (ev_var (i := 7) rfl) (ev_int (i := 2)) rv_eqI)) (fun _ => ?_) fun _ => ?_
    · exact go_asgX (P := DtOk) (f := RDt) (by simp) (ev_op (ev_lst (ea_cons (ev_str (s := "heavy")) (ea_cons (ev_str (s := "light")) (ea_cons (ev_str (s := "")) (ea_cons ev_non (ea_cons (ev_str (s := "Heavy")) (ea_cons (ev_int (i := 7)) (eaOf (ev_lst (eaOf (ev_str (s := "heavy"))) (by simp))))))))) (by simp)) (pull (n := 7) rfl ev_int (by decide) (by decide)) (rv_ixD ⟨sub_ex (.str "heavy") (show PyData.strOk "heavy" = true by decide +kernel) (SubR.refl _), sub_ex (.str "light") (show PyData.strOk "light" = true by decide +kernel) (SubR.refl _), sub_ex (.str "") (show PyData.strOk "" = true by decide +kernel) (SubR.refl _), sub_ex .non trivial (SubR.refl _), sub_ex (.str "Heavy") (show PyData.strOk "Heavy" = true by decide +kernel) (SubR.refl _), sub_ex (.num 7) trivial (SubR.refl _), sub_ex (.lst ["heavy"]) ⟨by decide, fun s hs => by rw [List.mem_singleton] at hs; subst hs; decide +kernel⟩ (SubR.refl _), trivial⟩ (by simp))) fun d hd =>
        fin d (.num p) (ns.map Dt.str) _ _ _ lS_dt.symm hd trivial ds0 (by simp; omega)
    refine go_ifT (et_and (et_test (ev_op (ev_var (i := 7) rfl) (ev_int (i := 3)) rv_eqI)) fun _ => et_and (et_test (ev_opO1 (P := HL (lS ns)) rfl (ev_lst ea_nil (by simp)) (rv_neNilS hok) sc_bl)) fun _ => et_test (ev_op (ev_names (i := 1) rfl) (ev_lst ea_nil (by simp)) (rv_neNilS nok))) (fun e => ?_) fun _ => ?_
    · simp only [Bool.and_eq_true, decide_eq_true_eq, Bool.not_eq_true', decide_eq_false_iff_not] at e
      obtain ⟨_, e1, e2⟩ := e
      have l1 : 0 < ns.length := List.length_pos_iff.mpr e1
      have l2 : 0 < (hv.map (·.1)).length := List.length_pos_iff.mpr e2
      have hm0 := Int.emod_nonneg at' (show (ns.length : Int) ≠ 0 by omega)
      have hm1 := Int.emod_lt_of_pos at' (show (0 : Int) < ns.length by omega)
      refine go_setLX (i := 6) (j := (at' % (ns.length : Nat)).toNat) (rs := lS ns) (Pa := fun s => PyData.strOk s = true) (f := RStr) rfl (ev_op (ev_names (i := 1) rfl) (pull (n := ((lS (hv.map (·.1))).length : Nat)) rfl (ev_cb (eaOf (ev_names (i := 1) rfl)) rv_lenL) (by simpa using l2) (by simp; simp at n8; omega)) (rv_ixD (allSub_strs nok) (by simp))) (ev_eq (ev_op (ev_var (i := 8) rfl) (ev_cbO (P := HL (lS ns)) rfl rv_lenL sc_int) (rv_mod (by simp; omega))) (by rw [Int.toNat_of_nonneg hm0]; simp)) (by simp; omega) fun s hs => ?_
      refine fin (.str wd) (.num p) ((ns.map Dt.str).set (at' % (ns.length : Nat)).toNat (.str s)) _ _ _ ?_ hwd' trivial (fun d hd => ?_) (by simp; omega)
      · rw [List.map_set, lS_dt]; rfl
      · rcases List.mem_or_eq_of_mem_set hd with h | h
        · exact ds0 d h
        · rw [h]; exact hs
    refine go_ifT (et_test (ev_op (ev_var (i := 7) rfl) (ev_int (i := 4)) rv_eqI)) (fun _ => ?_) fun _ => ?_
    · obtain ⟨s0, hs0, ok0⟩ : ∃ s0, (lS (hv.map (·.1)) ++ [RStr ""])[0]? = some (RStr s0) ∧ PyData.strOk s0 = true := by
        cases hh : hv.map (·.1) with
        | nil => exact ⟨"", rfl, by decide +kernel⟩
        | cons n l => exact ⟨n, rfl, nok n (by rw [hh]; exact .head _)⟩
      refine go_seq (go_asg (by simp) (ev_lst (ea_cons (ev_op (evn_ev (evn_op (ev_names (i := 1) rfl) (ev_lst (eaOf (ev_str (s := ""))) (by simp)) (rn_cat (by simp; simp at n8; omega)))) (ev_int (i := 0)) (rv_ixL (r := RStr s0) (atI_int (by decide) hs0))) (ea_cons (ev_str (s := "")) (ea_cons ev_non (ea_cons (ev_int (i := 7)) (eaOf (ev_lst (eaOf (ev_str (s := "a"))) (by simp))))))) (by simp)) (nx_go ?_))
      refine go_insX (i := 6) (rs := lS ns) (n := at') (Pa := DtOk) (f := RDt) rfl (ev_var (i := 8) rfl) (ev_op (ev_var (i := 9) rfl) (pull (n := 5) rfl ev_int (by decide) (by decide)) (rv_ixD ⟨sub_ex (.str s0) ok0 (SubR.refl _), sub_ex (.str "") (show PyData.strOk "" = true by decide +kernel) (SubR.refl _), sub_ex .non trivial (SubR.refl _), sub_ex (.num 7) trivial (SubR.refl _), sub_ex (.lst ["a"]) ⟨by decide, fun s hs => by rw [List.mem_singleton] at hs; subst hs; decide +kernel⟩ (SubR.refl _), trivial⟩ (by simp))) (by omega) (by simp; omega) fun d hd => ?_
      refine fin (.str wd) (.num p) ((ns.map Dt.str).take at'.toNat ++ [d] ++ (ns.map Dt.str).drop at'.toNat) _ _ _ ?_ hwd' trivial (fun d' hd' => ?_) (by simp; omega)
      · rw [List.map_append, List.map_append, List.map_take, List.map_drop, lS_dt]; rfl
      · rcases List.mem_append.mp hd' with h | h
        · rcases List.mem_append.mp h with h | h
          · exact ds0 d' (List.mem_of_mem_take h)
          · rw [List.mem_singleton.mp h]; exact hd
        · exact ds0 d' (List.mem_of_mem_drop h)
    refine go_ifT (et_test (ev_op (ev_var (i := 7) rfl) (ev_int (i := 5)) rv_eqI)) (fun _ => ?_) fun _ => ?_
    · refine go_freeze 6 (P := HL (lS ns)) rfl hb6 ?_
      have t1 := evn_take (c := c) (te := tVar 6) (tn := tVar 8) (ρ := [some (ownAt st HState), some (im (RPlanT hv rt)), some (im (RInt parts)), some (im (RTup c.K [RStr wd, RInt p, RLst (lS ns)])), some (im (RStr wd)), some (im (RInt p)), some (im (RLst (lS ns))), some (im (RInt way)), some (im (RInt at')), none, none]) (ev_var (i := 6) (r := RLst (lS ns)) rfl) (ev_var (i := 8) (r := RInt at') rfl) hat.1
      have t2 := evn_drop (c := c) (te := tVar 6) (tn := tOp oAdd (tVar 8) (tC (.int 1))) (ρ := [some (ownAt st HState), some (im (RPlanT hv rt)), some (im (RInt parts)), some (im (RTup c.K [RStr wd, RInt p, RLst (lS ns)])), some (im (RStr wd)), some (im (RInt p)), some (im (RLst (lS ns))), some (im (RInt way)), some (im (RInt at')), none, none]) (ev_var (i := 6) (r := RLst (lS ns)) rfl) (ev_op (ev_var (i := 8) (r := RInt at') rfl) (ev_int (i := 1)) rv_add) (by omega)
      refine go_asgN (by simp) (evn_op (evn_ev t1) (evn_ev t2) (rn_cat (by simp; omega))) ?_
      refine fin (.str wd) (.num p) ((ns.map Dt.str).take at'.toNat ++ (ns.map Dt.str).drop (at' + 1).toNat) _ _ _ ?_ hwd' trivial (fun d' hd' => ?_) (by simp; omega)
      · rw [List.map_append, List.map_take, List.map_drop, lS_dt]
      · rcases List.mem_append.mp hd' with h | h
        · exact ds0 d' (List.mem_of_mem_take h)
        · exact ds0 d' (List.mem_of_mem_drop h)
    refine go_ifT (et_test (ev_op (ev_var (i := 7) rfl) (ev_int (i := 6)) rv_eqI)) (fun _ => ?_) fun _ => ?_
    · refine go_freeze 6 (P := HL (lS ns)) rfl hb6 ?_
      refine q_asg (r := RTup c.K [RStr wd, RInt p, RLst (lS ns)]) (by simp) (ev_tup (c := c) (ea_cons (ev_var (i := 4) (r := RStr wd) rfl) (ea_cons (ev_var (i := 5) (r := RInt p) rfl) (eaOf (ev_var (i := 6) rfl)))) (by simp)) ?_
      have hm0 := Int.emod_nonneg at' (show (5 : Int) ≠ 0 by decide)
      have hm1 := Int.emod_lt_of_pos at' (show (0 : Int) < 5 by decide)
      refine go_retB (ev_op (ev_lst (ea_cons (evn_ev (evn_cb (eaOf (ev_var (i := 10) (r := RTup c.K [RStr wd, RInt p, RLst (lS ns)]) rfl)) rn_listT)) (ea_cons (ev_takeT (ev_var (i := 10) (r := RTup c.K [RStr wd, RInt p, RLst (lS ns)]) rfl) (ev_int (i := 2)) (by decide) (by simp)) (ea_cons (ev_op (ev_var (i := 10) (r := RTup c.K [RStr wd, RInt p, RLst (lS ns)]) rfl) (ev_tup (c := c) (eaOf (ev_int (i := 0))) (by simp)) (rv_catT (by simp) (by simp) (by simp))) (ea_cons (ev_tup (c := c) (ea_cons (ev_var (i := 4) (r := RStr wd) rfl) (ea_cons (ev_var (i := 5) (r := RInt p) rfl) (eaOf (ev_cb (eaOf (ev_var (i := 6) rfl)) rv_tupOfL)))) (by simp)) (eaOf ev_non))))) (by simp)) (ev_weak (r' := exR (fun d : Int => 0 ≤ d ∧ d < 5) RInt) (ev_op (ev_var (i := 8) (r := RInt at') rfl) (ev_int (i := 5)) (rv_mod (by decide))) fun v G q => ⟨at' % 5, ⟨hm0, hm1⟩, q⟩) (rv_ixD (n := 5) (rc := exR (fun x : R × Th => IsTh c.K x.1 x.2) (·.1)) ⟨sub_ex (f := fun x : R × Th => x.1) (_, .no) (.ty ty_lst (by decide +kernel)) (SubR.refl _), sub_ex (f := fun x : R × Th => x.1) (_, .no) (.len (by simp) (by simp)) (SubR.refl _), sub_ex (f := fun x : R × Th => x.1) (_, .no) (.len (by simp) (by simp)) (SubR.refl _), sub_ex (f := fun x : R × Th => x.1) (RTup c.K [RDt (.str wd), RDt (.num p), RTup c.K ((ns.map Dt.str).map RDt)], .t3t (.str wd) (.num p) (ns.map Dt.str)) (.t3t hwd' trivial ds0 (by simp; omega)) (fun v G q => by rw [lS_dt]; exact q), sub_ex (f := fun x : R × Th => x.1) (_, .no) (.ty ty_non (by decide +kernel)) (SubR.refl _), trivial⟩ (by simp))) rfl hr
    refine go_ifT (et_test (ev_op (ev_var (i := 7) rfl) (ev_int (i := 7)) rv_eqI)) (fun _ => ?_) fun _ => ?_
    · refine go_retB (ev_op (ev_lst (ea_cons ev_non (ea_cons (ev_tup (c := c) ea_nil (by simp)) (ea_cons (ev_lst ea_nil (by simp)) (ea_cons (ev_str (s := "heavy")) (ea_cons (ev_int (i := 7)) (ea_cons (ev_bl (b := true)) (ea_cons (evh_ev evh_dnew) (ea_cons (ev_tup (c := c) (eaOf (ev_str (s := "heavy"))) (by simp)) ea_nil)))))))) (by simp)) (pull (n := 8) rfl ev_int (by decide) (by decide)) (rv_ixD (rc := exR (fun x : R × Th => IsTh c.K x.1 x.2) (·.1)) ⟨sub_ex (f := fun x : R × Th => x.1) (_, .no) (.ty ty_non (by decide +kernel)) (SubR.refl _), sub_ex (f := fun x : R × Th => x.1) (_, .no) (.len (by simp) (by simp)) (SubR.refl _), sub_ex (f := fun x : R × Th => x.1) (_, .no) (.ty ty_lst (by decide +kernel)) (SubR.refl _), sub_ex (f := fun x : R × Th => x.1) (_, .no) (.ty ty_str (by decide +kernel)) (SubR.refl _), sub_ex (f := fun x : R × Th => x.1) (_, .no) (.ty ty_int (by decide +kernel)) (SubR.refl _), sub_ex (f := fun x : R × Th => x.1) (_, .no) (.ty ty_bl (by decide +kernel)) (SubR.refl _), sub_ex (f := fun x : R × Th => x.1) (_, .no) (.ty ty_dic (by decide +kernel)) (SubR.refl _), sub_ex (f := fun x : R × Th => x.1) (_, .no) (.len (by simp) (by simp)) (SubR.refl _), trivial⟩ (by simp))) rfl hr
    · exact go_next (fin (.str wd) (.num p) (ns.map Dt.str) _ _ _ lS_dt.symm hwd' trivial ds0 (by simp; omega))) vs H Q E h
end EvC
set_option Elab.async false
set_option linter.all false
set_option maxRecDepth 100000
set_option maxHeartbeats 4000000
/-! R80r: what is no cutting; refusals. -/
namespace EvC
open PySem PySem.Spec PyProof.Rows L2 DL
variable [tsp : TabSpec] {P : Program} {w : World} {K : PySem.W.Frag} {mg : Str → Option Value} {base : Heap}
section
variable {c : DL.Ctx} {ρ : DL.Env} {D : Ends} {t : TS}
/-- the very value that a name has -/
theorem go_at (i : Nat) {r : R} (hρ : ρ[i]? = some (some (im r))) (h : ∀ v G, r.p v G → Go c t (ρ.set i (some (im (RAt v r)))) D) : Go c t ρ D := fun σ G H F S => by
  obtain ⟨v, h1, q, _⟩ := S.at_ i _ hρ
  have hi : i < ρ.length := (List.getElem?_eq_some_iff.mp hρ).1
  have S2 := S.set (i := i) (v := v) (r := RAt v r) hi ⟨rfl, q⟩
  rw [set_same S h1] at S2
  exact h v G q σ G H _ S2
/-- tagged pairs with one value -/
theorem rv_neTag {K : PySem.W.Frag} {s : Str} {v : V} {r : R} (hf : (∃ c, v = .ref c) ∨ flatV v = true) : RV2 (rNeTag K) (RTp [RStr s, RV0 v]) (RTp [RStr s, RAt v r]) (RBl false) := fun x y G H e hx hy Q k => by
  obtain ⟨a, xs, rfl, h1, h2⟩ := hx
  obtain ⟨b, ys, rfl, h3, h4⟩ := hy
  obtain ⟨x1, x2, rfl, e1, e2⟩ := reps_two h2
  obtain ⟨y1, y2, rfl, e3, e4⟩ := reps_two h4
  rw [show x1 = .str s from e1, show x2 = v from e2] at h1
  rw [show y1 = .str s from e3, show y2 = v from e4.1] at h3
  exact ⟨a, b, s, v, rfl, rfl, .of (e _ _ h1), .of (e _ _ h3), hf, k _ G H (Ext.refl e) rfl⟩
end
theorem flat_h {P : HK} : FlatR (RH P) := fun v G ⟨a, o, h, _⟩ => .inl ⟨a, h⟩
theorem flat_tup {rs : List R} : FlatR (RTup K rs) := fun v G ⟨a, xs, h, _⟩ => .inl ⟨a, h⟩
theorem flat_non : FlatR RNon := fun v G h => .inr (by rw [show v = _ from h]; rfl)
theorem flat_int {i : Int} : FlatR (RInt i) := fun v G h => .inr (by rw [show v = _ from h]; rfl)
theorem flat_str {i : Str} : FlatR (RStr i) := fun v G h => .inr (by rw [show v = _ from h]; rfl)
theorem flat_bl {i : Bool} : FlatR (RBl i) := fun v G h => .inr (by rw [show v = _ from h]; rfl)
theorem flat_nonO : FlatR (RNonO P w) := fun v G ⟨a, h, _⟩ => .inl ⟨a, h⟩
theorem flat_odd {n : Nat} : FlatR (ROdd n) := fun v G ⟨a, h, _⟩ => .inl ⟨a, h⟩
/-- a value that is no whole number from lo to hi -/
abbrev NoWh (P : Program) (w : World) (K : PySem.W.Frag) (lo hi : Int) (r : R) : Prop := Wh P w K lo hi r false
theorem no_int {lo hi i : Int} (h : i < lo ∨ hi < i) : NoWh P w K lo hi (RInt i) := by
  have := Wh.int (P := P) (w := w) (K := K) (lo := lo) (hi := hi) i
  have e : (decide (lo ≤ i) && decide (i ≤ hi)) = false := by
    rw [Bool.and_eq_false_iff, decide_eq_false_iff_not, decide_eq_false_iff_not]; omega
  rw [e] at this
  exact this
theorem len__law_no_cutting (vs : List V) (H : Hp) (Q : VK) (E : XK) (h : sp__law_no_cutting P w K vs H Q E) : vs.length = 4 := by refine spB_len (n := 3) ?_ vs H Q E h; intro i; rfl
theorem rd__law_no_cutting (T : Tx P w K mg base) (hT : tsp.T = tabsT K) (vs : List V) (H : Hp) (Q : VK) (E : XK) (h : sp__law_no_cutting P w K vs H Q E) : t__law_no_cutting P w K { nx := fun _ H1 => Q .non H1, rt := Q } (start N__law_no_cutting vs) H :=
  body_B (K := K) (fun ⟨ns, parts, ct⟩ ⟨hnm, h2, h6, hc⟩ c D st hK hb hr hx => by
    subst hK
    dsimp only at hnm h2 h6 hc hr
    show Go c _ [some (ownAt st HState), some (im (RLst (lS ns))), some (im (RInt parts)), some (im (RDSI ct)), none, none, none] D
    have pull : ∀ {c' : DL.Ctx} {ρ : DL.Env} {te : TE} {n : Int}, ρ[0]? = some (some (ownAt st HState)) → Ev c' te ρ (RInt n) → 0 < n → n < 1073741824 → Ev c' (tCall (sp__law_pull P w c.K) [] E0 (tCons (tVar 0) (tCons te tNil))) ρ (RDigit n) := fun h0 he h1 h2 => ev_callB (ownAt_own st HState) h0 (eaOf he) (spB_ok _ ⟨h1, h2⟩)
    have hb4 : 4 ∉ c.bs := by rw [hb]; simp
    have nok := nms_ok hnm
    have n8 : ns.length ≤ 8 := hnm.1
    have ctl : ct.length = ns.length := by rw [← hc.1.length_eq]; simp
    have sub : ∀ {r : R}, CutK P w c.K ns parts r false → FlatR r → SubR r (exR (fun r : R => CutK P w c.K ns parts r false ∧ FlatR r) id) := fun h1 h2 => sub_ex (f := id) _ ⟨h1, h2⟩ (SubR.refl _)
    refine q_asgN (by simp) (evh_dict (ev_var (i := 3) rfl)) ?_
    refine q_asgX (P := fun d : Int => 0 ≤ d ∧ d < 6) (f := RInt) (by simp) (pull (n := 6) rfl ev_int (by decide) (by decide)) fun way hway => ?_
    refine q_may (et_or (et_test (ev_op (ev_var (i := 1) rfl) (ev_lst ea_nil (by simp)) (rv_eqNilS nok))) fun _ => et_test (ev_op (ev_var (i := 5) rfl) (ev_int (i := 0)) rv_eqI)) (fun _ => ?_) fun hne => ?_
    · refine go_retB (ev_op (ev_lst (ea_cons ev_non (ea_cons (ev_lst ea_nil (by simp)) (ea_cons (ev_lst (eaOf (ev_var (i := 3) rfl)) (by simp)) (ea_cons (ev_tup (c := c) (eaOf (ev_var (i := 3) rfl)) (by simp)) (ea_cons (ev_str (s := "a")) (ea_cons (ev_int (i := 7)) (ea_cons (ev_bl (b := true)) (ea_cons (ev_disp1 (x := "") (n := 0)) (ea_cons (ev_dispN (P := P) (w := w) (n := 0)) ea_nil))))))))) (by simp)) (pull (n := 9) rfl ev_int (by decide) (by decide)) (rv_ixD ⟨sub (.ty ty_non (by decide +kernel)) flat_non, sub (.ty ty_lst (by decide +kernel)) flat_h, sub (.ty ty_lst (by decide +kernel)) flat_h, sub (.ty ty_tup (by decide +kernel)) flat_tup, sub (.ty ty_str (by decide +kernel)) flat_str, sub (.ty ty_int (by decide +kernel)) flat_int, sub (.ty ty_bl (by decide +kernel)) flat_bl, sub (.lack ?_) flat_h, sub ?_ flat_nonO, trivial⟩ (by simp))) rfl hr
      · cases ns with
        | nil => exact .inl (by simp)
        | cons n l =>
          refine .inr ⟨n, .head _, ?_⟩
          have hl := (hnm.2.2 n (.head _)).2
          have ne : ¬ (("" : Str) = n) := fun z => by rw [← z] at hl; exact absurd hl (by decide)
          unfold lookR
          rw [List.find?_cons, decide_eq_false (fun z => ne (Sum.inr.inj z))]; rfl
      · cases hh : ns with
        | nil => exact .odd (n := 1) (fun v G ⟨a, e1, e2⟩ => ⟨a, e1, .inr ⟨e2, rfl⟩⟩) (by simp)
        | cons n l => exact .non (fun v G q => q) (by simp)
    simp only [Bool.or_eq_false_iff, decide_eq_false_iff_not] at hne
    obtain ⟨hns, _⟩ := hne
    have l1 : 0 < ns.length := List.length_pos_iff.mpr hns
    refine q_asgX (P := fun s : Str => s ∈ ns) (f := RStr) (by simp) (ev_op (ev_var (i := 1) rfl) (pull (n := ((lS ns).length : Nat)) rfl (ev_cb (eaOf (ev_var (i := 1) (r := RLst (lS ns)) rfl)) rv_lenL) (by simpa using l1) (by simp; omega)) (rv_ixD (allSub_strs fun s h => h) (by simp))) fun n hn => ?_
    have hlk := look_cut hc hn
    have hsome : (lookR (dSI ct) (.inr n)).isSome = true := by rw [hlk]; rfl
    refine go_seq (go_ifT (et_test (ev_op (ev_var (i := 5) rfl) (ev_int (i := 1)) rv_eqI)) (fun _ => ?_) fun _ => ?_)
    · refine go_dpop (i := 4) (kvs := dSI ct) (k := .inr n) rfl (ev_var (i := 6) (r := RStr n) rfl) key_str hsome (nx_go (go_freeze 4 (P := HD (dropR (dSI ct) (.inr n))) rfl hb4 ?_))
      exact go_retB (ev_ex (f := id) (RDic (dropR (dSI ct) (.inr n))) ⟨.lack (.inr ⟨n, hn, look_drop⟩), flat_h⟩ (ev_var rfl)) rfl hr
    refine go_ifT (et_test (ev_op (ev_var (i := 5) rfl) (ev_int (i := 2)) rv_eqI)) (fun _ => ?_) fun _ => ?_
    · have e9 : (n ++ ("9" : Str)).length = n.length + 1 := by rw [Str.length_append]; rfl
      have hl8 := (hnm.2.2 n hn).1.2.1
      refine go_dputO (s := 4) (kvs := dSI ct) (Pa := fun r : R => r = RNon ∨ r = RInt 7 ∨ r = RTp [RStr "a"] ∨ r = RStr (n ++ ("9" : Str))) (f := id) rfl hb4 (ev_int (i := 0)) (ev_op (ev_lst (ea_cons ev_non (ea_cons (ev_int (i := 7)) (ea_cons (ev_tp (eaOf (ev_str (s := "a"))) (by simp)) (ea_cons (ev_op (ev_var (i := 6) (r := RStr n) rfl) (ev_str (s := "9")) (rv_addS (by rw [← Str.length_append, e9]; omega))) ea_nil)))) (by simp)) (pull (n := 4) rfl ev_int (by decide) (by decide)) (rv_ixD ⟨sub_ex (f := id) RNon (.inl rfl) (SubR.refl _), sub_ex (f := id) (RInt 7) (.inr (.inl rfl)) (SubR.refl _), sub_ex (f := id) (RTp [RStr "a"]) (.inr (.inr (.inl rfl))) (SubR.refl _), sub_ex (f := id) (RStr (n ++ ("9" : Str))) (.inr (.inr (.inr rfl))) (SubR.refl _), trivial⟩ (by simp))) (by simp; omega) fun x hx => ?_
      have odd : Nx c (tRet (tVar 4) D) ([some (ownAt st HState), some (im (RLst (lS ns))), some (im (RInt parts)), some (im (RDSI ct)), some (im (ROdd ((dSI ct).length + 1))), some (im (RInt way)), some (im (RStr n))]) :=
        nx_go (go_retB (ev_ex (f := id) (ROdd ((dSI ct).length + 1)) ⟨.odd (n := (dSI ct).length + 1) (fun v G ⟨a, e1, e2⟩ => ⟨a, e1, .inl e2⟩) (by simp; omega), flat_odd⟩ (ev_var rfl)) rfl hr)
      have reg : ∀ k : Key, (∀ m ∈ ns, (.inr m : Key) ≠ k) → Nx c (tRet (tVar 4) D) ([some (ownAt st HState), some (im (RLst (lS ns))), some (im (RInt parts)), some (im (RDSI ct)), some (ownD (putR (dSI ct) k (RInt 0))), some (im (RInt way)), some (im (RStr n))]) := fun k hk => by
        refine nx_go (go_freeze 4 (P := HD (putR (dSI ct) k (RInt 0))) rfl hb4 ?_)
        refine go_retB (ev_ex (f := id) (RDic (putR (dSI ct) k (RInt 0))) ⟨.lack (.inl ?_), flat_h⟩ (ev_var rfl)) rfl hr
        rw [putR_new]
        · simp; omega
        · intro p hp
          obtain ⟨q, hq, rfl⟩ := List.mem_map.mp hp
          exact hk q.1 (hc.1.mem_iff.mp (List.mem_map.mpr ⟨q, hq, rfl⟩))
      rcases hx with rfl | rfl | rfl | rfl
      · exact .inr ⟨fun v G q => .inl q, odd⟩
      · exact .inl ⟨.inl 7, key_int, reg _ fun m _ z => by cases z⟩
      · refine .inr ⟨fun v G ⟨a, xs, e1, e2, e3⟩ => .inr ⟨a, [Sum.inr "a"], e1, ?_⟩, odd⟩
        obtain ⟨y, rfl, hy⟩ := reps_one e3
        rw [show y = _ from hy] at e2
        exact e2
      · refine .inl ⟨.inr (n ++ ("9" : Str)), key_str, reg _ fun m hm z => ?_⟩
        have z := Sum.inr.inj z
        have hlt := (hnm.2.2 m hm).1.2.2
        have : (57 : Nat) ∈ m.cps.toList := by rw [z, toList_app]; exact List.mem_append_right _ (by decide)
        have := hlt 57 this
        exact absurd this (by decide +kernel)
    · have e29 : (10 : Int) ^ (29 : Int).toNat = 100000000000000000000000000000 := by decide
      refine go_dputX (i := 4) (kvs := dSI ct) (k := .inr n) (Pa := fun r : R => NoWh P w c.K 0 (parts - 1) r) (f := id) rfl (ev_op (ev_lst (ea_cons (ev_var (i := 2) (r := RInt parts) rfl) (ea_cons (ev_neg (ev_int (i := 1))) (ea_cons ev_non (ea_cons (ev_bl (b := true)) (ea_cons (ev_bl (b := false)) (ea_cons (ev_str (s := "0")) (ea_cons (ev_lst (eaOf (ev_int (i := 0))) (by simp)) (ea_cons (ev_tup (c := c) (eaOf (ev_int (i := 0))) (by simp)) (ea_cons (ev_eq (r' := RInt 100000000000000000000000000000) (ev_op (ev_int (i := 10)) (ev_int (i := 29)) (rv_pow (by unfold CPow; decide))) (by rw [e29])) ea_nil))))))))) (by simp)) (pull (n := 9) rfl ev_int (by decide) (by decide)) (rv_ixD ⟨sub_ex (f := id) _ (no_int (by omega)) (SubR.refl _), sub_ex (f := id) _ (no_int (by omega)) (SubR.refl _), sub_ex (f := id) _ (.other ty_non (by decide +kernel)) (SubR.refl _), sub_ex (f := id) _ (.bl true) (SubR.refl _), sub_ex (f := id) _ (.bl false) (SubR.refl _), sub_ex (f := id) _ (.other ty_str (by decide +kernel)) (SubR.refl _), sub_ex (f := id) _ (.other ty_lst (by decide +kernel)) (SubR.refl _), sub_ex (f := id) _ (.other ty_tup (by decide +kernel)) (SubR.refl _), sub_ex (f := id) _ (no_int (by omega)) (SubR.refl _), trivial⟩ (by simp))) (ev_var (i := 6) (r := RStr n) rfl) key_str (by simp; omega) fun r hw => ?_
      refine nx_go (go_freeze 4 (P := HD (putR (dSI ct) (.inr n) r)) rfl hb4 ?_)
      refine go_retB (ev_ex (f := id) (RDic (putR (dSI ct) (.inr n) r)) ⟨.val (fun m => if m = n then (r, false) else (RInt (look ct m), true)) ?_ (fun m hm => ?_) n hn (by rw [if_pos rfl]), flat_h⟩ (ev_var rfl)) rfl hr
      · rw [put_length hsome]; simp; exact ctl
      · rw [look_put hsome]
        by_cases z : m = n
        · subst z
          rw [if_pos rfl, if_pos rfl]
          exact ⟨rfl, hw⟩
        · rw [if_neg (fun y => z (Sum.inr.inj y)), if_neg z]
          exact ⟨look_cut hc hm, whole_ok (by have := look_rng hc hm; omega)⟩) vs H Q E h
end EvC
set_option Elab.async false
set_option linter.all false
set_option maxRecDepth 100000
set_option maxHeartbeats 200000
/-! R80s: refusals, asked. -/
namespace EvC
open PySem PySem.Spec PyProof.Rows L2 DL
variable [tsp : TabSpec] {P : Program} {w : World} {K : PySem.W.Frag} {mg : Str → Option Value} {base : Heap}
/-- a caught exception at a, its fields at d -/
def RExc (a d : Addr) (fs : List (Str × V)) : R := ⟨fun v G => v = .ref a ∧ G d = some (.xd fs), fun e ⟨h1, h2⟩ => ⟨h1, e _ _ h2⟩⟩
section
variable {c : DL.Ctx} {ρ : DL.Env} {te : TE} {a d C C' : Addr} {fs : List (Str × V)} {b : Bool} {v0 : V}
theorem rv_isX (hx : isxB K C = true) (hk : PySem.W.kitOne K (.ref C) (.ref C') = some b) : RVc (rIsX K a (.ref C) (some d)) [RExc a d fs, RV0 (.ref C')] (RBl b) := fun vs G H e q Q k => by
  obtain ⟨v1, v2, rfl, ⟨rfl, h1⟩, h2⟩ := reps_two q
  obtain rfl : v2 = .ref C' := h2
  exact ⟨C, d, fs, .ref C', b, rfl, rfl, rfl, e _ _ h1, .inl ⟨_, .own C', hk⟩, hx, k _ G H (Ext.refl e) rfl⟩
theorem rv_isX2 {C2 : Addr} (hx : isxB K C = true) (hk : PySem.W.kitAny K (.ref C) [.ref C', .ref C2] = some b) : RVc (rIsX K a (.ref C) (some d)) [RExc a d fs, RTp [RV0 (.ref C'), RV0 (.ref C2)]] (RBl b) := fun vs G H e q Q k => by
  obtain ⟨v1, v2, rfl, ⟨rfl, h1⟩, tp, cs, rfl, h2, h3⟩ := reps_two q
  obtain ⟨y1, y2, rfl, e1, e2⟩ := reps_two h3
  rw [show y1 = .ref C' from e1, show y2 = .ref C2 from e2] at h2
  exact ⟨C, d, fs, .ref tp, b, rfl, rfl, rfl, e _ _ h1, .inr ⟨tp, _, _, rfl, e _ _ h2, .cons (.own C') (.cons (.own C2) .nil), hk⟩, hx, k _ G H (Ext.refl e) rfl⟩
theorem ev_xf {f : Str} (h : Ev c te ρ (RExc a d fs)) (hl : fs.lookup f = some v0) : Ev c (tXf a (.ref C) (some d) C f te) ρ (RV0 v0) := fun σ G H F S Q k => by
  refine h σ G H F S _ fun x G1 H1 F1 S1 n1 q => ?_
  exact ⟨q.1, rfl, d, fs, v0, rfl, S1.le _ _ q.2, hl, k _ G1 H1 F1 S1 n1 rfl⟩
end
theorem go_try {c : DL.Ctx} {ρ : DL.Env} {D : Ends} {K : PySem.W.Frag} {C : Addr} {i : Nat} {tb : WX → TS} {ts : Addr → Value → Option Addr → TS} (h : Go c (tb (wAs K (.ref C) i ts (fun _ _ _ _ => False) D)) ρ D) : Go c (tTry K C i tb ts) ρ D := h
theorem len__law_refusal (vs : List V) (H : Hp) (Q : VK) (E : XK) (h : sp__law_refusal P w K vs H Q E) : vs.length = 5 := by
  rcases h with ⟨i, G, _, q, _⟩ | ⟨i, G, _, q, _⟩ <;> rw [← q.length] <;> rfl
/-- what the clause does with an exception of the class C that found v0 -/
def CatchOk (c : DL.Ctx) (ρ : DL.Env) (D : Ends) (ts : Addr → Value → Option Addr → TS) (C : Addr) (v0 : V) : Prop := ∀ (a d : Addr) (fs : List (Str × V)), fs.lookup ("found" : Str) = some v0 →
  Go c (ts a (.ref C) (some d)) (ρ.set 6 (some (im (RExc a d fs)))) { nx := fun σ' H' => D.nx (σ'.set 6 none) H', rt := D.rt, bk := fun σ' H' => D.bk (σ'.set 6 none) H', ct := fun σ' H' => D.ct (σ'.set 6 none) H' }
section
variable {c : DL.Ctx} {ρ : DL.Env} {D : Ends} {ts : Addr → Value → Option Addr → TS} {C CE : Addr} {v0 : V}
/-- the clause gets it -/
theorem caught {σ : L2.St} {G H : Hp} {F : Nat → Addr → Prop} (S : Sta c ρ σ G H F) (h6 : 6 < ρ.length) (hm : PySem.W.exmOne K (.ref C) (.ref CE) = some true) (hc : CatchOk c ρ D ts C v0) {d : Addr} {fs : List (Str × V)} (hd : G d = some (.xd fs)) (hf : fs.lookup ("found" : Str) = some v0) :
    wAs K (.ref CE) 6 ts (fun _ _ _ _ => False) D (.ref C) (some d) σ H := ⟨true, hm, fun _ a ha => hc a d fs hf _ _ _ _ (S.set (i := 6) (v := .ref a) h6 ⟨rfl, hd⟩), fun z => by cases z⟩
/-- a call that is refused, in the try -/
theorem go_callX {sp : Sp} {tas : TA} {rs : List R} (h6 : 6 < ρ.length) (ha : EvA c tas ρ rs) (hm : PySem.W.exmOne K (.ref C) (.ref CE) = some true) (hc : CatchOk c ρ D ts C v0)
    (hs : ∀ vs G H (Q : VK) (E : XK), Le G H → Reps rs vs G → (∀ d fs G' H', Ext noB G H G' H' → G' d = some (.xd fs) → fs.lookup ("found" : Str) = some v0 → E (.ref C) (some d) H') → sp vs H Q E) :
    Go c (tDrop (tCallS sp (WE (wAs K (.ref CE) 6 ts (fun _ _ _ _ => False) D)) tas)) ρ D := fun σ G H F S => by
  show tCallS sp (WE (wAs K (.ref CE) 6 ts (fun _ _ _ _ => False) D)) tas σ H _
  refine ha σ G H F S _ fun vs G1 H1 F1 S1 n1 qs => ?_
  exact hs vs G1 H1 _ _ S1.le qs fun d fs G' H' x hd hf => caught (S1.step x) h6 hm hc hd hf
end
/-- the three calls -/
abbrev tRefBody (P : Program) (w : World) (K : PySem.W.Frag) (W : WX) : TS := (tIfS (tTest (tOp rEq (tVar 4) (tC (.int 0))))
        (tDrop (tCallS (sp_waste_of P w K) (WE W) (tCons (tVar 0) (tCons (tVar 1) (tCons (tVar 2) tNil)))))
        (tIfS (tTest (tOp rEq (tVar 4) (tC (.int 1))))
          (tDrop (tCallS (sp_stuck_paper P w K) (WE W) (tCons (tVar 0) (tCons (tVar 1) (tCons (tVar 2) (tCons (tVar 3) tNil))))))
          (tDrop (tCallS (sp_shows_stuck P w K) (WE W) (tCons (tVar 0) (tCons (tVar 1) (tCons (tVar 2) (tCons (tVar 3) (tCons (tC .non) tNil)))))))))
abbrev tRefCatch (K : PySem.W.Frag) (xa : Addr) (cls : Value) (xd : Option Addr) : TS := (tSeq (tAsg (tTup (tCons (tC (.str "other")) (tCons (tC .non) tNil))) (gName 5))
      (tIfS (tAnd (tB (tCB (rIsX K xa cls xd) (tCons (tVar 6) (tCons (tC (.ref (He.ga K "NoCutting"))) tNil)))) (tNot (tB (tCB (rIsX K xa cls xd) (tCons (tVar 6) (tCons (tTup (tCons (tC (.ref (He.ga K "NoNumber"))) (tCons (tC (.ref (He.ga K "NoPlace"))) tNil))) tNil))))))
        (tAsg (tTup (tCons (tC (.str "cutting")) (tCons (tXf xa cls xd (He.ga K "NoCutting") "found" (tVar 6)) tNil))) (gName 5))
        (tIfS (tAnd (tB (tCB (rIsX K xa cls xd) (tCons (tVar 6) (tCons (tC (.ref (He.ga K "NoNumber"))) tNil)))) (tNot (tB (tCB (rIsX K xa cls xd) (tCons (tVar 6) (tCons (tC (.ref (He.ga K "NoPlace"))) tNil))))))
          (tAsg (tTup (tCons (tC (.str "number")) (tCons (tXf xa cls xd (He.ga K "NoNumber") "found" (tVar 6)) tNil))) (gName 5))
          tNext)))
/-- a return of the tagged pair -/
def RetsTag (c : DL.Ctx) (D : Ends) (word : Str) (v0 : V) : Prop := ∀ (t : Addr) (G H : Hp), Ext c.B c.G0 c.H0 G H → G t = some (.tup [.str word, v0]) → D.rt (.ref t) H
theorem go_retTag {c : DL.Ctx} {ρ : DL.Env} {D : Ends} {word : Str} {v0 : V} (h5 : ρ[5]? = some (some (im (RTp [RStr word, RV0 v0])))) (k : RetsTag c D word v0) : Go c (tRet (tVar 5)) ρ D :=
  go_ret (ev_var h5) fun v G H x ⟨a, xs, e1, e2, e3⟩ => by
    subst e1
    obtain ⟨y1, y2, rfl, q1, q2⟩ := reps_two e3
    rw [show y1 = .str word from q1, show y2 = v0 from q2] at e2
    exact k a G H x e2
/-- behind the clause -/
theorem nx_catch {c : DL.Ctx} {ρ : DL.Env} {D : Ends} {u : TS} {word : Str} {v0 : V} (h5 : ρ[5]? = some (some (im (RTp [RStr word, RV0 v0])))) (hu : u = tRet (tVar 5)) (k : RetsTag c D word v0) : Nx c (fun σ' H' => (u D) (σ'.set 6 none) H') ρ := fun σ G H F S => by
  subst hu
  exact go_retTag (ρ := ρ.set 6 none) (by rw [List.getElem?_set_ne (by decide)]; exact h5) k _ _ _ _ (S.forget (i := 6) (x := none))
theorem catchC {c : DL.Ctx} {x0 x1 x2 x3 x4 x5 x6 : Option SP} {D : Ends} {v0 : V} (T : Tx P w c.K mg base) (k : RetsTag c D "cutting" v0) : CatchOk c [x0, x1, x2, x3, x4, x5, x6] { D with nx := (tRet (tVar 5)) D } (tRefCatch c.K) (He.ga c.K "NoCutting") v0 := fun a d fs hf => by
  have hx := (exc_NoCutting T).is
  refine q_asg (by simp) (ev_tup (c := c) (ea_cons (ev_str (s := "other")) (eaOf ev_non)) (by simp)) ?_
  refine go_ifT (et_and (et_B (ev_cb (ea_cons (ev_var (i := 6) (r := RExc a d fs) rfl) (eaOf ev_c)) (rv_isX hx (kit_CC T)))) fun _ => et_not (et_B (ev_cb (ea_cons (ev_var (i := 6) (r := RExc a d fs) rfl) (eaOf (ev_tp (ea_cons ev_c (eaOf ev_c)) (by simp)))) (rv_isX2 hx (kit_CNP T))))) (fun _ => ?_) fun z => by cases z
  exact go_asg (by simp) (ev_tp (ea_cons (ev_str (s := "cutting")) (eaOf (ev_xf (ev_var (i := 6) rfl) hf))) (by simp)) (nx_catch rfl rfl k)
theorem catchN {c : DL.Ctx} {x0 x1 x2 x3 x4 x5 x6 : Option SP} {D : Ends} {v0 : V} (T : Tx P w c.K mg base) (k : RetsTag c D "number" v0) : CatchOk c [x0, x1, x2, x3, x4, x5, x6] { D with nx := (tRet (tVar 5)) D } (tRefCatch c.K) (He.ga c.K "NoNumber") v0 := fun a d fs hf => by
  have hx := (exc_NoNumber T).is
  refine q_asg (by simp) (ev_tup (c := c) (ea_cons (ev_str (s := "other")) (eaOf ev_non)) (by simp)) ?_
  refine go_ifT (b := false) (et_and (a := false) (b := true) (et_B (ev_cb (ea_cons (ev_var (i := 6) (r := RExc a d fs) rfl) (eaOf ev_c)) (rv_isX hx (kit_NC T)))) fun z => by cases z) (fun z => by cases z) fun _ => ?_
  refine go_ifT (et_and (et_B (ev_cb (ea_cons (ev_var (i := 6) (r := RExc a d fs) rfl) (eaOf ev_c)) (rv_isX hx (kit_NN T)))) fun _ => et_not (et_B (ev_cb (ea_cons (ev_var (i := 6) (r := RExc a d fs) rfl) (eaOf ev_c)) (rv_isX hx (kit_NP T))))) (fun _ => ?_) fun z => by cases z
  exact go_asg (by simp) (ev_tp (ea_cons (ev_str (s := "number")) (eaOf (ev_xf (ev_var (i := 6) rfl) hf))) (by simp)) (nx_catch rfl rfl k)
theorem rd__law_refusal (T : Tx P w K mg base) (hT : tsp.T = tabsT K) (vs : List V) (H : Hp) (Q : VK) (E : XK) (h : sp__law_refusal P w K vs H Q E) : t__law_refusal P w K { nx := fun _ H1 => Q .non H1, rt := Q } (start N__law_refusal vs) H := by
  rcases h with ⟨⟨⟨⟨rw, hv, ⟨parts, lo, hi⟩, r⟩, rb⟩, way⟩, G, e, q, hc, k⟩ | ⟨⟨⟨⟨rw, hv, ⟨parts, lo, hi⟩, r⟩, rb⟩, way⟩, G, e, q, ⟨hc, hwh, hway⟩, k⟩
  · obtain ⟨v0, v1, v2, v3, v4, rfl, q0, q1, q2, q3, q4⟩ := reps_five q
    have key : ∀ (c : DL.Ctx) (D : Ends), c.K = K → RetsTag c D "cutting" v2 → Go c (t__law_refusal P w K) [some (im rw), some (im (RRule K parts lo hi)), some (im (RAt v2 r)), some (im rb), some (im (RInt way)), none, none] D := by
      intro c D hK hr
      subst hK
      refine q_asg (by simp) ev_non (go_seq ?_)
      refine go_try (tb := fun W => tRefBody P w c.K W) (ts := tRefCatch c.K) ?_
      have cat := catchC (c := c) (x0 := some (im rw)) (x1 := some (im (RRule c.K parts lo hi))) (x2 := some (im (RAt v2 r))) (x3 := some (im rb)) (x4 := some (im (RInt way))) (x5 := some (im RNon)) (x6 := none) T hr
      have hm := exm_NoCutting_CutError T
      refine go_ifT (et_test (ev_op (ev_var (i := 4) rfl) (ev_int (i := 0)) rv_eqI)) (fun _ => ?_) fun _ => go_ifT (et_test (ev_op (ev_var (i := 4) rfl) (ev_int (i := 1)) rv_eqI)) (fun _ => ?_) fun _ => ?_
      · refine go_callX (c := c) (v0 := v2) (by simp) (ea_cons (ev_var (i := 0) (r := rw) rfl) (ea_cons (ev_var (i := 1) (r := RRule c.K parts lo hi) rfl) (eaOf (ev_var (i := 2) (r := RAt v2 r) rfl)))) hm cat fun vs G H Q E le qs kE => ?_
        obtain ⟨u0, u1, u2, rfl, w0, w1, ⟨rfl, w2⟩⟩ := reps_three qs
        exact .inr ⟨(rw, hv, (parts, lo, hi), r), G, le, .cons w0 (.cons w1 (.cons w2 .nil)), hc, fun d v fs G' H' hv x hd hf => by cases hv; exact kE d fs G' H' x hd hf⟩
      · refine go_callX (c := c) (v0 := v2) (by simp) (ea_cons (ev_var (i := 0) (r := rw) rfl) (ea_cons (ev_var (i := 1) (r := RRule c.K parts lo hi) rfl) (ea_cons (ev_var (i := 2) (r := RAt v2 r) rfl) (eaOf (ev_var (i := 3) (r := rb) rfl))))) hm cat fun vs G H Q E le qs kE => ?_
        obtain ⟨u0, u1, u2, u3, rfl, w0, w1, ⟨rfl, w2⟩, w3⟩ := reps_four qs
        exact .inr (.inl ⟨((rw, hv, (parts, lo, hi), r), rb), G, le, .cons w0 (.cons w1 (.cons w2 (.cons w3 .nil))), hc, fun d v fs G' H' hv x hd hf => by cases hv; exact kE d fs G' H' x hd hf⟩)
      · refine go_callX (c := c) (v0 := v2) (by simp) (ea_cons (ev_var (i := 0) (r := rw) rfl) (ea_cons (ev_var (i := 1) (r := RRule c.K parts lo hi) rfl) (ea_cons (ev_var (i := 2) (r := RAt v2 r) rfl) (ea_cons (ev_var (i := 3) (r := rb) rfl) (eaOf ev_non))))) hm cat fun vs G H Q E le qs kE => ?_
        obtain ⟨u0, u1, u2, u3, u4, rfl, w0, w1, ⟨rfl, w2⟩, w3, w4⟩ := reps_five qs
        exact .inr (.inl ⟨((rw, hv, (parts, lo, hi), r), rb), G, le, .cons w0 (.cons w1 (.cons w2 (.cons w3 (.cons w4 .nil)))), hc, fun d v fs G' H' hv x hd hf => by cases hv; exact kE d fs G' H' x hd hf⟩)
    exact key ⟨K, noB, G, H, [], []⟩ _ rfl (fun t G' H' x ht => k t v2 G' H' rfl x ht) _ _ _ _ (Sta.start (rs := [rw, RRule K parts lo hi, RAt v2 r, rb, RInt way]) (N := N__law_refusal) e (.cons q0 (.cons q1 (.cons ⟨rfl, q2⟩ (.cons q3 (.cons q4 .nil))))))
  · obtain ⟨v0, v1, v2, v3, v4, rfl, q0, q1, q2, q3, q4⟩ := reps_five q
    have key : ∀ (c : DL.Ctx) (D : Ends), c.K = K → RetsTag c D "number" v3 → Go c (t__law_refusal P w K) [some (im rw), some (im (RRule K parts lo hi)), some (im r), some (im (RAt v3 rb)), some (im (RInt way)), none, none] D := by
      intro c D hK hr
      subst hK
      refine q_asg (by simp) ev_non (go_seq ?_)
      refine go_try (tb := fun W => tRefBody P w c.K W) (ts := tRefCatch c.K) ?_
      have cat := catchN (c := c) (x0 := some (im rw)) (x1 := some (im (RRule c.K parts lo hi))) (x2 := some (im r)) (x3 := some (im (RAt v3 rb))) (x4 := some (im (RInt way))) (x5 := some (im RNon)) (x6 := none) T hr
      have hm := exm_NoNumber_CutError T
      refine go_ifT (et_test (ev_op (ev_var (i := 4) rfl) (ev_int (i := 0)) rv_eqI)) (fun z => absurd (of_decide_eq_true z) hway) fun _ => go_ifT (et_test (ev_op (ev_var (i := 4) rfl) (ev_int (i := 1)) rv_eqI)) (fun _ => ?_) fun _ => ?_
      · refine go_callX (c := c) (v0 := v3) (by simp) (ea_cons (ev_var (i := 0) (r := rw) rfl) (ea_cons (ev_var (i := 1) (r := RRule c.K parts lo hi) rfl) (ea_cons (ev_var (i := 2) (r := r) rfl) (eaOf (ev_var (i := 3) (r := RAt v3 rb) rfl))))) hm cat fun vs G H Q E le qs kE => ?_
        obtain ⟨u0, u1, u2, u3, rfl, w0, w1, w2, ⟨rfl, w3⟩⟩ := reps_four qs
        exact .inr (.inr ⟨((rw, hv, (parts, lo, hi), r), rb), G, le, .cons w0 (.cons w1 (.cons w2 (.cons w3 .nil))), ⟨hc, hwh⟩, fun d v fs G' H' hv x hd hf => by cases hv; exact kE d fs G' H' x hd hf⟩)
      · refine go_callX (c := c) (v0 := v3) (by simp) (ea_cons (ev_var (i := 0) (r := rw) rfl) (ea_cons (ev_var (i := 1) (r := RRule c.K parts lo hi) rfl) (ea_cons (ev_var (i := 2) (r := r) rfl) (ea_cons (ev_var (i := 3) (r := RAt v3 rb) rfl) (eaOf ev_non))))) hm cat fun vs G H Q E le qs kE => ?_
        obtain ⟨u0, u1, u2, u3, u4, rfl, w0, w1, w2, ⟨rfl, w3⟩, w4⟩ := reps_five qs
        exact .inr (.inr ⟨((rw, hv, (parts, lo, hi), r), rb), G, le, .cons w0 (.cons w1 (.cons w2 (.cons w3 (.cons w4 .nil)))), ⟨hc, hwh⟩, fun d v fs G' H' hv x hd hf => by cases hv; exact kE d fs G' H' x hd hf⟩)
    exact key ⟨K, noB, G, H, [], []⟩ _ rfl (fun t G' H' x ht => k t v3 G' H' rfl x ht) _ _ _ _ (Sta.start (rs := [rw, RRule K parts lo hi, r, RAt v3 rb, RInt way]) (N := N__law_refusal) e (.cons q0 (.cons q1 (.cons q2 (.cons ⟨rfl, q3⟩ (.cons q4 .nil))))))
theorem len__law_refused (vs : List V) (H : Hp) (Q : VK) (E : XK) (h : sp__law_refused P w K vs H Q E) : vs.length = 5 := by refine spB_len (n := 4) ?_ vs H Q E h; intro i; rfl
theorem rd__law_refused (T : Tx P w K mg base) (hT : tsp.T = tabsT K) (vs : List V) (H : Hp) (Q : VK) (E : XK) (h : sp__law_refused P w K vs H Q E) : t__law_refused P w K { nx := fun _ H1 => Q .non H1, rt := Q } (start N__law_refused vs) H :=
  body_B (K := K) (fun ⟨⟨rw, rt⟩, z⟩ ⟨hw, ok⟩ c D st hK hb hr hx => by
    subst hK
    dsimp only at hw ok hr
    show Go c _ [some (ownAt st HState), some (im rw), some (im (RRule c.K z.parts z.lo z.hi)), some (im (RPlanT z.hv rt)), some (im (RDSI z.ct)), none, none, none] D
    have pull : ∀ {c' : DL.Ctx} {ρ : DL.Env} {te : TE} {n : Int}, ρ[0]? = some (some (ownAt st HState)) → Ev c' te ρ (RInt n) → 0 < n → n < 1073741824 → Ev c' (tCall (sp__law_pull P w c.K) [] E0 (tCons (tVar 0) (tCons te tNil))) ρ (RDigit n) := fun h0 he h1 h2 => ev_callB (ownAt_own st HState) h0 (eaOf he) (spB_ok _ ⟨h1, h2⟩)
    have l8 := web8 ok.ct.web
    refine q_asgX (P := fun r : R => CutK P w c.K z.ns z.parts r false ∧ FlatR r) (f := id) (by simp) (ev_callB (ownAt_own st HState) rfl (ea_cons (ev_names (i := 3) rfl) (ea_cons (ev_fld (ev_var (i := 2) rfl) fld_parts (k_Rule T) (na_Rule_parts T)) (eaOf (ev_var (i := 4) rfl)))) (spB_ok (I := List Str × Int × List (Str × Int)) (P := HState) (z.ns, z.parts, z.ct) ⟨ok.ct.web.1, ok.ct.p2, ok.ct.p6, ok.ct.cut⟩)) fun r ⟨hcut, hfl⟩ => ?_
    have e29 : (10 : Int) ^ (29 : Int).toNat = 100000000000000000000000000000 := by decide
    refine q_asgX (P := fun r : R => NoWh P w c.K 0 60 r ∧ FlatR r) (f := id) (by simp) (ev_op (ev_lst (ea_cons (ev_neg (ev_int (i := 1))) (ea_cons (ev_int (i := 61)) (ea_cons (ev_bl (b := true)) (ea_cons (ev_bl (b := false)) (ea_cons ev_non (ea_cons (ev_str (s := "3")) (ea_cons (ev_lst (eaOf (ev_int (i := 3))) (by simp)) (ea_cons (ev_tup (c := c) (eaOf (ev_int (i := 3))) (by simp)) (ea_cons (ev_eq (r' := RInt 100000000000000000000000000000) (ev_op (ev_int (i := 10)) (ev_int (i := 29)) (rv_pow (by unfold CPow; decide))) (by rw [e29])) (ea_cons (evh_ev evh_dnew) ea_nil)))))))))) (by simp)) (pull (n := 10) rfl ev_int (by decide) (by decide)) (rv_ixD ⟨sub_ex (f := id) _ ⟨no_int (by omega), flat_int⟩ (SubR.refl _), sub_ex (f := id) _ ⟨no_int (by omega), flat_int⟩ (SubR.refl _), sub_ex (f := id) _ ⟨.bl true, flat_bl⟩ (SubR.refl _), sub_ex (f := id) _ ⟨.bl false, flat_bl⟩ (SubR.refl _), sub_ex (f := id) _ ⟨.other ty_non (by decide +kernel), flat_non⟩ (SubR.refl _), sub_ex (f := id) _ ⟨.other ty_str (by decide +kernel), flat_str⟩ (SubR.refl _), sub_ex (f := id) _ ⟨.other ty_lst (by decide +kernel), flat_h⟩ (SubR.refl _), sub_ex (f := id) _ ⟨.other ty_tup (by decide +kernel), flat_tup⟩ (SubR.refl _), sub_ex (f := id) _ ⟨no_int (by omega), flat_int⟩ (SubR.refl _), sub_ex (f := id) _ ⟨.other ty_dic (by decide +kernel), flat_h⟩ (SubR.refl _), trivial⟩ (by simp))) fun rb ⟨hwh, hfb⟩ => ?_
    refine go_at 5 (r := r) rfl fun v5 G5 q5 => go_at 6 (r := rb) rfl fun v6 G6 q6 => ?_
    have f5 := hfl v5 G5 q5
    have f6 := hfb v6 G6 q6
    show Go c _ [some (ownAt st HState), some (im rw), some (im (RRule c.K z.parts z.lo z.hi)), some (im (RPlanT z.hv rt)), some (im (RDSI z.ct)), some (im (RAt v5 r)), some (im (RAt v6 rb)), none] D
    have cC : CutIs P w c.K (rw, z.hv, (z.parts, z.lo, z.hi), r) false := ⟨hw, l8, hcut⟩
    have cN := z.cutIs (P := P) (w := w) hw ok
    have ref1 : ∀ {c' : DL.Ctx} {ρ : DL.Env} {n : Int}, c'.K = c.K → ρ[1]? = some (some (im rw)) → ρ[2]? = some (some (im (RRule c.K z.parts z.lo z.hi))) → ρ[5]? = some (some (im (RAt v5 r))) → ρ[6]? = some (some (im (RAt v6 rb))) → ρ[7]? = some (some (im (RInt n))) →
        Ev c' (tCall (sp__law_refusal P w c.K) [] E0 (tCons (tVar 1) (tCons (tVar 2) (tCons (tVar 5) (tCons (tVar 6) (tCons (tVar 7) tNil)))))) ρ (RTp [RStr "cutting", RV0 v5]) := fun {c' ρ n} _ h1 h2 h5 h6 h7 σ G H F S Q k => by
      refine (ea_cons (ev_var h1) (ea_cons (ev_var h2) (ea_cons (ev_var h5) (ea_cons (ev_var h6) (eaOf (ev_var h7)))))) σ G H F S _ fun vs G1 H1 F1 S1 n1 q => ?_
      obtain ⟨u0, u1, u2, u3, u4, rfl, w0, w1, ⟨rfl, w2⟩, w3, w4⟩ := reps_five q
      refine .inl ⟨(((rw, z.hv, (z.parts, z.lo, z.hi), r), RAt v6 rb), n), G1, S1.le, .cons w0 (.cons w1 (.cons w2 (.cons w3 (.cons w4 .nil)))), cC, fun t v G' H' hv x ht => ?_⟩
      cases hv
      exact k _ G' H' F1 (S1.step x) (n1.trans (Nxt.of x)) ⟨t, _, rfl, ht, .cons rfl (.cons rfl .nil)⟩
    have ref2 : ∀ {c' : DL.Ctx} {ρ : DL.Env} {n : Int}, c'.K = c.K → n ≠ 0 → ρ[1]? = some (some (im rw)) → ρ[2]? = some (some (im (RRule c.K z.parts z.lo z.hi))) → ρ[4]? = some (some (im (RDSI z.ct))) → ρ[6]? = some (some (im (RAt v6 rb))) → ρ[7]? = some (some (im (RInt n))) →
        Ev c' (tCall (sp__law_refusal P w c.K) [] E0 (tCons (tVar 1) (tCons (tVar 2) (tCons (tVar 4) (tCons (tVar 6) (tCons (tVar 7) tNil)))))) ρ (RTp [RStr "number", RV0 v6]) := fun {c' ρ n} _ hn h1 h2 h5 h6 h7 σ G H F S Q k => by
      refine (ea_cons (ev_var h1) (ea_cons (ev_var h2) (ea_cons (ev_var h5) (ea_cons (ev_var h6) (eaOf (ev_var h7)))))) σ G H F S _ fun vs G1 H1 F1 S1 n1 q => ?_
      obtain ⟨u0, u1, u2, u3, u4, rfl, w0, w1, w2, ⟨rfl, w3⟩, w4⟩ := reps_five q
      refine .inr ⟨(((rw, z.hv, (z.parts, z.lo, z.hi), RDSI z.ct), rb), n), G1, S1.le, .cons w0 (.cons w1 (.cons w2 (.cons w3 (.cons w4 .nil)))), ⟨cN, hwh, hn⟩, fun t v G' H' hv x ht => ?_⟩
      cases hv
      exact k _ G' H' F1 (S1.step x) (n1.trans (Nxt.of x)) ⟨t, _, rfl, ht, .cons rfl (.cons rfl .nil)⟩
    refine q_for (fun i ρ => ∃ x7, ρ = [some (ownAt st HState), some (im rw), some (im (RRule c.K z.parts z.lo z.hi)), some (im (RPlanT z.hv rt)), some (im (RDSI z.ct)), some (im (RAt v5 r)), some (im (RAt v6 rb)), x7]) (ei_rng1 (n := 3) (eaOf ev_int) (by decide)) ⟨none, rfl⟩ ?_ ?_
    · rintro Gl i r' ρ' hri ⟨x7, rfl⟩
      have hi : i < 3 := by simpa [rngs] using (List.getElem?_eq_some_iff.mp hri).1
      have er : r' = RInt (i : Int) := by simp [rngs, hi] at hri; exact hri.symm
      subst er
      refine ⟨_, _, gg_name (by simp), ?_⟩
      refine q_no (et_test (ev_op (ref1 (c' := c.pin Gl) (n := (i : Nat)) rfl rfl rfl rfl rfl rfl) (ev_tp (ea_cons (ev_str (s := "cutting")) (eaOf (ev_var (i := 5) rfl))) (by simp)) (rv_neTag f5))) rfl ?_
      refine go_ifT (et_test (ev_op (ev_var (i := 7) (r := RInt (i : Nat)) rfl) (ev_int (i := 0)) rv_gt)) (fun hz => ?_) fun _ => ?_
      · have hz := of_decide_eq_true hz
        exact q_no1 (et_test (ev_op (ref2 (c' := c.pin Gl) (n := (i : Nat)) rfl (by omega) rfl rfl rfl rfl rfl) (ev_tp (ea_cons (ev_str (s := "number")) (eaOf (ev_var (i := 6) rfl))) (by simp)) (rv_neTag f6))) rfl fun σ G H F S => ⟨_, ⟨_, rfl⟩, G, F, S⟩
      · exact go_next fun σ G H F S => ⟨_, ⟨_, rfl⟩, G, F, S⟩
    · rintro ρ' ⟨x7, rfl⟩
      exact go_retB ev_bl rfl hr) vs H Q E h
end EvC
set_option Elab.async false
set_option linter.all false
set_option maxRecDepth 100000
set_option maxHeartbeats 400000
/-! R80t: right answers. -/
namespace EvC
open PySem PySem.Spec PyProof.Rows L2 DL
variable [tsp : TabSpec] {P : Program} {w : World} {K : PySem.W.Frag} {mg : Str → Option Value} {base : Heap}
/-- a new paper, its list ours -/
def ownPap (w : Str) (p : Int) (ns : List Str) : SP := ⟨fun v G H F => ∃ t l : Addr, v = .ref t ∧ G t = some (.tup [.str w, .int p, .ref l]) ∧ H l = some (.lst (ns.map V.str)) ∧ ∀ a, F a ↔ a = l,
  fun e k ⟨t, l, h1, h2, h3, h4⟩ => ⟨t, l, h1, e _ _ h2, by rw [k l ((h4 l).mpr rfl)]; exact h3, h4⟩⟩
section
variable {c : DL.Ctx} {ρ : DL.Env} {D : Ends} {te ta tb : TE} {u : TS} {s i : Nat} {wd : Str} {p : Int} {ns : List Str}
theorem shaped_pap (hw : PyData.strOk wd = true) (hn : ∀ s ∈ ns, PyData.strOk s = true) : SeqAt.shaped (.tuple [.str wd, .int p, .list (ns.map PyData.str)]) = true := by
  obtain ⟨_, h1, h2⟩ := shaped_strs hn
  show (PyData.canLayAll0 [.str wd, .int p, .list (ns.map PyData.str)] && decide (PyData.depthAll [.str wd, .int p, .list (ns.map PyData.str)] + 1 ≤ 64)) = true
  have e1 : PyData.canLayAll0 [.str wd, .int p, .list (ns.map PyData.str)] = true := by
    show (PyData.strOk wd && (true && (PyData.canLayAll0 (ns.map PyData.str) && true))) = true
    rw [hw, h1]; rfl
  have e2 : PyData.depthAll [.str wd, .int p, .list (ns.map PyData.str)] = 1 := by
    show max 0 (max 0 (max (PyData.depthAll (ns.map PyData.str) + 1) 0)) = 1
    rw [h2]; rfl
  rw [e1, e2]; rfl
theorem eqv_strs : ∀ ns : List Str, PyData.eqvAll (ns.map PyData.str) (ns.map PyData.str) = true
  | [] => rfl
  | n :: ns => by
    show ((n == n) && PyData.eqvAll (ns.map PyData.str) (ns.map PyData.str)) = true
    rw [eqv_strs ns]; simp
theorem eqv_pap : PyData.eqv (.tuple [.str wd, .int p, .list (ns.map PyData.str)]) (.tuple [.str wd, .int p, .list (ns.map PyData.str)]) = true := by
  show ((wd == wd) && ((p == p) && (PyData.eqvAll (ns.map PyData.str) (ns.map PyData.str) && true))) = true
  rw [eqv_strs]; simp
/-- found != due: they are alike -/
theorem ev_nePap (h1 : ρ[s]? = some (some (ownPap wd p ns))) (h2 : ρ[i]? = some (some (im (RTup c.K [RStr wd, RInt p, RLst (lS ns)])))) (hw : PyData.strOk wd = true) (hn : ∀ s ∈ ns, PyData.strOk s = true) : Ev c (tOp (rNeD c.K) (tVar s) (tVar i)) ρ (RBl false) := fun σ G H F S Q k => by
  obtain ⟨v, s1, t, l, rfl, g1, hl, hF⟩ := S.at_ s _ h1
  obtain ⟨v2, s2, q2, _⟩ := S.at_ i _ h2
  refine ⟨_, s1, _, s2, .tuple [.str wd, .int p, .list (ns.map PyData.str)], .tuple [.str wd, .int p, .list (ns.map PyData.str)], ?_, ?_, shaped_pap hw hn, shaped_pap hw hn, ?_⟩
  · exact .tup (.of (S.le _ _ g1)) (.cons (.str wd) (.cons (.int p) (.cons (.lst (.of hl) (dps_all (G := G) (dps_strs ns) S.le.same (strs_reps ns))) .nil)))
  · exact dp_tup (.cons dp_str (.cons dp_int (.cons (dp_lst (dps_strs ns)) .nil))) _ _ _ S.le.same q2
  · rw [eqv_pap]
    exact k _ G H F S (Nxt.refl _ _ _) rfl
/-- some list -/
def RRefs : R := ⟨fun v _ => ∃ l, v = .ref l, fun _ h => h⟩
theorem ev_papT (h1 : ρ[s]? = some (some (ownPap wd p ns))) : Ev c (tVar s) ρ (RTup c.K [RStr wd, RInt p, RRefs]) := fun σ G H F S Q k => by
  obtain ⟨v, s1, t, l, rfl, g1, hl, hF⟩ := S.at_ s _ h1
  exact ⟨_, s1, k _ G H F S (Nxt.refl _ _ _) ⟨t, _, rfl, .of g1, .cons rfl (.cons rfl (.cons ⟨l, rfl⟩ .nil))⟩⟩
/-- isinstance(found[2], list) -/
theorem et_papL (h1 : ρ[s]? = some (some (ownPap wd p ns))) : EvT c (tB (tCB (rIsi c.K) (tCons (tOp (rIxT c.K) (tVar s) (tC (.int 2))) (tCons (tC (.ty "list")) tNil)))) ρ true := fun σ G H F S Q k => by
  obtain ⟨v, s1, t, l, rfl, g1, hl, hF⟩ := S.at_ s _ h1
  refine ⟨_, s1, t, _, 2, .ref l, rfl, rfl, .of (S.le _ _ g1), rfl, ?_⟩
  exact ⟨.ref l, .ty "list", _, _, true, rfl, .ty "list", .base (.lst hl), kit_ty (by decide +kernel), true, rfl, k true G H F S (Nxt.refl _ _ _) rfl⟩
/-- found[2].append(x) -/
theorem go_papApp {x : Str} (h1 : ρ[s]? = some (some (ownPap wd p ns))) (hl : ns.length < 100000) (k : Nx c D.nx (ρ.set s (some (ownPap wd p (ns ++ [x]))))) : Go c (tDrop (tBM c.K "list" rAppend (tOp (rIxT c.K) (tVar s) (tC (.int 2))) (tCons (tC (.str x)) tNil))) ρ D := fun σ G H F S => by
  obtain ⟨v, s1, t, l, rfl, g1, hh, hF⟩ := S.at_ s _ h1
  have gl := (S.out s l ((hF l).mpr rfl)).1
  refine ⟨_, s1, t, _, 2, .ref l, rfl, rfl, .of (S.le _ _ g1), rfl, .inl ⟨rfl, _, .inl (.inl hh)⟩, l, _, _, rfl, rfl, hh, sz_lt (by rw [List.length_map]; exact hl), ?_⟩
  obtain ⟨F', S2⟩ := S.own_upd (s' := ownPap wd p (ns ++ [x])) h1 s1 ((hF l).mpr rfl) hh trivial (o' := .lst (ns.map V.str ++ [V.str x])) trivial ⟨t, l, rfl, g1, by rw [upd_same]; simp, hF⟩
  exact k _ _ _ _ S2
/-- found = stuck_paper(..): some paper -/
theorem q_asgPap {rw : R} {z : Pz} {tas : TA} {E : XK} (hs : s < ρ.length) (ha : EvA c tas ρ (asZ c.K rw z ++ [RInt z.b])) (hw : IsWeb c.K z.hv rw) (ok : z.ok) (hp : z.paper = some (wd, p, ns)) (k : Go c u (ρ.set s (some (ownPap wd p ns))) D) : Go c (tSeq (tAsg (tCall (sp_stuck_paper P w c.K) [] E tas) (gName s)) u) ρ D := go_seq fun σ G H F S => by
  show tCall (sp_stuck_paper P w c.K) [] E tas σ H _
  refine ha σ G H F S _ fun vs G1 H1 F1 S1 n1 q => ?_
  rw [List.append_nil]
  refine .inl ⟨(rw, z), G1, S1.le, q, ⟨hw, ok⟩, fun hn => ?_, fun w' p' ns' e t l G' H' x gt hl gl hh => ?_⟩
  · have hn : z.paper = none := hn
    rw [hp] at hn; cases hn
  · have e : z.paper = some (w', p', ns') := e
    rw [hp] at e; cases e
    exact k _ _ _ _ ((S1.step x).setOwn (s := ownPap wd p ns) (v := .ref t) (F0 := fun a => a = l) hs (fun a za => by subst za; exact ⟨gl, ⟨_, hh, trivial⟩, S1.ext.live _ hl, fun j qj => (S1.out j _ qj).2.1.ne hl⟩) ⟨t, l, rfl, gt, hh, fun a => Iff.rfl⟩)
/-- found = stuck_paper(..): None -/
theorem q_asgNon {rw : R} {z : Pz} {tas : TA} {E : XK} (hs : s < ρ.length) (ha : EvA c tas ρ (asZ c.K rw z ++ [RInt z.b])) (hw : IsWeb c.K z.hv rw) (ok : z.ok) (hp : z.paper = none) (k : Go c u (ρ.set s (some (im RNon))) D) : Go c (tSeq (tAsg (tCall (sp_stuck_paper P w c.K) [] E tas) (gName s)) u) ρ D := go_seq fun σ G H F S => by
  show tCall (sp_stuck_paper P w c.K) [] E tas σ H _
  refine ha σ G H F S _ fun vs G1 H1 F1 S1 n1 q => ?_
  rw [List.append_nil]
  refine .inl ⟨(rw, z), G1, S1.le, q, ⟨hw, ok⟩, fun hn G' H' x => ?_, fun w' p' ns' e => ?_⟩
  · exact k _ _ _ _ ((S1.step x).set hs rfl)
  · have e : z.paper = some (w', p', ns') := e
    rw [hp] at e; cases e
/-- a name that may be this or that -/
theorem go_open {t : TS} {α : Type} {Pa : α → Prop} {f : α → R} (i : Nat) (hρ : ρ[i]? = some (some (im (exR Pa f)))) (h : ∀ x, Pa x → Go c t (ρ.set i (some (im (f x)))) D) : Go c t ρ D := fun σ G H F S => by
  obtain ⟨v, h1, ⟨x, px, q⟩, _⟩ := S.at_ i _ hρ
  have hi : i < ρ.length := (List.getElem?_eq_some_iff.mp hρ).1
  have S2 := S.set (i := i) (v := v) (r := f x) hi q
  rw [set_same S h1] at S2
  exact h x px σ G H _ S2
theorem ev_fldP (T : Tx P w c.K mg base) {parts lo hi : Int} (h : ρ[i]? = some (some (im (RRule c.K parts lo hi)))) : Ev c (tFld c.K (tVar i) "parts") ρ (RInt parts) := ev_fld (ev_var h) fld_parts (k_Rule T) (na_Rule_parts T)
end
theorem Pz.paper_ok {z : Pz} {wd : Str} {p : Int} {ns : List Str} (ok : z.ok) (h : z.paper = some (wd, p, ns)) : PyData.strOk wd = true ∧ (∀ s ∈ ns, PyData.strOk s = true) ∧ ns.length ≤ 8 := by
  have hwb := ok.ct.web
  have l8 := web8 hwb
  have nok := nms_ok hwb.1
  obtain ⟨i, _, hi⟩ := List.exists_of_findSome?_eq_some h
  have nsl : z.ns.length = z.hv.length := by simp
  unfold Pz.at_ at hi
  split at hi
  · cases hi
    refine ⟨by decide +kernel, fun s hs => nok s (inside_sub.subset (heavyOf_sub s hs)), ?_⟩
    have h1 : (z.inn (i : Nat)).length ≤ _ := heavyOf_len
    have h2 : (insideOf z.ns z.ct (i : Nat)).length ≤ z.ns.length := inside_sub.length_le
    omega
  · split at hi
    · cases hi
      refine ⟨by decide +kernel, fun s hs => nok s (outside_sub.subset (heavyOf_sub s hs)), ?_⟩
      have h1 : (z.out (i : Nat)).length ≤ _ := heavyOf_len
      have h2 : (outsideOf z.ns z.ct (i : Nat)).length ≤ z.ns.length := outside_sub.length_le
      omega
    · cases hi
theorem rv_neB {b : Bool} : RV2 rNe (RBl b) (RBl b) (RBl false) := fun x y G H e hx hy Q k => by
  obtain rfl : x = .bl b := hx
  obtain rfl : y = .bl b := hy
  exact ⟨rfl, k _ G H (Ext.refl e) (by rw [decide_eq_true rfl]; rfl)⟩
theorem rv_neDA {ct : List (Str × Int)} (hn : (ct.map (·.1)).Nodup) : RV2 rNeDA (RDSI ct) (RDSI ct) (RBl false) := fun x y G H e hx hy Q k => by
  obtain ⟨a, xs, rfl, h1, h2⟩ := RDic.out hx
  obtain ⟨b, ys, rfl, h3, h4⟩ := RDic.out hy
  rw [sv_of h2] at h1
  rw [sv_of h4] at h3
  refine ⟨a, b, _, _, rfl, rfl, e _ _ h1, e _ _ h3, rfl, fun p hp => ?_, k _ G H (Ext.refl e) rfl⟩
  obtain ⟨q, hq, rfl⟩ := List.mem_map.mp hp
  refine ⟨?_, rfl⟩
  have hm : q.1 ∈ ct.map (·.1) := List.mem_map.mpr ⟨q, hq, rfl⟩
  rcases kreps_look (kreps_sv (G := G) ct) (.inr q.1) with ⟨z, _⟩ | ⟨r, v, z, hv, qv⟩
  · rw [look_in hm] at z; cases z
  · rw [look_in hm] at z; cases z
    dsimp only
    rw [hv, show v = .int (look ct q.1) from qv]
    obtain ⟨i, hi⟩ := List.mem_iff_getElem?.mp hq
    rw [look_at hn hi]
theorem ct_nodup {ns : List Str} {parts : Int} {ct : List (Str × Int)} (h : CutOk ns parts ct) (hn : ns.Nodup) : (ct.map (·.1)).Nodup := h.1.nodup_iff.mpr hn
theorem len__law_right (vs : List V) (H : Hp) (Q : VK) (E : XK) (h : sp__law_right P w K vs H Q E) : vs.length = 7 := by refine spB_len (n := 6) ?_ vs H Q E h; intro i; rfl
theorem rd__law_right (T : Tx P w K mg base) (hT : tsp.T = tabsT K) (vs : List V) (H : Hp) (Q : VK) (E : XK) (h : sp__law_right P w K vs H Q E) : t__law_right P w K { nx := fun _ H1 => Q .non H1, rt := Q } (start N__law_right vs) H :=
  body_B (K := K) (fun ⟨⟨rw, rt⟩, z⟩ ⟨hw, ok⟩ c D st hK hb hr hx => by
    subst hK
    dsimp only at hw ok hr
    have p2 := ok.ct.p2
    have p6 := ok.ct.p6
    have hwb := ok.ct.web
    have l8 := web8 hwb
    have nsl : z.ns.length = z.hv.length := by simp
    have hct : ∀ n ∈ z.ns, lookR (dSI z.ct) (.inr n) = some (RInt (look z.ct n)) := fun n hn => look_cut ok.ct.cut hn
    have pull : ∀ {c' : DL.Ctx} {ρ : DL.Env} {te : TE} {n : Int}, ρ[0]? = some (some (ownAt st HState)) → Ev c' te ρ (RInt n) → 0 < n → n < 1073741824 → Ev c' (tCall (sp__law_pull P w c.K) [] E0 (tCons (tVar 0) (tCons te tNil))) ρ (RDigit n) := fun h0 he h1 h2 => ev_callB (ownAt_own st HState) h0 (eaOf he) (spB_ok _ ⟨h1, h2⟩)
    show Go c _ [some (ownAt st HState), some (im rw), some (im (RRule c.K z.parts z.lo z.hi)), some (im (RPlanT z.hv rt)), some (im (RTup c.K [RInt z.lo, RInt z.hi])), some (im (RDSI z.ct)), some (im (RInt z.b)), none, none, none, none, none, none, none, none, none, none, none, none, none, none] D
    refine q_asg (by simp) (evh_ev (evh_dict (ev_var (i := 5) rfl))) ?_
    refine q_asg (by simp) (ev_call0 (ea_cons (ev_var (i := 3) rfl) (ea_cons (ev_fldP (i := 2) T rfl) (ea_cons (ev_var (i := 4) rfl) (ea_cons (ev_var (i := 5) rfl) (eaOf (ev_var (i := 6) rfl)))))) (spP_ok (I := R × Pz) (as := fun i : R × Pz => [RPlanT i.2.hv i.1, RInt i.2.parts, RTup c.K [RInt i.2.lo, RInt i.2.hi], RDSI i.2.ct, RInt i.2.b]) (pre := fun i => i.2.ok) (res := fun i => RPap c.K i.2.paper) (rt, z) ok)) ?_
    refine q_for (fun i ρ => ∃ x9 x10, ρ = [some (ownAt st HState), some (im rw), some (im (RRule c.K z.parts z.lo z.hi)), some (im (RPlanT z.hv rt)), some (im (RTup c.K [RInt z.lo, RInt z.hi])), some (im (RDSI z.ct)), some (im (RInt z.b)), some (im (RDSI z.ct)), some (im (RPap c.K z.paper)), x9, x10, none, none, none, none, none, none, none, none, none, none]) (ei_rng1 (n := 2) (eaOf ev_int) (by decide)) ⟨none, none, rfl⟩ ?_ ?_
    · rintro Gl i r ρ' hri ⟨x9, x10, rfl⟩
      refine ⟨_, _, gg_name (by simp), ?_⟩
      have ha : ∀ {ρ : DL.Env}, ρ[1]? = some (some (im rw)) → ρ[2]? = some (some (im (RRule c.K z.parts z.lo z.hi))) → ρ[7]? = some (some (im (RDSI z.ct))) → ρ[6]? = some (some (im (RInt z.b))) → EvA (c.pin Gl) (tCons (tVar 1) (tCons (tVar 2) (tCons (tVar 7) (tCons (tVar 6) tNil)))) ρ (asZ c.K rw z ++ [RInt z.b]) := fun h1 h2 h3 h4 => ea_cons (ev_var h1) (ea_cons (ev_var h2) (ea_cons (ev_var h3) (eaOf (ev_var h4))))
      cases hp : z.paper with
      | none =>
        refine q_asgNon (c := c.pin Gl) (by simp) (ha rfl rfl rfl rfl) hw ok hp ?_
        refine q_no (b := false) (et_test (ev_op (ev_var (i := 10) (r := RNon) rfl) (ev_var (i := 8) (r := RNon) rfl) (rv_neD dp_non dp_non rfl rfl))) rfl ?_
        exact q_no1 (b := false) (et_B (ev_cb (ea_cons (ev_var (i := 8) (r := RNon) rfl) (eaOf ev_c)) (rv_isi ty_non (by decide +kernel)))) rfl fun σ G H F S => ⟨_, ⟨_, _, rfl⟩, G, F, S⟩
      | some y =>
        obtain ⟨wd, p, ns⟩ := y
        obtain ⟨k1, k2, k3⟩ := z.paper_ok ok hp
        refine q_asgPap (c := c.pin Gl) (by simp) (ha rfl rfl rfl rfl) hw ok hp ?_
        refine q_no (b := false) (et_test (ev_nePap (c := c.pin Gl) (s := 10) (i := 8) (wd := wd) (p := p) (ns := ns) rfl rfl k1 k2)) rfl ?_
        refine go_ifT (b := true) (et_B (ev_cb (ea_cons (ev_var (i := 8) (r := RTup c.K [RStr wd, RInt p, RLst (lS ns)]) rfl) (eaOf ev_c)) (rv_isi ty_tup (by decide +kernel)))) (fun _ => ?_) fun z => by cases z
        refine q_no (et_or (a := false) (b := false) (et_not (a := true) (et_B (ev_cb (ea_cons (ev_papT (c := c.pin Gl) (s := 10) (wd := wd) (p := p) (ns := ns) rfl) (eaOf ev_c)) (rv_isi ty_tup (by decide +kernel))))) fun _ => et_not (a := true) (et_papL (c := c.pin Gl) (s := 10) (wd := wd) (p := p) (ns := ns) rfl)) rfl ?_
        exact go_papApp (c := c.pin Gl) (s := 10) (wd := wd) (p := p) (ns := ns) (x := "x") rfl (by omega) fun σ G H F S => ⟨_, ⟨_, _, rfl⟩, G, F, S⟩
    rintro ρ' ⟨x9, x10, rfl⟩
    refine q_asg (by simp) (ev_call0 (ea_cons (ev_var (i := 1) rfl) (ea_cons (ev_var (i := 2) rfl) (eaOf (ev_var (i := 7) rfl)))) (spOr_ok (spP_ok (I := R × Pz) (as := fun i : R × Pz => asZ c.K i.1 i.2) (pre := fun i => IsWeb c.K i.2.hv i.1 ∧ i.2.ok) (res := fun i => RInt (wasteOf (partW i.2.hv i.2.ct i.2.parts) i.2.lo i.2.hi)) (rw, z) ⟨hw, ok⟩))) ?_
    refine q_no (et_or (a := false) (b := false) (et_not (a := true) (et_B (ev_cb (ea_cons (ev_var (i := 11) rfl) (eaOf ev_c)) (rv_isi ty_int (by decide +kernel))))) fun _ => et_B (ev_cb (ea_cons (ev_var (i := 11) rfl) (eaOf ev_c)) (rv_isi ty_int (by decide +kernel)))) rfl ?_
    refine q_asg (by simp) (ev_call0 (ea_cons (ev_var (i := 3) rfl) (ea_cons (ev_fldP (i := 2) T rfl) (eaOf (ev_var (i := 5) rfl)))) (spP_ok (I := R × IW) (rt, (z.hv, z.ct), z.parts) ok.ct)) ?_
    refine q_no (et_or (a := false) (b := false) (et_is (et_test (ev_op (ev_var (i := 11) rfl) (ev_call0 (ea_cons (ev_var (i := 12) rfl) (eaOf (ev_var (i := 4) rfl))) (spP_ok (I := (Int × Int) × List Int) ((z.lo, z.hi), partW z.hv z.ct z.parts) (by show (partW z.hv z.ct z.parts).length ≤ 100; rw [partW_length]; omega))) rv_neI)) (by simp)) fun _ => et_test (ev_op (ev_var (i := 7) rfl) (ev_var (i := 5) rfl) (rv_neDA (ct_nodup ok.ct.cut hwb.1.2.1)))) rfl ?_
    refine q_asg (by simp) (ev_var (i := 8) (r := RPap c.K z.paper) rfl) ?_
    -- the things
    have rest : ∀ (wd : Str) (p : Int) (ns : List Str) (x14 x15 : Option SP), PyData.strOk wd = true → (∀ s ∈ ns, PyData.strOk s = true) → ns.length ≤ 8 → Go c (tSeq (tFor (iRng1 (tCons (tC (.int 8)) tNil)) (gName 17)
      (tSeq (tAsg (tVar 13) (gName 18))
      (tSeq (tIfS (tTest (tOp oGt (tVar 17) (tC (.int 0))))
        (tAsg (tCall (sp__law_spoilt P w c.K) [] E0 (tCons (tVar 0) (tCons (tVar 3) (tCons (tFld c.K (tVar 2) "parts") (tCons (tVar 13) tNil))))) (gName 18))
        tNext)
      (tSeq (tAsg (tCall (sp_shows_stuck P w c.K) [] E0 (tCons (tVar 1) (tCons (tVar 2) (tCons (tVar 7) (tCons (tVar 6) (tCons (tVar 18) tNil)))))) (gName 19))
      (tSeq (tAsg (tCall (sp__law_shows P w c.K) [] E0 (tCons (tVar 3) (tCons (tFld c.K (tVar 2) "parts") (tCons (tVar 4) (tCons (tVar 5) (tCons (tVar 6) (tCons (tVar 18) tNil))))))) (gName 20))
      (tIfS (tOr (tNot (tB (tCB (rIsi c.K) (tCons (tVar 19) (tCons (tC (.ty "bool")) tNil))))) (tTest (tOp rNe (tVar 19) (tVar 20))))
        (tRet (tC (.bl false)))
        tNext))))))
      (tRet (tC (.bl true)))) [some (ownAt st HState), some (im rw), some (im (RRule c.K z.parts z.lo z.hi)), some (im (RPlanT z.hv rt)), some (im (RTup c.K [RInt z.lo, RInt z.hi])), some (im (RDSI z.ct)), some (im (RInt z.b)), some (im (RDSI z.ct)), some (im (RPap c.K z.paper)), x9, x10, some (im (RInt (wasteOf (partW z.hv z.ct z.parts) z.lo z.hi))), some (im (RLst (lI (partW z.hv z.ct z.parts)))), some (im (RTup c.K [RStr wd, RInt p, RLst (lS ns)])), x14, x15, none, none, none, none, none] D := by
      intro wd p ns x14 x15 k1 k2 k3
      refine q_for (fun i ρ => ∃ x17 x18 x19 x20, ρ = [some (ownAt st HState), some (im rw), some (im (RRule c.K z.parts z.lo z.hi)), some (im (RPlanT z.hv rt)), some (im (RTup c.K [RInt z.lo, RInt z.hi])), some (im (RDSI z.ct)), some (im (RInt z.b)), some (im (RDSI z.ct)), some (im (RPap c.K z.paper)), x9, x10, some (im (RInt (wasteOf (partW z.hv z.ct z.parts) z.lo z.hi))), some (im (RLst (lI (partW z.hv z.ct z.parts)))), some (im (RTup c.K [RStr wd, RInt p, RLst (lS ns)])), x14, x15, none, x17, x18, x19, x20]) (ei_rng1 (n := 8) (eaOf ev_int) (by decide)) ⟨none, none, none, none, rfl⟩ ?_ ?_
      · rintro Gl i r ρ' hri ⟨x17, x18, x19, x20, rfl⟩
        have hi : i < 8 := by simpa [rngs] using (List.getElem?_eq_some_iff.mp hri).1
        have er : r = RInt (i : Int) := by simp [rngs, hi] at hri; exact hri.symm
        subst er
        refine ⟨_, _, gg_name (by simp), ?_⟩
        have th0 : IsTh c.K (RTup c.K [RStr wd, RInt p, RLst (lS ns)]) (.t3 (.str wd) (.num p) (ns.map Dt.str)) := by
          have := IsTh.t3 (K := c.K) (w := .str wd) (p := .num p) (ns := ns.map Dt.str) k1 trivial (dtok_strs k2) (by simp; omega)
          rw [lS_dt] at this
          exact this
        refine q_asg (by simp) (ev_var (i := 13) rfl) ?_
        -- behind the choice of a thing
        have asked : ∀ (r : R) (th : Th), IsTh c.K r th → Go (c.pin Gl) (tSeq (tAsg (tCall (sp_shows_stuck P w c.K) [] E0 (tCons (tVar 1) (tCons (tVar 2) (tCons (tVar 7) (tCons (tVar 6) (tCons (tVar 18) tNil)))))) (gName 19))
      (tSeq (tAsg (tCall (sp__law_shows P w c.K) [] E0 (tCons (tVar 3) (tCons (tFld c.K (tVar 2) "parts") (tCons (tVar 4) (tCons (tVar 5) (tCons (tVar 6) (tCons (tVar 18) tNil))))))) (gName 20))
      (tIfS (tOr (tNot (tB (tCB (rIsi c.K) (tCons (tVar 19) (tCons (tC (.ty "bool")) tNil))))) (tTest (tOp rNe (tVar 19) (tVar 20))))
        (tRet (tC (.bl false)))
        tNext))) [some (ownAt st HState), some (im rw), some (im (RRule c.K z.parts z.lo z.hi)), some (im (RPlanT z.hv rt)), some (im (RTup c.K [RInt z.lo, RInt z.hi])), some (im (RDSI z.ct)), some (im (RInt z.b)), some (im (RDSI z.ct)), some (im (RPap c.K z.paper)), x9, x10, some (im (RInt (wasteOf (partW z.hv z.ct z.parts) z.lo z.hi))), some (im (RLst (lI (partW z.hv z.ct z.parts)))), some (im (RTup c.K [RStr wd, RInt p, RLst (lS ns)])), x14, x15, none, some (im (RInt (i : Nat))), some (im r), x19, x20]
            { D with nx := inv (c.pin Gl) (fun i ρ => ∃ x17 x18 x19 x20, ρ = [some (ownAt st HState), some (im rw), some (im (RRule c.K z.parts z.lo z.hi)), some (im (RPlanT z.hv rt)), some (im (RTup c.K [RInt z.lo, RInt z.hi])), some (im (RDSI z.ct)), some (im (RInt z.b)), some (im (RDSI z.ct)), some (im (RPap c.K z.paper)), x9, x10, some (im (RInt (wasteOf (partW z.hv z.ct z.parts) z.lo z.hi))), some (im (RLst (lI (partW z.hv z.ct z.parts)))), some (im (RTup c.K [RStr wd, RInt p, RLst (lS ns)])), x14, x15, none, x17, x18, x19, x20]) (i + 1), ct := inv (c.pin Gl) (fun i ρ => ∃ x17 x18 x19 x20, ρ = [some (ownAt st HState), some (im rw), some (im (RRule c.K z.parts z.lo z.hi)), some (im (RPlanT z.hv rt)), some (im (RTup c.K [RInt z.lo, RInt z.hi])), some (im (RDSI z.ct)), some (im (RInt z.b)), some (im (RDSI z.ct)), some (im (RPap c.K z.paper)), x9, x10, some (im (RInt (wasteOf (partW z.hv z.ct z.parts) z.lo z.hi))), some (im (RLst (lI (partW z.hv z.ct z.parts)))), some (im (RTup c.K [RStr wd, RInt p, RLst (lS ns)])), x14, x15, none, x17, x18, x19, x20]) (i + 1), bk := (tRet (tC (.bl true))) D } := by
          intro r th hth
          refine q_asg (r := RBl (z.shows th)) (by simp) (ev_call0 (ea_cons (ev_var (i := 1) rfl) (ea_cons (ev_var (i := 2) rfl) (ea_cons (ev_var (i := 7) rfl) (ea_cons (ev_var (i := 6) rfl) (eaOf (ev_var (i := 18) rfl)))))) (spOr_ok (spP_ok (I := R × Pz × R × Th) (as := fun i : R × Pz × R × Th => asZ c.K i.1 i.2.1 ++ [RInt i.2.1.b, i.2.2.1]) (pre := fun i => IsWeb c.K i.2.1.hv i.1 ∧ i.2.1.ok ∧ IsTh c.K i.2.2.1 i.2.2.2) (res := fun i => RBl (i.2.1.shows i.2.2.2)) (rw, z, r, th) ⟨hw, ok, hth⟩))) ?_
          refine q_asg (r := RBl (z.shows th)) (by simp) (ev_call0 (ea_cons (ev_var (i := 3) rfl) (ea_cons (ev_fldP (c := c.pin Gl) (i := 2) T rfl) (ea_cons (ev_var (i := 4) rfl) (ea_cons (ev_var (i := 5) rfl) (ea_cons (ev_var (i := 6) rfl) (eaOf (ev_var (i := 18) rfl))))))) (spP_ok (I := R × Pz × R × Th) (as := fun i : R × Pz × R × Th => [RPlanT i.2.1.hv i.1, RInt i.2.1.parts, RTup c.K [RInt i.2.1.lo, RInt i.2.1.hi], RDSI i.2.1.ct, RInt i.2.1.b, i.2.2.1]) (pre := fun i => i.2.1.ok ∧ IsTh c.K i.2.2.1 i.2.2.2) (res := fun i => RBl (i.2.1.shows i.2.2.2)) (rt, z, r, th) ⟨ok, hth⟩)) ?_
          exact q_no1 (et_or (a := false) (b := false) (et_not (a := true) (et_B (ev_cb (ea_cons (ev_var (i := 19) rfl) (eaOf ev_c)) (rv_isi ty_bl (by decide +kernel))))) fun _ => et_test (ev_op (ev_var (i := 19) rfl) (ev_var (i := 20) rfl) rv_neB)) rfl fun σ G H F S => ⟨_, ⟨_, _, _, _, rfl⟩, G, F, S⟩
        refine go_seq (go_ifT (et_test (ev_op (ev_var (i := 17) (r := RInt (i : Nat)) rfl) (ev_int (i := 0)) rv_gt)) (fun _ => ?_) fun _ => ?_)
        · exact go_asgX (P := fun x : R × Th => IsTh c.K x.1 x.2) (f := fun x => x.1) (by simp) (ev_callB (ownAt_own st HState) rfl (ea_cons (ev_var (i := 3) rfl) (ea_cons (ev_fldP (c := c.pin Gl) (i := 2) T rfl) (eaOf (ev_var (i := 13) rfl)))) (spB_ok (I := (List (Str × Int) × R) × Int × Str × Int × List Str) (P := HState) ((z.hv, rt), z.parts, wd, p, ns) ⟨hwb.1, k1, k2, by show ns.length ≤ 60; omega⟩)) fun x hx => nx_go (asked x.1 x.2 hx)
        · exact go_next (nx_go (asked _ _ th0))
      · rintro ρ' ⟨x17, x18, x19, x20, rfl⟩
        exact go_retB ev_bl rfl hr
    cases hp : z.paper with
    | none =>
      rw [hp] at rest
      refine go_seq (go_ifT (b := true) (et_test (ev_op (ev_var (i := 13) (r := RNon) rfl) ev_non rv_isN0)) (fun _ => ?_) fun z => by cases z)
      refine q_asgX (P := fun d : Int => 0 ≤ d ∧ d < z.parts) (f := RInt) (by simp) (pull (n := z.parts) rfl (ev_fldP (i := 2) T rfl) (by omega) (by omega)) fun p hpp => ?_
      refine q_asg (by simp) (evn_ev (evn_filt (c := c) (j := 16) (ns := z.ns) (ct := z.ct) (p := p) (pr := fun s => decide (look z.ct s = p)) rfl (by omega) (ev_names (i := 3) rfl) hct (fun Gl' r => ev_var (i := 5) rfl) (fun Gl' r => ev_var (i := 14) (r := RInt p) rfl) (fun n => rv_eqI))) ?_
      refine go_asg (r := RTup c.K [RStr "heavy", RInt p, RLst (lS (z.inn p))]) (by simp) (ev_tup (c := c) (ea_cons (ev_str (s := "heavy")) (ea_cons (ev_var (i := 14) (r := RInt p) rfl) (eaOf (ev_call0 (ea_cons (ev_var (i := 3) rfl) (ea_cons (ev_var (i := 15) rfl) (eaOf (ev_var (i := 6) rfl)))) (spP_ok (I := R × List (Str × Int) × List Str × Int) (rt, z.hv, insideOf z.ns z.ct p, z.b) ⟨hwb, inside_sub, ok.b0⟩))))) (by simp)) (nx_go ?_)
      refine rest "heavy" p (z.inn p) _ _ (by decide +kernel) (fun s hs => nms_ok hwb.1 s (inside_sub.subset (heavyOf_sub s hs))) ?_
      have h1 : (z.inn p).length ≤ _ := heavyOf_len
      have h2 : (insideOf z.ns z.ct p).length ≤ z.ns.length := inside_sub.length_le
      omega
    | some y =>
      obtain ⟨wd, p, ns⟩ := y
      obtain ⟨k1, k2, k3⟩ := z.paper_ok ok hp
      rw [hp] at rest
      exact go_seq (go_ifT (b := false) (et_test (ev_op (ev_var (i := 13) (r := RTup c.K [RStr wd, RInt p, RLst (lS ns)]) rfl) ev_non (rv_isN nn_tup))) (fun z => by cases z) fun _ => go_next (nx_go (rest wd p ns _ _ k1 k2 k3)))) vs H Q E h
end EvC
set_option Elab.async false
set_option linter.all false
set_option maxRecDepth 100000
set_option maxHeartbeats 400000
/-! R80u: the law. -/
namespace EvC
open PySem PySem.Spec PyProof.Rows L2 DL
variable [tsp : TabSpec] {P : Program} {w : World} {K : PySem.W.Frag} {mg : Str → Option Value} {base : Heap}
theorem spnew_ex {α : Type} {Pa : α → Prop} {f : α → R} {sp : Sp} {rs : List R} {HP : HK} (h : ∀ x, Pa x → SpNew sp (f x :: rs) HP) : SpNew sp (exR Pa f :: rs) HP := fun E vs G H e q Q k => by
  cases q with
  | cons qx qs =>
    obtain ⟨x, px, qx⟩ := qx
    exact h x px E _ G H e (.cons qx qs) Q k
theorem len_law (vs : List V) (H : Hp) (Q : VK) (E : XK) (h : sp_law P w K vs H Q E) : vs.length = 1 := by refine spP_len (n := 1) ?_ vs H Q E h; intro i; rfl
theorem rd_law (T : Tx P w K mg base) (hT : tsp.T = tabsT K) (vs : List V) (H : Hp) (Q : VK) (E : XK) (h : sp_law P w K vs H Q E) : t_law P w K { nx := fun _ H1 => Q .non H1, rt := Q } (start N_law vs) H :=
  body_P (K := K) (fun ns hl c D hK hb hr hx => by
    subst hK
    have hl : ns.length ≤ 100000 := hl
    have hr : Rets c D (RBl true) := hr
    show Go c _ [some (im (RSeq c.K (lI ns))), none, none, none, none, none, none, none, none, none] D
    refine q_for (fun i ρ => ∃ x1 x2 x3 x4 x5 x6 x7 x8 x9, ρ = [some (im (RSeq c.K (lI ns))), x1, x2, x3, x4, x5, x6, x7, x8, x9]) (ei_rng1 (n := max 2 (min 8 ((lI ns).length : Nat))) (eaOf (ev_cb (ea_cons (ev_int (i := 2)) (eaOf (ev_cb (ea_cons (ev_int (i := 8)) (eaOf (ev_cb (eaOf (ev_var (i := 0) rfl)) rv_lenQ))) rv_min2))) rv_max2)) (by omega)) ⟨none, none, none, none, none, none, none, none, none, rfl⟩ ?_ ?_
    · rintro Gl i r ρ' hri ⟨x1, x2, x3, x4, x5, x6, x7, x8, x9, rfl⟩
      have er : r = RInt (i : Int) := by
        simp only [rngs, List.getElem?_map, Option.map_eq_some_iff] at hri
        obtain ⟨k, hk, rfl⟩ := hri
        have : k = i := by
          rw [List.getElem?_eq_some_iff] at hk
          obtain ⟨_, e⟩ := hk
          simpa using e.symm
        rw [this]; simp
      subst er
      have hrd : Rets (c.pin Gl) D (RBl true) := hr
      refine ⟨_, _, gg_name (by simp), ?_⟩
      refine q_asgN (P := HState) (by simp) (evh_call0 (eaOf (ev_call0 (ea_cons (ev_var (i := 0) rfl) (eaOf (ev_var (i := 1) (r := RInt (i : Nat)) rfl))) (spP_ok (I := List Int × Int) (ns, (i : Nat)) ⟨by show (0 : Int) ≤ (i : Nat); omega, hl⟩))) (spnew_ex fun x _ => spN_ok x trivial)) ?_
      have pull : ∀ {c' : DL.Ctx} {ρ : DL.Env} {te : TE} {n : Int}, ρ[2]? = some (some (ownH HState)) → Ev c' te ρ (RInt n) → 0 < n → n < 1073741824 → Ev c' (tCall (sp__law_pull P w c.K) [] E0 (tCons (tVar 2) (tCons te tNil))) ρ (RDigit n) := fun h0 he h1 h2 => ev_callB (ownH_own HState) h0 (eaOf he) (spB_ok _ ⟨h1, h2⟩)
      refine q_asgX (P := fun i : List (Str × Int) × List ((Str × Str) × Int) => WebOk i.1 ∧ TiesOk (i.1.map (·.1)) i.2) (f := fun i => RPlan c.K i.1 i.2) (by simp) (ev_callB (ownH_own HState) rfl (eaOf (ev_int (i := 8))) (spB_ok (I := Int) (P := HState) (as := fun m : Int => [RInt m]) (pre := fun m => m = 8) (res := fun m => exR (fun i : List (Str × Int) × List ((Str × Str) × Int) => WebOk i.1 ∧ TiesOk (i.1.map (·.1)) i.2) fun i => RPlan c.K i.1 i.2) 8 rfl)) fun ⟨hv, ts⟩ ⟨hwb, hts⟩ => ?_
      dsimp only at hwb hts
      refine q_asg (by simp) (ev_callB (ownH_own HState) rfl (eaOf (ev_var (i := 3) rfl)) (spB_ok (I := List (Str × Int) × List ((Str × Str) × Int)) (P := HState) (hv, ts) ⟨hwb, hts⟩)) ?_
      refine q_asgX (P := fun d : Int => 0 ≤ d ∧ d < 5) (f := fun d => RInt (2 + d)) (by simp) (ev_op (ev_int (i := 2)) (pull (n := 5) rfl ev_int (by decide) (by decide)) (rv_ex2 fun x _ => rv_add)) fun d ⟨d0, d1⟩ => ?_
      refine q_asgX (P := fun ct : List (Str × Int) => CutOk (hv.map (·.1)) (2 + d) ct) (f := RDSI) (by simp) (ev_callB (ownH_own HState) rfl (ea_cons (ev_names (i := 3) (hv := hv) rfl) (eaOf (ev_var (i := 5) rfl))) (spB_ok (I := List Str × Int) (P := HState) (hv.map (·.1), 2 + d) ⟨hwb.1, by show 2 ≤ 2 + d; omega, by show 2 + d ≤ 6; omega⟩)) fun ct hct => ?_
      have cok : CtOk hv ct (2 + d) := ⟨hwb, hct, by omega, by omega⟩
      refine q_asgX (P := fun b : Int × Int => RlOk (2 + d) b.1 b.2) (f := fun b => RTup c.K [RInt b.1, RInt b.2]) (by simp) (ev_callB (ownH_own HState) rfl (ea_cons (ev_var (i := 3) rfl) (ea_cons (ev_var (i := 5) rfl) (eaOf (ev_var (i := 6) rfl)))) (spB_ok (I := R × IW) (P := HState) (RLst (ts.map (RTie c.K)), (hv, ct), 2 + d) cok)) fun ⟨lo, hi⟩ rok => ?_
      dsimp only at rok
      refine q_mkRule (c := c.pin Gl) (K := c.K) (by simp) (ea_cons (ev_var (i := 5) rfl) (ea_cons (ev_op (ev_var (i := 7) (r := RTup c.K [RInt lo, RInt hi]) rfl) ev_int (rv_ixT (r := RInt lo) rfl)) (eaOf (ev_op (ev_var (i := 7) (r := RTup c.K [RInt lo, RInt hi]) rfl) ev_int (rv_ixT (r := RInt hi) rfl))))) rok ?_
      have zok : ∀ b : Int, 0 ≤ b → b ≤ 60 → (Pz.mk hv ct (2 + d) lo hi b).ok := fun b b0 b6 => ⟨cok, rok, b0, b6⟩
      refine q_for (rs := [exR (fun b : Int => 0 ≤ b ∧ b ≤ 60) RInt, exR (fun b : Int => 0 ≤ b ∧ b ≤ 60) RInt, exR (fun b : Int => 0 ≤ b ∧ b ≤ 60) RInt]) (fun j ρ => ∃ x9, ρ = [some (im (RSeq c.K (lI ns))), some (im (RInt (i : Nat))), some (ownH HState), some (im (RPlan c.K hv ts)), some (im (RWeb c.K hv)), some (im (RInt (2 + d))), some (im (RDSI ct)), some (im (RTup c.K [RInt lo, RInt hi])), some (im (RRule c.K (2 + d) lo hi)), x9]) (ei_list (c := c.pin Gl) (ev_lst (ea_cons (ev_weak (ev_int (i := 0)) fun v G q => ⟨0, by decide, q⟩) (ea_cons (ev_weak (pull (n := 4) rfl ev_int (by decide) (by decide)) fun v G ⟨x, hx, q⟩ => ⟨x, by omega, q⟩) (eaOf (ev_op (ev_lst (ea_cons (ev_int (i := 1)) (ea_cons (ev_int (i := 2)) (eaOf (ev_int (i := 60))))) (by simp)) (pull (n := 3) rfl ev_int (by decide) (by decide)) (rv_ixD ⟨sub_ex 1 (by decide) (SubR.refl _), sub_ex 2 (by decide) (SubR.refl _), sub_ex 60 (by decide) (SubR.refl _), trivial⟩ (by simp)))))) (by simp))) ⟨x9, rfl⟩ ?_ ?_
      · rintro Gl2 j r ρ' hrj ⟨x9, rfl⟩
        have er : r = exR (fun b : Int => 0 ≤ b ∧ b ≤ 60) RInt := by
          match j, hrj with
          | 0, h => cases h; rfl
          | 1, h => cases h; rfl
          | 2, h => cases h; rfl
          | j + 3, h => simp at h
        subst er
        refine ⟨_, _, gg_name (by simp), go_open 9 rfl fun b ⟨b0, b6⟩ => ?_⟩
        refine q_no1 (et_not (a := true) (et_B (ev_callB (c := (c.pin Gl).pin Gl2) (i := 2) (ownH_own HState) rfl (ea_cons (ev_var (i := 4) rfl) (ea_cons (ev_var (i := 8) rfl) (ea_cons (ev_var (i := 3) rfl) (ea_cons (ev_var (i := 7) rfl) (ea_cons (ev_var (i := 6) rfl) (eaOf (ev_var (i := 9) rfl))))))) (spB_ok (I := (R × R) × Pz) (P := HState) ((RWeb c.K hv, RLst (ts.map (RTie c.K))), Pz.mk hv ct (2 + d) lo hi b) ⟨web_is, zok b b0 b6⟩)))) rfl fun σ G H F S => ⟨_, ⟨_, rfl⟩, G, F, S⟩
      · rintro ρ' ⟨x9, rfl⟩
        refine q_no1 (et_not (a := true) (et_B (ev_callB (c := c.pin Gl) (i := 2) (ownH_own HState) rfl (ea_cons (ev_var (i := 4) rfl) (ea_cons (ev_var (i := 8) rfl) (ea_cons (ev_var (i := 3) rfl) (eaOf (ev_var (i := 6) rfl))))) (spB_ok (I := (R × R) × Pz) (P := HState) ((RWeb c.K hv, RLst (ts.map (RTie c.K))), Pz.mk hv ct (2 + d) lo hi 0) ⟨web_is, zok 0 (by decide) (by decide)⟩)))) rfl fun σ G H F S => ⟨_, ⟨_, _, _, _, _, _, _, _, _, rfl⟩, G, F, S⟩
    · rintro ρ' ⟨x1, x2, x3, x4, x5, x6, x7, x8, x9, rfl⟩
      exact go_ret ev_bl hr) vs H Q E h
end EvC
set_option Elab.async false
set_option linter.all false
set_option maxRecDepth 100000
set_option maxHeartbeats 4000000
namespace EvC
open PySem PySem.Spec PyProof.Rows L2 DL
variable [tsp : TabSpec]
section
variable {P : Program} {w : World} {K : PySem.W.Frag} {mg : Str → Option Value} {base : Heap}
theorem sc__law_cell : FnScope N__law_cell ["_law_script", "_law_k"] (defScope s__law_cell) := ⟨rfl, rfl, rfl, by decide +kernel, rfl, by decide +kernel, by decide +kernel⟩
theorem ok__law_cell (T : Tx P w K mg base) (hT : tsp.T = tabsT K) : ∃ fd, FnOk P w K mg base CX0 1 (He.ga K "_law_cell") fd ["_law_script", "_law_k"] (sp__law_cell P w K) ∧ PySem.W.keepIn K (.ref (He.ga K "_law_cell")) = true ∧ Binds K fd ["_law_script", "_law_k"] [] := by
  obtain ⟨fd, F⟩ := at__law_cell T
  refine ⟨fd, F.ok sc__law_cell len__law_cell (fun cdv A outer s H vs Q E hr h => ⟨t__law_cell P w K, PSs.nox ?_, rd__law_cell T hT vs H Q E h⟩), F.kp, F.bindsN fun _ _ _ _ _ _ us hl => match us, hl with | [_, _], _ => rfl⟩
  exact (pss_cons (ps_if (pt_cmpR op_lt (pv 1) (pe_callB call_len (by rfl) (f_len T) bt_len (pa_cons (pv 0) pa_nil)) (nomark _))
      (pss_one (ps_ret (pe_ix ix_list (pv 0) (pv 1) (fun _ _ => rfl))))
      pss_nil)
    (pss_one (ps_ret (pe_op op_add (pe_op op_mul pe_int (pv 1)) pe_int))))
theorem sc__law_begun : FnScope N__law_begun ["_law_cell_here"] (defScope s__law_begun) := ⟨rfl, rfl, rfl, by decide +kernel, rfl, by decide +kernel, by decide +kernel⟩
theorem ok__law_begun (T : Tx P w K mg base) (hT : tsp.T = tabsT K) : ∃ fd, FnOk P w K mg base CX0 1 (He.ga K "_law_begun") fd ["_law_cell_here"] (sp__law_begun P w K) ∧ PySem.W.keepIn K (.ref (He.ga K "_law_begun")) = true ∧ Binds K fd ["_law_cell_here"] [] := by
  obtain ⟨fd, F⟩ := at__law_begun T
  refine ⟨fd, F.ok sc__law_begun len__law_begun (fun cdv A outer s H vs Q E hr h => ⟨t__law_begun P w K, PSs.nox ?_, rd__law_begun T hT vs H Q E h⟩), F.kp, F.bindsN fun _ _ _ _ _ _ us hl => match us, hl with | [_], _ => rfl⟩
  exact (pss_one (ps_ret (pe_lst (pa_cons (pe_callB (call_max2 rfl) (by rfl) (f_max T) bt_max (pa_cons pe_int (pa_cons (pe_op op_sub (pv 0) (pe_op op_pow pe_int pe_int)) pa_nil))) (pa_cons (pe_op op_mod (pv 0) pe_int) (pa_cons pe_int pa_nil))))))
theorem sc__law_mix : FnScope N__law_mix ["_law_cell_here", "_law_k"] (defScope s__law_mix) := ⟨rfl, rfl, rfl, by decide +kernel, rfl, by decide +kernel, by decide +kernel⟩
theorem ok__law_mix (T : Tx P w K mg base) (hT : tsp.T = tabsT K) : ∃ fd, FnOk P w K mg base CX0 1 (He.ga K "_law_mix") fd ["_law_cell_here", "_law_k"] (sp__law_mix P w K) ∧ PySem.W.keepIn K (.ref (He.ga K "_law_mix")) = true ∧ Binds K fd ["_law_cell_here", "_law_k"] [] := by
  obtain ⟨fd, F⟩ := at__law_mix T
  refine ⟨fd, F.ok sc__law_mix len__law_mix (fun cdv A outer s H vs Q E hr h => ⟨t__law_mix P w K, PSs.nox ?_, rd__law_mix T hT vs H Q E h⟩), F.kp, F.bindsN fun _ _ _ _ _ _ us hl => match us, hl with | [_, _], _ => rfl⟩
  exact (pss_cons (ps_set (i := 2) sc__law_mix.nd rfl (Or.inl rfl) (pe_op op_mod (pe_op op_add (pe_op op_add (pv 0) (pe_op op_mul pe_int (pv 1))) pe_int) pe_int))
    (pss_cons (ps_set (i := 2) sc__law_mix.nd rfl (Or.inl rfl) (pe_op op_mod (pe_op op_mul (pe_op op_mod (pe_op op_mul (pv 2) (pv 2)) pe_int) pe_int) pe_int))
    (pss_one (ps_ret (pe_op op_fdiv (pe_op op_mod (pe_op op_mul (pv 2) (pe_op op_add (pv 2) pe_int)) pe_int) pe_int)))))
theorem sc__law_pull : FnScope N__law_pull ["_law_state", "_law_many"] (defScope s__law_pull) := ⟨rfl, rfl, rfl, by decide +kernel, rfl, by decide +kernel, by decide +kernel⟩
theorem ok__law_pull (T : Tx P w K mg base) (hT : tsp.T = tabsT K) : ∃ fd, FnOk P w K mg base CX0 2 (He.ga K "_law_pull") fd ["_law_state", "_law_many"] (sp__law_pull P w K) ∧ PySem.W.keepIn K (.ref (He.ga K "_law_pull")) = true ∧ Binds K fd ["_law_state", "_law_many"] [] := by
  obtain ⟨fd, F⟩ := at__law_pull T
  obtain ⟨fd1, G1, k1, b1⟩ := ok__law_mix T hT
  refine ⟨fd, F.ok sc__law_pull len__law_pull (fun cdv A outer s H vs Q E hr h => ⟨t__law_pull P w K, PSs.nox ?_, rd__law_pull T hT vs H Q E h⟩), F.kp, F.bindsN fun _ _ _ _ _ _ us hl => match us, hl with | [_, _], _ => rfl⟩
  exact (pss_cons (ps_if (pt_cmpR op_gt (pe_ix ix_list (pv 0) pe_int (fun _ _ => rfl)) pe_int (nomark _))
      (pss_cons (ps_set (i := 2) sc__law_pull.nd rfl (Or.inl rfl) (pe_op op_mod (pe_ix ix_list (pv 0) pe_int (fun _ _ => rfl)) (pv 1)))
      (pss_cons (ps_asg (pe_op op_fdiv (pe_ix ix_list (pv 0) pe_int (fun _ _ => rfl)) (pv 1)) (pg_sub (pv 0) pe_int set_list))
      (pss_one (ps_ret (pv 2)))))
      pss_nil)
    (pss_cons (ps_asg (pe_op op_add (pe_ix ix_list (pv 0) pe_int (fun _ _ => rfl)) pe_int) (pg_sub (pv 0) pe_int set_list))
    (pss_cons (ps_set (i := 3) sc__law_pull.nd rfl (Or.inl rfl) (pe_call G1 (hr.mono (by decide)) rfl (m__law_mix T) k1 b1 .nil pass0 (pa_cons (pe_ix ix_list (pv 0) pe_int (fun _ _ => rfl)) (pa_cons (pe_op op_mul pe_int (pe_ix ix_list (pv 0) pe_int (fun _ _ => rfl))) pa_nil))))
    (pss_cons (ps_set (i := 4) sc__law_pull.nd rfl (Or.inl rfl) (pe_call G1 (hr.mono (by decide)) rfl (m__law_mix T) k1 b1 .nil pass0 (pa_cons (pe_ix ix_list (pv 0) pe_int (fun _ _ => rfl)) (pa_cons (pe_op op_add (pe_op op_mul pe_int (pe_ix ix_list (pv 0) pe_int (fun _ _ => rfl))) pe_int) pa_nil))))
    (pss_one (ps_ret (pe_op op_mod (pe_op op_add (pe_op op_mul (pv 3) pe_int) (pv 4)) (pv 1))))))))
theorem sc__law_many_names : FnScope N__law_many_names ["_law_state", "_law_many"] (defScope s__law_many_names) := ⟨rfl, rfl, rfl, by decide +kernel, rfl, by decide +kernel, by decide +kernel⟩
theorem ok__law_many_names (T : Tx P w K mg base) (hT : tsp.T = tabsT K) : ∃ fd, FnOk P w K mg base CX0 3 (He.ga K "_law_many_names") fd ["_law_state", "_law_many"] (sp__law_many_names P w K) ∧ PySem.W.keepIn K (.ref (He.ga K "_law_many_names")) = true ∧ Binds K fd ["_law_state", "_law_many"] [] := by
  obtain ⟨fd, F⟩ := at__law_many_names T
  obtain ⟨fd1, G1, k1, b1⟩ := ok__law_pull T hT
  refine ⟨fd, F.ok sc__law_many_names len__law_many_names (fun cdv A outer s H vs Q E hr h => ⟨t__law_many_names P w K, PSs.nox ?_, rd__law_many_names T hT vs H Q E h⟩), F.kp, F.bindsN fun _ _ _ _ _ _ us hl => match us, hl with | [_, _], _ => rfl⟩
  exact (pss_cons (ps_set (i := 2) sc__law_many_names.nd rfl (Or.inr rfl) pe_str)
    (pss_cons (ps_set (i := 3) sc__law_many_names.nd rfl (Or.inl rfl) (pe_m1 PySem.F.slot_str_join PySem.F.type_str_join mt_join pe_str (pe_lc (own := [("_law_k", 4)]) (g := (gName 4)) (tt := tYes) rfl sc__law_many_names.nd (pi_range1 rfl (f_range T) (pa_cons pe_int pa_nil)) (blkOk_by (own := [("_law_k", 4)]) (N := N__law_many_names) (sc := defScope s__law_many_names) (by decide +kernel)) (fun _ _ _ _ _ => (pg_name (i := 4) sc__law_many_names.nd rfl (Or.inl rfl))) (fun _ _ _ _ _ => pts_nil) (fun _ _ _ _ _ => (pe_ix ix_str (pv 2) (pe_call G1 (hr.mono (by decide)) rfl (m__law_pull T) k1 b1 .nil pass0 (pa_cons (pv 0) (pa_cons pe_int pa_nil))) (fun _ _ => rfl))))))
    (pss_cons (ps_set (i := 5) sc__law_many_names.nd rfl (Or.inl rfl) (pe_call G1 (hr.mono (by decide)) rfl (m__law_pull T) k1 b1 .nil pass0 (pa_cons (pv 0) (pa_cons pe_int pa_nil))))
    (pss_cons (ps_set (i := 6) sc__law_many_names.nd rfl (Or.inl rfl) (pe_op op_add pe_int (pe_call G1 (hr.mono (by decide)) rfl (m__law_pull T) k1 b1 .nil pass0 (pa_cons (pv 0) (pa_cons pe_int pa_nil)))))
    (pss_cons (ps_set (i := 7) sc__law_many_names.nd rfl (Or.inl rfl) (pe_lst pa_nil))
    (pss_cons (ps_for PassesOwn.never rfl (pi_range1 rfl (f_range T) (pa_cons (pv 1) pa_nil)) (pg_name (i := 4) sc__law_many_names.nd rfl (Or.inl rfl))
      (pss_cons (ps_set (i := 8) sc__law_many_names.nd rfl (Or.inl rfl) (pe_op op_mod (pe_op op_add (pv 5) (pe_op op_mul pe_int (pv 4))) pe_int))
      (pss_cons (ps_set (i := 9) sc__law_many_names.nd rfl (Or.inl rfl) (pe_slice sl_str (pv 3) po_none (po_some (pe_op op_mod (pe_op op_mul (pv 6) (pv 4)) pe_int))))
      (pss_one (ps_expr (pe_bm PySem.F.plainAttrs_list PySem.F.slot_list_append PySem.F.type_list_append mt_append (pv 7) (pa_cons (pe_op op_add_str (pe_op op_add_str (pv 9) (pe_ix ix_str (pv 2) (pe_op op_fdiv (pv 8) pe_int) (fun _ _ => rfl))) (pe_ix ix_str (pv 2) (pe_op op_mod (pv 8) pe_int) (fun _ _ => rfl))) pa_nil)))))))
    (pss_one (ps_ret (pv 7)))))))))
theorem sc__law_plan : FnScope N__law_plan ["_law_state", "_law_most"] (defScope s__law_plan) := ⟨rfl, rfl, rfl, by decide +kernel, rfl, by decide +kernel, by decide +kernel⟩
theorem ok__law_plan (T : Tx P w K mg base) (hT : tsp.T = tabsT K) : ∃ fd, FnOk P w K mg base CX0 4 (He.ga K "_law_plan") fd ["_law_state", "_law_most"] (sp__law_plan P w K) ∧ PySem.W.keepIn K (.ref (He.ga K "_law_plan")) = true ∧ Binds K fd ["_law_state", "_law_most"] [] := by
  obtain ⟨fd, F⟩ := at__law_plan T
  obtain ⟨fd1, G1, k1, b1⟩ := ok__law_pull T hT
  obtain ⟨fd2, G2, k2, b2⟩ := ok__law_many_names T hT
  refine ⟨fd, F.ok sc__law_plan len__law_plan (fun cdv A outer s H vs Q E hr h => ⟨t__law_plan P w K, PSs.nox ?_, rd__law_plan T hT vs H Q E h⟩), F.kp, F.bindsN fun _ _ _ _ _ _ us hl => match us, hl with | [_, _], _ => rfl⟩
  have hu := hu_of hr
  exact (pss_cons (ps_set (i := 2) sc__law_plan.nd rfl (Or.inl rfl) (pe_call G2 (hr.mono (by decide)) rfl (m__law_many_names T) k2 b2 .nil pass0 (pa_cons (pv 0) (pa_cons (pe_call G1 (hr.mono (by decide)) rfl (m__law_pull T) k1 b1 .nil pass0 (pa_cons (pv 0) (pa_cons (pe_op op_add (pv 1) pe_int) pa_nil))) pa_nil))))
    (pss_cons (ps_set (i := 3) sc__law_plan.nd rfl (Or.inl rfl) (pe_ix ix_list (pe_lst (pa_cons pe_int (pa_cons pe_int (pa_cons pe_int (pa_cons pe_int pa_nil))))) (pe_call G1 (hr.mono (by decide)) rfl (m__law_pull T) k1 b1 .nil pass0 (pa_cons (pv 0) (pa_cons pe_int pa_nil))) (fun _ _ => rfl)))
    (pss_cons (ps_set (i := 4) sc__law_plan.nd rfl (Or.inl rfl) (pe_disp (pps_cons pe_str (pv 2) (pps_cons pe_str pe_dnewK (pps_cons pe_str (pe_lst pa_nil) pps_nil))) rfl rfl (by simp) (by simp)))
    (pss_cons (ps_for PassesOwn.never rfl (pi_list (pv 2)) (pg_name (i := 5) sc__law_plan.nd rfl (Or.inl rfl))
      (pss_one (ps_dput hu (pe_dget hu (pv 4) pe_str (fun _ _ => rfl)) (pv 5) (pe_op op_add pe_int (pe_call G1 (hr.mono (by decide)) rfl (m__law_pull T) k1 b1 .nil pass0 (pa_cons (pv 0) (pa_cons (pv 3) pa_nil)))) rfl)))
    (pss_cons (ps_set (i := 6) sc__law_plan.nd rfl (Or.inl rfl) (pe_op op_add pe_int (pe_call G1 (hr.mono (by decide)) rfl (m__law_pull T) k1 b1 .nil pass0 (pa_cons (pv 0) (pa_cons pe_int pa_nil)))))
    (pss_cons (ps_set (i := 7) sc__law_plan.nd rfl (Or.inl rfl) (pe_ix ix_list (pe_lst (pa_cons pe_int (pa_cons pe_int (pa_cons pe_int (pa_cons pe_int pa_nil))))) (pe_call G1 (hr.mono (by decide)) rfl (m__law_pull T) k1 b1 .nil pass0 (pa_cons (pv 0) (pa_cons pe_int pa_nil))) (fun _ _ => rfl)))
    (pss_cons (ps_for PassesOwn.never rfl (pi_range1 rfl (f_range T) (pa_cons (pe_callB call_len (by rfl) (f_len T) bt_len (pa_cons (pv 2) pa_nil)) pa_nil)) (pg_name (i := 8) sc__law_plan.nd rfl (Or.inl rfl))
      (pss_one (ps_for PassesOwn.never rfl (pi_range1 rfl (f_range T) (pa_cons (pv 8) pa_nil)) (pg_name (i := 9) sc__law_plan.nd rfl (Or.inl rfl))
        (pss_one (ps_if (PW.pt (pw_and (pt_cmpR op_lt (pe_call G1 (hr.mono (by decide)) rfl (m__law_pull T) k1 b1 .nil pass0 (pa_cons (pv 0) (pa_cons pe_int pa_nil))) (pv 6) (nomark _)) (pw_and1 (pt_cmpR op_lt (pe_callB call_len (by rfl) (f_len T) bt_len (pa_cons (pe_dget hu (pv 4) pe_str (fun _ _ => rfl)) pa_nil)) pe_int (nomark _)))))
          (pss_cons (ps_set (i := 10) sc__law_plan.nd rfl (Or.inl rfl) (pe_tup (pa_cons (pe_ix ix_list (pv 2) (pv 9) (fun _ _ => rfl)) (pa_cons (pe_ix ix_list (pv 2) (pv 8) (fun _ _ => rfl)) (pa_cons (pe_op op_add pe_int (pe_call G1 (hr.mono (by decide)) rfl (m__law_pull T) k1 b1 .nil pass0 (pa_cons (pv 0) (pa_cons (pv 7) pa_nil)))) pa_nil)))))
          (pss_cons (ps_set (i := 11) sc__law_plan.nd rfl (Or.inl rfl) (pe_call G1 (hr.mono (by decide)) rfl (m__law_pull T) k1 b1 .nil pass0 (pa_cons (pv 0) (pa_cons (pe_op op_add (pe_callB call_len (by rfl) (f_len T) bt_len (pa_cons (pe_dget hu (pv 4) pe_str (fun _ _ => rfl)) pa_nil)) pe_int) pa_nil))))
          (pss_one (ps_expr (pe_bm PySem.F.plainAttrs_list PySem.F.slot_list_insert PySem.F.type_list_insert mt_insert (pe_dget hu (pv 4) pe_str (fun _ _ => rfl)) (pa_cons (pv 11) (pa_cons (pv 10) pa_nil)))))))
          pss_nil)))))
    (pss_one (ps_ret (pv 4))))))))))
theorem sc_Web___init__ : FnScope N_Web___init__ ["self"] (defScope s_Web___init__) := ⟨rfl, rfl, rfl, by decide +kernel, rfl, by decide +kernel, by decide +kernel⟩
theorem ok_Web___init__ (T : Tx P w K mg base) (hT : tsp.T = tabsT K) : ∃ fd, FnOk P w K mg base CX0 1 (He.ma K (He.ga K "Web") "__init__") fd ["self"] (sp_Web___init__ P w K) ∧ PySem.W.keepIn K (.ref (He.ma K (He.ga K "Web") "__init__")) = true ∧ Binds K fd ["self"] [] := by
  obtain ⟨fd, F⟩ := at_Web___init__ T
  refine ⟨fd, F.ok sc_Web___init__ len_Web___init__ (fun cdv A outer s H vs Q E hr h => ⟨t_Web___init__ P w K, PSs.nox ?_, rd_Web___init__ T hT vs H Q E h⟩), F.kp, F.bindsN fun _ _ _ _ _ _ us hl => match us, hl with | [_], _ => rfl⟩
  exact (pss_cons (ps_fld (pv 0) pe_dnewK rfl)
    (pss_one (ps_fld (pv 0) pe_dnewT rfl)))
theorem sc_is_name : FnScope N_is_name ["thing"] (defScope s_is_name) := ⟨rfl, rfl, rfl, by decide +kernel, rfl, by decide +kernel, by decide +kernel⟩
theorem ok_is_name (T : Tx P w K mg base) (hT : tsp.T = tabsT K) : ∃ fd, FnOk P w K mg base CX0 1 (He.ga K "is_name") fd ["thing"] (sp_is_name P w K) ∧ PySem.W.keepIn K (.ref (He.ga K "is_name")) = true ∧ Binds K fd ["thing"] [] := by
  obtain ⟨fd, F⟩ := at_is_name T
  refine ⟨fd, F.ok sc_is_name len_is_name (fun cdv A outer s H vs Q E hr h => ⟨t_is_name P w K, PSs.nox ?_, rd_is_name T hT vs H Q E h⟩), F.kp, F.bindsN fun _ _ _ _ _ _ us hl => match us, hl with | [_], _ => rfl⟩
  exact (pss_cons (ps_if (PW.pt (pw_or (pt_not (pt_val (pe_callB call_isi (by rfl) (f_isinstance T) bt_isinstance (pa_cons (pv 0) (pa_cons (pe_bltn (by rfl) (f_str T) bt_str rfl) pa_nil))))) (pw_or1 (pt_not (pt_chain op_le op_le pe_int (pe_callB call_len (by rfl) (f_len T) bt_len (pa_cons (pv 0) pa_nil)) (pe_gint rfl (i_LONGEST_NAME T)))))))
      (pss_one (ps_ret pe_bl))
      pss_nil)
    (pss_one (ps_ret (pe_callB (cr_all rfl) (by rfl) (f_all T) bt_all (pa_cons (pe_lc (own := [("sign", 1)]) (g := (gName 1)) (tt := tYes) rfl sc_is_name.nd (pi_str (pv 0)) (blkOk_by (own := [("sign", 1)]) (N := N_is_name) (sc := defScope s_is_name) (by decide +kernel)) (fun _ _ _ _ _ => (pg_name (i := 1) sc_is_name.nd rfl (Or.inl rfl))) (fun _ _ _ _ _ => pts_nil) (fun _ _ _ _ _ => (pe_cmpR op_inS (pv 1) (pe_gstr rfl (i_LETTERS T)) (by with_unfolding_all rfl)))) pa_nil)))))
theorem sc_is_whole : FnScope N_is_whole ["thing", "low", "high"] (defScope s_is_whole) := ⟨rfl, rfl, rfl, by decide +kernel, rfl, by decide +kernel, by decide +kernel⟩
theorem ok_is_whole (T : Tx P w K mg base) (hT : tsp.T = tabsT K) : ∃ fd, FnOk P w K mg base CX0 1 (He.ga K "is_whole") fd ["thing", "low", "high"] (sp_is_whole P w K) ∧ PySem.W.keepIn K (.ref (He.ga K "is_whole")) = true ∧ Binds K fd ["thing", "low", "high"] [] := by
  obtain ⟨fd, F⟩ := at_is_whole T
  refine ⟨fd, F.ok sc_is_whole len_is_whole (fun cdv A outer s H vs Q E hr h => ⟨t_is_whole P w K, PSs.nox ?_, rd_is_whole T hT vs H Q E h⟩), F.kp, F.bindsN fun _ _ _ _ _ _ us hl => match us, hl with | [_, _, _], _ => rfl⟩
  exact (pss_one (ps_ret (pe_and (pe_callB call_isiO (by rfl) (f_isinstance T) bt_isinstance (pa_cons (pv 0) (pa_cons (pe_bltn (by rfl) (f_int T) bt_int rfl) pa_nil))) (pe_and (pe_not (pe_callB call_isiO (by rfl) (f_isinstance T) bt_isinstance (pa_cons (pv 0) (pa_cons (pe_bltn (by rfl) (f_bool T) bt_bool rfl) pa_nil)))) (pe_one (pe_chain op_le op_le (pv 1) (pv 0) (pv 2)))))))
theorem sc_Web_need_weight : FnScope N_Web_need_weight ["self", "weight"] (defScope s_Web_need_weight) := ⟨rfl, rfl, rfl, by decide +kernel, rfl, by decide +kernel, by decide +kernel⟩
theorem ok_Web_need_weight (T : Tx P w K mg base) (hT : tsp.T = tabsT K) : ∃ fd, FnOk P w K mg base CX0 2 (He.ma K (He.ga K "Web") "need_weight") fd ["self", "weight"] (sp_Web_need_weight P w K) ∧ PySem.W.keepIn K (.ref (He.ma K (He.ga K "Web") "need_weight")) = true ∧ Binds K fd ["self", "weight"] [] := by
  obtain ⟨fd, F⟩ := at_Web_need_weight T
  obtain ⟨fd1, G1, k1, b1⟩ := ok_is_whole T hT
  refine ⟨fd, F.ok sc_Web_need_weight len_Web_need_weight (fun cdv A outer s H vs Q E hr h => ⟨t_Web_need_weight P w K, PSs.nox ?_, rd_Web_need_weight T hT vs H Q E h⟩), F.kp, F.bindsN fun _ _ _ _ _ _ us hl => match us, hl with | [_, _], _ => rfl⟩
  exact (pss_one (ps_if (pt_not (pt_val (pe_call G1 (hr.mono (by decide)) rfl (m_is_whole T) k1 b1 .nil pass0 (pa_cons (pv 1) (pa_cons pe_int (pa_cons (pe_gint rfl (i_MOST T)) pa_nil))))))
      (pss_one ps_never)
      pss_nil))
theorem sc_Web_total : FnScope N_Web_total ["self"] (defScope s_Web_total) := ⟨rfl, rfl, rfl, by decide +kernel, rfl, by decide +kernel, by decide +kernel⟩
theorem ok_Web_total (T : Tx P w K mg base) (hT : tsp.T = tabsT K) : ∃ fd, FnOk P w K mg base CX0 1 (He.ma K (He.ga K "Web") "total") fd ["self"] (sp_Web_total P w K) ∧ PySem.W.keepIn K (.ref (He.ma K (He.ga K "Web") "total")) = true ∧ Binds K fd ["self"] [] := by
  obtain ⟨fd, F⟩ := at_Web_total T
  refine ⟨fd, F.ok sc_Web_total len_Web_total (fun cdv A outer s H vs Q E hr h => ⟨t_Web_total P w K, PSs.nox ?_, rd_Web_total T hT vs H Q E h⟩), F.kp, F.bindsN fun _ _ _ _ _ _ us hl => match us, hl with | [_], _ => rfl⟩
  exact (pss_one (ps_ret (pe_lock (pe_callB (cr_sum rfl) (by rfl) (f_sum T) bt_sum (pa_cons (pe_lc (own := [("weight", 1)]) (g := (gName 1)) (tt := tYes) rfl sc_Web_total.nd (pi_values (pe_fld (pv 0) rfl)) (blkOk_by (own := [("weight", 1)]) (N := N_Web_total) (sc := defScope s_Web_total) (by decide +kernel)) (fun _ _ _ _ _ => (pg_name (i := 1) sc_Web_total.nd rfl (Or.inl rfl))) (fun _ _ _ _ _ => pts_nil) (fun _ _ _ _ _ => (pv 1))) pa_nil)))))
theorem sc_Web_put : FnScope N_Web_put ["self", "name", "weight"] (defScope s_Web_put) := ⟨rfl, rfl, rfl, by decide +kernel, rfl, by decide +kernel, by decide +kernel⟩
theorem ok_Web_put (T : Tx P w K mg base) (hT : tsp.T = tabsT K) : ∃ fd, FnOk P w K mg base CX0 3 (He.ma K (He.ga K "Web") "put") fd ["self", "name", "weight"] (sp_Web_put P w K) ∧ PySem.W.keepIn K (.ref (He.ma K (He.ga K "Web") "put")) = true ∧ Binds K fd ["self", "name", "weight"] [] := by
  obtain ⟨fd, F⟩ := at_Web_put T
  obtain ⟨fd1, G1, k1, b1⟩ := ok_is_name T hT
  obtain ⟨fd2, G2, k2, b2⟩ := ok_Web_need_weight T hT
  obtain ⟨fd3, G3, k3, b3⟩ := ok_Web_total T hT
  refine ⟨fd, F.ok sc_Web_put len_Web_put (fun cdv A outer s H vs Q E hr h => ⟨t_Web_put P w K, PSs.nox ?_, rd_Web_put T hT vs H Q E h⟩), F.kp, F.bindsN fun _ _ _ _ _ _ us hl => match us, hl with | [_, _, _], _ => rfl⟩
  have hu := hu_of hr
  exact (pss_cons (ps_if (pt_not (pt_val (pe_call G1 (hr.mono (by decide)) rfl (m_is_name T) k1 b1 .nil pass0 (pa_cons (pv 1) pa_nil))))
      (pss_one ps_never)
      pss_nil)
    (pss_cons (ps_expr (pe_meth (pv 0) (k_Web T) (me_Web_need_weight T) G2 (hr.mono (by decide)) b2 .nil pass0 (pa_cons (pv 2) pa_nil)))
    (pss_cons (ps_if (pt_cmp (pc_din hu (pv 1) (pe_fld (pv 0) rfl)))
      (pss_one ps_never)
      pss_nil)
    (pss_cons (ps_if (pt_cmpR op_ge (pe_callB call_lenD (by rfl) (f_len T) bt_len (pa_cons (pe_fld (pv 0) rfl) pa_nil)) (pe_gint rfl (i_MOST_PLACES T)) (nomark _))
      (pss_one ps_never)
      pss_nil)
    (pss_cons (ps_if (pt_cmpR op_gt (pe_op op_add (pe_meth0 (pv 0) (k_Web T) (me_Web_total T) G3 (hr.mono (by decide)) b3 .nil pass0) (pv 2)) (pe_gint rfl (i_MOST T)) (nomark _))
      (pss_one ps_never)
      pss_nil)
    (pss_one (ps_dput hu (pe_fld (pv 0) rfl) (pv 1) (pv 2) rfl)))))))
theorem sc_Web_need_place : FnScope N_Web_need_place ["self", "name"] (defScope s_Web_need_place) := ⟨rfl, rfl, rfl, by decide +kernel, rfl, by decide +kernel, by decide +kernel⟩
theorem ok_Web_need_place (T : Tx P w K mg base) (hT : tsp.T = tabsT K) : ∃ fd, FnOk P w K mg base CX0 1 (He.ma K (He.ga K "Web") "need_place") fd ["self", "name"] (sp_Web_need_place P w K) ∧ PySem.W.keepIn K (.ref (He.ma K (He.ga K "Web") "need_place")) = true ∧ Binds K fd ["self", "name"] [] := by
  obtain ⟨fd, F⟩ := at_Web_need_place T
  refine ⟨fd, F.ok sc_Web_need_place len_Web_need_place (fun cdv A outer s H vs Q E hr h => ⟨t_Web_need_place P w K, PSs.nox ?_, rd_Web_need_place T hT vs H Q E h⟩), F.kp, F.bindsN fun _ _ _ _ _ _ us hl => match us, hl with | [_, _], _ => rfl⟩
  have hu := hu_of hr
  exact (pss_one (ps_if (PW.pt (pw_or (pt_not (pt_val (pe_callB call_isiO (by rfl) (f_isinstance T) bt_isinstance (pa_cons (pv 1) (pa_cons (pe_bltn (by rfl) (f_str T) bt_str rfl) pa_nil))))) (pw_or1 (pt_cmp (pc_dnotin hu (pv 1) (pe_fld (pv 0) rfl))))))
      (pss_one ps_never)
      pss_nil))
theorem sc_Web_need_two : FnScope N_Web_need_two ["self", "one", "other"] (defScope s_Web_need_two) := ⟨rfl, rfl, rfl, by decide +kernel, rfl, by decide +kernel, by decide +kernel⟩
theorem ok_Web_need_two (T : Tx P w K mg base) (hT : tsp.T = tabsT K) : ∃ fd, FnOk P w K mg base CX0 2 (He.ma K (He.ga K "Web") "need_two") fd ["self", "one", "other"] (sp_Web_need_two P w K) ∧ PySem.W.keepIn K (.ref (He.ma K (He.ga K "Web") "need_two")) = true ∧ Binds K fd ["self", "one", "other"] [] := by
  obtain ⟨fd, F⟩ := at_Web_need_two T
  obtain ⟨fd1, G1, k1, b1⟩ := ok_Web_need_place T hT
  refine ⟨fd, F.ok sc_Web_need_two len_Web_need_two (fun cdv A outer s H vs Q E hr h => ⟨t_Web_need_two P w K, PSs.nox ?_, rd_Web_need_two T hT vs H Q E h⟩), F.kp, F.bindsN fun _ _ _ _ _ _ us hl => match us, hl with | [_, _, _], _ => rfl⟩
  exact (pss_cons (ps_expr (pe_meth (pv 0) (k_Web T) (me_Web_need_place T) G1 (hr.mono (by decide)) b1 .nil pass0 (pa_cons (pv 1) pa_nil)))
    (pss_cons (ps_expr (pe_meth (pv 0) (k_Web T) (me_Web_need_place T) G1 (hr.mono (by decide)) b1 .nil pass0 (pa_cons (pv 2) pa_nil)))
    (pss_one (ps_if (pt_cmpR op_eq (pv 1) (pv 2) (nomark _))
      (pss_one ps_never)
      pss_nil))))
theorem sc_Web_knot : FnScope N_Web_knot ["self", "one", "other"] (defScope s_Web_knot) := ⟨rfl, rfl, rfl, by decide +kernel, rfl, by decide +kernel, by decide +kernel⟩
theorem ok_Web_knot (T : Tx P w K mg base) (hT : tsp.T = tabsT K) : ∃ fd, FnOk P w K mg base CX0 1 (He.ma K (He.ga K "Web") "knot") fd ["self", "one", "other"] (sp_Web_knot P w K) ∧ PySem.W.keepIn K (.ref (He.ma K (He.ga K "Web") "knot")) = true ∧ Binds K fd ["self", "one", "other"] [] := by
  obtain ⟨fd, F⟩ := at_Web_knot T
  refine ⟨fd, F.ok sc_Web_knot len_Web_knot (fun cdv A outer s H vs Q E hr h => ⟨t_Web_knot P w K, PSs.nox ?_, rd_Web_knot T hT vs H Q E h⟩), F.kp, F.bindsN fun _ _ _ _ _ _ us hl => match us, hl with | [_, _, _], _ => rfl⟩
  have hu := hu_of hr
  exact (pss_cons (ps_if (pt_cmp (pc_din hu (pe_tup (pa_cons (pv 1) (pa_cons (pv 2) pa_nil))) (pe_fld (pv 0) rfl)))
      (pss_one (ps_ret (pe_tup (pa_cons (pv 1) (pa_cons (pv 2) pa_nil)))))
      pss_nil)
    (pss_cons (ps_if (pt_cmp (pc_din hu (pe_tup (pa_cons (pv 2) (pa_cons (pv 1) pa_nil))) (pe_fld (pv 0) rfl)))
      (pss_one (ps_ret (pe_tup (pa_cons (pv 2) (pa_cons (pv 1) pa_nil)))))
      pss_nil)
    (pss_one (ps_ret pe_non))))
theorem sc_Web_force : FnScope N_Web_force ["self"] (defScope s_Web_force) := ⟨rfl, rfl, rfl, by decide +kernel, rfl, by decide +kernel, by decide +kernel⟩
theorem ok_Web_force (T : Tx P w K mg base) (hT : tsp.T = tabsT K) : ∃ fd, FnOk P w K mg base CX0 1 (He.ma K (He.ga K "Web") "force") fd ["self"] (sp_Web_force P w K) ∧ PySem.W.keepIn K (.ref (He.ma K (He.ga K "Web") "force")) = true ∧ Binds K fd ["self"] [] := by
  obtain ⟨fd, F⟩ := at_Web_force T
  refine ⟨fd, F.ok sc_Web_force len_Web_force (fun cdv A outer s H vs Q E hr h => ⟨t_Web_force P w K, PSs.nox ?_, rd_Web_force T hT vs H Q E h⟩), F.kp, F.bindsN fun _ _ _ _ _ _ us hl => match us, hl with | [_], _ => rfl⟩
  exact (pss_one (ps_ret (pe_lock (pe_callB (cr_sum rfl) (by rfl) (f_sum T) bt_sum (pa_cons (pe_lc (own := [("strength", 1)]) (g := (gName 1)) (tt := tYes) rfl sc_Web_force.nd (pi_valuesT (pe_fld (pv 0) rfl)) (blkOk_by (own := [("strength", 1)]) (N := N_Web_force) (sc := defScope s_Web_force) (by decide +kernel)) (fun _ _ _ _ _ => (pg_name (i := 1) sc_Web_force.nd rfl (Or.inl rfl))) (fun _ _ _ _ _ => pts_nil) (fun _ _ _ _ _ => (pv 1))) pa_nil)))))
theorem sc_Web_tie : FnScope N_Web_tie ["self", "one", "other", "strength"] (defScope s_Web_tie) := ⟨rfl, rfl, rfl, by decide +kernel, rfl, by decide +kernel, by decide +kernel⟩
theorem ok_Web_tie (T : Tx P w K mg base) (hT : tsp.T = tabsT K) : ∃ fd, FnOk P w K mg base CX0 3 (He.ma K (He.ga K "Web") "tie") fd ["self", "one", "other", "strength"] (sp_Web_tie P w K) ∧ PySem.W.keepIn K (.ref (He.ma K (He.ga K "Web") "tie")) = true ∧ Binds K fd ["self", "one", "other", "strength"] [] := by
  obtain ⟨fd, F⟩ := at_Web_tie T
  obtain ⟨fd1, G1, k1, b1⟩ := ok_Web_need_two T hT
  obtain ⟨fd2, G2, k2, b2⟩ := ok_is_whole T hT
  obtain ⟨fd3, G3, k3, b3⟩ := ok_Web_knot T hT
  obtain ⟨fd4, G4, k4, b4⟩ := ok_Web_force T hT
  refine ⟨fd, F.ok sc_Web_tie len_Web_tie (fun cdv A outer s H vs Q E hr h => ⟨t_Web_tie P w K, PSs.nox ?_, rd_Web_tie T hT vs H Q E h⟩), F.kp, F.bindsN fun _ _ _ _ _ _ us hl => match us, hl with | [_, _, _, _], _ => rfl⟩
  have hu := hu_of hr
  exact (pss_cons (ps_expr (pe_meth (pv 0) (k_Web T) (me_Web_need_two T) G1 (hr.mono (by decide)) b1 .nil pass0 (pa_cons (pv 1) (pa_cons (pv 2) pa_nil))))
    (pss_cons (ps_if (pt_not (pt_val (pe_call G2 (hr.mono (by decide)) rfl (m_is_whole T) k2 b2 .nil pass0 (pa_cons (pv 3) (pa_cons pe_int (pa_cons (pe_gint rfl (i_MOST T)) pa_nil))))))
      (pss_one ps_never)
      pss_nil)
    (pss_cons (ps_if (pt_cmpR op_notN1 (pe_meth (pv 0) (k_Web T) (me_Web_knot T) G3 (hr.mono (by decide)) b3 .nil pass0 (pa_cons (pv 1) (pa_cons (pv 2) pa_nil))) pe_non (nomark _))
      (pss_one ps_never)
      pss_nil)
    (pss_cons (ps_if (pt_cmpR op_ge (pe_callB call_len_dT (by rfl) (f_len T) bt_len (pa_cons (pe_fld (pv 0) rfl) pa_nil)) (pe_gint rfl (i_MOST_TIES T)) (nomark _))
      (pss_one ps_never)
      pss_nil)
    (pss_cons (ps_if (pt_cmpR op_gt (pe_op op_add (pe_meth0 (pv 0) (k_Web T) (me_Web_force T) G4 (hr.mono (by decide)) b4 .nil pass0) (pv 3)) (pe_gint rfl (i_MOST T)) (nomark _))
      (pss_one ps_never)
      pss_nil)
    (pss_one (ps_dput hu (pe_fld (pv 0) rfl) (pe_tup (pa_cons (pv 1) (pa_cons (pv 2) pa_nil))) (pv 3) rfl)))))))
theorem sc__law_made : FnScope N__law_made ["_law_state", "_law_plan_here"] (defScope s__law_made) := ⟨rfl, rfl, rfl, by decide +kernel, rfl, by decide +kernel, by decide +kernel⟩
theorem ok__law_made (T : Tx P w K mg base) (hT : tsp.T = tabsT K) : ∃ fd, FnOk P w K mg base CX0 4 (He.ga K "_law_made") fd ["_law_state", "_law_plan_here"] (sp__law_made P w K) ∧ PySem.W.keepIn K (.ref (He.ga K "_law_made")) = true ∧ Binds K fd ["_law_state", "_law_plan_here"] [] := by
  obtain ⟨fd, F⟩ := at__law_made T
  obtain ⟨fd1, G1, k1, b1⟩ := ok_Web___init__ T hT
  obtain ⟨fd2, G2, k2, b2⟩ := ok_Web_put T hT
  obtain ⟨fd3, G3, k3, b3⟩ := ok__law_pull T hT
  obtain ⟨fd4, G4, k4, b4⟩ := ok_Web_tie T hT
  refine ⟨fd, F.ok sc__law_made len__law_made (fun cdv A outer s H vs Q E hr h => ⟨t__law_made P w K, PSs.nox ?_, rd__law_made T hT vs H Q E h⟩), F.kp, F.bindsN fun _ _ _ _ _ _ us hl => match us, hl with | [_, _], _ => rfl⟩
  have hu := hu_of hr
  exact (pss_cons (ps_set (i := 2) sc__law_made.nd rfl (Or.inl rfl) (pe_make0 (mk_Web T) G1 (hr.mono (by decide)) rfl (m_Web T) b1 .nil pass0))
    (pss_cons (ps_for PassesOwn.never rfl (pi_list (pe_dget hu (pv 1) pe_str (fun _ _ => rfl))) (pg_name (i := 3) sc__law_made.nd rfl (Or.inl rfl))
      (pss_one (ps_expr (pe_meth (pv 2) (k_Web T) (me_Web_put T) G2 (hr.mono (by decide)) b2 .nil pass0 (pa_cons (pv 3) (pa_cons (pe_dget hu (pe_dget hu (pv 1) pe_str (fun _ _ => rfl)) (pv 3) (fun _ _ => rfl)) pa_nil))))))
    (pss_cons (ps_for PassesOwn.never rfl (pi_list (pe_dget hu (pv 1) pe_str (fun _ _ => rfl))) (pg_tup rfl (pgs_cons (pg_name (i := 4) sc__law_made.nd rfl (Or.inl rfl)) (pgs_cons (pg_name (i := 5) sc__law_made.nd rfl (Or.inl rfl)) (pgs_cons (pg_name (i := 6) sc__law_made.nd rfl (Or.inl rfl)) pgs_nil))))
      (pss_cons (ps_set (i := 7) sc__law_made.nd rfl (Or.inl rfl) (pe_ix ix_list (pe_lst (pa_cons (pe_lst (pa_cons (pv 4) (pa_cons (pv 5) pa_nil))) (pa_cons (pe_lst (pa_cons (pv 5) (pa_cons (pv 4) pa_nil))) pa_nil))) (pe_call G3 (hr.mono (by decide)) rfl (m__law_pull T) k3 b3 .nil pass0 (pa_cons (pv 0) (pa_cons pe_int pa_nil))) (fun _ _ => rfl)))
      (pss_one (ps_expr (pe_meth (pv 2) (k_Web T) (me_Web_tie T) G4 (hr.mono (by decide)) b4 .nil pass0 (pa_cons (pe_ix ix_list (pv 7) pe_int (fun _ _ => rfl)) (pa_cons (pe_ix ix_list (pv 7) pe_int (fun _ _ => rfl)) (pa_cons (pv 6) pa_nil))))))))
    (pss_one (ps_ret (pv 2))))))
theorem sc__law_cutting : FnScope N__law_cutting ["_law_state", "_law_names", "_law_parts"] (defScope s__law_cutting) := ⟨rfl, rfl, rfl, by decide +kernel, rfl, by decide +kernel, by decide +kernel⟩
theorem ok__law_cutting (T : Tx P w K mg base) (hT : tsp.T = tabsT K) : ∃ fd, FnOk P w K mg base CX0 3 (He.ga K "_law_cutting") fd ["_law_state", "_law_names", "_law_parts"] (sp__law_cutting P w K) ∧ PySem.W.keepIn K (.ref (He.ga K "_law_cutting")) = true ∧ Binds K fd ["_law_state", "_law_names", "_law_parts"] [] := by
  obtain ⟨fd, F⟩ := at__law_cutting T
  obtain ⟨fd1, G1, k1, b1⟩ := ok__law_pull T hT
  refine ⟨fd, F.ok sc__law_cutting len__law_cutting (fun cdv A outer s H vs Q E hr h => ⟨t__law_cutting P w K, PSs.nox ?_, rd__law_cutting T hT vs H Q E h⟩), F.kp, F.bindsN fun _ _ _ _ _ _ us hl => match us, hl with | [_, _, _], _ => rfl⟩
  have hu := hu_of hr
  exact (pss_cons (ps_set (i := 3) sc__law_cutting.nd rfl (Or.inl rfl) (pe_callTy call_list_of (by rfl) (f_list T) bt_list (pa_cons (pv 1) pa_nil)))
    (pss_cons (ps_set (i := 4) sc__law_cutting.nd rfl (Or.inl rfl) pe_dnewK)
    (pss_cons (ps_while PassesOwn.never (pt_cmpR (op_neD hr.units) (pv 3) (pe_lst pa_nil) (nomark _))
      (pss_cons (ps_set (i := 5) sc__law_cutting.nd rfl (Or.inl rfl) (pe_bm PySem.F.plainAttrs_list PySem.F.slot_list_pop PySem.F.type_list_pop mt_popAt (pv 3) (pa_cons (pe_ix ix_list (pe_lst (pa_cons pe_int (pa_cons (pe_call G1 (hr.mono (by decide)) rfl (m__law_pull T) k1 b1 .nil pass0 (pa_cons (pv 0) (pa_cons (pe_callB call_len (by rfl) (f_len T) bt_len (pa_cons (pv 3) pa_nil)) pa_nil))) pa_nil))) (pe_call G1 (hr.mono (by decide)) rfl (m__law_pull T) k1 b1 .nil pass0 (pa_cons (pv 0) (pa_cons pe_int pa_nil))) (fun _ _ => rfl)) pa_nil)))
      (pss_one (ps_dput hu (pv 4) (pv 5) (pe_call G1 (hr.mono (by decide)) rfl (m__law_pull T) k1 b1 .nil pass0 (pa_cons (pv 0) (pa_cons (pv 2) pa_nil))) rfl))))
    (pss_one (ps_ret (pv 4))))))
theorem sc__law_weights : FnScope N__law_weights ["_law_plan_here", "_law_parts", "_law_cutting_here"] (defScope s__law_weights) := ⟨rfl, rfl, rfl, by decide +kernel, rfl, by decide +kernel, by decide +kernel⟩
theorem ok__law_weights (T : Tx P w K mg base) (hT : tsp.T = tabsT K) : ∃ fd, FnOk P w K mg base CX0 1 (He.ga K "_law_weights") fd ["_law_plan_here", "_law_parts", "_law_cutting_here"] (sp__law_weights P w K) ∧ PySem.W.keepIn K (.ref (He.ga K "_law_weights")) = true ∧ Binds K fd ["_law_plan_here", "_law_parts", "_law_cutting_here"] [] := by
  obtain ⟨fd, F⟩ := at__law_weights T
  refine ⟨fd, F.ok sc__law_weights len__law_weights (fun cdv A outer s H vs Q E hr h => ⟨t__law_weights P w K, PSs.nox ?_, rd__law_weights T hT vs H Q E h⟩), F.kp, F.bindsN fun _ _ _ _ _ _ us hl => match us, hl with | [_, _, _], _ => rfl⟩
  have hu := hu_of hr
  exact (pss_cons (ps_set (i := 3) sc__law_weights.nd rfl (Or.inl rfl) (pe_op op_rep (pe_lst (pa_cons pe_int pa_nil)) (pv 1)))
    (pss_cons (ps_for PassesOwn.never rfl (pi_list (pe_dget hu (pv 0) pe_str (fun _ _ => rfl))) (pg_name (i := 4) sc__law_weights.nd rfl (Or.inl rfl))
      (pss_cons (ps_set (i := 5) sc__law_weights.nd rfl (Or.inl rfl) (pe_dget hu (pv 2) (pv 4) (fun _ _ => rfl)))
      (pss_one (ps_asg (pe_op op_add (pe_ix ix_list (pv 3) (pv 5) (fun _ _ => rfl)) (pe_dget hu (pe_dget hu (pv 0) pe_str (fun _ _ => rfl)) (pv 4) (fun _ _ => rfl))) (pg_sub (pv 3) (pv 5) set_list)))))
    (pss_one (ps_ret (pv 3)))))
theorem sc__law_tight : FnScope N__law_tight ["_law_state", "_law_plan_here", "_law_parts", "_law_cutting_here"] (defScope s__law_tight) := ⟨rfl, rfl, rfl, by decide +kernel, rfl, by decide +kernel, by decide +kernel⟩
theorem ok__law_tight (T : Tx P w K mg base) (hT : tsp.T = tabsT K) : ∃ fd, FnOk P w K mg base CX0 3 (He.ga K "_law_tight") fd ["_law_state", "_law_plan_here", "_law_parts", "_law_cutting_here"] (sp__law_tight P w K) ∧ PySem.W.keepIn K (.ref (He.ga K "_law_tight")) = true ∧ Binds K fd ["_law_state", "_law_plan_here", "_law_parts", "_law_cutting_here"] [] := by
  obtain ⟨fd, F⟩ := at__law_tight T
  obtain ⟨fd1, G1, k1, b1⟩ := ok__law_weights T hT
  obtain ⟨fd2, G2, k2, b2⟩ := ok__law_pull T hT
  refine ⟨fd, F.ok sc__law_tight len__law_tight (fun cdv A outer s H vs Q E hr h => ⟨t__law_tight P w K, PSs.nox ?_, rd__law_tight T hT vs H Q E h⟩), F.kp, F.bindsN fun _ _ _ _ _ _ us hl => match us, hl with | [_, _, _, _], _ => rfl⟩
  exact (pss_cons (ps_set (i := 4) sc__law_tight.nd rfl (Or.inl rfl) (pe_call G1 (hr.mono (by decide)) rfl (m__law_weights T) k1 b1 .nil pass0 (pa_cons (pv 1) (pa_cons (pv 2) (pa_cons (pv 3) pa_nil)))))
    (pss_cons (ps_set (i := 5) sc__law_tight.nd rfl (Or.inl rfl) (pe_op op_fdiv (pe_callB (cr_sum rfl) (by rfl) (f_sum T) bt_sum (pa_cons (pv 4) pa_nil)) (pv 2)))
    (pss_cons (ps_set (i := 6) sc__law_tight.nd rfl (Or.inl rfl) (pe_lst (pa_cons (pv 5) (pa_cons (pe_op op_add (pe_callB (cr_min rfl) (by rfl) (f_min T) bt_min (pa_cons (pv 4) pa_nil)) pe_int) (pa_cons pe_int (pa_cons (pe_op op_sub (pv 5) (pe_call G2 (hr.mono (by decide)) rfl (m__law_pull T) k2 b2 .nil pass0 (pa_cons (pv 0) (pa_cons pe_int pa_nil)))) pa_nil))))))
    (pss_cons (ps_set (i := 7) sc__law_tight.nd rfl (Or.inl rfl) (pe_callB (call_max2 rfl) (by rfl) (f_max T) bt_max (pa_cons pe_int (pa_cons (pe_ix ix_list (pv 6) (pe_call G2 (hr.mono (by decide)) rfl (m__law_pull T) k2 b2 .nil pass0 (pa_cons (pv 0) (pa_cons pe_int pa_nil))) (fun _ _ => rfl)) pa_nil))))
    (pss_cons (ps_set (i := 6) sc__law_tight.nd rfl (Or.inl rfl) (pe_lst (pa_cons (pe_op op_add (pv 5) (pe_call G2 (hr.mono (by decide)) rfl (m__law_pull T) k2 b2 .nil pass0 (pa_cons (pv 0) (pa_cons pe_int pa_nil)))) (pa_cons (pe_op op_sub (pe_callB (cr_max rfl) (by rfl) (f_max T) bt_max (pa_cons (pv 4) pa_nil)) pe_int) (pa_cons (pe_callB (cr_max rfl) (by rfl) (f_max T) bt_max (pa_cons (pv 4) pa_nil)) (pa_cons (pe_op op_add (pv 5) pe_int) pa_nil))))))
    (pss_cons (ps_set (i := 8) sc__law_tight.nd rfl (Or.inl rfl) (pe_callB (call_max3Nu rfl) (by rfl) (f_max T) bt_max (pa_cons (pv 7) (pa_cons pe_int (pa_cons (pe_ix ix_list (pv 6) (pe_call G2 (hr.mono (by decide)) rfl (m__law_pull T) k2 b2 .nil pass0 (pa_cons (pv 0) (pa_cons pe_int pa_nil))) (fun _ _ => rfl)) pa_nil)))))
    (pss_one (ps_ret (pe_tup (pa_cons (pe_callB (call_min2 rfl) (by rfl) (f_min T) bt_min (pa_cons (pv 7) (pa_cons (pe_op op_pow pe_int pe_int) pa_nil))) (pa_cons (pe_callB (call_min2 rfl) (by rfl) (f_min T) bt_min (pa_cons (pv 8) (pa_cons (pe_op op_pow pe_int pe_int) pa_nil))) pa_nil)))))))))))
theorem sc_Rule___init__ : FnScope N_Rule___init__ ["self", "parts", "low", "high"] (defScope s_Rule___init__) := ⟨rfl, rfl, rfl, by decide +kernel, rfl, by decide +kernel, by decide +kernel⟩
theorem ok_Rule___init__ (T : Tx P w K mg base) (hT : tsp.T = tabsT K) : ∃ fd, FnOk P w K mg base CX0 2 (He.ma K (He.ga K "Rule") "__init__") fd ["self", "parts", "low", "high"] (sp_Rule___init__ P w K) ∧ PySem.W.keepIn K (.ref (He.ma K (He.ga K "Rule") "__init__")) = true ∧ Binds K fd ["self", "parts", "low", "high"] [] := by
  obtain ⟨fd, F⟩ := at_Rule___init__ T
  obtain ⟨fd1, G1, k1, b1⟩ := ok_is_whole T hT
  refine ⟨fd, F.ok sc_Rule___init__ len_Rule___init__ (fun cdv A outer s H vs Q E hr h => ⟨t_Rule___init__ P w K, PSs.nox ?_, rd_Rule___init__ T hT vs H Q E h⟩), F.kp, F.bindsN fun _ _ _ _ _ _ us hl => match us, hl with | [_, _, _, _], _ => rfl⟩
  exact (pss_cons (ps_if (pt_not (pt_val (pe_call G1 (hr.mono (by decide)) rfl (m_is_whole T) k1 b1 .nil pass0 (pa_cons (pv 1) (pa_cons (pe_gint rfl (i_LEAST_PARTS T)) (pa_cons (pe_gint rfl (i_MOST_PARTS T)) pa_nil))))))
      (pss_one ps_never)
      pss_nil)
    (pss_cons (ps_if (pt_not (pt_val (pe_call G1 (hr.mono (by decide)) rfl (m_is_whole T) k1 b1 .nil pass0 (pa_cons (pv 2) (pa_cons pe_int (pa_cons (pe_gint rfl (i_GREATEST_BOUND T)) pa_nil))))))
      (pss_one ps_never)
      pss_nil)
    (pss_cons (ps_if (pt_not (pt_val (pe_call G1 (hr.mono (by decide)) rfl (m_is_whole T) k1 b1 .nil pass0 (pa_cons (pv 3) (pa_cons (pe_callB (call_max2 rfl) (by rfl) (f_max T) bt_max (pa_cons pe_int (pa_cons (pv 2) pa_nil))) (pa_cons (pe_gint rfl (i_GREATEST_BOUND T)) pa_nil))))))
      (pss_one ps_never)
      pss_nil)
    (pss_cons (ps_fld (pv 0) (pv 1) rfl)
    (pss_cons (ps_fld (pv 0) (pv 2) rfl)
    (pss_one (ps_fld (pv 0) (pv 3) rfl)))))))
theorem sc__law_heaviest : FnScope N__law_heaviest ["_law_plan_here", "_law_names", "_law_many"] (defScope s__law_heaviest) := ⟨rfl, rfl, rfl, by decide +kernel, rfl, by decide +kernel, by decide +kernel⟩
theorem ok__law_heaviest (T : Tx P w K mg base) (hT : tsp.T = tabsT K) : ∃ fd, FnOk P w K mg base CX0 1 (He.ga K "_law_heaviest") fd ["_law_plan_here", "_law_names", "_law_many"] (sp__law_heaviest P w K) ∧ PySem.W.keepIn K (.ref (He.ga K "_law_heaviest")) = true ∧ Binds K fd ["_law_plan_here", "_law_names", "_law_many"] [] := by
  obtain ⟨fd, F⟩ := at__law_heaviest T
  refine ⟨fd, F.ok sc__law_heaviest len__law_heaviest (fun cdv A outer s H vs Q E hr h => ⟨t__law_heaviest P w K, PSs.nox ?_, rd__law_heaviest T hT vs H Q E h⟩), F.kp, F.bindsN fun _ _ _ _ _ _ us hl => match us, hl with | [_, _, _], _ => rfl⟩
  have hu := hu_of hr
  exact (pss_cons (ps_set (i := 3) sc__law_heaviest.nd rfl (Or.inl rfl) (pe_callB cr_sortedPO (by rfl) (f_sorted T) bt_sorted (pa_cons (pe_lc (own := [("_law_name", 4)]) (g := (gName 4)) (tt := tYes) rfl sc__law_heaviest.nd (pi_list (pv 1)) (blkOk_by (own := [("_law_name", 4)]) (N := N__law_heaviest) (sc := defScope s__law_heaviest) (by decide +kernel)) (fun _ _ _ _ _ => (pg_name (i := 4) sc__law_heaviest.nd rfl (Or.inl rfl))) (fun _ _ _ _ _ => pts_nil) (fun _ _ _ _ _ => (pe_tup (pa_cons (pe_op op_sub pe_int (pe_dget hu (pe_dget hu (pv 0) pe_str (fun _ _ => rfl)) (pv 4) (fun _ _ => rfl))) (pa_cons (pe_bm PySem.F.plainAttrs_list PySem.F.slot_list_index PySem.F.type_list_index mt_index (pe_dget hu (pv 0) pe_str (fun _ _ => rfl)) (pa_cons (pv 4) pa_nil)) pa_nil))))) pa_nil)))
    (pss_one (ps_ret (pe_lc (own := [("_law_weight", 5), ("_law_at", 6)]) (g := (gTup K 2 (gCons (gName 5) (gCons (gName 6) gNil)))) (tt := tYes) rfl sc__law_heaviest.nd (pi_list (pe_slice sl_list (pv 3) po_none (po_some (pv 2)))) (blkOk_by (own := [("_law_weight", 5), ("_law_at", 6)]) (N := N__law_heaviest) (sc := defScope s__law_heaviest) (by decide +kernel)) (fun _ _ _ _ _ => (pg_tup rfl (pgs_cons (pg_name (i := 5) sc__law_heaviest.nd rfl (Or.inl rfl)) (pgs_cons (pg_name (i := 6) sc__law_heaviest.nd rfl (Or.inl rfl)) pgs_nil)))) (fun _ _ _ _ _ => pts_nil) (fun _ _ _ _ _ => (pe_ix ix_list (pe_dget hu (pv 0) pe_str (fun _ _ => rfl)) (pv 6) (fun _ _ => rfl)))))))
theorem sc__law_paper : FnScope N__law_paper ["_law_plan_here", "_law_parts", "_law_bounds", "_law_cutting_here", "_law_budget"] (defScope s__law_paper) := ⟨rfl, rfl, rfl, by decide +kernel, rfl, by decide +kernel, by decide +kernel⟩
theorem ok__law_paper (T : Tx P w K mg base) (hT : tsp.T = tabsT K) : ∃ fd, FnOk P w K mg base CX0 2 (He.ga K "_law_paper") fd ["_law_plan_here", "_law_parts", "_law_bounds", "_law_cutting_here", "_law_budget"] (sp__law_paper P w K) ∧ PySem.W.keepIn K (.ref (He.ga K "_law_paper")) = true ∧ Binds K fd ["_law_plan_here", "_law_parts", "_law_bounds", "_law_cutting_here", "_law_budget"] [] := by
  obtain ⟨fd, F⟩ := at__law_paper T
  obtain ⟨fd1, G1, k1, b1⟩ := ok__law_weights T hT
  obtain ⟨fd2, G2, k2, b2⟩ := ok__law_heaviest T hT
  refine ⟨fd, F.ok sc__law_paper len__law_paper (fun cdv A outer s H vs Q E hr h => ⟨t__law_paper P w K, PSs.nox ?_, rd__law_paper T hT vs H Q E h⟩), F.kp, F.bindsN fun _ _ _ _ _ _ us hl => match us, hl with | [_, _, _, _, _], _ => rfl⟩
  have hu := hu_of hr
  exact (pss_cons (ps_set (i := 5) sc__law_paper.nd rfl (Or.inl rfl) (pe_call G1 (hr.mono (by decide)) rfl (m__law_weights T) k1 b1 .nil pass0 (pa_cons (pv 0) (pa_cons (pv 1) (pa_cons (pv 3) pa_nil)))))
    (pss_cons (ps_for PassesOwn.never rfl (pi_range1 rfl (f_range T) (pa_cons (pv 1) pa_nil)) (pg_name (i := 6) sc__law_paper.nd rfl (Or.inr rfl))
      (pss_cons (ps_setLc (i := 7) (own := [("_law_name", 8)]) (g := (gName 8)) (tt := (tTest (tOp rEq (tDGet (tVar 3) (tVar 8)) (tVar 6)))) rfl sc__law_paper.nd rfl rfl (sw_true rfl rfl rfl (by decide +kernel)) (pi_list (pe_dget hu (pv 0) pe_str (fun _ _ => rfl))) (blkOk_by (own := [("_law_name", 8)]) (N := N__law_paper) (sc := defScope s__law_paper) (by decide +kernel)) (fun _ _ _ _ _ => (pg_name (i := 8) sc__law_paper.nd rfl (Or.inl rfl))) (fun _ _ _ _ _ => (pts_one (pt_cmpR op_eq (pe_dget hu (pv 3) (pv 8) (fun _ _ => rfl)) (pv 6) (nomark _)))) (fun _ _ _ _ _ => (pv 8)))
      (pss_cons (ps_set (i := 9) sc__law_paper.nd rfl (Or.inl rfl) (pe_call G2 (hr.mono (by decide)) rfl (m__law_heaviest T) k2 b2 .nil pass0 (pa_cons (pv 0) (pa_cons (pv 7) (pa_cons (pv 4) pa_nil)))))
      (pss_cons (ps_if (pt_cmpR op_gt (pe_op op_sub (pe_ix ix_list (pv 5) (pv 6) (fun _ _ => rfl)) (pe_callB (cr_sum rfl) (by rfl) (f_sum T) bt_sum (pa_cons (pe_lc (own := [("_law_name", 8)]) (g := (gName 8)) (tt := tYes) rfl sc__law_paper.nd (pi_list (pv 9)) (blkOk_by (own := [("_law_name", 8)]) (N := N__law_paper) (sc := defScope s__law_paper) (by decide +kernel)) (fun _ _ _ _ _ => (pg_name (i := 8) sc__law_paper.nd rfl (Or.inl rfl))) (fun _ _ _ _ _ => pts_nil) (fun _ _ _ _ _ => (pe_dget hu (pe_dget hu (pv 0) pe_str (fun _ _ => rfl)) (pv 8) (fun _ _ => rfl)))) pa_nil))) (pe_ix ix_tup (pv 2) pe_int (fun _ _ => rfl)) (nomark _))
        (pss_one (ps_ret (pe_tup (pa_cons pe_str (pa_cons (pv 6) (pa_cons (pv 9) pa_nil))))))
        pss_nil)
      (pss_cons (ps_setLc (i := 10) (own := [("_law_name", 8)]) (g := (gName 8)) (tt := (tTest (tOp rNe (tDGet (tVar 3) (tVar 8)) (tVar 6)))) rfl sc__law_paper.nd rfl rfl (sw_true rfl rfl rfl (by decide +kernel)) (pi_list (pe_dget hu (pv 0) pe_str (fun _ _ => rfl))) (blkOk_by (own := [("_law_name", 8)]) (N := N__law_paper) (sc := defScope s__law_paper) (by decide +kernel)) (fun _ _ _ _ _ => (pg_name (i := 8) sc__law_paper.nd rfl (Or.inl rfl))) (fun _ _ _ _ _ => (pts_one (pt_cmpR op_ne (pe_dget hu (pv 3) (pv 8) (fun _ _ => rfl)) (pv 6) (nomark _)))) (fun _ _ _ _ _ => (pv 8)))
      (pss_cons (ps_set (i := 9) sc__law_paper.nd rfl (Or.inl rfl) (pe_call G2 (hr.mono (by decide)) rfl (m__law_heaviest T) k2 b2 .nil pass0 (pa_cons (pv 0) (pa_cons (pv 10) (pa_cons (pv 4) pa_nil)))))
      (pss_one (ps_if (pt_cmpR op_lt (pe_op op_add (pe_ix ix_list (pv 5) (pv 6) (fun _ _ => rfl)) (pe_callB (cr_sum rfl) (by rfl) (f_sum T) bt_sum (pa_cons (pe_lc (own := [("_law_name", 8)]) (g := (gName 8)) (tt := tYes) rfl sc__law_paper.nd (pi_list (pv 9)) (blkOk_by (own := [("_law_name", 8)]) (N := N__law_paper) (sc := defScope s__law_paper) (by decide +kernel)) (fun _ _ _ _ _ => (pg_name (i := 8) sc__law_paper.nd rfl (Or.inl rfl))) (fun _ _ _ _ _ => pts_nil) (fun _ _ _ _ _ => (pe_dget hu (pe_dget hu (pv 0) pe_str (fun _ _ => rfl)) (pv 8) (fun _ _ => rfl)))) pa_nil))) (pe_ix ix_tup (pv 2) pe_int (fun _ _ => rfl)) (nomark _))
        (pss_one (ps_ret (pe_tup (pa_cons pe_str (pa_cons (pv 6) (pa_cons (pv 9) pa_nil))))))
        pss_nil))))))))
    (pss_one (ps_ret pe_non))))
theorem sc_Web_names : FnScope N_Web_names ["self"] (defScope s_Web_names) := ⟨rfl, rfl, rfl, by decide +kernel, rfl, by decide +kernel, by decide +kernel⟩
theorem ok_Web_names (T : Tx P w K mg base) (hT : tsp.T = tabsT K) : ∃ fd, FnOk P w K mg base CX0 1 (He.ma K (He.ga K "Web") "names") fd ["self"] (sp_Web_names P w K) ∧ PySem.W.keepIn K (.ref (He.ma K (He.ga K "Web") "names")) = true ∧ Binds K fd ["self"] [] := by
  obtain ⟨fd, F⟩ := at_Web_names T
  refine ⟨fd, F.ok sc_Web_names len_Web_names (fun cdv A outer s H vs Q E hr h => ⟨t_Web_names P w K, PSs.nox ?_, rd_Web_names T hT vs H Q E h⟩), F.kp, F.bindsN fun _ _ _ _ _ _ us hl => match us, hl with | [_], _ => rfl⟩
  exact (pss_one (ps_ret (pe_callTy (call_listD rfl) (by rfl) (f_list T) bt_list (pa_cons (pe_fld (pv 0) rfl) pa_nil))))
theorem sc_fault_of : FnScope N_fault_of ["web", "parts", "thing"] (defScope s_fault_of) := ⟨rfl, rfl, rfl, by decide +kernel, rfl, by decide +kernel, by decide +kernel⟩
theorem ok_fault_of (T : Tx P w K mg base) (hT : tsp.T = tabsT K) : ∃ fd, FnOk P w K mg base CX0 2 (He.ga K "fault_of") fd ["web", "parts", "thing"] (sp_fault_of P w K) ∧ PySem.W.keepIn K (.ref (He.ga K "fault_of")) = true ∧ Binds K fd ["web", "parts", "thing"] [] := by
  obtain ⟨fd, F⟩ := at_fault_of T
  obtain ⟨fd1, G1, k1, b1⟩ := ok_Web_names T hT
  obtain ⟨fd2, G2, k2, b2⟩ := ok_is_whole T hT
  refine ⟨fd, F.ok sc_fault_of len_fault_of (fun cdv A outer s H vs Q E hr h => ⟨t_fault_of P w K, PSs.nox ?_, rd_fault_of T hT vs H Q E h⟩), F.kp, F.bindsN fun _ _ _ _ _ _ us hl => match us, hl with | [_, _, _], _ => rfl⟩
  have hu := hu_of hr
  exact (pss_cons (ps_set (i := 3) sc_fault_of.nd rfl (Or.inl rfl) (pe_meth0 (pv 0) (k_Web T) (me_Web_names T) G1 (hr.mono (by decide)) b1 .nil pass0))
    (pss_cons (ps_if (PW.pt (pw_or (pt_not (pt_val (pe_callB call_isiO (by rfl) (f_isinstance T) bt_isinstance (pa_cons (pv 2) (pa_cons (pe_bltn (by rfl) (f_dict T) bt_dict rfl) pa_nil))))) (pw_or (pt_cmpR op_ne (pe_callB call_lenO (by rfl) (f_len T) bt_len (pa_cons (pv 2) pa_nil)) (pe_callB call_len (by rfl) (f_len T) bt_len (pa_cons (pv 3) pa_nil)) (nomark _)) (pw_or1 (pt_not (pt_val (pe_callB (cr_all rfl) (by rfl) (f_all T) bt_all (pa_cons (pe_lc (own := [("name", 4)]) (g := (gName 4)) (tt := tYes) rfl sc_fault_of.nd (pi_list (pv 3)) (blkOk_by (own := [("name", 4)]) (N := N_fault_of) (sc := defScope s_fault_of) (by decide +kernel)) (fun _ _ _ _ _ => (pg_name (i := 4) sc_fault_of.nd rfl (Or.inl rfl))) (fun _ _ _ _ _ => pts_nil) (fun _ _ _ _ _ => (pe_cmp (pc_dinO hu (pv 4) (pv 2)) rfl))) pa_nil))))))))
      (pss_one (ps_ret (pe_tup (pa_cons pe_str pa_nil))))
      pss_nil)
    (pss_cons (ps_for PassesOwn.never rfl (pi_list (pv 3)) (pg_name (i := 4) sc_fault_of.nd rfl (Or.inl rfl))
      (pss_one (ps_if (pt_not (pt_val (pe_call G2 (hr.mono (by decide)) rfl (m_is_whole T) k2 b2 .nil pass0 (pa_cons (pe_dget hu (pv 2) (pv 4) (fun _ _ => rfl)) (pa_cons pe_int (pa_cons (pe_op op_sub (pv 1) pe_int) pa_nil))))))
        (pss_one (ps_ret (pe_tup (pa_cons pe_str (pa_cons (pv 4) pa_nil)))))
        pss_nil)))
    (pss_one (ps_ret pe_non)))))
theorem sc_is_cutting : FnScope N_is_cutting ["web", "parts", "thing"] (defScope s_is_cutting) := ⟨rfl, rfl, rfl, by decide +kernel, rfl, by decide +kernel, by decide +kernel⟩
theorem ok_is_cutting (T : Tx P w K mg base) (hT : tsp.T = tabsT K) : ∃ fd, FnOk P w K mg base CX0 3 (He.ga K "is_cutting") fd ["web", "parts", "thing"] (sp_is_cutting P w K) ∧ PySem.W.keepIn K (.ref (He.ga K "is_cutting")) = true ∧ Binds K fd ["web", "parts", "thing"] [] := by
  obtain ⟨fd, F⟩ := at_is_cutting T
  obtain ⟨fd1, G1, k1, b1⟩ := ok_fault_of T hT
  refine ⟨fd, F.ok sc_is_cutting len_is_cutting (fun cdv A outer s H vs Q E hr h => ⟨t_is_cutting P w K, PSs.nox ?_, rd_is_cutting T hT vs H Q E h⟩), F.kp, F.bindsN fun _ _ _ _ _ _ us hl => match us, hl with | [_, _, _], _ => rfl⟩
  exact (pss_one (ps_ret (pe_cmpR op_isN1 (pe_call G1 (hr.mono (by decide)) rfl (m_fault_of T) k1 b1 .nil pass0 (pa_cons (pv 0) (pa_cons (pv 1) (pa_cons (pv 2) pa_nil)))) pe_non (nomark _))))
theorem sc_NoCutting___init__ : FnScope N_NoCutting___init__ ["self", "found"] (defScope s_NoCutting___init__) := ⟨rfl, rfl, rfl, by decide +kernel, rfl, by decide +kernel, by decide +kernel⟩
theorem ok_NoCutting___init__ (T : Tx P w K mg base) (hT : tsp.T = tabsT K) : ∃ fd, FnOk P w K mg base CX0 1 (He.ma K (He.ga K "NoCutting") "__init__") fd ["self", "found"] (sp_NoCutting___init__ P w K) ∧ PySem.W.keepIn K (.ref (He.ma K (He.ga K "NoCutting") "__init__")) = true ∧ Binds K fd ["self", "found"] [] := by
  obtain ⟨fd, F⟩ := at_NoCutting___init__ T
  refine ⟨fd, F.ok sc_NoCutting___init__ len_NoCutting___init__ (fun cdv A outer s H vs Q E hr h => ⟨t_NoCutting___init__ P w K, PSs.nox ?_, rd_NoCutting___init__ T hT vs H Q E h⟩), F.kp, F.bindsN fun _ _ _ _ _ _ us hl => match us, hl with | [_, _], _ => rfl⟩
  exact (pss_cons (ps_expr (pe_cinit (C0 := He.ga K "CutError") rfl (m_CutError T) (cin_CutError T) (pa_cons (pv 0) (pa_cons pe_str pa_nil))))
    (pss_one (ps_ost (pv 0) (pv 1))))
theorem sc_NoNumber___init__ : FnScope N_NoNumber___init__ ["self", "found"] (defScope s_NoNumber___init__) := ⟨rfl, rfl, rfl, by decide +kernel, rfl, by decide +kernel, by decide +kernel⟩
theorem ok_NoNumber___init__ (T : Tx P w K mg base) (hT : tsp.T = tabsT K) : ∃ fd, FnOk P w K mg base CX0 1 (He.ma K (He.ga K "NoNumber") "__init__") fd ["self", "found"] (sp_NoNumber___init__ P w K) ∧ PySem.W.keepIn K (.ref (He.ma K (He.ga K "NoNumber") "__init__")) = true ∧ Binds K fd ["self", "found"] [] := by
  obtain ⟨fd, F⟩ := at_NoNumber___init__ T
  refine ⟨fd, F.ok sc_NoNumber___init__ len_NoNumber___init__ (fun cdv A outer s H vs Q E hr h => ⟨t_NoNumber___init__ P w K, PSs.nox ?_, rd_NoNumber___init__ T hT vs H Q E h⟩), F.kp, F.bindsN fun _ _ _ _ _ _ us hl => match us, hl with | [_, _], _ => rfl⟩
  exact (pss_cons (ps_expr (pe_cinit (C0 := He.ga K "CutError") rfl (m_CutError T) (cin_CutError T) (pa_cons (pv 0) (pa_cons pe_str pa_nil))))
    (pss_one (ps_ost (pv 0) (pv 1))))
theorem sc_need_both : FnScope N_need_both ["web", "rule", "cutting", "budget"] (defScope s_need_both) := ⟨rfl, rfl, rfl, by decide +kernel, rfl, by decide +kernel, by decide +kernel⟩
theorem ok_need_both (T : Tx P w K mg base) (hT : tsp.T = tabsT K) : ∃ fd, FnOk P w K mg base (L2.CX P w) 4 (He.ga K "need_both") fd ["web", "rule", "cutting", "budget"] (sp_need_both P w K) ∧ PySem.W.keepIn K (.ref (He.ga K "need_both")) = true ∧ Binds K fd ["web", "rule", "cutting", "budget"] [] := by
  obtain ⟨fd, F⟩ := at_need_both T
  obtain ⟨fd1, G1, k1, b1⟩ := ok_is_cutting T hT
  obtain ⟨fd2, G2, k2, b2⟩ := ok_NoCutting___init__ T hT
  obtain ⟨fd3, G3, k3, b3⟩ := ok_is_whole T hT
  obtain ⟨fd4, G4, k4, b4⟩ := ok_NoNumber___init__ T hT
  refine ⟨fd, F.ok sc_need_both len_need_both (fun cdv A outer s H vs Q E hr h => ⟨t_need_both P w K E, ?_, rd_need_both T hT vs H Q E h⟩), F.kp, F.bindsN fun _ _ _ _ _ _ us hl => match us, hl with | [_, _, _, _], _ => rfl⟩
  have tk : Takes _ (fun cls d _ H => E cls d H) := takes_of (X := cxOf (L2.CX P w) P w K mg base N_need_both d_need_both.qual d_need_both.scope (He.fAd K d_need_both.at_) cdv A outer s H E) rfl rfl rfl rfl
  exact (pss_cons (ps_if (pt_not (pt_val (pe_call G1 (hr.mono (by decide)) rfl (m_is_cutting T) k1 b1 .nil pass0 (pa_cons (pv 0) (pa_cons (pe_fld (pv 1) rfl) (pa_cons (pv 2) pa_nil))))))
      (pss_one (ps_raise rfl tk (pmk_oex (oex_NoCutting T) (exi_NoCutting T) (ext_NoCutting T) G2 (hr.mono (by decide)) b2 .nil pass0 rfl (m_NoCutting T) (pa_cons (pv 2) pa_nil))))
      pss_nil)
    (pss_one (ps_if (pt_not (pt_val (pe_call G3 (hr.mono (by decide)) rfl (m_is_whole T) k3 b3 .nil pass0 (pa_cons (pv 3) (pa_cons pe_int (pa_cons (pe_gint rfl (i_MOST_BUDGET T)) pa_nil))))))
      (pss_one (ps_raise rfl tk (pmk_oex (oex_NoNumber T) (exi_NoNumber T) (ext_NoNumber T) G4 (hr.mono (by decide)) b4 .nil pass0 rfl (m_NoNumber T) (pa_cons (pv 3) pa_nil))))
      pss_nil)))
theorem sc_need_cutting : FnScope N_need_cutting ["web", "parts", "thing"] (defScope s_need_cutting) := ⟨rfl, rfl, rfl, by decide +kernel, rfl, by decide +kernel, by decide +kernel⟩
theorem ok_need_cutting (T : Tx P w K mg base) (hT : tsp.T = tabsT K) : ∃ fd, FnOk P w K mg base CX0 3 (He.ga K "need_cutting") fd ["web", "parts", "thing"] (sp_need_cutting P w K) ∧ PySem.W.keepIn K (.ref (He.ga K "need_cutting")) = true ∧ Binds K fd ["web", "parts", "thing"] [] := by
  obtain ⟨fd, F⟩ := at_need_cutting T
  obtain ⟨fd1, G1, k1, b1⟩ := ok_fault_of T hT
  refine ⟨fd, F.ok sc_need_cutting len_need_cutting (fun cdv A outer s H vs Q E hr h => ⟨t_need_cutting P w K, PSs.nox ?_, rd_need_cutting T hT vs H Q E h⟩), F.kp, F.bindsN fun _ _ _ _ _ _ us hl => match us, hl with | [_, _, _], _ => rfl⟩
  exact (pss_one (ps_if (pt_cmpR op_notN1 (pe_call G1 (hr.mono (by decide)) rfl (m_fault_of T) k1 b1 .nil pass0 (pa_cons (pv 0) (pa_cons (pv 1) (pa_cons (pv 2) pa_nil)))) pe_non (nomark _))
      (pss_one ps_never)
      pss_nil))
theorem sc_Web_weight : FnScope N_Web_weight ["self", "name"] (defScope s_Web_weight) := ⟨rfl, rfl, rfl, by decide +kernel, rfl, by decide +kernel, by decide +kernel⟩
theorem ok_Web_weight (T : Tx P w K mg base) (hT : tsp.T = tabsT K) : ∃ fd, FnOk P w K mg base CX0 2 (He.ma K (He.ga K "Web") "weight") fd ["self", "name"] (sp_Web_weight P w K) ∧ PySem.W.keepIn K (.ref (He.ma K (He.ga K "Web") "weight")) = true ∧ Binds K fd ["self", "name"] [] := by
  obtain ⟨fd, F⟩ := at_Web_weight T
  obtain ⟨fd1, G1, k1, b1⟩ := ok_Web_need_place T hT
  refine ⟨fd, F.ok sc_Web_weight len_Web_weight (fun cdv A outer s H vs Q E hr h => ⟨t_Web_weight P w K, PSs.nox ?_, rd_Web_weight T hT vs H Q E h⟩), F.kp, F.bindsN fun _ _ _ _ _ _ us hl => match us, hl with | [_, _], _ => rfl⟩
  have hu := hu_of hr
  exact (pss_cons (ps_expr (pe_meth (pv 0) (k_Web T) (me_Web_need_place T) G1 (hr.mono (by decide)) b1 .nil pass0 (pa_cons (pv 1) pa_nil)))
    (pss_one (ps_ret (pe_dget hu (pe_fld (pv 0) rfl) (pv 1) (fun _ _ => rfl)))))
theorem sc_part_weights : FnScope N_part_weights ["web", "parts", "cutting"] (defScope s_part_weights) := ⟨rfl, rfl, rfl, by decide +kernel, rfl, by decide +kernel, by decide +kernel⟩
theorem ok_part_weights (T : Tx P w K mg base) (hT : tsp.T = tabsT K) : ∃ fd, FnOk P w K mg base CX0 4 (He.ga K "part_weights") fd ["web", "parts", "cutting"] (sp_part_weights P w K) ∧ PySem.W.keepIn K (.ref (He.ga K "part_weights")) = true ∧ Binds K fd ["web", "parts", "cutting"] [] := by
  obtain ⟨fd, F⟩ := at_part_weights T
  obtain ⟨fd1, G1, k1, b1⟩ := ok_need_cutting T hT
  obtain ⟨fd2, G2, k2, b2⟩ := ok_Web_names T hT
  obtain ⟨fd3, G3, k3, b3⟩ := ok_Web_weight T hT
  refine ⟨fd, F.ok sc_part_weights len_part_weights (fun cdv A outer s H vs Q E hr h => ⟨t_part_weights P w K, PSs.nox ?_, rd_part_weights T hT vs H Q E h⟩), F.kp, F.bindsN fun _ _ _ _ _ _ us hl => match us, hl with | [_, _, _], _ => rfl⟩
  have hu := hu_of hr
  exact (pss_cons (ps_expr (pe_call G1 (hr.mono (by decide)) rfl (m_need_cutting T) k1 b1 .nil pass0 (pa_cons (pv 0) (pa_cons (pv 1) (pa_cons (pv 2) pa_nil)))))
    (pss_cons (ps_set (i := 3) sc_part_weights.nd rfl (Or.inl rfl) (pe_op op_rep (pe_lst (pa_cons pe_int pa_nil)) (pv 1)))
    (pss_cons (ps_for PassesOwn.never rfl (pi_list (pe_meth0 (pv 0) (k_Web T) (me_Web_names T) G2 (hr.mono (by decide)) b2 .nil pass0)) (pg_name (i := 4) sc_part_weights.nd rfl (Or.inl rfl))
      (pss_one (ps_augS (pv 3) (pe_dget hu (pv 2) (pv 4) (fun _ _ => rfl)) get_list (pe_meth (pv 0) (k_Web T) (me_Web_weight T) G3 (hr.mono (by decide)) b3 .nil pass0 (pa_cons (pv 4) pa_nil)) ip_add set_list)))
    (pss_one (ps_ret (pv 3))))))
theorem sc_part_names : FnScope N_part_names ["web", "parts", "cutting"] (defScope s_part_names) := ⟨rfl, rfl, rfl, by decide +kernel, rfl, by decide +kernel, by decide +kernel⟩
theorem ok_part_names (T : Tx P w K mg base) (hT : tsp.T = tabsT K) : ∃ fd, FnOk P w K mg base CX0 4 (He.ga K "part_names") fd ["web", "parts", "cutting"] (sp_part_names P w K) ∧ PySem.W.keepIn K (.ref (He.ga K "part_names")) = true ∧ Binds K fd ["web", "parts", "cutting"] [] := by
  obtain ⟨fd, F⟩ := at_part_names T
  obtain ⟨fd1, G1, k1, b1⟩ := ok_need_cutting T hT
  obtain ⟨fd2, G2, k2, b2⟩ := ok_Web_names T hT
  refine ⟨fd, F.ok sc_part_names len_part_names (fun cdv A outer s H vs Q E hr h => ⟨t_part_names P w K, PSs.nox ?_, rd_part_names T hT vs H Q E h⟩), F.kp, F.bindsN fun _ _ _ _ _ _ us hl => match us, hl with | [_, _, _], _ => rfl⟩
  have hu := hu_of hr
  exact (pss_cons (ps_expr (pe_call G1 (hr.mono (by decide)) rfl (m_need_cutting T) k1 b1 .nil pass0 (pa_cons (pv 0) (pa_cons (pv 1) (pa_cons (pv 2) pa_nil)))))
    (pss_cons (ps_setLc (i := 3) (own := [("part", 4)]) (g := (gName 4)) (tt := tYes) rfl sc_part_names.nd rfl rfl (sw_true rfl rfl rfl (by decide +kernel)) (pi_range1 rfl (f_range T) (pa_cons (pv 1) pa_nil)) (blkOk_by (own := [("part", 4)]) (N := N_part_names) (sc := defScope s_part_names) (by decide +kernel)) (fun _ _ _ _ _ => (pg_name (i := 4) sc_part_names.nd rfl (Or.inl rfl))) (fun _ _ _ _ _ => pts_nil) (fun _ _ _ _ _ => (pe_lst pa_nil)))
    (pss_cons (ps_for PassesOwn.never rfl (pi_list (pe_meth0 (pv 0) (k_Web T) (me_Web_names T) G2 (hr.mono (by decide)) b2 .nil pass0)) (pg_name (i := 5) sc_part_names.nd rfl (Or.inl rfl))
      (pss_one (ps_expr (pe_bm PySem.F.plainAttrs_list PySem.F.slot_list_append PySem.F.type_list_append mt_append (pe_ix ix_list (pv 3) (pe_dget hu (pv 2) (pv 5) (fun _ _ => rfl)) (fun _ _ => rfl)) (pa_cons (pv 5) pa_nil)))))
    (pss_one (ps_ret (pv 3))))))
theorem sc_heaviest : FnScope N_heaviest ["web", "names", "many"] (defScope s_heaviest) := ⟨rfl, rfl, rfl, by decide +kernel, rfl, by decide +kernel, by decide +kernel⟩
def lamE_heaviest : Scope := match defBody s_heaviest with
  | [.Return (some (.Subscript (.Call _ _ [⟨_, .Lambda _ _ sc _, _⟩] _) _ _)) _] => sc
  | _ => defScope s_heaviest
theorem lam_heaviest_S : NdefX.NScope ["name", "web"] ["name"] ["web"] lamE_heaviest := NdefX.nscope_by (by decide +kernel)
theorem lam_heaviest_f : ∀ y ∈ lamE_heaviest.names, y.2 = .free → (defScope s_heaviest).names.lookup y.1 = some .cell ∨ (defScope s_heaviest).names.lookup y.1 = some .free := NdefX.ndef_free (fr := ["web"]) (by decide +kernel)
theorem lam_heaviest_r : ∀ y ∈ (["web"] : List Str), (y, NameKind.free) ∈ lamE_heaviest.names := NdefX.ndef_fr (sc := defScope s_heaviest) (by decide +kernel)
theorem ok_heaviest (T : Tx P w K mg base) (hT : tsp.T = tabsT K) : ∃ fd, FnOk P w K mg base CX0 6 (He.ga K "heaviest") fd ["web", "names", "many"] (sp_heaviest P w K) ∧ PySem.W.keepIn K (.ref (He.ga K "heaviest")) = true ∧ Binds K fd ["web", "names", "many"] [] := by
  obtain ⟨fd, F⟩ := at_heaviest T
  obtain ⟨fd1, G1, k1, b1⟩ := ok_Web_weight T hT
  have TB := tb_heaviest T
  have hmT : ((He.cT K ("heaviest", none)).2, (("heaviest" : Str) ++ ".<locals>.") ++ "<lambda>") ∈ tabsT K := List.mem_singleton.mpr rfl
  have huT : ∀ p ∈ tabsT K, p.1 = (He.cT K ("heaviest", none)).2 → p.2 = (("heaviest" : Str) ++ ".<locals>.") ++ "<lambda>" := fun p hp _ => by rw [List.mem_singleton.mp hp]
  refine ⟨fd, okC F sc_heaviest len_heaviest (fun A outer s H vs Q E hr h => ⟨t_heaviest P w K, PSs.nox ?_, rd_heaviest T hT vs H Q E h⟩), F.kp, F.bindsN fun _ _ _ _ _ _ us hl => match us, hl with | [_, _, _], _ => rfl⟩
  have hcode : (cxOf CX0 P w K mg base N_heaviest d_heaviest.qual d_heaviest.scope (He.fAd K d_heaviest.at_) (.ref (He.codeOf K ("heaviest", none))) A outer s H E).nox.env.code = .ref (He.codeOf K ("heaviest", none)) := rfl
  exact (pss_one (ps_ret (pe_slice sl_list (pe_sortLam (k := 2) (N := ["name", "web"]) (fr := ["web"]) (js := [0]) (x₀ := "name") rfl (f_sorted T) bt_sorted (pa_cons (pv 1) pa_nil) TB hcode hmT huT lam_heaviest_S lam_heaviest_f lam_heaviest_r rfl (hr.mono (by decide)) rfl (fun _ _ _ _ _ _ => rfl) (fun _ _ _ _ _ _ hr2 => (pe_op op_sub pe_int (pe_meth (pv 1) (k_Web T) (me_Web_weight T) G1 (hr2.mono (by decide)) b1 .nil pass0 (pa_cons (pv 0) pa_nil))))) po_none (po_some (pv 2)))))
theorem sc_weight_sum : FnScope N_weight_sum ["web", "names"] (defScope s_weight_sum) := ⟨rfl, rfl, rfl, by decide +kernel, rfl, by decide +kernel, by decide +kernel⟩
theorem ok_weight_sum (T : Tx P w K mg base) (hT : tsp.T = tabsT K) : ∃ fd, FnOk P w K mg base CX0 3 (He.ga K "weight_sum") fd ["web", "names"] (sp_weight_sum P w K) ∧ PySem.W.keepIn K (.ref (He.ga K "weight_sum")) = true ∧ Binds K fd ["web", "names"] [] := by
  obtain ⟨fd, F⟩ := at_weight_sum T
  obtain ⟨fd1, G1, k1, b1⟩ := ok_Web_weight T hT
  refine ⟨fd, F.ok sc_weight_sum len_weight_sum (fun cdv A outer s H vs Q E hr h => ⟨t_weight_sum P w K, PSs.nox ?_, rd_weight_sum T hT vs H Q E h⟩), F.kp, F.bindsN fun _ _ _ _ _ _ us hl => match us, hl with | [_, _], _ => rfl⟩
  exact (pss_one (ps_ret (pe_callB (cr_sum rfl) (by rfl) (f_sum T) bt_sum (pa_cons (pe_lc (own := [("name", 2)]) (g := (gName 2)) (tt := tYes) rfl sc_weight_sum.nd (pi_list (pv 1)) (blkOk_by (own := [("name", 2)]) (N := N_weight_sum) (sc := defScope s_weight_sum) (by decide +kernel)) (fun _ _ _ _ _ => (pg_name (i := 2) sc_weight_sum.nd rfl (Or.inl rfl))) (fun _ _ _ _ _ => pts_nil) (fun _ _ _ _ _ => (pe_meth (pv 0) (k_Web T) (me_Web_weight T) G1 (hr.mono (by decide)) b1 .nil pass0 (pa_cons (pv 2) pa_nil)))) pa_nil))))
theorem sc_stuck_paper : FnScope N_stuck_paper ["web", "rule", "cutting", "budget"] (defScope s_stuck_paper) := ⟨rfl, rfl, rfl, by decide +kernel, rfl, by decide +kernel, by decide +kernel⟩
theorem ok_stuck_paper (T : Tx P w K mg base) (hT : tsp.T = tabsT K) : ∃ fd, FnOk P w K mg base (L2.CX P w) 7 (He.ga K "stuck_paper") fd ["web", "rule", "cutting", "budget"] (sp_stuck_paper P w K) ∧ PySem.W.keepIn K (.ref (He.ga K "stuck_paper")) = true ∧ Binds K fd ["web", "rule", "cutting", "budget"] [] := by
  obtain ⟨fd, F⟩ := at_stuck_paper T
  obtain ⟨fd1, G1, k1, b1⟩ := ok_need_both T hT
  obtain ⟨fd2, G2, k2, b2⟩ := ok_part_weights T hT
  obtain ⟨fd3, G3, k3, b3⟩ := ok_part_names T hT
  obtain ⟨fd4, G4, k4, b4⟩ := ok_heaviest T hT
  obtain ⟨fd5, G5, k5, b5⟩ := ok_weight_sum T hT
  obtain ⟨fd6, G6, k6, b6⟩ := ok_Web_names T hT
  refine ⟨fd, F.ok sc_stuck_paper len_stuck_paper (fun cdv A outer s H vs Q E hr h => ⟨t_stuck_paper P w K E, ?_, rd_stuck_paper T hT vs H Q E h⟩), F.kp, F.bindsN fun _ _ _ _ _ _ us hl => match us, hl with | [_, _, _, _], _ => rfl⟩
  have tk : Takes _ (fun cls d _ H => E cls d H) := takes_of (X := cxOf (L2.CX P w) P w K mg base N_stuck_paper d_stuck_paper.qual d_stuck_paper.scope (He.fAd K d_stuck_paper.at_) cdv A outer s H E) rfl rfl rfl rfl
  have hu := hu_of hr
  exact (pss_cons (ps_expr (pe_call G1 (hr.mono (by decide)) rfl (m_need_both T) k1 b1 .nil (passes_call tk fun _ _ _ _ h => h) (pa_cons (pv 0) (pa_cons (pv 1) (pa_cons (pv 2) (pa_cons (pv 3) pa_nil))))))
    (pss_cons (ps_set (i := 4) sc_stuck_paper.nd rfl (Or.inl rfl) (pe_call G2 (hr.mono (by decide)) rfl (m_part_weights T) k2 b2 .nil pass0 (pa_cons (pv 0) (pa_cons (pe_fld (pv 1) rfl) (pa_cons (pv 2) pa_nil)))))
    (pss_cons (ps_set (i := 5) sc_stuck_paper.nd rfl (Or.inl rfl) (pe_call G3 (hr.mono (by decide)) rfl (m_part_names T) k3 b3 .nil pass0 (pa_cons (pv 0) (pa_cons (pe_fld (pv 1) rfl) (pa_cons (pv 2) pa_nil)))))
    (pss_cons (ps_for (passes_of rfl) rfl (pi_enum rfl (f_enumerate T) (pa_cons (pv 4) pa_nil)) (pg_tup rfl (pgs_cons (pg_name (i := 6) sc_stuck_paper.nd rfl (Or.inr rfl)) (pgs_cons (pg_name (i := 7) sc_stuck_paper.nd rfl (Or.inl rfl)) pgs_nil)))
      (pss_cons (ps_set (i := 8) sc_stuck_paper.nd rfl (Or.inl rfl) (pe_call G4 (hr.mono (by decide)) rfl (m_heaviest T) k4 b4 .nil pass0 (pa_cons (pv 0) (pa_cons (pe_ix ix_list (pv 5) (pv 6) (fun _ _ => rfl)) (pa_cons (pv 3) pa_nil)))))
      (pss_cons (ps_if (pt_cmpR op_gt (pe_op op_sub (pv 7) (pe_call G5 (hr.mono (by decide)) rfl (m_weight_sum T) k5 b5 .nil pass0 (pa_cons (pv 0) (pa_cons (pv 8) pa_nil)))) (pe_fld (pv 1) rfl) (nomark _))
        (pss_one (ps_ret (pe_tup (pa_cons pe_str (pa_cons (pv 6) (pa_cons (pv 8) pa_nil))))))
        pss_nil)
      (pss_cons (ps_set (i := 9) sc_stuck_paper.nd rfl (Or.inl rfl) (pe_call G4 (hr.mono (by decide)) rfl (m_heaviest T) k4 b4 .nil pass0 (pa_cons (pv 0) (pa_cons (pe_lc (own := [("name", 10)]) (g := (gName 10)) (tt := (tTest (tOp rNe (tDGet (tVar 2) (tVar 10)) (tVar 6)))) rfl sc_stuck_paper.nd (pi_list (pe_meth0 (pv 0) (k_Web T) (me_Web_names T) G6 (hr.mono (by decide)) b6 .nil pass0)) (blkOk_by (own := [("name", 10)]) (N := N_stuck_paper) (sc := defScope s_stuck_paper) (by decide +kernel)) (fun _ _ _ _ _ => (pg_name (i := 10) sc_stuck_paper.nd rfl (Or.inl rfl))) (fun _ _ _ _ _ => (pts_one (pt_cmpR op_ne (pe_dget hu (pv 2) (pv 10) (fun _ _ => rfl)) (pv 6) (nomark _)))) (fun _ _ _ _ _ => (pv 10))) (pa_cons (pv 3) pa_nil)))))
      (pss_one (ps_if (pt_cmpR op_lt (pe_op op_add (pv 7) (pe_call G5 (hr.mono (by decide)) rfl (m_weight_sum T) k5 b5 .nil pass0 (pa_cons (pv 0) (pa_cons (pv 9) pa_nil)))) (pe_fld (pv 1) rfl) (nomark _))
        (pss_one (ps_ret (pe_tup (pa_cons pe_str (pa_cons (pv 6) (pa_cons (pv 9) pa_nil))))))
        pss_nil))))))
    (pss_one (ps_ret pe_non))))))
theorem sc_waste_by : FnScope N_waste_by ["rule", "weights"] (defScope s_waste_by) := ⟨rfl, rfl, rfl, by decide +kernel, rfl, by decide +kernel, by decide +kernel⟩
theorem ok_waste_by (T : Tx P w K mg base) (hT : tsp.T = tabsT K) : ∃ fd, FnOk P w K mg base CX0 1 (He.ga K "waste_by") fd ["rule", "weights"] (sp_waste_by P w K) ∧ PySem.W.keepIn K (.ref (He.ga K "waste_by")) = true ∧ Binds K fd ["rule", "weights"] [] := by
  obtain ⟨fd, F⟩ := at_waste_by T
  refine ⟨fd, F.ok sc_waste_by len_waste_by (fun cdv A outer s H vs Q E hr h => ⟨t_waste_by P w K, PSs.nox ?_, rd_waste_by T hT vs H Q E h⟩), F.kp, F.bindsN fun _ _ _ _ _ _ us hl => match us, hl with | [_, _], _ => rfl⟩
  exact (pss_one (ps_ret (pe_callB (cr_sum rfl) (by rfl) (f_sum T) bt_sum (pa_cons (pe_lc (own := [("weight", 2)]) (g := (gName 2)) (tt := tYes) rfl sc_waste_by.nd (pi_list (pv 1)) (blkOk_by (own := [("weight", 2)]) (N := N_waste_by) (sc := defScope s_waste_by) (by decide +kernel)) (fun _ _ _ _ _ => (pg_name (i := 2) sc_waste_by.nd rfl (Or.inl rfl))) (fun _ _ _ _ _ => pts_nil) (fun _ _ _ _ _ => (pe_op op_add (pe_callB (call_max2 rfl) (by rfl) (f_max T) bt_max (pa_cons pe_int (pa_cons (pe_op op_sub (pv 2) (pe_fld (pv 0) rfl)) pa_nil))) (pe_callB (call_max2 rfl) (by rfl) (f_max T) bt_max (pa_cons pe_int (pa_cons (pe_op op_sub (pe_fld (pv 0) rfl) (pv 2)) pa_nil)))))) pa_nil))))
theorem sc_waste_of : FnScope N_waste_of ["web", "rule", "cutting"] (defScope s_waste_of) := ⟨rfl, rfl, rfl, by decide +kernel, rfl, by decide +kernel, by decide +kernel⟩
theorem ok_waste_of (T : Tx P w K mg base) (hT : tsp.T = tabsT K) : ∃ fd, FnOk P w K mg base (L2.CX P w) 5 (He.ga K "waste_of") fd ["web", "rule", "cutting"] (sp_waste_of P w K) ∧ PySem.W.keepIn K (.ref (He.ga K "waste_of")) = true ∧ Binds K fd ["web", "rule", "cutting"] [] := by
  obtain ⟨fd, F⟩ := at_waste_of T
  obtain ⟨fd1, G1, k1, b1⟩ := ok_is_cutting T hT
  obtain ⟨fd2, G2, k2, b2⟩ := ok_NoCutting___init__ T hT
  obtain ⟨fd3, G3, k3, b3⟩ := ok_part_weights T hT
  obtain ⟨fd4, G4, k4, b4⟩ := ok_waste_by T hT
  refine ⟨fd, F.ok sc_waste_of len_waste_of (fun cdv A outer s H vs Q E hr h => ⟨t_waste_of P w K E, ?_, rd_waste_of T hT vs H Q E h⟩), F.kp, F.bindsN fun _ _ _ _ _ _ us hl => match us, hl with | [_, _, _], _ => rfl⟩
  have tk : Takes _ (fun cls d _ H => E cls d H) := takes_of (X := cxOf (L2.CX P w) P w K mg base N_waste_of d_waste_of.qual d_waste_of.scope (He.fAd K d_waste_of.at_) cdv A outer s H E) rfl rfl rfl rfl
  exact (pss_cons (ps_if (pt_not (pt_val (pe_call G1 (hr.mono (by decide)) rfl (m_is_cutting T) k1 b1 .nil pass0 (pa_cons (pv 0) (pa_cons (pe_fld (pv 1) rfl) (pa_cons (pv 2) pa_nil))))))
      (pss_one (ps_raise rfl tk (pmk_oex (oex_NoCutting T) (exi_NoCutting T) (ext_NoCutting T) G2 (hr.mono (by decide)) b2 .nil pass0 rfl (m_NoCutting T) (pa_cons (pv 2) pa_nil))))
      pss_nil)
    (pss_one (ps_ret (pe_call G4 (hr.mono (by decide)) rfl (m_waste_by T) k4 b4 .nil pass0 (pa_cons (pv 1) (pa_cons (pe_call G3 (hr.mono (by decide)) rfl (m_part_weights T) k3 b3 .nil pass0 (pa_cons (pv 0) (pa_cons (pe_fld (pv 1) rfl) (pa_cons (pv 2) pa_nil)))) pa_nil))))))
theorem sc__law_waste : FnScope N__law_waste ["_law_weights_here", "_law_bounds"] (defScope s__law_waste) := ⟨rfl, rfl, rfl, by decide +kernel, rfl, by decide +kernel, by decide +kernel⟩
theorem ok__law_waste (T : Tx P w K mg base) (hT : tsp.T = tabsT K) : ∃ fd, FnOk P w K mg base CX0 1 (He.ga K "_law_waste") fd ["_law_weights_here", "_law_bounds"] (sp__law_waste P w K) ∧ PySem.W.keepIn K (.ref (He.ga K "_law_waste")) = true ∧ Binds K fd ["_law_weights_here", "_law_bounds"] [] := by
  obtain ⟨fd, F⟩ := at__law_waste T
  refine ⟨fd, F.ok sc__law_waste len__law_waste (fun cdv A outer s H vs Q E hr h => ⟨t__law_waste P w K, PSs.nox ?_, rd__law_waste T hT vs H Q E h⟩), F.kp, F.bindsN fun _ _ _ _ _ _ us hl => match us, hl with | [_, _], _ => rfl⟩
  exact (pss_one (ps_ret (pe_callB (cr_sum rfl) (by rfl) (f_sum T) bt_sum (pa_cons (pe_lc (own := [("_law_weight", 2)]) (g := (gName 2)) (tt := tYes) rfl sc__law_waste.nd (pi_list (pv 0)) (blkOk_by (own := [("_law_weight", 2)]) (N := N__law_waste) (sc := defScope s__law_waste) (by decide +kernel)) (fun _ _ _ _ _ => (pg_name (i := 2) sc__law_waste.nd rfl (Or.inl rfl))) (fun _ _ _ _ _ => pts_nil) (fun _ _ _ _ _ => (pe_op op_add (pe_callB (call_max2 rfl) (by rfl) (f_max T) bt_max (pa_cons pe_int (pa_cons (pe_op op_sub (pv 2) (pe_ix ix_tup (pv 1) pe_int (fun _ _ => rfl))) pa_nil))) (pe_callB (call_max2 rfl) (by rfl) (f_max T) bt_max (pa_cons pe_int (pa_cons (pe_op op_sub (pe_ix ix_tup (pv 1) pe_int (fun _ _ => rfl)) (pv 2)) pa_nil)))))) pa_nil))))
theorem sc__law_spoilt : FnScope N__law_spoilt ["_law_state", "_law_plan_here", "_law_parts", "_law_paper_here"] (defScope s__law_spoilt) := ⟨rfl, rfl, rfl, by decide +kernel, rfl, by decide +kernel, by decide +kernel⟩
theorem ok__law_spoilt (T : Tx P w K mg base) (hT : tsp.T = tabsT K) : ∃ fd, FnOk P w K mg base CX0 3 (He.ga K "_law_spoilt") fd ["_law_state", "_law_plan_here", "_law_parts", "_law_paper_here"] (sp__law_spoilt P w K) ∧ PySem.W.keepIn K (.ref (He.ga K "_law_spoilt")) = true ∧ Binds K fd ["_law_state", "_law_plan_here", "_law_parts", "_law_paper_here"] [] := by
  obtain ⟨fd, F⟩ := at__law_spoilt T
  obtain ⟨fd1, G1, k1, b1⟩ := ok__law_pull T hT
  refine ⟨fd, F.ok sc__law_spoilt len__law_spoilt (fun cdv A outer s H vs Q E hr h => ⟨t__law_spoilt P w K, PSs.nox ?_, rd__law_spoilt T hT vs H Q E h⟩), F.kp, F.bindsN fun _ _ _ _ _ _ us hl => match us, hl with | [_, _, _, _], _ => rfl⟩
  have hu := hu_of hr
  exact (pss_cons (ps_asg (pv 3) (pg_tup rfl (pgs_cons (pg_name (i := 4) sc__law_spoilt.nd rfl (Or.inl rfl)) (pgs_cons (pg_name (i := 5) sc__law_spoilt.nd rfl (Or.inl rfl)) (pgs_cons (pg_name (i := 6) sc__law_spoilt.nd rfl (Or.inl rfl)) pgs_nil)))))
    (pss_cons (ps_set (i := 6) sc__law_spoilt.nd rfl (Or.inl rfl) (pe_callTy call_list_of (by rfl) (f_list T) bt_list (pa_cons (pv 6) pa_nil)))
    (pss_cons (ps_set (i := 7) sc__law_spoilt.nd rfl (Or.inl rfl) (pe_call G1 (hr.mono (by decide)) rfl (m__law_pull T) k1 b1 .nil pass0 (pa_cons (pv 0) (pa_cons pe_int pa_nil))))
    (pss_cons (ps_set (i := 8) sc__law_spoilt.nd rfl (Or.inl rfl) (pe_call G1 (hr.mono (by decide)) rfl (m__law_pull T) k1 b1 .nil pass0 (pa_cons (pv 0) (pa_cons (pe_op op_add (pe_callB call_len (by rfl) (f_len T) bt_len (pa_cons (pv 6) pa_nil)) pe_int) pa_nil))))
    (pss_cons (ps_if (pt_cmpR op_eq (pv 7) pe_int (nomark _))
      (pss_one (ps_expr (pe_bm0 PySem.F.plainAttrs_list PySem.F.slot_list_reverse PySem.F.type_list_reverse mt_reverse (pv 6))))
      (pss_one (ps_if (pt_cmpR op_eq (pv 7) pe_int (nomark _))
        (pss_one (ps_set (i := 5) sc__law_spoilt.nd rfl (Or.inl rfl) (pe_ix ix_list (pe_lst (pa_cons (pe_op op_add (pv 5) pe_int) (pa_cons (pe_op op_sub (pv 5) pe_int) (pa_cons (pv 2) (pa_cons (pe_un un_neg pe_int) (pa_cons pe_bl (pa_cons pe_non (pa_cons pe_str pa_nil)))))))) (pe_call G1 (hr.mono (by decide)) rfl (m__law_pull T) k1 b1 .nil pass0 (pa_cons (pv 0) (pa_cons pe_int pa_nil))) (fun _ _ => rfl))))
        (pss_one (ps_if (pt_cmpR op_eq (pv 7) pe_int (nomark _))
          (pss_one (ps_set (i := 4) sc__law_spoilt.nd rfl (Or.inl rfl) (pe_ix ix_list (pe_lst (pa_cons pe_str (pa_cons pe_str (pa_cons pe_str (pa_cons pe_non (pa_cons pe_str (pa_cons pe_int (pa_cons (pe_lst (pa_cons pe_str pa_nil)) pa_nil)))))))) (pe_call G1 (hr.mono (by decide)) rfl (m__law_pull T) k1 b1 .nil pass0 (pa_cons (pv 0) (pa_cons pe_int pa_nil))) (fun _ _ => rfl))))
          (pss_one (ps_if (PW.pt (pw_and (pt_cmpR op_eq (pv 7) pe_int (nomark _)) (pw_and (pt_cmpR (op_neD hr.units) (pv 6) (pe_lst pa_nil) (nomark _)) (pw_and1 (pt_cmpR (op_neD hr.units) (pe_dget hu (pv 1) pe_str (fun _ _ => rfl)) (pe_lst pa_nil) (nomark _))))))
            (pss_one (ps_asg (pe_ix ix_list (pe_dget hu (pv 1) pe_str (fun _ _ => rfl)) (pe_call G1 (hr.mono (by decide)) rfl (m__law_pull T) k1 b1 .nil pass0 (pa_cons (pv 0) (pa_cons (pe_callB call_len (by rfl) (f_len T) bt_len (pa_cons (pe_dget hu (pv 1) pe_str (fun _ _ => rfl)) pa_nil)) pa_nil))) (fun _ _ => rfl)) (pg_sub (pv 6) (pe_op op_mod (pv 8) (pe_callB call_len (by rfl) (f_len T) bt_len (pa_cons (pv 6) pa_nil))) set_list)))
            (pss_one (ps_if (pt_cmpR op_eq (pv 7) pe_int (nomark _))
              (pss_cons (ps_set (i := 9) sc__law_spoilt.nd rfl (Or.inl rfl) (pe_lst (pa_cons (pe_ix ix_list (pe_op op_cat (pe_dget hu (pv 1) pe_str (fun _ _ => rfl)) (pe_lst (pa_cons pe_str pa_nil))) pe_int (fun _ _ => rfl)) (pa_cons pe_str (pa_cons pe_non (pa_cons pe_int (pa_cons (pe_lst (pa_cons pe_str pa_nil)) pa_nil)))))))
              (pss_one (ps_expr (pe_bm PySem.F.plainAttrs_list PySem.F.slot_list_insert PySem.F.type_list_insert mt_insert (pv 6) (pa_cons (pv 8) (pa_cons (pe_ix ix_list (pv 9) (pe_call G1 (hr.mono (by decide)) rfl (m__law_pull T) k1 b1 .nil pass0 (pa_cons (pv 0) (pa_cons pe_int pa_nil))) (fun _ _ => rfl)) pa_nil))))))
              (pss_one (ps_if (pt_cmpR op_eq (pv 7) pe_int (nomark _))
                (pss_one (ps_set (i := 6) sc__law_spoilt.nd rfl (Or.inl rfl) (pe_op op_cat (pe_slice sl_list (pv 6) po_none (po_some (pv 8))) (pe_slice sl_list (pv 6) (po_some (pe_op op_add (pv 8) pe_int)) po_none))))
                (pss_one (ps_if (pt_cmpR op_eq (pv 7) pe_int (nomark _))
                  (pss_cons (ps_set (i := 10) sc__law_spoilt.nd rfl (Or.inl rfl) (pe_tup (pa_cons (pv 4) (pa_cons (pv 5) (pa_cons (pv 6) pa_nil)))))
                  (pss_one (ps_ret (pe_ix ix_list (pe_lst (pa_cons (pe_callTy call_list_of (by rfl) (f_list T) bt_list (pa_cons (pv 10) pa_nil)) (pa_cons (pe_slice sl_tup (pv 10) po_none (po_some pe_int)) (pa_cons (pe_op op_catT (pv 10) (pe_tup (pa_cons pe_int pa_nil))) (pa_cons (pe_tup (pa_cons (pv 4) (pa_cons (pv 5) (pa_cons (pe_callTy call_tuple_of (by rfl) (f_tuple T) bt_tuple (pa_cons (pv 6) pa_nil)) pa_nil)))) (pa_cons pe_non pa_nil)))))) (pe_op op_mod (pv 8) pe_int) (fun _ _ => rfl)))))
                  (pss_one (ps_if (pt_cmpR op_eq (pv 7) pe_int (nomark _))
                    (pss_one (ps_ret (pe_ix ix_list (pe_lst (pa_cons pe_non (pa_cons (pe_tup pa_nil) (pa_cons (pe_lst pa_nil) (pa_cons pe_str (pa_cons pe_int (pa_cons pe_bl (pa_cons pe_dnewK (pa_cons (pe_tup (pa_cons pe_str pa_nil)) pa_nil))))))))) (pe_call G1 (hr.mono (by decide)) rfl (m__law_pull T) k1 b1 .nil pass0 (pa_cons (pv 0) (pa_cons pe_int pa_nil))) (fun _ _ => rfl))))
                    pss_nil)))))))))))))))
    (pss_one (ps_ret (pe_tup (pa_cons (pv 4) (pa_cons (pv 5) (pa_cons (pv 6) pa_nil)))))))))))
theorem sc_are_heaviest : FnScope N_are_heaviest ["web", "names", "thing", "budget"] (defScope s_are_heaviest) := ⟨rfl, rfl, rfl, by decide +kernel, rfl, by decide +kernel, by decide +kernel⟩
theorem ok_are_heaviest (T : Tx P w K mg base) (hT : tsp.T = tabsT K) : ∃ fd, FnOk P w K mg base CX0 3 (He.ga K "are_heaviest") fd ["web", "names", "thing", "budget"] (sp_are_heaviest P w K) ∧ PySem.W.keepIn K (.ref (He.ga K "are_heaviest")) = true ∧ Binds K fd ["web", "names", "thing", "budget"] [] := by
  obtain ⟨fd, F⟩ := at_are_heaviest T
  obtain ⟨fd1, G1, k1, b1⟩ := ok_Web_weight T hT
  refine ⟨fd, F.ok sc_are_heaviest len_are_heaviest (fun cdv A outer s H vs Q E hr h => ⟨t_are_heaviest P w K, PSs.nox ?_, rd_are_heaviest T hT vs H Q E h⟩), F.kp, F.bindsN fun _ _ _ _ _ _ us hl => match us, hl with | [_, _, _, _], _ => rfl⟩
  have hu := hu_of hr
  exact (pss_cons (ps_if (PW.pt (pw_or (pt_not (pt_val (pe_callB call_isi (by rfl) (f_isinstance T) bt_isinstance (pa_cons (pv 2) (pa_cons (pe_bltn (by rfl) (f_list T) bt_list rfl) pa_nil))))) (pw_or1 (pt_cmpR op_ne (pe_callB call_len (by rfl) (f_len T) bt_len (pa_cons (pv 2) pa_nil)) (pe_callB (call_min2 rfl) (by rfl) (f_min T) bt_min (pa_cons (pv 3) (pa_cons (pe_callB call_len (by rfl) (f_len T) bt_len (pa_cons (pv 1) pa_nil)) pa_nil))) (nomark _)))))
      (pss_one (ps_ret pe_bl))
      pss_nil)
    (pss_cons (ps_for PassesOwn.never rfl (pi_enum rfl (f_enumerate T) (pa_cons (pv 2) pa_nil)) (pg_tup rfl (pgs_cons (pg_name (i := 4) sc_are_heaviest.nd rfl (Or.inl rfl)) (pgs_cons (pg_name (i := 5) sc_are_heaviest.nd rfl (Or.inl rfl)) pgs_nil)))
      (pss_one (ps_if (PW.pt (pw_or (pt_not (pt_val (pe_callB call_isiO (by rfl) (f_isinstance T) bt_isinstance (pa_cons (pv 5) (pa_cons (pe_bltn (by rfl) (f_str T) bt_str rfl) pa_nil))))) (pw_or (pt_cmpR (op_notInX hu) (pv 5) (pv 1) (by with_unfolding_all rfl)) (pw_or1 (pt_cmpR (op_inX hu) (pv 5) (pe_slice sl_list (pv 2) po_none (po_some (pv 4))) (by with_unfolding_all rfl))))))
        (pss_one (ps_ret pe_bl))
        pss_nil)))
    (pss_cons (ps_setLc (i := 6) (own := [("name", 5)]) (g := (gName 5)) (tt := (tTest (tOp (rIn K true) (tVar 5) (tVar 2)))) rfl sc_are_heaviest.nd rfl rfl (sw_true rfl rfl rfl (by decide +kernel)) (pi_list (pv 1)) (blkOk_by (own := [("name", 5)]) (N := N_are_heaviest) (sc := defScope s_are_heaviest) (by decide +kernel)) (fun _ _ _ _ _ => (pg_name (i := 5) sc_are_heaviest.nd rfl (Or.inl rfl))) (fun _ _ _ _ _ => (pts_one (pt_cmpR op_notIn_seq (pv 5) (pv 2) (by with_unfolding_all rfl)))) (fun _ _ _ _ _ => (pe_meth (pv 0) (k_Web T) (me_Web_weight T) G1 (hr.mono (by decide)) b1 .nil pass0 (pa_cons (pv 5) pa_nil))))
    (pss_one (ps_ret (pe_or (pe_cmpR (op_eqD hr.units) (pv 6) (pe_lst pa_nil) (nomark _)) (pe_or (pe_cmpR (op_eqD hr.units) (pv 2) (pe_lst pa_nil) (nomark _)) (pe_one (pe_cmpR op_le (pe_callB (cr_max rfl) (by rfl) (f_max T) bt_max (pa_cons (pv 6) pa_nil)) (pe_callB (cr_min rfl) (by rfl) (f_min T) bt_min (pa_cons (pe_lc (own := [("name", 5)]) (g := (gName 5)) (tt := tYes) rfl sc_are_heaviest.nd (pi_list (pv 2)) (blkOk_by (own := [("name", 5)]) (N := N_are_heaviest) (sc := defScope s_are_heaviest) (by decide +kernel)) (fun _ _ _ _ _ => (pg_name (i := 5) sc_are_heaviest.nd rfl (Or.inl rfl))) (fun _ _ _ _ _ => pts_nil) (fun _ _ _ _ _ => (pe_meth (pv 0) (k_Web T) (me_Web_weight T) G1 (hr.mono (by decide)) b1 .nil pass0 (pa_cons (pv 5) pa_nil)))) pa_nil)) (nomark _))))))))))
theorem sc_shows_stuck : FnScope N_shows_stuck ["web", "rule", "cutting", "budget", "thing"] (defScope s_shows_stuck) := ⟨rfl, rfl, rfl, by decide +kernel, rfl, by decide +kernel, by decide +kernel⟩
theorem ok_shows_stuck (T : Tx P w K mg base) (hT : tsp.T = tabsT K) : ∃ fd, FnOk P w K mg base (L2.CX P w) 5 (He.ga K "shows_stuck") fd ["web", "rule", "cutting", "budget", "thing"] (sp_shows_stuck P w K) ∧ PySem.W.keepIn K (.ref (He.ga K "shows_stuck")) = true ∧ Binds K fd ["web", "rule", "cutting", "budget", "thing"] [] := by
  obtain ⟨fd, F⟩ := at_shows_stuck T
  obtain ⟨fd1, G1, k1, b1⟩ := ok_need_both T hT
  obtain ⟨fd2, G2, k2, b2⟩ := ok_is_whole T hT
  obtain ⟨fd3, G3, k3, b3⟩ := ok_part_weights T hT
  obtain ⟨fd4, G4, k4, b4⟩ := ok_Web_names T hT
  obtain ⟨fd5, G5, k5, b5⟩ := ok_are_heaviest T hT
  obtain ⟨fd6, G6, k6, b6⟩ := ok_weight_sum T hT
  refine ⟨fd, F.ok sc_shows_stuck len_shows_stuck (fun cdv A outer s H vs Q E hr h => ⟨t_shows_stuck P w K E, ?_, rd_shows_stuck T hT vs H Q E h⟩), F.kp, F.bindsN fun _ _ _ _ _ _ us hl => match us, hl with | [_, _, _, _, _], _ => rfl⟩
  have tk : Takes _ (fun cls d _ H => E cls d H) := takes_of (X := cxOf (L2.CX P w) P w K mg base N_shows_stuck d_shows_stuck.qual d_shows_stuck.scope (He.fAd K d_shows_stuck.at_) cdv A outer s H E) rfl rfl rfl rfl
  have hu := hu_of hr
  exact (pss_cons (ps_expr (pe_call G1 (hr.mono (by decide)) rfl (m_need_both T) k1 b1 .nil (passes_call tk fun _ _ _ _ h => h) (pa_cons (pv 0) (pa_cons (pv 1) (pa_cons (pv 2) (pa_cons (pv 3) pa_nil))))))
    (pss_cons (ps_if (PW.pt (pw_or (pt_not (pt_val (pe_callB call_isi (by rfl) (f_isinstance T) bt_isinstance (pa_cons (pv 4) (pa_cons (pe_bltn (by rfl) (f_tuple T) bt_tuple rfl) pa_nil))))) (pw_or (pt_cmpR op_ne (pe_callB call_len (by rfl) (f_len T) bt_len (pa_cons (pv 4) pa_nil)) pe_int (nomark _)) (pw_or1 (pt_not (pt_val (pe_call G2 (hr.mono (by decide)) rfl (m_is_whole T) k2 b2 .nil pass0 (pa_cons (pe_ix ix_tup (pv 4) pe_int (fun _ _ => rfl)) (pa_cons pe_int (pa_cons (pe_op op_sub (pe_fld (pv 1) rfl) pe_int) pa_nil))))))))))
      (pss_one (ps_ret pe_bl))
      pss_nil)
    (pss_cons (ps_asg (pv 4) (pg_tup rfl (pgs_cons (pg_name (i := 5) sc_shows_stuck.nd rfl (Or.inl rfl)) (pgs_cons (pg_name (i := 6) sc_shows_stuck.nd rfl (Or.inr rfl)) (pgs_cons (pg_name (i := 7) sc_shows_stuck.nd rfl (Or.inl rfl)) pgs_nil)))))
    (pss_cons (ps_set (i := 8) sc_shows_stuck.nd rfl (Or.inl rfl) (pe_ix ix_list (pe_call G3 (hr.mono (by decide)) rfl (m_part_weights T) k3 b3 .nil pass0 (pa_cons (pv 0) (pa_cons (pe_fld (pv 1) rfl) (pa_cons (pv 2) pa_nil)))) (pv 6) (fun _ _ => rfl)))
    (pss_cons (ps_setLc (i := 9) (own := [("name", 10)]) (g := (gName 10)) (tt := (tTest (tOp rEq (tDGet (tVar 2) (tVar 10)) (tVar 6)))) rfl sc_shows_stuck.nd rfl rfl (sw_true rfl rfl rfl (by decide +kernel)) (pi_list (pe_meth0 (pv 0) (k_Web T) (me_Web_names T) G4 (hr.mono (by decide)) b4 .nil pass0)) (blkOk_by (own := [("name", 10)]) (N := N_shows_stuck) (sc := defScope s_shows_stuck) (by decide +kernel)) (fun _ _ _ _ _ => (pg_name (i := 10) sc_shows_stuck.nd rfl (Or.inl rfl))) (fun _ _ _ _ _ => (pts_one (pt_cmpR op_eq (pe_dget hu (pv 2) (pv 10) (fun _ _ => rfl)) (pv 6) (nomark _)))) (fun _ _ _ _ _ => (pv 10)))
    (pss_cons (ps_if (pt_cmpR (op_eqX hu) (pv 5) pe_str (nomark _))
      (pss_one (ps_ret (pe_and (pe_call G5 (hr.mono (by decide)) rfl (m_are_heaviest T) k5 b5 .nil pass0 (pa_cons (pv 0) (pa_cons (pv 9) (pa_cons (pv 7) (pa_cons (pv 3) pa_nil))))) (pe_one (pe_cmpR op_gt (pe_op op_sub (pv 8) (pe_call G6 (hr.mono (by decide)) rfl (m_weight_sum T) k6 b6 .nil pass0 (pa_cons (pv 0) (pa_cons (pv 7) pa_nil)))) (pe_fld (pv 1) rfl) (nomark _))))))
      pss_nil)
    (pss_cons (ps_setLc (i := 11) (own := [("name", 10)]) (g := (gName 10)) (tt := (tTest (tOp rNe (tDGet (tVar 2) (tVar 10)) (tVar 6)))) rfl sc_shows_stuck.nd rfl rfl (sw_true rfl rfl rfl (by decide +kernel)) (pi_list (pe_meth0 (pv 0) (k_Web T) (me_Web_names T) G4 (hr.mono (by decide)) b4 .nil pass0)) (blkOk_by (own := [("name", 10)]) (N := N_shows_stuck) (sc := defScope s_shows_stuck) (by decide +kernel)) (fun _ _ _ _ _ => (pg_name (i := 10) sc_shows_stuck.nd rfl (Or.inl rfl))) (fun _ _ _ _ _ => (pts_one (pt_cmpR op_ne (pe_dget hu (pv 2) (pv 10) (fun _ _ => rfl)) (pv 6) (nomark _)))) (fun _ _ _ _ _ => (pv 10)))
    (pss_cons (ps_if (pt_cmpR (op_eqX hu) (pv 5) pe_str (nomark _))
      (pss_one (ps_ret (pe_and (pe_call G5 (hr.mono (by decide)) rfl (m_are_heaviest T) k5 b5 .nil pass0 (pa_cons (pv 0) (pa_cons (pv 11) (pa_cons (pv 7) (pa_cons (pv 3) pa_nil))))) (pe_one (pe_cmpR op_lt (pe_op op_add (pv 8) (pe_call G6 (hr.mono (by decide)) rfl (m_weight_sum T) k6 b6 .nil pass0 (pa_cons (pv 0) (pa_cons (pv 7) pa_nil)))) (pe_fld (pv 1) rfl) (nomark _))))))
      pss_nil)
    (pss_one (ps_ret pe_bl))))))))))
theorem sc__law_shows : FnScope N__law_shows ["_law_plan_here", "_law_parts", "_law_bounds", "_law_cutting_here", "_law_budget", "_law_thing"] (defScope s__law_shows) := ⟨rfl, rfl, rfl, by decide +kernel, rfl, by decide +kernel, by decide +kernel⟩
theorem ok__law_shows (T : Tx P w K mg base) (hT : tsp.T = tabsT K) : ∃ fd, FnOk P w K mg base CX0 2 (He.ga K "_law_shows") fd ["_law_plan_here", "_law_parts", "_law_bounds", "_law_cutting_here", "_law_budget", "_law_thing"] (sp__law_shows P w K) ∧ PySem.W.keepIn K (.ref (He.ga K "_law_shows")) = true ∧ Binds K fd ["_law_plan_here", "_law_parts", "_law_bounds", "_law_cutting_here", "_law_budget", "_law_thing"] [] := by
  obtain ⟨fd, F⟩ := at__law_shows T
  obtain ⟨fd1, G1, k1, b1⟩ := ok__law_weights T hT
  refine ⟨fd, F.ok sc__law_shows len__law_shows (fun cdv A outer s H vs Q E hr h => ⟨t__law_shows P w K, PSs.nox ?_, rd__law_shows T hT vs H Q E h⟩), F.kp, F.bindsN fun _ _ _ _ _ _ us hl => match us, hl with | [_, _, _, _, _, _], _ => rfl⟩
  have hu := hu_of hr
  exact (pss_cons (ps_if (PW.pt (pw_or (pt_not (pt_val (pe_callB call_isi (by rfl) (f_isinstance T) bt_isinstance (pa_cons (pv 5) (pa_cons (pe_bltn (by rfl) (f_tuple T) bt_tuple rfl) pa_nil))))) (pw_or (pt_cmpR op_ne (pe_callB call_len (by rfl) (f_len T) bt_len (pa_cons (pv 5) pa_nil)) pe_int (nomark _)) (pw_or1 (pt_cmpR (op_notInX hu) (pe_ix ix_tup (pv 5) pe_int (fun _ _ => rfl)) (pe_tup (pa_cons pe_str (pa_cons pe_str pa_nil))) (by with_unfolding_all rfl))))))
      (pss_one (ps_ret pe_bl))
      pss_nil)
    (pss_cons (ps_asg (pv 5) (pg_tup rfl (pgs_cons (pg_name (i := 6) sc__law_shows.nd rfl (Or.inr rfl)) (pgs_cons (pg_name (i := 7) sc__law_shows.nd rfl (Or.inr rfl)) (pgs_cons (pg_name (i := 8) sc__law_shows.nd rfl (Or.inr rfl)) pgs_nil)))))
    (pss_cons (ps_if (PW.pt (pw_or (pt_not (pt_val (pe_callB call_isi (by rfl) (f_isinstance T) bt_isinstance (pa_cons (pv 7) (pa_cons (pe_bltn (by rfl) (f_int T) bt_int rfl) pa_nil))))) (pw_or (pt_val (pe_callB call_isi (by rfl) (f_isinstance T) bt_isinstance (pa_cons (pv 7) (pa_cons (pe_bltn (by rfl) (f_bool T) bt_bool rfl) pa_nil)))) (pw_or (pt_not (pt_chain op_le op_lt pe_int (pv 7) (pv 1))) (pw_or1 (pt_not (pt_val (pe_callB call_isi (by rfl) (f_isinstance T) bt_isinstance (pa_cons (pv 8) (pa_cons (pe_bltn (by rfl) (f_list T) bt_list rfl) pa_nil))))))))))
      (pss_one (ps_ret pe_bl))
      pss_nil)
    (pss_cons (ps_setLc (i := 9) (own := [("_law_name", 10)]) (g := (gName 10)) (tt := (tTest (tOp rEq (tOp rEq (tDGet (tVar 3) (tVar 10)) (tVar 7)) (tOp (rEqX K) (tVar 6) (tC (.str "heavy")))))) rfl sc__law_shows.nd rfl rfl (sw_true rfl rfl rfl (by decide +kernel)) (pi_list (pe_dget hu (pv 0) pe_str (fun _ _ => rfl))) (blkOk_by (own := [("_law_name", 10)]) (N := N__law_shows) (sc := defScope s__law_shows) (by decide +kernel)) (fun _ _ _ _ _ => (pg_name (i := 10) sc__law_shows.nd rfl (Or.inl rfl))) (fun _ _ _ _ _ => (pts_one (pt_cmpR op_eq (pe_cmpR op_eq (pe_dget hu (pv 3) (pv 10) (fun _ _ => rfl)) (pv 7) (nomark _)) (pe_cmpR (op_eqX hu) (pv 6) pe_str (nomark _)) (nomark _)))) (fun _ _ _ _ _ => (pv 10)))
    (pss_cons (ps_for PassesOwn.never rfl (pi_enum rfl (f_enumerate T) (pa_cons (pv 8) pa_nil)) (pg_tup rfl (pgs_cons (pg_name (i := 11) sc__law_shows.nd rfl (Or.inl rfl)) (pgs_cons (pg_name (i := 10) sc__law_shows.nd rfl (Or.inl rfl)) pgs_nil)))
      (pss_one (ps_if (PW.pt (pw_or (pt_cmpR (op_notInX hu) (pv 10) (pv 9) (by with_unfolding_all rfl)) (pw_or1 (pt_cmpR (op_inX hu) (pv 10) (pe_slice sl_list (pv 8) po_none (po_some (pv 11))) (by with_unfolding_all rfl)))))
        (pss_one (ps_ret pe_bl))
        pss_nil)))
    (pss_cons (ps_setLc (i := 12) (own := [("_law_name", 10)]) (g := (gName 10)) (tt := (tTest (tOp (rInX K true) (tVar 10) (tVar 8)))) rfl sc__law_shows.nd rfl rfl (sw_true rfl rfl rfl (by decide +kernel)) (pi_list (pv 9)) (blkOk_by (own := [("_law_name", 10)]) (N := N__law_shows) (sc := defScope s__law_shows) (by decide +kernel)) (fun _ _ _ _ _ => (pg_name (i := 10) sc__law_shows.nd rfl (Or.inl rfl))) (fun _ _ _ _ _ => (pts_one (pt_cmpR (op_notInX hu) (pv 10) (pv 8) (by with_unfolding_all rfl)))) (fun _ _ _ _ _ => (pe_dget hu (pe_dget hu (pv 0) pe_str (fun _ _ => rfl)) (pv 10) (fun _ _ => rfl))))
    (pss_cons (ps_setLc (i := 13) (own := [("_law_name", 10)]) (g := (gName 10)) (tt := tYes) rfl sc__law_shows.nd rfl rfl (sw_true rfl rfl rfl (by decide +kernel)) (pi_list (pv 8)) (blkOk_by (own := [("_law_name", 10)]) (N := N__law_shows) (sc := defScope s__law_shows) (by decide +kernel)) (fun _ _ _ _ _ => (pg_name (i := 10) sc__law_shows.nd rfl (Or.inl rfl))) (fun _ _ _ _ _ => pts_nil) (fun _ _ _ _ _ => (pe_dget hu (pe_dget hu (pv 0) pe_str (fun _ _ => rfl)) (pv 10) (fun _ _ => rfl))))
    (pss_cons (ps_if (PW.pt (pw_or (pt_cmpR op_ne (pe_callB call_len (by rfl) (f_len T) bt_len (pa_cons (pv 8) pa_nil)) (pe_callB (call_min2 rfl) (by rfl) (f_min T) bt_min (pa_cons (pv 4) (pa_cons (pe_callB call_len (by rfl) (f_len T) bt_len (pa_cons (pv 9) pa_nil)) pa_nil))) (nomark _)) (pw_or1 (pt_cmpR op_gt (pe_callB (cr_max rfl) (by rfl) (f_max T) bt_max (pa_cons (pe_op op_cat (pv 12) (pe_lst (pa_cons pe_int pa_nil))) pa_nil)) (pe_callB (cr_min rfl) (by rfl) (f_min T) bt_min (pa_cons (pe_op op_cat (pv 13) (pe_lst (pa_cons (pe_op op_pow pe_int pe_int) pa_nil))) pa_nil)) (nomark _)))))
      (pss_one (ps_ret pe_bl))
      pss_nil)
    (pss_cons (ps_set (i := 14) sc__law_shows.nd rfl (Or.inl rfl) (pe_ix ix_list (pe_call G1 (hr.mono (by decide)) rfl (m__law_weights T) k1 b1 .nil pass0 (pa_cons (pv 0) (pa_cons (pv 1) (pa_cons (pv 3) pa_nil)))) (pv 7) (fun _ _ => rfl)))
    (pss_cons (ps_if (pt_cmpR (op_eqX hu) (pv 6) pe_str (nomark _))
      (pss_one (ps_ret (pe_cmpR op_gt (pe_op op_sub (pv 14) (pe_callB (cr_sum rfl) (by rfl) (f_sum T) bt_sum (pa_cons (pv 13) pa_nil))) (pe_ix ix_tup (pv 2) pe_int (fun _ _ => rfl)) (nomark _))))
      pss_nil)
    (pss_one (ps_ret (pe_cmpR op_lt (pe_op op_add (pv 14) (pe_callB (cr_sum rfl) (by rfl) (f_sum T) bt_sum (pa_cons (pv 13) pa_nil))) (pe_ix ix_tup (pv 2) pe_int (fun _ _ => rfl)) (nomark _))))))))))))))
theorem sc__law_right : FnScope N__law_right ["_law_state", "_law_web", "_law_rule", "_law_plan_here", "_law_bounds", "_law_cutting_here", "_law_budget"] (defScope s__law_right) := ⟨rfl, rfl, rfl, by decide +kernel, rfl, by decide +kernel, by decide +kernel⟩
theorem ok__law_right (T : Tx P w K mg base) (hT : tsp.T = tabsT K) : ∃ fd, FnOk P w K mg base CX0 8 (He.ga K "_law_right") fd ["_law_state", "_law_web", "_law_rule", "_law_plan_here", "_law_bounds", "_law_cutting_here", "_law_budget"] (sp__law_right P w K) ∧ PySem.W.keepIn K (.ref (He.ga K "_law_right")) = true ∧ Binds K fd ["_law_state", "_law_web", "_law_rule", "_law_plan_here", "_law_bounds", "_law_cutting_here", "_law_budget"] [] := by
  obtain ⟨fd, F⟩ := at__law_right T
  obtain ⟨fd1, G1, k1, b1⟩ := ok__law_paper T hT
  obtain ⟨fd2, G2, k2, b2⟩ := ok_stuck_paper T hT
  obtain ⟨fd3, G3, k3, b3⟩ := ok_waste_of T hT
  obtain ⟨fd4, G4, k4, b4⟩ := ok__law_weights T hT
  obtain ⟨fd5, G5, k5, b5⟩ := ok__law_waste T hT
  obtain ⟨fd6, G6, k6, b6⟩ := ok__law_pull T hT
  obtain ⟨fd7, G7, k7, b7⟩ := ok__law_heaviest T hT
  obtain ⟨fd8, G8, k8, b8⟩ := ok__law_spoilt T hT
  obtain ⟨fd9, G9, k9, b9⟩ := ok_shows_stuck T hT
  obtain ⟨fd10, G10, k10, b10⟩ := ok__law_shows T hT
  refine ⟨fd, F.ok sc__law_right len__law_right (fun cdv A outer s H vs Q E hr h => ⟨t__law_right P w K, PSs.nox ?_, rd__law_right T hT vs H Q E h⟩), F.kp, F.bindsN fun _ _ _ _ _ _ us hl => match us, hl with | [_, _, _, _, _, _, _], _ => rfl⟩
  have hu := hu_of hr
  exact (pss_cons (ps_set (i := 7) sc__law_right.nd rfl (Or.inl rfl) (pe_callTy call_dictD (by rfl) (f_dict T) bt_dict (pa_cons (pv 5) pa_nil)))
    (pss_cons (ps_set (i := 8) sc__law_right.nd rfl (Or.inl rfl) (pe_call G1 (hr.mono (by decide)) rfl (m__law_paper T) k1 b1 .nil pass0 (pa_cons (pv 3) (pa_cons (pe_fld (pv 2) rfl) (pa_cons (pv 4) (pa_cons (pv 5) (pa_cons (pv 6) pa_nil)))))))
    (pss_cons (ps_for PassesOwn.never rfl (pi_range1 rfl (f_range T) (pa_cons pe_int pa_nil)) (pg_name (i := 9) sc__law_right.nd rfl (Or.inl rfl))
      (pss_cons (ps_set (i := 10) sc__law_right.nd rfl (Or.inl rfl) (pe_call G2 (hr.mono (by decide)) rfl (m_stuck_paper T) k2 b2 .nil passL (pa_cons (pv 1) (pa_cons (pv 2) (pa_cons (pv 7) (pa_cons (pv 6) pa_nil))))))
      (pss_cons (ps_if (pt_cmpR (op_neD hr.units) (pv 10) (pv 8) (nomark _))
        (pss_one (ps_ret pe_bl))
        pss_nil)
      (pss_one (ps_if (pt_val (pe_callB call_isi (by rfl) (f_isinstance T) bt_isinstance (pa_cons (pv 8) (pa_cons (pe_bltn (by rfl) (f_tuple T) bt_tuple rfl) pa_nil))))
        (pss_cons (ps_if (PW.pt (pw_or (pt_not (pt_val (pe_callB call_isi (by rfl) (f_isinstance T) bt_isinstance (pa_cons (pv 10) (pa_cons (pe_bltn (by rfl) (f_tuple T) bt_tuple rfl) pa_nil))))) (pw_or1 (pt_not (pt_val (pe_callB call_isi (by rfl) (f_isinstance T) bt_isinstance (pa_cons (pe_ix ix_tup (pv 10) pe_int (fun _ _ => rfl)) (pa_cons (pe_bltn (by rfl) (f_list T) bt_list rfl) pa_nil))))))))
          (pss_one (ps_ret pe_bl))
          pss_nil)
        (pss_one (ps_expr (pe_bm PySem.F.plainAttrs_list PySem.F.slot_list_append PySem.F.type_list_append mt_append (pe_ix ix_tup (pv 10) pe_int (fun _ _ => rfl)) (pa_cons pe_str pa_nil)))))
        pss_nil)))))
    (pss_cons (ps_set (i := 11) sc__law_right.nd rfl (Or.inl rfl) (pe_call G3 (hr.mono (by decide)) rfl (m_waste_of T) k3 b3 .nil passL (pa_cons (pv 1) (pa_cons (pv 2) (pa_cons (pv 7) pa_nil)))))
    (pss_cons (ps_if (PW.pt (pw_or (pt_not (pt_val (pe_callB call_isi (by rfl) (f_isinstance T) bt_isinstance (pa_cons (pv 11) (pa_cons (pe_bltn (by rfl) (f_int T) bt_int rfl) pa_nil))))) (pw_or1 (pt_val (pe_callB call_isi (by rfl) (f_isinstance T) bt_isinstance (pa_cons (pv 11) (pa_cons (pe_bltn (by rfl) (f_bool T) bt_bool rfl) pa_nil)))))))
      (pss_one (ps_ret pe_bl))
      pss_nil)
    (pss_cons (ps_set (i := 12) sc__law_right.nd rfl (Or.inl rfl) (pe_call G4 (hr.mono (by decide)) rfl (m__law_weights T) k4 b4 .nil pass0 (pa_cons (pv 3) (pa_cons (pe_fld (pv 2) rfl) (pa_cons (pv 5) pa_nil)))))
    (pss_cons (ps_if (PW.pt (pw_or (pt_cmpR op_ne (pv 11) (pe_call G5 (hr.mono (by decide)) rfl (m__law_waste T) k5 b5 .nil pass0 (pa_cons (pv 12) (pa_cons (pv 4) pa_nil))) (nomark _)) (pw_or1 (pt_cmpR (op_ne_dictA hr.units0) (pv 7) (pv 5) (nomark _)))))
      (pss_one (ps_ret pe_bl))
      pss_nil)
    (pss_cons (ps_set (i := 13) sc__law_right.nd rfl (Or.inl rfl) (pv 8))
    (pss_cons (ps_if (pt_cmpR op_isN1 (pv 13) pe_non (nomark _))
      (pss_cons (ps_set (i := 14) sc__law_right.nd rfl (Or.inr rfl) (pe_call G6 (hr.mono (by decide)) rfl (m__law_pull T) k6 b6 .nil pass0 (pa_cons (pv 0) (pa_cons (pe_fld (pv 2) rfl) pa_nil))))
      (pss_cons (ps_setLc (i := 15) (own := [("_law_name", 16)]) (g := (gName 16)) (tt := (tTest (tOp rEq (tDGet (tVar 5) (tVar 16)) (tVar 14)))) rfl sc__law_right.nd rfl rfl (sw_true rfl rfl rfl (by decide +kernel)) (pi_list (pe_dget hu (pv 3) pe_str (fun _ _ => rfl))) (blkOk_by (own := [("_law_name", 16)]) (N := N__law_right) (sc := defScope s__law_right) (by decide +kernel)) (fun _ _ _ _ _ => (pg_name (i := 16) sc__law_right.nd rfl (Or.inl rfl))) (fun _ _ _ _ _ => (pts_one (pt_cmpR op_eq (pe_dget hu (pv 5) (pv 16) (fun _ _ => rfl)) (pv 14) (nomark _)))) (fun _ _ _ _ _ => (pv 16)))
      (pss_one (ps_set (i := 13) sc__law_right.nd rfl (Or.inl rfl) (pe_tup (pa_cons pe_str (pa_cons (pv 14) (pa_cons (pe_call G7 (hr.mono (by decide)) rfl (m__law_heaviest T) k7 b7 .nil pass0 (pa_cons (pv 3) (pa_cons (pv 15) (pa_cons (pv 6) pa_nil)))) pa_nil))))))))
      pss_nil)
    (pss_cons (ps_for PassesOwn.never rfl (pi_range1 rfl (f_range T) (pa_cons pe_int pa_nil)) (pg_name (i := 17) sc__law_right.nd rfl (Or.inl rfl))
      (pss_cons (ps_set (i := 18) sc__law_right.nd rfl (Or.inl rfl) (pv 13))
      (pss_cons (ps_if (pt_cmpR op_gt (pv 17) pe_int (nomark _))
        (pss_one (ps_set (i := 18) sc__law_right.nd rfl (Or.inl rfl) (pe_call G8 (hr.mono (by decide)) rfl (m__law_spoilt T) k8 b8 .nil pass0 (pa_cons (pv 0) (pa_cons (pv 3) (pa_cons (pe_fld (pv 2) rfl) (pa_cons (pv 13) pa_nil)))))))
        pss_nil)
      (pss_cons (ps_set (i := 19) sc__law_right.nd rfl (Or.inl rfl) (pe_call G9 (hr.mono (by decide)) rfl (m_shows_stuck T) k9 b9 .nil passL (pa_cons (pv 1) (pa_cons (pv 2) (pa_cons (pv 7) (pa_cons (pv 6) (pa_cons (pv 18) pa_nil)))))))
      (pss_cons (ps_set (i := 20) sc__law_right.nd rfl (Or.inl rfl) (pe_call G10 (hr.mono (by decide)) rfl (m__law_shows T) k10 b10 .nil pass0 (pa_cons (pv 3) (pa_cons (pe_fld (pv 2) rfl) (pa_cons (pv 4) (pa_cons (pv 5) (pa_cons (pv 6) (pa_cons (pv 18) pa_nil))))))))
      (pss_one (ps_if (PW.pt (pw_or (pt_not (pt_val (pe_callB call_isi (by rfl) (f_isinstance T) bt_isinstance (pa_cons (pv 19) (pa_cons (pe_bltn (by rfl) (f_bool T) bt_bool rfl) pa_nil))))) (pw_or1 (pt_cmpR op_ne (pv 19) (pv 20) (nomark _)))))
        (pss_one (ps_ret pe_bl))
        pss_nil)))))))
    (pss_one (ps_ret pe_bl))))))))))))
theorem sc__law_no_cutting : FnScope N__law_no_cutting ["_law_state", "_law_names", "_law_parts", "_law_cutting_here"] (defScope s__law_no_cutting) := ⟨rfl, rfl, rfl, by decide +kernel, rfl, by decide +kernel, by decide +kernel⟩
theorem ok__law_no_cutting (T : Tx P w K mg base) (hT : tsp.T = tabsT K) : ∃ fd, FnOk P w K mg base CX0 3 (He.ga K "_law_no_cutting") fd ["_law_state", "_law_names", "_law_parts", "_law_cutting_here"] (sp__law_no_cutting P w K) ∧ PySem.W.keepIn K (.ref (He.ga K "_law_no_cutting")) = true ∧ Binds K fd ["_law_state", "_law_names", "_law_parts", "_law_cutting_here"] [] := by
  obtain ⟨fd, F⟩ := at__law_no_cutting T
  obtain ⟨fd1, G1, k1, b1⟩ := ok__law_pull T hT
  refine ⟨fd, F.ok sc__law_no_cutting len__law_no_cutting (fun cdv A outer s H vs Q E hr h => ⟨t__law_no_cutting P w K, PSs.nox ?_, rd__law_no_cutting T hT vs H Q E h⟩), F.kp, F.bindsN fun _ _ _ _ _ _ us hl => match us, hl with | [_, _, _, _], _ => rfl⟩
  have hu := hu_of hr
  exact (pss_cons (ps_set (i := 4) sc__law_no_cutting.nd rfl (Or.inl rfl) (pe_callTy call_dictD (by rfl) (f_dict T) bt_dict (pa_cons (pv 3) pa_nil)))
    (pss_cons (ps_set (i := 5) sc__law_no_cutting.nd rfl (Or.inl rfl) (pe_call G1 (hr.mono (by decide)) rfl (m__law_pull T) k1 b1 .nil pass0 (pa_cons (pv 0) (pa_cons pe_int pa_nil))))
    (pss_cons (ps_if (PW.pt (pw_or (pt_cmpR (op_eqD hr.units) (pv 1) (pe_lst pa_nil) (nomark _)) (pw_or1 (pt_cmpR op_eq (pv 5) pe_int (nomark _)))))
      (pss_one (ps_ret (pe_ix ix_list (pe_lst (pa_cons pe_non (pa_cons (pe_lst pa_nil) (pa_cons (pe_lst (pa_cons (pv 3) pa_nil)) (pa_cons (pe_tup (pa_cons (pv 3) pa_nil)) (pa_cons pe_str (pa_cons pe_int (pa_cons pe_bl (pa_cons (pe_disp (pps_cons pe_str pe_int pps_nil) rfl rfl (by simp) (by simp)) (pa_cons (pe_dispN pe_non pe_int) pa_nil)))))))))) (pe_call G1 (hr.mono (by decide)) rfl (m__law_pull T) k1 b1 .nil pass0 (pa_cons (pv 0) (pa_cons pe_int pa_nil))) (fun _ _ => rfl))))
      pss_nil)
    (pss_cons (ps_set (i := 6) sc__law_no_cutting.nd rfl (Or.inl rfl) (pe_ix ix_list (pv 1) (pe_call G1 (hr.mono (by decide)) rfl (m__law_pull T) k1 b1 .nil pass0 (pa_cons (pv 0) (pa_cons (pe_callB call_len (by rfl) (f_len T) bt_len (pa_cons (pv 1) pa_nil)) pa_nil))) (fun _ _ => rfl)))
    (pss_cons (ps_if (pt_cmpR op_eq (pv 5) pe_int (nomark _))
      (pss_one (ps_expr (pe_dpop1 (pv 4) (pv 6) ⟨rfl, rfl, rfl, rfl⟩)))
      (pss_one (ps_if (pt_cmpR op_eq (pv 5) pe_int (nomark _))
        (pss_one (ps_dputO hu (pv 4) (pe_ix ix_list (pe_lst (pa_cons pe_non (pa_cons pe_int (pa_cons (pe_tup (pa_cons pe_str pa_nil)) (pa_cons (pe_op op_add_str (pv 6) pe_str) pa_nil))))) (pe_call G1 (hr.mono (by decide)) rfl (m__law_pull T) k1 b1 .nil pass0 (pa_cons (pv 0) (pa_cons pe_int pa_nil))) (fun _ _ => rfl)) pe_int))
        (pss_one (ps_dput hu (pv 4) (pv 6) (pe_ix ix_list (pe_lst (pa_cons (pv 2) (pa_cons (pe_un un_neg pe_int) (pa_cons pe_non (pa_cons pe_bl (pa_cons pe_bl (pa_cons pe_str (pa_cons (pe_lst (pa_cons pe_int pa_nil)) (pa_cons (pe_tup (pa_cons pe_int pa_nil)) (pa_cons (pe_op op_pow pe_int pe_int) pa_nil)))))))))) (pe_call G1 (hr.mono (by decide)) rfl (m__law_pull T) k1 b1 .nil pass0 (pa_cons (pv 0) (pa_cons pe_int pa_nil))) (fun _ _ => rfl)) rfl)))))
    (pss_one (ps_ret (pv 4))))))))
theorem sc__law_refusal : FnScope N__law_refusal ["_law_web", "_law_rule", "_law_cutting_here", "_law_budget", "_law_way"] (defScope s__law_refusal) := ⟨rfl, rfl, rfl, by decide +kernel, rfl, by decide +kernel, by decide +kernel⟩
theorem ok__law_refusal (T : Tx P w K mg base) (hT : tsp.T = tabsT K) : ∃ fd, FnOk P w K mg base CX0 8 (He.ga K "_law_refusal") fd ["_law_web", "_law_rule", "_law_cutting_here", "_law_budget", "_law_way"] (sp__law_refusal P w K) ∧ PySem.W.keepIn K (.ref (He.ga K "_law_refusal")) = true ∧ Binds K fd ["_law_web", "_law_rule", "_law_cutting_here", "_law_budget", "_law_way"] [] := by
  obtain ⟨fd, F⟩ := at__law_refusal T
  obtain ⟨fd1, G1, k1, b1⟩ := ok_waste_of T hT
  obtain ⟨fd2, G2, k2, b2⟩ := ok_stuck_paper T hT
  obtain ⟨fd3, G3, k3, b3⟩ := ok_shows_stuck T hT
  refine ⟨fd, F.ok sc__law_refusal len__law_refusal (fun cdv A outer s H vs Q E hr h => ⟨t__law_refusal P w K, PSs.nox ?_, rd__law_refusal T hT vs H Q E h⟩), F.kp, F.bindsN fun _ _ _ _ _ _ us hl => match us, hl with | [_, _, _, _, _], _ => rfl⟩
  exact (pss_cons (ps_set (i := 5) sc__law_refusal.nd rfl (Or.inl rfl) pe_non)
    (pss_cons (ps_try_as (i := 6) (tb := fun W => (tIfS (tTest (tOp rEq (tVar 4) (tC (.int 0))))
        (tDrop (tCallS (sp_waste_of P w K) (WE W) (tCons (tVar 0) (tCons (tVar 1) (tCons (tVar 2) tNil)))))
        (tIfS (tTest (tOp rEq (tVar 4) (tC (.int 1))))
          (tDrop (tCallS (sp_stuck_paper P w K) (WE W) (tCons (tVar 0) (tCons (tVar 1) (tCons (tVar 2) (tCons (tVar 3) tNil))))))
          (tDrop (tCallS (sp_shows_stuck P w K) (WE W) (tCons (tVar 0) (tCons (tVar 1) (tCons (tVar 2) (tCons (tVar 3) (tCons (tC .non) tNil)))))))))) (ts := fun xa cls xd => (tSeq (tAsg (tTup (tCons (tC (.str "other")) (tCons (tC .non) tNil))) (gName 5))
      (tIfS (tAnd (tB (tCB (rIsX K xa cls xd) (tCons (tVar 6) (tCons (tC (.ref (He.ga K "NoCutting"))) tNil)))) (tNot (tB (tCB (rIsX K xa cls xd) (tCons (tVar 6) (tCons (tTup (tCons (tC (.ref (He.ga K "NoNumber"))) (tCons (tC (.ref (He.ga K "NoPlace"))) tNil))) tNil))))))
        (tAsg (tTup (tCons (tC (.str "cutting")) (tCons (tXf xa cls xd (He.ga K "NoCutting") "found" (tVar 6)) tNil))) (gName 5))
        (tIfS (tAnd (tB (tCB (rIsX K xa cls xd) (tCons (tVar 6) (tCons (tC (.ref (He.ga K "NoNumber"))) tNil)))) (tNot (tB (tCB (rIsX K xa cls xd) (tCons (tVar 6) (tCons (tC (.ref (He.ga K "NoPlace"))) tNil))))))
          (tAsg (tTup (tCons (tC (.str "number")) (tCons (tXf xa cls xd (He.ga K "NoNumber") "found" (tVar 6)) tNil))) (gName 5))
          tNext)))) rfl rfl sc__law_refusal.nd rfl rfl ⟨rfl, by decide, Or.inl (m_CutError T)⟩ L2.takes0 (fun W pn xe tk _ =>
      (pss_one (ps_if (pt_cmpR op_eq (pv 4) pe_int (nomark _))
        (pss_one (ps_expr (pe_callS G1 (hr.mono (by decide)) rfl (m_waste_of T) k1 b1 (fun σ => passAt tk σ) (pa_cons (pv 0) (pa_cons (pv 1) (pa_cons (pv 2) pa_nil))))))
        (pss_one (ps_if (pt_cmpR op_eq (pv 4) pe_int (nomark _))
          (pss_one (ps_expr (pe_callS G2 (hr.mono (by decide)) rfl (m_stuck_paper T) k2 b2 (fun σ => passAt tk σ) (pa_cons (pv 0) (pa_cons (pv 1) (pa_cons (pv 2) (pa_cons (pv 3) pa_nil)))))))
          (pss_one (ps_expr (pe_callS G3 (hr.mono (by decide)) rfl (m_shows_stuck T) k3 b3 (fun σ => passAt tk σ) (pa_cons (pv 0) (pa_cons (pv 1) (pa_cons (pv 2) (pa_cons (pv 3) (pa_cons pe_non pa_nil))))))))))))) (fun xa oe cls xd pn hz hf =>
      (pss_cons (ps_set (i := 5) sc__law_refusal.nd rfl (Or.inl rfl) (pe_tup (pa_cons pe_str (pa_cons pe_non pa_nil))))
      (pss_one (ps_if (PW.pt (pw_and (pt_val (pe_callB (call_isX hz hf) (by rfl) (f_isinstance T) bt_isinstance (pa_cons (pv 6) (pa_cons (pe_glob rfl (m_NoCutting T) rfl) pa_nil)))) (pw_and1 (pt_not (pt_val (pe_callB (call_isX hz hf) (by rfl) (f_isinstance T) bt_isinstance (pa_cons (pv 6) (pa_cons (pe_tup (pa_cons (pe_glob rfl (m_NoNumber T) rfl) (pa_cons (pe_glob rfl (m_NoPlace T) rfl) pa_nil))) pa_nil))))))))
        (pss_one (ps_set (i := 5) sc__law_refusal.nd rfl (Or.inl rfl) (pe_tup (pa_cons pe_str (pa_cons (pe_xf (xf_NoCutting T) (nf_NoCutting T) hz hf (pv 6)) pa_nil)))))
        (pss_one (ps_if (PW.pt (pw_and (pt_val (pe_callB (call_isX hz hf) (by rfl) (f_isinstance T) bt_isinstance (pa_cons (pv 6) (pa_cons (pe_glob rfl (m_NoNumber T) rfl) pa_nil)))) (pw_and1 (pt_not (pt_val (pe_callB (call_isX hz hf) (by rfl) (f_isinstance T) bt_isinstance (pa_cons (pv 6) (pa_cons (pe_glob rfl (m_NoPlace T) rfl) pa_nil))))))))
          (pss_one (ps_set (i := 5) sc__law_refusal.nd rfl (Or.inl rfl) (pe_tup (pa_cons pe_str (pa_cons (pe_xf (xf_NoNumber T) (nf_NoNumber T) hz hf (pv 6)) pa_nil)))))
          pss_nil)))))))
    (pss_one (ps_ret (pv 5)))))
theorem sc__law_refused : FnScope N__law_refused ["_law_state", "_law_web", "_law_rule", "_law_plan_here", "_law_cutting_here"] (defScope s__law_refused) := ⟨rfl, rfl, rfl, by decide +kernel, rfl, by decide +kernel, by decide +kernel⟩
theorem ok__law_refused (T : Tx P w K mg base) (hT : tsp.T = tabsT K) : ∃ fd, FnOk P w K mg base CX0 9 (He.ga K "_law_refused") fd ["_law_state", "_law_web", "_law_rule", "_law_plan_here", "_law_cutting_here"] (sp__law_refused P w K) ∧ PySem.W.keepIn K (.ref (He.ga K "_law_refused")) = true ∧ Binds K fd ["_law_state", "_law_web", "_law_rule", "_law_plan_here", "_law_cutting_here"] [] := by
  obtain ⟨fd, F⟩ := at__law_refused T
  obtain ⟨fd1, G1, k1, b1⟩ := ok__law_no_cutting T hT
  obtain ⟨fd2, G2, k2, b2⟩ := ok__law_pull T hT
  obtain ⟨fd3, G3, k3, b3⟩ := ok__law_refusal T hT
  refine ⟨fd, F.ok sc__law_refused len__law_refused (fun cdv A outer s H vs Q E hr h => ⟨t__law_refused P w K, PSs.nox ?_, rd__law_refused T hT vs H Q E h⟩), F.kp, F.bindsN fun _ _ _ _ _ _ us hl => match us, hl with | [_, _, _, _, _], _ => rfl⟩
  have hu := hu_of hr
  exact (pss_cons (ps_set (i := 5) sc__law_refused.nd rfl (Or.inl rfl) (pe_call G1 (hr.mono (by decide)) rfl (m__law_no_cutting T) k1 b1 .nil pass0 (pa_cons (pv 0) (pa_cons (pe_dget hu (pv 3) pe_str (fun _ _ => rfl)) (pa_cons (pe_fld (pv 2) rfl) (pa_cons (pv 4) pa_nil))))))
    (pss_cons (ps_set (i := 6) sc__law_refused.nd rfl (Or.inl rfl) (pe_ix ix_list (pe_lst (pa_cons (pe_un un_neg pe_int) (pa_cons pe_int (pa_cons pe_bl (pa_cons pe_bl (pa_cons pe_non (pa_cons pe_str (pa_cons (pe_lst (pa_cons pe_int pa_nil)) (pa_cons (pe_tup (pa_cons pe_int pa_nil)) (pa_cons (pe_op op_pow pe_int pe_int) (pa_cons pe_dnewK pa_nil))))))))))) (pe_call G2 (hr.mono (by decide)) rfl (m__law_pull T) k2 b2 .nil pass0 (pa_cons (pv 0) (pa_cons pe_int pa_nil))) (fun _ _ => rfl)))
    (pss_cons (ps_for PassesOwn.never rfl (pi_range1 rfl (f_range T) (pa_cons pe_int pa_nil)) (pg_name (i := 7) sc__law_refused.nd rfl (Or.inl rfl))
      (pss_cons (ps_if (pt_cmpR (op_neTag hu) (pe_call G3 (hr.mono (by decide)) rfl (m__law_refusal T) k3 b3 .nil pass0 (pa_cons (pv 1) (pa_cons (pv 2) (pa_cons (pv 5) (pa_cons (pv 6) (pa_cons (pv 7) pa_nil)))))) (pe_tup (pa_cons pe_str (pa_cons (pv 5) pa_nil))) (nomark _))
        (pss_one (ps_ret pe_bl))
        pss_nil)
      (pss_one (ps_if (pt_cmpR op_gt (pv 7) pe_int (nomark _))
        (pss_one (ps_if (pt_cmpR (op_neTag hu) (pe_call G3 (hr.mono (by decide)) rfl (m__law_refusal T) k3 b3 .nil pass0 (pa_cons (pv 1) (pa_cons (pv 2) (pa_cons (pv 4) (pa_cons (pv 6) (pa_cons (pv 7) pa_nil)))))) (pe_tup (pa_cons pe_str (pa_cons (pv 6) pa_nil))) (nomark _))
          (pss_one (ps_ret pe_bl))
          pss_nil))
        pss_nil))))
    (pss_one (ps_ret pe_bl)))))
theorem sc_law : FnScope N_law ["_law_script"] (defScope s_law) := ⟨rfl, rfl, rfl, by decide +kernel, rfl, by decide +kernel, by decide +kernel⟩
theorem ok_law (T : Tx P w K mg base) (hT : tsp.T = tabsT K) {fd : FuncData} (F : FunD K d_law.name d_law.qual d_law.params d_law.body d_law.scope (d_law.dvs K) (d_law.kws K) (He.fAd K d_law.at_) fd) : FnOk P w K mg base CX0 10 (He.ga K "law") fd ["_law_script"] (sp_law P w K) ∧ PySem.W.keepIn K (.ref (He.ga K "law")) = true ∧ Binds K fd ["_law_script"] [] := by
  obtain ⟨fd1, G1, k1, b1⟩ := ok__law_cell T hT
  obtain ⟨fd2, G2, k2, b2⟩ := ok__law_begun T hT
  obtain ⟨fd3, G3, k3, b3⟩ := ok__law_plan T hT
  obtain ⟨fd4, G4, k4, b4⟩ := ok__law_made T hT
  obtain ⟨fd5, G5, k5, b5⟩ := ok__law_pull T hT
  obtain ⟨fd6, G6, k6, b6⟩ := ok__law_cutting T hT
  obtain ⟨fd7, G7, k7, b7⟩ := ok__law_tight T hT
  obtain ⟨fd8, G8, k8, b8⟩ := ok_Rule___init__ T hT
  obtain ⟨fd9, G9, k9, b9⟩ := ok__law_right T hT
  obtain ⟨fd10, G10, k10, b10⟩ := ok__law_refused T hT
  refine ⟨F.ok sc_law len_law (fun cdv A outer s H vs Q E hr h => ⟨t_law P w K, PSs.nox ?_, rd_law T hT vs H Q E h⟩), F.kp, F.bindsN fun _ _ _ _ _ _ us hl => match us, hl with | [_], _ => rfl⟩
  have hu := hu_of hr
  exact (pss_cons (ps_for PassesOwn.never rfl (pi_range1 rfl (f_range T) (pa_cons (pe_callB (call_max2 rfl) (by rfl) (f_max T) bt_max (pa_cons pe_int (pa_cons (pe_callB (call_min2 rfl) (by rfl) (f_min T) bt_min (pa_cons pe_int (pa_cons (pe_callB call_len (by rfl) (f_len T) bt_len (pa_cons (pv 0) pa_nil)) pa_nil))) pa_nil))) pa_nil)) (pg_name (i := 1) sc_law.nd rfl (Or.inl rfl))
      (pss_cons (ps_set (i := 2) sc_law.nd rfl (Or.inl rfl) (pe_call G2 (hr.mono (by decide)) rfl (m__law_begun T) k2 b2 .nil pass0 (pa_cons (pe_call G1 (hr.mono (by decide)) rfl (m__law_cell T) k1 b1 .nil pass0 (pa_cons (pv 0) (pa_cons (pv 1) pa_nil))) pa_nil)))
      (pss_cons (ps_set (i := 3) sc_law.nd rfl (Or.inl rfl) (pe_call G3 (hr.mono (by decide)) rfl (m__law_plan T) k3 b3 .nil pass0 (pa_cons (pv 2) (pa_cons pe_int pa_nil))))
      (pss_cons (ps_set (i := 4) sc_law.nd rfl (Or.inl rfl) (pe_call G4 (hr.mono (by decide)) rfl (m__law_made T) k4 b4 .nil pass0 (pa_cons (pv 2) (pa_cons (pv 3) pa_nil))))
      (pss_cons (ps_set (i := 5) sc_law.nd rfl (Or.inl rfl) (pe_op op_add pe_int (pe_call G5 (hr.mono (by decide)) rfl (m__law_pull T) k5 b5 .nil pass0 (pa_cons (pv 2) (pa_cons pe_int pa_nil)))))
      (pss_cons (ps_set (i := 6) sc_law.nd rfl (Or.inl rfl) (pe_call G6 (hr.mono (by decide)) rfl (m__law_cutting T) k6 b6 .nil pass0 (pa_cons (pv 2) (pa_cons (pe_dget hu (pv 3) pe_str (fun _ _ => rfl)) (pa_cons (pv 5) pa_nil)))))
      (pss_cons (ps_set (i := 7) sc_law.nd rfl (Or.inl rfl) (pe_call G7 (hr.mono (by decide)) rfl (m__law_tight T) k7 b7 .nil pass0 (pa_cons (pv 2) (pa_cons (pv 3) (pa_cons (pv 5) (pa_cons (pv 6) pa_nil))))))
      (pss_cons (ps_set (i := 8) sc_law.nd rfl (Or.inl rfl) (pe_make (mk_Rule T) G8 (hr.mono (by decide)) rfl (m_Rule T) b8 .nil pass0 (pa_cons (pv 5) (pa_cons (pe_ix ix_tup (pv 7) pe_int (fun _ _ => rfl)) (pa_cons (pe_ix ix_tup (pv 7) pe_int (fun _ _ => rfl)) pa_nil)))))
      (pss_cons (ps_for PassesOwn.never rfl (pi_list (pe_lst (pa_cons pe_int (pa_cons (pe_call G5 (hr.mono (by decide)) rfl (m__law_pull T) k5 b5 .nil pass0 (pa_cons (pv 2) (pa_cons pe_int pa_nil))) (pa_cons (pe_ix ix_list (pe_lst (pa_cons pe_int (pa_cons pe_int (pa_cons pe_int pa_nil)))) (pe_call G5 (hr.mono (by decide)) rfl (m__law_pull T) k5 b5 .nil pass0 (pa_cons (pv 2) (pa_cons pe_int pa_nil))) (fun _ _ => rfl)) pa_nil))))) (pg_name (i := 9) sc_law.nd rfl (Or.inl rfl))
        (pss_one (ps_if (pt_not (pt_val (pe_call G9 (hr.mono (by decide)) rfl (m__law_right T) k9 b9 .nil pass0 (pa_cons (pv 2) (pa_cons (pv 4) (pa_cons (pv 8) (pa_cons (pv 3) (pa_cons (pv 7) (pa_cons (pv 6) (pa_cons (pv 9) pa_nil))))))))))
          (pss_one (ps_ret pe_bl))
          pss_nil)))
      (pss_one (ps_if (pt_not (pt_val (pe_call G10 (hr.mono (by decide)) rfl (m__law_refused T) k10 b10 .nil pass0 (pa_cons (pv 2) (pa_cons (pv 4) (pa_cons (pv 8) (pa_cons (pv 3) (pa_cons (pv 6) pa_nil))))))))
        (pss_one (ps_ret pe_bl))
        pss_nil)))))))))))
    (pss_one (ps_ret pe_bl)))
end
end EvC
set_option Elab.async false
set_option linter.all false
set_option maxRecDepth 100000
set_option maxHeartbeats 0
namespace EvC
open PySem PySem.Spec PyProof.Rows L2 DL
theorem tabs_empty {K : PySem.W.Frag} {H : Hp} (h : ∀ p ∈ cs K, H p.2 = some (.tbl #[])) : LamX.Tabs (tabsT K) H := fun p hp => by
  obtain rfl := List.mem_singleton.mp hp
  exact ⟨#[], h _ (List.mem_map.mpr ⟨("heaviest", none), by decide, rfl⟩), trivial, fun pos cv hc => by cases hc⟩
theorem atLaw {P : Program} {w : World} {K : PySem.W.Frag} {h : Heap} {mg : Str → Option Value} {fa' : Addr} {l : PySem.W.OpenLaw} (X : K.In h) (G : h.Ns mainGlobals mg) (c : SaysF fa fn tf ex h K) (hfa : mg ("law" : Str) = some (.ref fa')) (hP : l.prog = P) : LamX.LawAtS l w K L2.CX0 10 63 "_law_script" mg fa' h := by
  subst hP
  letI : TabSpec := ⟨tabsT K⟩
  obtain ⟨fd, F⟩ := c.d.def_ 48 (d := d_law) rfl
  have hm : mg ("law" : Str) = some (.ref (He.ga K "law")) := He.glo_ok X G (c.d.fact 34 (f := .glo "law") rfl)
  have e := hfa.symm.trans hm
  cases e
  have nT : K.lookup (He.cT K ("heaviest", none)).2 = none := of_decide_eq_true (He.ba (He.ba (He.ba (He.ba (He.ba (He.ba (He.ba (He.ba (He.ba c.x).2).2).2).2).2).2).2).2).1
  refine ⟨fd, cs K, sp_law l.prog w K, fun p hp => ?_, fun p hp => ?_, fun p hp => ?_, ?_, fun H a ns hl _ hH hS => ?_, fun base hb hn hT => ?_⟩
  · obtain ⟨q, hq, rfl⟩ := List.mem_map.mp hp
    exact c.empty q hq
  · obtain ⟨q, hq, rfl⟩ := List.mem_map.mp hp
    obtain rfl := List.mem_singleton.mp hq
    exact nT
  · obtain ⟨q, hq, rfl⟩ := List.mem_map.mp hp
    exact PySem.W.codeHd_of_K X (c.hd q hq)
  · have b := FunD.bindsA (ps := ["_law_script"]) F fun _ _ _ _ _ _ us hl => match us, hl with | [_], _ => rfl
    exact fun s v => b s [v] rfl
  · have tb := tabs_empty hH
    rcases hS with hS | hS
    · have hnt : ∀ ps, H a ≠ some (.tbl ps) := fun ps z => by
        rcases hS with q | ⟨o, q⟩ <;> rw [z] at q <;> cases q
      let G0 : Hp := fun b => if b = a then H a else none
      have ga : G0 a = H a := if_pos rfl
      refine ⟨ns, G0, ⟨fun b o z => ?_, fun b ps z => ?_, tb⟩, .cons ⟨a, _, rfl, .inl ?_, ints_reps ns⟩ .nil, by omega, fun v G' H' x q => q⟩
      · by_cases y : b = a
        · subst y; rw [← ga]; exact z
        · have : G0 b = none := if_neg y
          rw [this] at z; cases z
      · by_cases y : b = a
        · subst y; rw [ga] at z; exact hnt ps z
        · have : G0 b = none := if_neg y
          rw [this] at z; cases z
      · rcases hS with q | ⟨o, q⟩
        · exact .inl (ga.trans q)
        · exact .inr ⟨o, ga.trans q⟩
    · exact ⟨ns, fun _ => none, ⟨fun b o z => (nomatch z), fun b ps z => (nomatch z), tb⟩, .cons ⟨a, _, rfl, .inr hS, ints_reps ns⟩ .nil, by omega, fun v G' H' x q => q⟩
  · have T : Tx l.prog w K mg base := ⟨h, X, G, c, hT⟩
    exact (ok_law T rfl F).1
end EvC
open PySem PySem.W PySem.Calls PyProof.Rows
theorem PySem.Challenge.cw_evencut_k80_waste_and_papers_holds : PySem.Challenge.rw_evencut_k80_waste_and_papers.Holds := by
  w_on; o_law
  refine HandSHeadRun.head_any (r := EvC.Rw) (q := view EvC.Rw.prog [69]) (H := EvC.hk) (ob := EvC.ob) (M := 40000) (loose := EvC.loose) (d := HandSHeadRun.topDef EvC.Rw.prog 69) (kwd := []) EvC.ob_eq (by kernel_rfl) (fun s => by kernel_rfl) EvC.run (by kernel_rfl) (by kernel_rfl) (by kernel_rfl) (by rfl) (by first | assumption | decide +kernel) (by decide +kernel) ⟨rfl, rfl, rfl, rfl, rfl, by decide +kernel⟩ ?hw ?hc
  case hw => w_witness2
  case hc =>
    refine LamX.walk_ofTsE (l := PySem.Challenge.rw_evencut_k80_waste_and_papers) (n := 63) (k := 10) (x := "_law_script") (CX := fun _ => L2.CX0) rfl (by decide) (by kernel_rfl) ⟨rfl, by decide, by decide⟩ ?F (fun _ _ _ _ _ z => z)
    intro w mg fa h Y G hmg0
    obtain ⟨K, KX, c⟩ := Y
    have hmg : mg ("law" : PySem.Str) = some (.ref fa) := by
      have e : (HandSHeadRun.topDef EvC.Rw.prog 69).name = ("law" : PySem.Str) := by kernel_rfl
      rw [← e]
      exact hmg0
    exact ⟨K, KX, EvC.atLaw (P := (PySem.Challenge.rw_evencut_k80_waste_and_papers).prog) KX G c hmg rfl⟩
