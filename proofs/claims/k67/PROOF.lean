import PyProof.Rows.All
import Wide.All
import OpenK.AllK
import Wide.FinOn
import HandS.ForMost
import HandS.Walk
import HandS.TupAny
import HandS.Zip
import HandS.IsInst
import HandS.SortInts
import HandS.Style
import HandS.Steps
import HandS.TupMul
import HandS.RaiseMore
import HandS.SetFor
import HandS.Strs
import KE.DataMinMax
import KE.GoesEnum
import PySem.Challenge.RW_membersheld_k67_whole_least_waits
set_option Elab.async false
set_option linter.all false
set_option maxRecDepth 100000
set_option maxHeartbeats 4000000
/-! Pl: values of plain data over the hand layer, the heap hidden. -/
namespace Pl
open PySem PySem.Spec PyProof.Rows L2
abbrev Dt := PyData
abbrev MS := Addr → Prop

/-! ### what stands for a datum -/
mutual
inductive Hd (K : PySem.W.Frag) (M : MS) (H : Hp) : V → Dt → Prop
  | non : Hd K M H .non .none
  | bl (b : Bool) : Hd K M H (.bl b) (.bool b)
  | int (i : Int) : Hd K M H (.int i) (.int i)
  | str (x : Str) : Hd K M H (.str x) (.str x)
  | lst {a : Addr} {xs : List V} {ds : List Dt} : ¬ M a → H a = some (.lst xs) → HdAll K M H xs ds → Hd K M H (.ref a) (.list ds)
  | tup {a : Addr} {xs : List V} {ds : List Dt} : SqT K H a xs → HdAll K M H xs ds → Hd K M H (.ref a) (.tuple ds)
inductive HdAll (K : PySem.W.Frag) (M : MS) (H : Hp) : List V → List Dt → Prop
  | nil : HdAll K M H [] []
  | cons {v : V} {vs : List V} {d : Dt} {ds : List Dt} : Hd K M H v d → HdAll K M H vs ds → HdAll K M H (v :: vs) (d :: ds)
end
section
variable {K : PySem.W.Frag} {M M' : MS} {H H' : Hp}
mutual
theorem Hd.imp (hl : ∀ a xs, ¬ M a → H a = some (.lst xs) → ¬ M' a ∧ H' a = some (.lst xs)) (ht : ∀ a xs, SqT K H a xs → SqT K H' a xs) : ∀ (d : Dt) (v : V), Hd K M H v d → Hd K M' H' v d
  | .none, _, h => by cases h; exact .non
  | .bool b, _, h => by cases h; exact .bl b
  | .int i, _, h => by cases h; exact .int i
  | .str x, _, h => by cases h; exact .str x
  | .list ds, _, h => by
    cases h with
    | lst n r ha => exact .lst (hl _ _ n r).1 (hl _ _ n r).2 (HdAll.imp hl ht ds _ ha)
  | .tuple ds, _, h => by
    cases h with
    | tup r ha => exact .tup (ht _ _ r) (HdAll.imp hl ht ds _ ha)
  | .dict _, _, h => by cases h
theorem HdAll.imp (hl : ∀ a xs, ¬ M a → H a = some (.lst xs) → ¬ M' a ∧ H' a = some (.lst xs)) (ht : ∀ a xs, SqT K H a xs → SqT K H' a xs) : ∀ (ds : List Dt) (vs : List V), HdAll K M H vs ds → HdAll K M' H' vs ds
  | [], _, h => by cases h; exact .nil
  | d :: ds, _, h => by
    cases h with
    | cons h1 h2 => exact .cons (Hd.imp hl ht d _ h1) (HdAll.imp hl ht ds _ h2)
end
/- no list in it -/
mutual
def nl : Dt → Bool
  | .none | .bool _ | .int _ | .str _ => true
  | .list _ | .dict _ => false
  | .tuple ds => nlAll ds
def nlAll : List Dt → Bool
  | [] => true
  | d :: ds => nl d && nlAll ds
end
mutual
theorem Hd.nl : ∀ (d : Dt) (v : V), nl d = true → Hd K M H v d → Hd K M' H v d
  | .none, _, _, h => by cases h; exact .non
  | .bool b, _, _, h => by cases h; exact .bl b
  | .int i, _, _, h => by cases h; exact .int i
  | .str x, _, _, h => by cases h; exact .str x
  | .list ds, _, n, h => by rw [Pl.nl] at n; cases n
  | .tuple ds, _, n, h => by
    rw [Pl.nl] at n
    cases h with
    | tup r ha => exact .tup r (HdAll.nl ds _ n ha)
  | .dict _, _, _, h => by cases h
theorem HdAll.nl : ∀ (ds : List Dt) (vs : List V), nlAll ds = true → HdAll K M H vs ds → HdAll K M' H vs ds
  | [], _, _, h => by cases h; exact .nil
  | d :: ds, _, n, h => by
    rw [nlAll, Bool.and_eq_true] at n
    cases h with
    | cons h1 h2 => exact .cons (Hd.nl d _ n.1 h1) (HdAll.nl ds _ n.2 h2)
end
mutual
theorem Hd.dp : ∀ (d : Dt) (v : V), Hd K M H v d → Dp K H v d
  | .none, _, h => by cases h; exact .non
  | .bool b, _, h => by cases h; exact .bl b
  | .int i, _, h => by cases h; exact .int i
  | .str x, _, h => by cases h; exact .str x
  | .list ds, _, h => by
    cases h with
    | lst n r ha => exact .lst (.inl (.inl r)) (HdAll.dp ds _ ha)
  | .tuple ds, _, h => by
    cases h with
    | tup r ha => exact .tup r (HdAll.dp ds _ ha)
  | .dict _, _, h => by cases h
theorem HdAll.dp : ∀ (ds : List Dt) (vs : List V), HdAll K M H vs ds → DpAll K H vs ds
  | [], _, h => by cases h; exact .nil
  | d :: ds, _, h => by
    cases h with
    | cons h1 h2 => exact .cons (Hd.dp d _ h1) (HdAll.dp ds _ h2)
end
theorem HdAll.length : ∀ {vs : List V} {ds : List Dt}, HdAll K M H vs ds → vs.length = ds.length
  | _, [], h => by cases h; rfl
  | _, d :: ds, h => by
    cases h with
    | cons _ h2 => rw [List.length_cons, List.length_cons, HdAll.length h2]
theorem HdAll.get' : ∀ (ds : List Dt) (vs : List V) (i : Nat) (d : Dt), HdAll K M H vs ds → ds[i]? = some d → ∃ v, vs[i]? = some v ∧ Hd K M H v d
  | [], _, _, _, h, e => by simp at e
  | d :: ds, _, 0, _, h, e => by
    cases h with
    | cons h1 _ =>
      rw [List.getElem?_cons_zero] at e
      cases e
      exact ⟨_, rfl, h1⟩
  | d :: ds, _, i + 1, x, h, e => by
    cases h with
    | cons _ h2 =>
      rw [List.getElem?_cons_succ] at e
      obtain ⟨v, h3, h4⟩ := HdAll.get' ds _ i x h2 e
      exact ⟨v, by rw [List.getElem?_cons_succ]; exact h3, h4⟩
theorem HdAll.get {vs : List V} {ds : List Dt} {i : Nat} {d : Dt} (h : HdAll K M H vs ds) (e : ds[i]? = some d) : ∃ v, vs[i]? = some v ∧ Hd K M H v d := HdAll.get' ds vs i d h e
theorem HdAll.getV {vs : List V} {ds : List Dt} {i : Nat} {v : V} (h : HdAll K M H vs ds) (e : vs[i]? = some v) : ∃ d, ds[i]? = some d ∧ Hd K M H v d := by
  have hi : i < vs.length := (List.getElem?_eq_some_iff.mp e).1
  have hi' : i < ds.length := by rw [← h.length]; exact hi
  obtain ⟨w, h1, h2⟩ := h.get (i := i) (d := ds[i]) (by simp [hi'])
  rw [e] at h1
  cases h1
  exact ⟨_, by simp [hi'], h2⟩
theorem HdAll.append : ∀ {vs ws : List V} {ds es : List Dt}, HdAll K M H vs ds → HdAll K M H ws es → HdAll K M H (vs ++ ws) (ds ++ es)
  | _, _, [], _, h, g => by cases h; exact g
  | _, _, d :: ds, _, h, g => by
    cases h with
    | cons h1 h2 => exact .cons h1 (HdAll.append h2 g)
theorem HdAll.take : ∀ (n : Nat) {vs : List V} {ds : List Dt}, HdAll K M H vs ds → HdAll K M H (vs.take n) (ds.take n)
  | 0, _, _, _ => by simpa using HdAll.nil
  | n + 1, _, [], h => by cases h; exact .nil
  | n + 1, _, d :: ds, h => by
    cases h with
    | cons h1 h2 => exact .cons h1 (HdAll.take n h2)
theorem HdAll.drop : ∀ (n : Nat) {vs : List V} {ds : List Dt}, HdAll K M H vs ds → HdAll K M H (vs.drop n) (ds.drop n)
  | 0, _, _, h => h
  | n + 1, _, [], h => by cases h; exact .nil
  | n + 1, _, d :: ds, h => by
    cases h with
    | cons _ h2 => exact HdAll.drop n h2
theorem HdAll.mapI : ∀ (ns : List Int), HdAll K M H (ns.map V.int) (ns.map PyData.int)
  | [] => .nil
  | n :: ns => .cons (.int n) (HdAll.mapI ns)
theorem HdAll.ofI : ∀ (ns : List Int) (vs : List V), HdAll K M H vs (ns.map PyData.int) → vs = ns.map V.int
  | [], _, h => by cases h; rfl
  | n :: ns, _, h => by
    cases h with
    | cons h1 h2 =>
      cases h1
      rw [HdAll.ofI ns _ h2] <;> rfl
theorem HdAll.ofB : ∀ (ns : List Bool) (vs : List V), HdAll K M H vs (ns.map PyData.bool) → vs = ns.map V.bl
  | [], _, h => by cases h; rfl
  | n :: ns, _, h => by
    cases h with
    | cons h1 h2 =>
      cases h1
      rw [HdAll.ofB ns _ h2] <;> rfl
theorem HdAll.ofS : ∀ (ns : List Str) (vs : List V), HdAll K M H vs (ns.map PyData.str) → vs = ns.map V.str
  | [], _, h => by cases h; rfl
  | n :: ns, _, h => by
    cases h with
    | cons h1 h2 =>
      cases h1
      rw [HdAll.ofS ns _ h2] <;> rfl
theorem HdAll.mapS : ∀ (ns : List Str), HdAll K M H (ns.map V.str) (ns.map PyData.str)
  | [] => .nil
  | n :: ns => .cons (.str n) (HdAll.mapS ns)
theorem Hd.mono (hm : ∀ a, M' a → M a) {d : Dt} {v : V} (h : Hd K M H v d) : Hd K M' H v d := Hd.imp (fun a _ n r => ⟨fun z => n (hm a z), r⟩) (fun _ _ r => r) d v h
theorem HdAll.mono (hm : ∀ a, M' a → M a) {ds : List Dt} {vs : List V} (h : HdAll K M H vs ds) : HdAll K M' H vs ds := HdAll.imp (fun a _ n r => ⟨fun z => n (hm a z), r⟩) (fun _ _ r => r) ds vs h
end

/-! ### the cup, and heaps that go on -/
def Cup (H : Hp) (c : Addr) : Prop := ∃ x y : Int, H c = some (.lst [.int x, .int y]) ∧ 0 ≤ x ∧ 0 ≤ y ∧ y < 2147483648
def CupOk (cu : Option Addr) (H : Hp) : Prop := ∀ c, cu = some c → Cup H c
def Ext (cu : Option Addr) (H H' : Hp) : Prop := ∀ a o, cu ≠ some a → H a = some o → H' a = some o
def Mc (cu : Option Addr) : MS := fun a => cu = some a
section
variable {K : PySem.W.Frag} {cu : Option Addr} {H H' H1 H2 : Hp}
theorem Ext.refl (cu : Option Addr) (H : Hp) : Ext cu H H := fun _ _ _ h => h
theorem Ext.trans (a : Ext cu H H1) (b : Ext cu H1 H2) : Ext cu H H2 := fun x o n h => b x o n (a x o n h)
theorem Ext.new {p : Addr} {o : HO} (h : H p = none) : Ext cu H (upd H p o) := fun a u _ e => by
  rw [upd_ne (ne_of_none e h)]
  exact e
theorem CupOk.new {p : Addr} {o : HO} (hc : CupOk cu H) (h : H p = none) : CupOk cu (upd H p o) := fun c e => by
  obtain ⟨x, y, h1, h2⟩ := hc c e
  exact ⟨x, y, by rw [upd_ne (ne_of_none h1 h)]; exact h1, h2⟩
theorem Ext.back {p : Addr} (e : Ext cu H H') (hp : H' p = none) (hc : CupOk cu H') : H p = none := by
  cases h : H p with
  | none => rfl
  | some o =>
    by_cases q : cu = some p
    · obtain ⟨x, y, h1, _⟩ := hc p q
      rw [h1] at hp
      cases hp
    · rw [e p o q h] at hp
      cases hp
theorem cup_ne_tup {a : Addr} {xs : List V} (hc : CupOk cu H) (h : H a = some (.tup xs)) : cu ≠ some a := fun e => by
  obtain ⟨x, y, h1, _⟩ := hc a e
  rw [h1] at h
  cases h
theorem cup_ne_frz {a : Addr} {o : Obj} {u : HO} (hc : CupOk cu H) (h : H a = some (.frz o u)) : cu ≠ some a := fun e => by
  obtain ⟨x, y, h1, _⟩ := hc a e
  rw [h1] at h
  cases h
theorem cup_ne_none {a : Addr} (hc : CupOk cu H) (h : H a = none) : cu ≠ some a := fun e => by
  obtain ⟨x, y, h1, _⟩ := hc a e
  rw [h1] at h
  cases h
theorem Ext.sqT {a : Addr} {xs : List V} (e : Ext cu H H') (hc : CupOk cu H) (h : SqT K H a xs) : SqT K H' a xs := by
  rcases h with (h | ⟨o, h⟩) | h
  · exact .inl (.inl (e _ _ (cup_ne_tup hc h) h))
  · exact .inl (.inr ⟨o, e _ _ (cup_ne_frz hc h) h⟩)
  · exact .inr h
theorem Hd.ext {M : MS} {d : Dt} {v : V} (hm : ∀ a, cu = some a → M a) (hc : CupOk cu H) (e : Ext cu H H') (h : Hd K M H v d) : Hd K M H' v d :=
  Hd.imp (fun a xs n r => ⟨n, e _ _ (fun z => n (hm a z)) r⟩) (fun a xs r => e.sqT hc r) d v h
theorem HdAll.ext {M : MS} {ds : List Dt} {vs : List V} (hm : ∀ a, cu = some a → M a) (hc : CupOk cu H) (e : Ext cu H H') (h : HdAll K M H vs ds) : HdAll K M H' vs ds :=
  HdAll.imp (fun a xs n r => ⟨n, e _ _ (fun z => n (hm a z)) r⟩) (fun a xs r => e.sqT hc r) ds vs h
theorem Hd.extC {d : Dt} {v : V} (hc : CupOk cu H) (e : Ext cu H H') (h : Hd K (Mc cu) H v d) : Hd K (Mc cu) H' v d := h.ext (fun _ z => z) hc e
theorem HdAll.extC {ds : List Dt} {vs : List V} (hc : CupOk cu H) (e : Ext cu H H') (h : HdAll K (Mc cu) H vs ds) : HdAll K (Mc cu) H' vs ds := h.ext (fun _ z => z) hc e
end

/-! ### states -/
structure Er where
  cls : Value
  fs : Option (List (Str × Dt))
structure Cxt where
  K : PySem.W.Frag
  cu : Option Addr
  E : XK
  er : Er → Prop
inductive AV where
  | dat (d : Dt)
  | own (ds : List Dt)
  | cup
abbrev AEnv := List (Option AV)
def ErHd (K : PySem.W.Frag) (M : MS) (H : Hp) (e : Er) (cls : Value) (dd : Option Addr) : Prop :=
  cls = e.cls ∧ match e.fs, dd with
    | none, none => True
    | some fs, some a => ∃ gs : List (Str × V), H a = some (.xd gs) ∧ gs.map (·.1) = fs.map (·.1) ∧ HdAll K M H (gs.map (·.2)) (fs.map (·.2))
    | _, _ => False
def isOwn (ρ : AEnv) (i : Nat) : Prop := ∃ ds, ρ[i]? = some (some (.own ds))
def Mo (cu : Option Addr) (ρ : AEnv) (σ : L2.St) : MS := fun a => cu = some a ∨ ∃ i, isOwn ρ i ∧ σ[i]? = some (some (.ref a))
def AHd (C : Cxt) (M : MS) (H : Hp) (v : V) : AV → Prop
  | .dat d => Hd C.K M H v d
  | .own ds => ∃ p vs, v = .ref p ∧ H p = some (.lst vs) ∧ HdAll C.K M H vs ds
  | .cup => ∃ c, C.cu = some c ∧ v = .ref c
def ErrOk (C : Cxt) (H0 : Hp) : Prop := ∀ e cls dd H', C.er e → Ext C.cu H0 H' → CupOk C.cu H' → ErHd C.K (Mc C.cu) H' e cls dd → C.E cls dd H'
structure Rep (C : Cxt) (H0 : Hp) (ρ : AEnv) (σ : L2.St) (H : Hp) : Prop where
  len : σ.length = ρ.length
  slot : ∀ (i : Nat) (a : AV), ρ[i]? = some (some a) → ∃ v, σ[i]? = some (some v) ∧ AHd C (Mo C.cu ρ σ) H v a
  uniq : ∀ (i j : Nat) (p : Addr), isOwn ρ i → isOwn ρ j → σ[i]? = some (some (.ref p)) → σ[j]? = some (some (.ref p)) → i = j
  own0 : ∀ (i : Nat) (p : Addr), isOwn ρ i → σ[i]? = some (some (.ref p)) → H0 p = none
  ext : Ext C.cu H0 H
  cup0 : CupOk C.cu H0
  cup : CupOk C.cu H
  err : ErrOk C H0
section
variable {C : Cxt} {H0 H H' : Hp} {ρ : AEnv} {σ : L2.St}
theorem AHd.ext {M : MS} {a : AV} {v : V} (hm : ∀ a, C.cu = some a → M a) (hc : CupOk C.cu H) (e : Ext C.cu H H') (h : AHd C M H v a) (ho : ∀ p, v = .ref p → (∃ ds, a = .own ds) → C.cu ≠ some p) : AHd C M H' v a := by
  cases a with
  | dat d => exact Hd.ext hm hc e h
  | own ds =>
    obtain ⟨p, vs, rfl, h1, h2⟩ := h
    exact ⟨p, vs, rfl, e _ _ (ho p rfl ⟨ds, rfl⟩) h1, h2.ext hm hc e⟩
  | cup => exact h
theorem Rep.ownNe (r : Rep C H0 ρ σ H) {i : Nat} {p : Addr} (h : isOwn ρ i) (e : σ[i]? = some (some (.ref p))) : C.cu ≠ some p := cup_ne_none r.cup0 (r.own0 i p h e)
theorem Rep.to (r : Rep C H0 ρ σ H) (e : Ext C.cu H H') (hc : CupOk C.cu H') : Rep C H0 ρ σ H' where
  len := r.len
  slot := fun i a h => by
    obtain ⟨v, h1, h2⟩ := r.slot i a h
    refine ⟨v, h1, h2.ext (fun _ z => .inl z) r.cup e fun p hp ⟨ds, hd⟩ => ?_⟩
    subst hp hd
    exact r.ownNe ⟨ds, h⟩ h1
  uniq := r.uniq
  own0 := r.own0
  ext := r.ext.trans e
  cup0 := r.cup0
  cup := hc
  err := r.err
end

/-- the addresses that a datum's lists may not have: m: all lists that the frame may change; else the cup alone -/
def Mm (m : Bool) (cu : Option Addr) (ρ : AEnv) (σ : L2.St) : MS := match m with
  | true => Mo cu ρ σ
  | false => Mc cu
theorem Mm_c {m : Bool} {cu : Option Addr} {ρ : AEnv} {σ : L2.St} {a : Addr} (h : cu = some a) : Mm m cu ρ σ a := by
  cases m with
  | true => exact .inl h
  | false => exact h
theorem Rep.lst {C : Cxt} {H0 H : Hp} {ρ : AEnv} {σ : L2.St} (r : Rep C H0 ρ σ H) {m : Bool} {a : Addr} (h : Mm m C.cu ρ σ a) : ∃ xs, H a = some (.lst xs) := by
  have hc : C.cu = some a → ∃ xs, H a = some (.lst xs) := fun e => by
    obtain ⟨x, y, h1, _⟩ := r.cup a e
    exact ⟨_, h1⟩
  cases m with
  | false => exact hc h
  | true =>
    rcases h with h | ⟨i, ⟨ds, hi⟩, hs⟩
    · exact hc h
    · obtain ⟨v, h1, p, vs, rfl, h2, _⟩ := r.slot i _ hi
      rw [h1] at hs
      cases hs
      exact ⟨_, h2⟩
theorem Rep.off {C : Cxt} {H0 H : Hp} {ρ : AEnv} {σ : L2.St} (r : Rep C H0 ρ σ H) {m : Bool} {a : Addr} (h : H a = none) : ¬ Mm m C.cu ρ σ a := fun z => by
  obtain ⟨xs, e⟩ := r.lst z
  rw [h] at e
  cases e

/-! ### what evaluates to what -/
section
variable (C : Cxt)
def EE (m : Bool) (te : TE) (ρ : AEnv) (k : Dt → Prop) : Prop := ∀ (H0 : Hp) (σ : L2.St) (H : Hp) (Q : VK), Rep C H0 ρ σ H →
  (∀ v d H', k d → Ext C.cu H H' → CupOk C.cu H' → Hd C.K (Mm m C.cu ρ σ) H' v d → Q v H') → te σ H Q
/-- a new list -/
def EL (m : Bool) (te : TE) (ρ : AEnv) (k : List Dt → Prop) : Prop := ∀ (H0 : Hp) (σ : L2.St) (H : Hp) (Q : VK), Rep C H0 ρ σ H →
  (∀ p vs ds H', k ds → Ext C.cu H H' → CupOk C.cu H' → H p = none → H' p = some (.lst vs) → HdAll C.K (Mm m C.cu ρ σ) H' vs ds → Q (.ref p) H') → te σ H Q
def ET (tt : TT) (ρ : AEnv) (k : Bool → Prop) : Prop := ∀ (H0 : Hp) (σ : L2.St) (H : Hp) (Q : Bool → Hp → Prop), Rep C H0 ρ σ H →
  (∀ b H', k b → Ext C.cu H H' → CupOk C.cu H' → Q b H') → tt σ H Q
/-- arguments: data, or the cup -/
inductive Arg where
  | dat (d : Dt)
  | cup
def ArgHd (K : PySem.W.Frag) (cu : Option Addr) (H : Hp) (v : V) : Arg → Prop
  | .dat d => Hd K (Mc cu) H v d
  | .cup => ∃ c, cu = some c ∧ v = .ref c
inductive ArgsHd (K : PySem.W.Frag) (cu : Option Addr) (H : Hp) : List V → List Arg → Prop
  | nil : ArgsHd K cu H [] []
  | cons {v : V} {vs : List V} {a : Arg} {as : List Arg} : ArgHd K cu H v a → ArgsHd K cu H vs as → ArgsHd K cu H (v :: vs) (a :: as)
def EA (ta : TA) (ρ : AEnv) (k : List Arg → Prop) : Prop := ∀ (H0 : Hp) (σ : L2.St) (H : Hp) (Q : List V → Hp → Prop), Rep C H0 ρ σ H →
  (∀ vs as H', k as → Ext C.cu H H' → CupOk C.cu H' → ArgsHd C.K C.cu H' vs as → Q vs H') → ta σ H Q
/-- a list of data -/
def ED (m : Bool) (ta : TA) (ρ : AEnv) (k : List Dt → Prop) : Prop := ∀ (H0 : Hp) (σ : L2.St) (H : Hp) (Q : List V → Hp → Prop), Rep C H0 ρ σ H →
  (∀ vs ds H', k ds → Ext C.cu H H' → CupOk C.cu H' → HdAll C.K (Mm m C.cu ρ σ) H' vs ds → Q vs H') → ta σ H Q
/-- an operation on two values, a call on values -/
def AR (r : R2) (x y : Dt) (k : Dt → Prop) : Prop := ∀ (M : MS), (∀ a, C.cu = some a → M a) → ∀ (v w : V) (H : Hp) (Q : VK), CupOk C.cu H → Hd C.K M H v x → Hd C.K M H w y →
  (∀ u d H', k d → Ext C.cu H H' → CupOk C.cu H' → Hd C.K M H' u d → Q u H') → r v w H Q
def ARL (r : R2) (x y : Dt) (k : List Dt → Prop) : Prop := ∀ (M : MS), (∀ a, C.cu = some a → M a) → ∀ (v w : V) (H : Hp) (Q : VK), CupOk C.cu H → Hd C.K M H v x → Hd C.K M H w y →
  (∀ p vs ds H', k ds → Ext C.cu H H' → CupOk C.cu H' → H p = none → H' p = some (.lst vs) → HdAll C.K M H' vs ds → Q (.ref p) H') → r v w H Q
def AU (r : V → Hp → VK → Prop) (x : Dt) (k : Dt → Prop) : Prop := ∀ (M : MS), (∀ a, C.cu = some a → M a) → ∀ (v : V) (H : Hp) (Q : VK), CupOk C.cu H → Hd C.K M H v x →
  (∀ u d H', k d → Ext C.cu H H' → CupOk C.cu H' → Hd C.K M H' u d → Q u H') → r v H Q
def AC (r : List V → Hp → VK → Prop) (xs : List Dt) (k : Dt → Prop) : Prop := ∀ (M : MS), (∀ a, C.cu = some a → M a) → ∀ (vs : List V) (H : Hp) (Q : VK), CupOk C.cu H → HdAll C.K M H vs xs →
  (∀ u d H', k d → Ext C.cu H H' → CupOk C.cu H' → Hd C.K M H' u d → Q u H') → r vs H Q
def ACL (r : List V → Hp → VK → Prop) (xs : List Dt) (k : List Dt → Prop) : Prop := ∀ (M : MS), (∀ a, C.cu = some a → M a) → ∀ (vs : List V) (H : Hp) (Q : VK), CupOk C.cu H → HdAll C.K M H vs xs →
  (∀ p us ds H', k ds → Ext C.cu H H' → CupOk C.cu H' → H p = none → H' p = some (.lst us) → HdAll C.K M H' us ds → Q (.ref p) H') → r vs H Q
end
section
variable {C : Cxt} {m : Bool} {te ta tb : TE} {ρ : AEnv} {k : Dt → Prop}
theorem Rep.datM {H0 H : Hp} {σ : L2.St} (r : Rep C H0 ρ σ H) {i : Nat} {d : Dt} (h : ρ[i]? = some (some (.dat d))) : ∃ v, σ[i]? = some (some v) ∧ Hd C.K (Mm m C.cu ρ σ) H v d := by
  obtain ⟨v, h1, h2⟩ := r.slot i _ h
  refine ⟨v, h1, ?_⟩
  cases m with
  | true => exact h2
  | false => exact Hd.mono (fun a z => .inl z) h2
theorem ee_var {i : Nat} {d : Dt} (h : ρ[i]? = some (some (.dat d))) (hk : k d) : EE C m (tVar i) ρ k := fun H0 σ H Q r q => by
  obtain ⟨v, h1, h2⟩ := r.datM (m := m) h
  exact ⟨v, h1, q v d H hk (Ext.refl _ _) r.cup h2⟩
theorem ee_own {i : Nat} {ds : List Dt} (h : ρ[i]? = some (some (.own ds))) (hk : k (.list ds)) : EE C false (tVar i) ρ k := fun H0 σ H Q r q => by
  obtain ⟨v, h1, p, vs, rfl, h2, h3⟩ := r.slot i _ h
  exact ⟨_, h1, q _ _ H hk (Ext.refl _ _) r.cup (.lst (r.ownNe ⟨ds, h⟩ h1) h2 (h3.mono fun a z => .inl z))⟩
theorem ee_weak (h : EE C false te ρ fun d => nl d = true ∧ k d) : EE C true te ρ k := fun H0 σ H Q r q =>
  h H0 σ H Q r fun v d H' ⟨n, hk⟩ e c hv => q v d H' hk e c (Hd.nl d v n hv)
theorem ee_int {i : Int} (hk : k (.int i)) : EE C m (tC (.int i)) ρ k := fun H0 σ H Q r q => q _ _ H hk (Ext.refl _ _) r.cup (.int i)
theorem ee_bl {b : Bool} (hk : k (.bool b)) : EE C m (tC (.bl b)) ρ k := fun H0 σ H Q r q => q _ _ H hk (Ext.refl _ _) r.cup (.bl b)
theorem ee_str {x : Str} (hk : k (.str x)) : EE C m (tC (.str x)) ρ k := fun H0 σ H Q r q => q _ _ H hk (Ext.refl _ _) r.cup (.str x)
theorem ee_non (hk : k .none) : EE C m (tC .non) ρ k := fun H0 σ H Q r q => q _ _ H hk (Ext.refl _ _) r.cup .non
theorem EE.imp {k' : Dt → Prop} (h : EE C m te ρ k) (hi : ∀ d, k d → k' d) : EE C m te ρ k' := fun H0 σ H Q r q => h H0 σ H Q r fun v d H' hk => q v d H' (hi d hk)
theorem EL.imp {k k' : List Dt → Prop} (h : EL C m te ρ k) (hi : ∀ d, k d → k' d) : EL C m te ρ k' := fun H0 σ H Q r q => h H0 σ H Q r fun p vs ds H' hk => q p vs ds H' (hi ds hk)
theorem ET.imp {t : TT} {k k' : Bool → Prop} (h : ET C t ρ k) (hi : ∀ d, k d → k' d) : ET C t ρ k' := fun H0 σ H Q r q => h H0 σ H Q r fun b H' hk => q b H' (hi b hk)
theorem ee_op {r : R2} (h : EE C m ta ρ fun x => EE C m tb ρ fun y => AR C r x y k) : EE C m (tOp r ta tb) ρ k := fun H0 σ H Q rp q =>
  h H0 σ H _ rp fun v x H1 h1 e1 c1 hv => h1 H0 σ H1 _ (rp.to e1 c1) fun w y H2 h2 e2 c2 hw => h2 _ (fun _ => Mm_c) v w H2 Q c2 (hv.ext (fun _ => Mm_c) c1 e2) hw fun u d H' hk e3 c3 hu => q u d H' hk ((e1.trans e2).trans e3) c3 hu
theorem el_op {r : R2} {k : List Dt → Prop} (h : EE C m ta ρ fun x => EE C m tb ρ fun y => ARL C r x y k) : EL C m (tOp r ta tb) ρ k := fun H0 σ H Q rp q =>
  h H0 σ H _ rp fun v x H1 h1 e1 c1 hv => h1 H0 σ H1 _ (rp.to e1 c1) fun w y H2 h2 e2 c2 hw => h2 _ (fun _ => Mm_c) v w H2 Q c2 (hv.ext (fun _ => Mm_c) c1 e2) hw fun p vs ds H' hk e3 c3 hp hp' hu => q p vs ds H' hk ((e1.trans e2).trans e3) c3 ((e1.trans e2).back hp c2) hp' hu
theorem ee_un {r : V → Hp → VK → Prop} (h : EE C m ta ρ fun x => AU C r x k) : EE C m (tUn r ta) ρ k := fun H0 σ H Q rp q =>
  h H0 σ H _ rp fun v x H1 h1 e1 c1 hv => h1 _ (fun _ => Mm_c) v H1 Q c1 hv fun u d H' hk e3 c3 hu => q u d H' hk (e1.trans e3) c3 hu
theorem ee_cb {r : List V → Hp → VK → Prop} {t : TA} (h : ED C m t ρ fun xs => AC C r xs k) : EE C m (tCB r t) ρ k := fun H0 σ H Q rp q =>
  h H0 σ H _ rp fun vs xs H1 h1 e1 c1 hv => h1 _ (fun _ => Mm_c) vs H1 Q c1 hv fun u d H' hk e3 c3 hu => q u d H' hk (e1.trans e3) c3 hu
theorem el_cb {r : List V → Hp → VK → Prop} {t : TA} {k : List Dt → Prop} (h : ED C m t ρ fun xs => ACL C r xs k) : EL C m (tCB r t) ρ k := fun H0 σ H Q rp q =>
  h H0 σ H _ rp fun vs xs H1 h1 e1 c1 hv => h1 _ (fun _ => Mm_c) vs H1 Q c1 hv fun p us ds H' hk e3 c3 hp hp' hu => q p us ds H' hk (e1.trans e3) c3 (e1.back hp c1) hp' hu
/-- a new list is a list -/
theorem ee_new (h : EL C m te ρ fun ds => k (.list ds)) : EE C m te ρ k := fun H0 σ H Q rp q =>
  h H0 σ H _ rp fun p vs ds H' hk e c hp hp' hu => q _ _ H' hk e c (.lst (rp.off hp) hp' hu)
theorem ed_nil {k : List Dt → Prop} (h : k []) : ED C m tNil ρ k := fun H0 σ H Q rp q => q [] [] H h (Ext.refl _ _) rp.cup .nil
theorem ed_cons {t : TA} {k : List Dt → Prop} (h : EE C m ta ρ fun x => ED C m t ρ fun xs => k (x :: xs)) : ED C m (tCons ta t) ρ k := fun H0 σ H Q rp q =>
  h H0 σ H _ rp fun v x H1 h1 e1 c1 hv => h1 H0 σ H1 _ (rp.to e1 c1) fun ws xs H2 h2 e2 c2 hw => q _ _ H2 h2 (e1.trans e2) c2 (.cons (hv.ext (fun _ => Mm_c) c1 e2) hw)
theorem ArgHd.extC {K : PySem.W.Frag} {cu : Option Addr} {H H' : Hp} {v : V} {a : Arg} (hc : CupOk cu H) (e : Ext cu H H') (h : ArgHd K cu H v a) : ArgHd K cu H' v a := by
  cases a with
  | dat d => exact Hd.extC hc e h
  | cup => exact h
theorem ArgsHd.extC {K : PySem.W.Frag} {cu : Option Addr} {H H' : Hp} {vs : List V} {as : List Arg} (hc : CupOk cu H) (e : Ext cu H H') (h : ArgsHd K cu H vs as) : ArgsHd K cu H' vs as := by
  induction h with
  | nil => exact .nil
  | cons h1 _ ih => exact .cons (h1.extC hc e) ih
theorem ea_nil {k : List Arg → Prop} (h : k []) : EA C tNil ρ k := fun H0 σ H Q rp q => q [] [] H h (Ext.refl _ _) rp.cup .nil
theorem ea_cons {t : TA} {k : List Arg → Prop} (h : EE C false ta ρ fun x => EA C t ρ fun xs => k (.dat x :: xs)) : EA C (tCons ta t) ρ k := fun H0 σ H Q rp q =>
  h H0 σ H _ rp fun v x H1 h1 e1 c1 hv => h1 H0 σ H1 _ (rp.to e1 c1) fun ws xs H2 h2 e2 c2 hw => q _ _ H2 h2 (e1.trans e2) c2 (.cons (Hd.extC c1 e2 hv) hw)
theorem ea_cup {i : Nat} {t : TA} {k : List Arg → Prop} (hi : ρ[i]? = some (some .cup)) (h : EA C t ρ fun xs => k (.cup :: xs)) : EA C (tCons (tVar i) t) ρ k := fun H0 σ H Q rp q => by
  obtain ⟨v, h1, h2⟩ := rp.slot i _ hi
  exact ⟨v, h1, h H0 σ H _ rp fun ws xs H2 hk e2 c2 hw => q _ _ H2 hk e2 c2 (.cons h2 hw)⟩
theorem ee_tup {t : TA} (h : ED C m t ρ fun xs => xs.length ≤ 100000 ∧ k (.tuple xs)) : EE C m (tTup t) ρ k := fun H0 σ H Q rp q =>
  h H0 σ H _ rp fun vs xs H1 h1 e1 c1 hv => ⟨Nat.le_trans (by rw [hv.length]; exact h1.1) (by decide : 100000 ≤ sizeLine), fun p hp =>
    q _ _ _ h1.2 (e1.trans (Ext.new hp)) (c1.new hp) (.tup (.inl (.inl upd_same)) (hv.ext (fun _ => Mm_c) c1 (Ext.new hp)))⟩
theorem el_lst {t : TA} {k : List Dt → Prop} (h : ED C m t ρ fun xs => xs.length ≤ 100000 ∧ k xs) : EL C m (tLst t) ρ k := fun H0 σ H Q rp q =>
  h H0 σ H _ rp fun vs xs H1 h1 e1 c1 hv => ⟨Nat.le_trans (by rw [hv.length]; exact h1.1) (by decide : 100000 ≤ sizeLine), fun p hp =>
    q _ _ _ _ h1.2 (e1.trans (Ext.new hp)) (c1.new hp) (e1.back hp c1) upd_same (hv.ext (fun _ => Mm_c) c1 (Ext.new hp))⟩
/-! tests -/
theorem et_test {k : Bool → Prop} (h : EE C m te ρ fun d => ∃ b, d = .bool b ∧ k b) : ET C (tTest te) ρ k := fun H0 σ H Q rp q =>
  h H0 σ H _ rp fun v d H1 h1 e1 c1 hv => by
    obtain ⟨b, rfl, hk⟩ := h1
    cases hv
    exact ⟨b, rfl, q b H1 hk e1 c1⟩
theorem et_B {k : Bool → Prop} (h : EE C m te ρ fun d => ∃ b, d = .bool b ∧ k b) : ET C (tB te) ρ k := fun H0 σ H Q rp q =>
  h H0 σ H _ rp fun v d H1 h1 e1 c1 hv => by
    obtain ⟨b, rfl, hk⟩ := h1
    cases hv
    exact ⟨b, rfl, q b H1 hk e1 c1⟩
theorem et_and {t u : TT} {k : Bool → Prop} (h : ET C t ρ fun b => if b = true then ET C u ρ k else k false) : ET C (tAnd t u) ρ k := fun H0 σ H Q rp q =>
  h H0 σ H _ rp fun b H1 h1 e1 c1 => by
    cases b with
    | true =>
      rw [if_pos rfl] at h1
      show u σ H1 Q
      exact h1 H0 σ H1 Q (rp.to e1 c1) fun b H2 hk e2 c2 => q b H2 hk (e1.trans e2) c2
    | false =>
      rw [if_neg Bool.false_ne_true] at h1
      show Q false H1
      exact q false H1 h1 e1 c1
theorem et_or {t u : TT} {k : Bool → Prop} (h : ET C t ρ fun b => if b = true then k true else ET C u ρ k) : ET C (tOr t u) ρ k := fun H0 σ H Q rp q =>
  h H0 σ H _ rp fun b H1 h1 e1 c1 => by
    cases b with
    | true =>
      rw [if_pos rfl] at h1
      show Q true H1
      exact q true H1 h1 e1 c1
    | false =>
      rw [if_neg Bool.false_ne_true] at h1
      show u σ H1 Q
      exact h1 H0 σ H1 Q (rp.to e1 c1) fun b H2 hk e2 c2 => q b H2 hk (e1.trans e2) c2
theorem et_not {t : TT} {k : Bool → Prop} (h : ET C t ρ fun b => k (!b)) : ET C (tNot t) ρ k := fun H0 σ H Q rp q => h H0 σ H _ rp fun b H1 h1 e1 c1 => q (!b) H1 h1 e1 c1
theorem ee_andV (h : EE C m ta ρ fun x => ∃ b, x = .bool b ∧ if b = true then EE C m tb ρ k else k (.bool false)) : EE C m (tAndV ta tb) ρ k := fun H0 σ H Q rp q =>
  h H0 σ H _ rp fun v d H1 h1 e1 c1 hv => by
    obtain ⟨b, rfl, hk⟩ := h1
    cases hv
    refine ⟨b, rfl, ?_⟩
    cases b with
    | true =>
      rw [if_pos rfl] at hk
      show tb σ H1 Q
      exact hk H0 σ H1 Q (rp.to e1 c1) fun v d H2 hk e2 c2 hv => q v d H2 hk (e1.trans e2) c2 hv
    | false =>
      rw [if_neg Bool.false_ne_true] at hk
      show Q (.bl false) H1
      exact q _ _ H1 hk e1 c1 (.bl false)
theorem ee_orV (h : EE C m ta ρ fun x => ∃ b, x = .bool b ∧ if b = true then k (.bool true) else EE C m tb ρ k) : EE C m (tOrV ta tb) ρ k := fun H0 σ H Q rp q =>
  h H0 σ H _ rp fun v d H1 h1 e1 c1 hv => by
    obtain ⟨b, rfl, hk⟩ := h1
    cases hv
    refine ⟨b, rfl, ?_⟩
    cases b with
    | true =>
      rw [if_pos rfl] at hk
      show Q (.bl true) H1
      exact q _ _ H1 hk e1 c1 (.bl true)
    | false =>
      rw [if_neg Bool.false_ne_true] at hk
      show tb σ H1 Q
      exact hk H0 σ H1 Q (rp.to e1 c1) fun v d H2 hk e2 c2 hv => q v d H2 hk (e1.trans e2) c2 hv
theorem ee_notV (h : EE C m ta ρ fun x => ∃ b, x = .bool b ∧ k (.bool (!b))) : EE C m (tNotV ta) ρ k := fun H0 σ H Q rp q =>
  h H0 σ H _ rp fun v d H1 h1 e1 c1 hv => by
    obtain ⟨b, rfl, hk⟩ := h1
    cases hv
    exact ⟨b, rfl, q _ _ H1 hk e1 c1 (.bl _)⟩
theorem ee_if {t : TT} (h : ET C t ρ fun b => if b = true then EE C m ta ρ k else EE C m tb ρ k) : EE C m (tIf t ta tb) ρ k := fun H0 σ H Q rp q =>
  h H0 σ H _ rp fun b H1 h1 e1 c1 => by
    cases b with
    | true =>
      rw [if_pos rfl] at h1
      show ta σ H1 Q
      exact h1 H0 σ H1 Q (rp.to e1 c1) fun v d H2 hk e2 c2 hv => q v d H2 hk (e1.trans e2) c2 hv
    | false =>
      rw [if_neg Bool.false_ne_true] at h1
      show tb σ H1 Q
      exact h1 H0 σ H1 Q (rp.to e1 c1) fun v d H2 hk e2 c2 hv => q v d H2 hk (e1.trans e2) c2 hv
end
end Pl

set_option Elab.async false
set_option linter.all false
set_option maxRecDepth 100000
set_option maxHeartbeats 4000000
/-! Pl2: rules that the hand layer lacks: tuple * int at any count, is of a bool. -/
namespace Pl
open PySem PySem.Spec PyProof.Rows L2
theorem tuple_mul1 (l : Addr) (items : Array Value) (n : Nat) (dd : Option Addr) (sl : Array (Option Value)) (x : Int) (u : Tok) (c0 : (decide (x < -(2 ^ 63)) || decide (x ≥ 2 ^ 63)) = false) (c1 : (items.isEmpty || x == 1) = true) :
    Meets (Builtin.«tuple.__mul__» ⟨[.ref l, .int x u], []⟩) (fun _ R s => s.heap.get? l = some { cls := .type "tuple", dict := dd, data := .seq items n, slots := sl } ∧ R (.ok (.ret (Value.ref l))) s) :=
  .of_wp fun prog w A R s h => by
    obtain ⟨hp, g, d, tk, os⟩ := s
    obtain ⟨hl, h⟩ := h
    have f1 := AutoSeq1.idx_int
    wp_walk using wpAny_loadPart' hl
    repeat (first
      | (refine wpAny_ite_false (decide_eq_false (by rw [c0]; exact Bool.false_ne_true)) ?_; wp_walk using wpAny_loadPart' hl)
      | (refine wpAny_ite_true (decide_eq_true c1) ?_; wp_walk using wpAny_loadPart' hl))
    exact ⟨_, rfl, h⟩
theorem tuple_mul0 (l : Addr) (items : Array Value) (n : Nat) (dd : Option Addr) (sl : Array (Option Value)) (x : Int) (u : Tok) (c0 : (decide (x < -(2 ^ 63)) || decide (x ≥ 2 ^ 63)) = false) (c1 : (items.isEmpty || x == 1) = false) (c2 : (decide (x ≤ 0) || items.isEmpty) = true) :
    Meets (Builtin.«tuple.__mul__» ⟨[.ref l, .int x u], []⟩) (fun _ R s => s.heap.get? l = some { cls := .type "tuple", dict := dd, data := .seq items n, slots := sl } ∧
      R (.ok (.ret (Value.ref s.heap.objs.size))) { s with heap := s.heap.push { cls := Value.type "tuple", data := Data.seq #[] }, toks := s.toks }) :=
  .of_wp fun prog w A R s h => by
    obtain ⟨hp, g, d, tk, os⟩ := s
    obtain ⟨hl, h⟩ := h
    have f1 := AutoSeq1.idx_int
    wp_walk using wpAny_loadPart' hl
    repeat (first
      | (refine wpAny_ite_false (decide_eq_false (by rw [c0]; exact Bool.false_ne_true)) ?_; wp_walk using wpAny_loadPart' hl)
      | (refine wpAny_ite_false (decide_eq_false (by rw [c1]; exact Bool.false_ne_true)) ?_; wp_walk using wpAny_loadPart' hl)
      | (refine wpAny_ite_true (decide_eq_true c2) ?_; wp_walk using wpAny_loadPart' hl))
    exact ⟨_, rfl, h⟩
def rRepG (K : PySem.W.Frag) : R2 := fun x y H Q => ∃ l k xs, x = .ref l ∧ y = .int k ∧ SqT K H l xs ∧ -(2 ^ 62) ≤ k ∧ k < 2 ^ 62 ∧ (((xs.length : Nat) : Int) * k ≤ 1000000) ∧
  ((xs = [] ∨ k = 1) → Q (.ref l) H) ∧ (¬ (xs = [] ∨ k = 1) → ∀ p, H p = none → Q (.ref p) (upd H p (.tup (List.replicate k.toNat xs).flatten)))
theorem op_repG {X : Cx} : OpR X (binaryOp .Mult) (rRepG X.K) := by
  intro pins s σ H x y v u Q I rx ry h
  obtain ⟨l, k, xs, rfl, rfl, hT, h1, h2, hm0, q1, q2⟩ := h
  cases rx
  obtain ⟨t, rfl⟩ := ry
  obtain ⟨its, r, ⟨⟨cls, dd, data, sl⟩, ho, hc, n, hd⟩, hs⟩ := I.tuple hT
  simp only at hc hd
  subst hc hd
  have hle : its.length = xs.length := r.length.symm
  have hsz0 : its.toArray.size = xs.length := by rw [List.size_toArray, hle]
  have c0 : (decide (k < -(2 ^ 63)) || decide (k ≥ 2 ^ 63)) = false := by
    rw [decide_eq_false (by omega), decide_eq_false (by omega)] <;> rfl
  by_cases hs1 : xs = [] ∨ k = 1
  · have c1 : (its.toArray.isEmpty || k == 1) = true := by
      rcases hs1 with e | e
      · subst e
        cases its with
        | nil => rfl
        | cons a b => cases hle
      · subst e
        simp
    exact wpAny_binaryOp_repeat_ref (T := "tuple") (U := "int") (by decide) ⟨_, ho, rfl⟩ (fun s' => typeIs_int s' k t) noFill_tuple_mul F.fills_int_mul F.slot_int_rmul repeat_tuple F.slot_int_index.lookup
      (call_meets F.slot_int_rmul (typeIs_int s k t) F.entry_int_rmul (F.args_int_rmul_2 _ _) (int_rmul_tuple k t l its.toArray n dd sl)
        ⟨ho, rfl, ⟨_, ho, rfl⟩, call_meets F.slot_tuple_mul ⟨_, ho, rfl⟩ F.entry_tuple_mul (F.args_tuple_mul_2 _ _) (tuple_mul1 l its.toArray n dd sl k t c0 c1) ⟨ho, ⟨.ref l, H, I, rfl, q1 hs1⟩⟩⟩)
  · have hne : xs ≠ [] := fun e => hs1 (.inl e)
    have hk1 : k ≠ 1 := fun e => hs1 (.inr e)
    have hn : its ≠ [] := fun e => hne (by
      rw [e] at hle
      exact List.eq_nil_of_length_eq_zero hle.symm)
    have hi : its.toArray.isEmpty = false := by
      cases its with
      | nil => exact absurd rfl hn
      | cons a b => rfl
    have c1 : (its.toArray.isEmpty || k == 1) = false := by
      rw [hi, Bool.false_or]
      exact beq_eq_false_iff_ne.mpr hk1
    by_cases hk0 : k ≤ 0
    · have c2 : (decide (k ≤ 0) || its.toArray.isEmpty) = true := by
        rw [hi, Bool.or_false]
        exact decide_eq_true hk0
      have hkn : k.toNat = 0 := by omega
      have q3 := q2 hs1
      rw [hkn] at q3
      refine wpAny_binaryOp_repeat_ref (T := "tuple") (U := "int") (by decide) ⟨_, ho, rfl⟩ (fun s' => typeIs_int s' k t) noFill_tuple_mul F.fills_int_mul F.slot_int_rmul repeat_tuple F.slot_int_index.lookup
        (call_meets F.slot_int_rmul (typeIs_int s k t) F.entry_int_rmul (F.args_int_rmul_2 _ _) (int_rmul_tuple k t l its.toArray n dd sl)
          ⟨ho, rfl, ⟨_, ho, rfl⟩, call_meets F.slot_tuple_mul ⟨_, ho, rfl⟩ F.entry_tuple_mul (F.args_tuple_mul_2 _ _) (tuple_mul0 l its.toArray n dd sl k t c0 c1 c2) ⟨ho, ?_⟩⟩)
      refine ⟨.ref s.heap.objs.size, _, I.laid (t' := s.toks) (o := .tup (List.replicate 0 xs).flatten) (fun b ob q => Heap.get?_push_of_some _ q) (Nat.le_refl _) ?_, rfl, q3 _ (I.hok.fresh (Nat.le_refl _))⟩
      exact ⟨Nat.zero_le _, [], .nil, IsTup.new _ _⟩
    · have hm : ((its.toArray.size : Nat) : Int) * k ≤ 1000000 := by
        rw [hsz0]
        exact hm0
      have hmn : k.toNat * xs.length ≤ 1000000 := by
        have e1 : ((k.toNat * xs.length : Nat) : Int) = ((xs.length : Nat) : Int) * k := by
          rw [Int.natCast_mul, Int.toNat_of_nonneg (by omega), Int.mul_comm]
        omega
      have flen : (List.replicate k.toNat its).flatten.length ≤ sizeLine := by
        rw [PyProof.Rows.lm_len_rep_flat, hle, sizeLine_eq]
        omega
      have c2 : (decide (k ≤ 0) || its.toArray.isEmpty) = false := by
        rw [hi, Bool.or_false]
        exact decide_eq_false (by omega)
      have c4 : Builtin.Tuple.tupleTooMany (((its.toArray.size : Nat) : Int) * k) = false := by
        unfold Builtin.Tuple.tupleTooMany
        rw [sizeLine_eq]
        exact decide_eq_false (by omega)
      refine wpAny_binaryOp_repeat_ref (T := "tuple") (U := "int") (by decide) ⟨_, ho, rfl⟩ (fun s' => typeIs_int s' k t) noFill_tuple_mul F.fills_int_mul F.slot_int_rmul repeat_tuple F.slot_int_index.lookup
        (call_meets F.slot_int_rmul (typeIs_int s k t) F.entry_int_rmul (F.args_int_rmul_2 _ _) (int_rmul_tuple k t l its.toArray n dd sl)
          ⟨ho, rfl, ⟨_, ho, rfl⟩, call_meets F.slot_tuple_mul ⟨_, ho, rfl⟩ F.entry_tuple_mul (F.args_tuple_mul_2 _ _) (tuple_mulW l its.toArray n dd sl k t c0 c1 c2 (by omega) c4 (by rw [size_rep, List.size_toArray]; exact flen)) ⟨ho, ?_⟩⟩)
      rw [size_rep]
      refine ⟨.ref s.heap.objs.size, _, I.laid (t' := s.toks) (o := .tup (List.replicate k.toNat xs).flatten) (fun b ob q => Heap.get?_push_of_some _ q) (Nat.le_refl _) ?_, rfl, q2 hs1 _ (I.hok.fresh (Nat.le_refl _))⟩
      exact ⟨by rw [PyProof.Rows.lm_len_rep_flat, sizeLine_eq]; omega, _, r.rep k.toNat, IsTup.new _ _⟩

/-! is, is not of anything and a bool -/
def rIsBA : R2 := fun x y H Q => ∃ b : Bool, y = .bl b ∧ (∀ n, x ≠ .ty n) ∧ Q (.bl (decide (x = .bl b))) H
def rNotBA : R2 := fun x y H Q => ∃ b : Bool, y = .bl b ∧ (∀ n, x ≠ .ty n) ∧ Q (.bl (!decide (x = .bl b))) H
theorem is_bool_gen {M : Model} {A : Around} {E : Value → Shared → Prop} {s : Shared} {Q : Value → Shared → Prop} {v : Value} {b : Bool} (hv : plainIs v (.bool b) = true) (h : Q (.bool (v == .bool b)) s) : wpAny M A (compareOp .Is v (.bool b)) Q E s := wpAny_is_plain hv h
theorem isnot_bool_gen {M : Model} {A : Around} {E : Value → Shared → Prop} {s : Shared} {Q : Value → Shared → Prop} {v : Value} {b : Bool} (hv : plainIs v (.bool b) = true) (h : Q (.bool (!(v == .bool b))) s) : wpAny M A (compareOp .IsNot v (.bool b)) Q E s := wpAny_isNot_plain hv h
theorem rel_bool {x : V} {v : Value} {b : Bool} (hx : ∀ n, x ≠ .ty n) (rx : RelV x v) : (v == .bool b) = decide (x = .bl b) ∧ plainIs v (.bool b) = true := by
  cases x <;> first
    | (obtain ⟨t, rfl⟩ := rx; exact ⟨rfl, rfl⟩)
    | (cases rx; exact ⟨rfl, rfl⟩)
    | (cases (show v = _ from rx); rename_i c; cases b <;> cases c <;> exact ⟨rfl, rfl⟩)
    | exact absurd rfl (hx _)
theorem op_isBA {X : Cx} : OpR X (compareOp .Is) rIsBA := by
  intro pins s σ H x y v u Q I rx ry h
  obtain ⟨b, rfl, hx, q⟩ := h
  cases (show u = Value.bool b from ry)
  obtain ⟨e1, e2⟩ := rel_bool (b := b) hx rx
  refine is_bool_gen e2 ⟨.bl _, H, I, ?_, q⟩
  rw [e1] <;> rfl
theorem op_notBA {X : Cx} : OpR X (compareOp .IsNot) rNotBA := by
  intro pins s σ H x y v u Q I rx ry h
  obtain ⟨b, rfl, hx, q⟩ := h
  cases (show u = Value.bool b from ry)
  obtain ⟨e1, e2⟩ := rel_bool (b := b) hx rx
  refine isnot_bool_gen e2 ⟨.bl _, H, I, ?_, q⟩
  rw [e1] <;> rfl
end Pl

set_option Elab.async false
set_option linter.all false
set_option maxRecDepth 100000
set_option maxHeartbeats 4000000
/-! Pl3: the operators over data. -/
namespace Pl
open PySem PySem.Spec PyProof.Rows L2
/-! ### the operators that a text may mean -/
def rPlus (K : PySem.W.Frag) : R2 := fun x y H Q => rI0 (fun i j => .int (i + j)) x y H Q ∨ (rCatA K x y H Q ∨ (rCat x y H Q ∨ ∃ i j, x = .str i ∧ y = .str j ∧ i.length + j.length ≤ sizeLine ∧ Q (.str (i ++ j)) H))
def rMinus : R2 := rI0 fun i j => .int (i - j)
def rTimes (K : PySem.W.Frag) : R2 := fun x y H Q => rI CMul (fun i j => .int (i * j)) x y H Q ∨ (rRepG K x y H Q ∨ rRep x y H Q)
def rFdv : R2 := rI CDivN fun i j => .int (i.fdiv j)
def rMd : R2 := rI (fun _ j => j ≠ 0) fun i j => .int (i.fmod j)
def rPw : R2 := rI CPow fun i j => .int (i ^ j.toNat)
def rLss (K : PySem.W.Frag) : R2 := fun x y H Q => rI0 (fun i j => .bl (decide (i < j))) x y H Q ∨ ((∃ i j, x = .str i ∧ y = .str j ∧ Q (.bl (decide (i.cps.toList < j.cps.toList))) H) ∨ rLtT K x y H Q)
def rLeq : R2 := fun x y H Q => rI0 (fun i j => .bl (decide (i ≤ j))) x y H Q ∨ ∃ i j, x = .str i ∧ y = .str j ∧ Q (.bl (!decide (j.cps.toList < i.cps.toList))) H
def rGrt : R2 := fun x y H Q => rI0 (fun i j => .bl (decide (j < i))) x y H Q ∨ ∃ i j, x = .str i ∧ y = .str j ∧ Q (.bl (decide (j.cps.toList < i.cps.toList))) H
def rGeq : R2 := fun x y H Q => rI0 (fun i j => .bl (decide (j ≤ i))) x y H Q ∨ ∃ i j, x = .str i ∧ y = .str j ∧ Q (.bl (!decide (i.cps.toList < j.cps.toList))) H
def rIsW : R2 := fun x y H Q => (y = .non ∧ Q (.bl (decide (x = .non))) H) ∨ rIsBA x y H Q
def rIsNW : R2 := fun x y H Q => (y = .non ∧ Q (.bl (!decide (x = .non))) H) ∨ rNotBA x y H Q
def rInW (K : PySem.W.Frag) : R2 := fun x y H Q => rIn K false x y H Q ∨ ∃ (c : Nat) (z : Str), x = .str ⟨#[c]⟩ ∧ y = .str z ∧ Q (.bl (decide (c ∈ z.cps.toList))) H
def rNotInW (K : PySem.W.Frag) : R2 := fun x y H Q => rIn K true x y H Q ∨ ∃ (c : Nat) (z : Str), x = .str ⟨#[c]⟩ ∧ y = .str z ∧ Q (.bl (!decide (c ∈ z.cps.toList))) H
section
variable {X : Cx}
theorem o_plus : OpR X (binaryOp .Add) (rPlus X.K) := op_add.or (op_catA.or (op_cat.or op_add_str))
theorem o_minus : OpR X (binaryOp .Sub) rMinus := op_sub
theorem o_times : OpR X (binaryOp .Mult) (rTimes X.K) := op_mul.or (op_repG.or op_rep)
theorem o_fdv : OpR X (binaryOp .FloorDiv) rFdv := op_fdivN
theorem o_md : OpR X (binaryOp .Mod) rMd := op_modN
theorem o_pw : OpR X (binaryOp .Pow) rPw := op_pow
theorem o_lss (hu : X.A.units < cLine) : OpR X (compareOp .Lt) (rLss X.K) := op_lt.or (op_lt_str.or (op_ltT hu))
theorem o_leq : OpR X (compareOp .LtE) rLeq := op_le.or op_le_str
theorem o_grt : OpR X (compareOp .Gt) rGrt := op_gt.or op_gt_str
theorem o_geq : OpR X (compareOp .GtE) rGeq := op_ge.or op_ge_str
theorem o_is : OpR X (compareOp .Is) rIsW := op_isN.or op_isBA
theorem o_isN : OpR X (compareOp .IsNot) rIsNW := op_notN.or op_notBA
theorem o_in : OpR X (compareOp .In) (rInW X.K) := op_in_seq.or op_in_sign
theorem o_notIn : OpR X (compareOp .NotIn) (rNotInW X.K) := op_notIn_seq.or op_notIn_sign
end
/-! ### over data -/
section
variable {C : Cxt} {k : Dt → Prop}
theorem one {M : MS} {H : Hp} {Q : VK} {u : V} {d : Dt} (hc : CupOk C.cu H) (q : ∀ u d H', k d → Ext C.cu H H' → CupOk C.cu H' → Hd C.K M H' u d → Q u H') (hk : k d) (hu : Hd C.K M H u d) : Q u H := q u d H hk (Ext.refl _ _) hc hu
theorem ar_plusI {i j : Int} (h : k (.int (i + j))) : AR C (rPlus C.K) (.int i) (.int j) k := fun M hm v w H Q hc hv hw q => by
  cases hv; cases hw
  exact .inl ⟨i, j, rfl, rfl, one (M := M) hc q h (.int _)⟩
theorem ar_minus {i j : Int} (h : k (.int (i - j))) : AR C rMinus (.int i) (.int j) k := fun M hm v w H Q hc hv hw q => by
  cases hv; cases hw
  exact ⟨i, j, rfl, rfl, one (M := M) hc q h (.int _)⟩
theorem ar_timesI {i j : Int} (hz : CMul i j) (h : k (.int (i * j))) : AR C (rTimes C.K) (.int i) (.int j) k := fun M hm v w H Q hc hv hw q => by
  cases hv; cases hw
  exact .inl ⟨i, j, rfl, rfl, hz, one (M := M) hc q h (.int _)⟩
theorem ar_fdv {i j : Int} (hz : CDivN i j) (h : k (.int (i.fdiv j))) : AR C rFdv (.int i) (.int j) k := fun M hm v w H Q hc hv hw q => by
  cases hv; cases hw
  exact ⟨i, j, rfl, rfl, hz, one (M := M) hc q h (.int _)⟩
theorem ar_md {i j : Int} (hz : j ≠ 0) (h : k (.int (i.fmod j))) : AR C rMd (.int i) (.int j) k := fun M hm v w H Q hc hv hw q => by
  cases hv; cases hw
  exact ⟨i, j, rfl, rfl, hz, one (M := M) hc q h (.int _)⟩
theorem ar_pw {i j : Int} (hz : CPow i j) (h : k (.int (i ^ j.toNat))) : AR C rPw (.int i) (.int j) k := fun M hm v w H Q hc hv hw q => by
  cases hv; cases hw
  exact ⟨i, j, rfl, rfl, hz, one (M := M) hc q h (.int _)⟩
theorem ar_lssI {i j : Int} (h : k (.bool (decide (i < j)))) : AR C (rLss C.K) (.int i) (.int j) k := fun M hm v w H Q hc hv hw q => by
  cases hv; cases hw
  exact .inl ⟨i, j, rfl, rfl, one (M := M) hc q h (.bl _)⟩
theorem ar_lssS {i j : Str} (h : k (.bool (decide (i.cps.toList < j.cps.toList)))) : AR C (rLss C.K) (.str i) (.str j) k := fun M hm v w H Q hc hv hw q => by
  cases hv; cases hw
  exact .inr (.inl ⟨i, j, rfl, rfl, one (M := M) hc q h (.bl _)⟩)
theorem ar_leqI {i j : Int} (h : k (.bool (decide (i ≤ j)))) : AR C rLeq (.int i) (.int j) k := fun M hm v w H Q hc hv hw q => by
  cases hv; cases hw
  exact .inl ⟨i, j, rfl, rfl, one (M := M) hc q h (.bl _)⟩
theorem ar_grtI {i j : Int} (h : k (.bool (decide (j < i)))) : AR C rGrt (.int i) (.int j) k := fun M hm v w H Q hc hv hw q => by
  cases hv; cases hw
  exact .inl ⟨i, j, rfl, rfl, one (M := M) hc q h (.bl _)⟩
theorem ar_geqI {i j : Int} (h : k (.bool (decide (j ≤ i)))) : AR C rGeq (.int i) (.int j) k := fun M hm v w H Q hc hv hw q => by
  cases hv; cases hw
  exact .inl ⟨i, j, rfl, rfl, one (M := M) hc q h (.bl _)⟩
theorem ar_plusS {i j : Str} (hz : i.length + j.length ≤ 100000) (h : k (.str (i ++ j))) : AR C (rPlus C.K) (.str i) (.str j) k := fun M hm v w H Q hc hv hw q => by
  cases hv; cases hw
  exact .inr (.inr (.inr ⟨i, j, rfl, rfl, Nat.le_trans hz (by decide), one (M := M) hc q h (.str _)⟩))
theorem ar_plusT {xs ys : List Dt} (hz : xs.length + ys.length ≤ 100000) (h : k (.tuple (xs ++ ys))) : AR C (rPlus C.K) (.tuple xs) (.tuple ys) k := fun M hm v w H Q hc hv hw q => by
  cases hv with
  | tup s1 a1 =>
    cases hw with
    | tup s2 a2 =>
      refine .inr (.inl ⟨_, _, _, _, rfl, rfl, s1, s2, by rw [a1.length, a2.length]; exact Nat.le_trans hz (by decide), fun e => ?_, fun _ e => ?_, fun _ _ p hp => ?_⟩)
      · subst e
        cases xs with
        | nil => exact one (M := M) hc q h (.tup s2 a2)
        | cons x l => cases a1
      · subst e
        cases ys with
        | nil => rw [List.append_nil] at h; exact one (M := M) hc q h (.tup s1 a1)
        | cons x l => cases a2
      · exact q _ _ _ h (Ext.new hp) (hc.new hp) (.tup (.inl (.inl upd_same)) ((a1.append a2).ext hm hc (Ext.new hp)))
theorem arl_plusL {xs ys : List Dt} {k : List Dt → Prop} (hz : xs.length + ys.length ≤ 100000) (h : k (xs ++ ys)) : ARL C (rPlus C.K) (.list xs) (.list ys) k := fun M hm v w H Q hc hv hw q => by
  cases hv with
  | lst n1 s1 a1 =>
    cases hw with
    | lst n2 s2 a2 =>
      exact .inr (.inr (.inl ⟨_, _, _, _, rfl, rfl, s1, s2, by rw [a1.length, a2.length]; exact Nat.le_trans hz (by decide), fun p hp =>
        q p _ _ _ h (Ext.new hp) (hc.new hp) hp upd_same ((a1.append a2).ext hm hc (Ext.new hp))⟩))
theorem HdAll.rep {K : PySem.W.Frag} {M : MS} {H : Hp} {vs : List V} {ds : List Dt} (h : HdAll K M H vs ds) : ∀ n : Nat, HdAll K M H (List.replicate n vs).flatten (List.replicate n ds).flatten
  | 0 => .nil
  | n + 1 => by
    rw [List.replicate_succ, List.replicate_succ, List.flatten_cons, List.flatten_cons]
    exact h.append (HdAll.rep h n)
theorem flat_one {α : Type} (xs : List α) : (List.replicate 1 xs).flatten = xs := by simp
theorem flat_nil {α : Type} (n : Nat) : (List.replicate n ([] : List α)).flatten = [] := by
  induction n with
  | zero => rfl
  | succ n ih => rw [List.replicate_succ, List.flatten_cons, ih] <;> rfl
theorem ar_timesT {xs : List Dt} {n : Int} (h1 : -(2 ^ 62) ≤ n) (h2 : n < 2 ^ 62) (hz : ((xs.length : Nat) : Int) * n ≤ 1000000) (h : k (.tuple (List.replicate n.toNat xs).flatten)) : AR C (rTimes C.K) (.tuple xs) (.int n) k := fun M hm v w H Q hc hv hw q => by
  cases hw
  cases hv with
  | tup s1 a1 =>
    refine .inr (.inl ⟨_, n, _, rfl, rfl, s1, h1, h2, by rw [a1.length]; exact hz, fun e => ?_, fun e p hp => ?_⟩)
    · refine one (M := M) hc q (d := .tuple xs) ?_ (.tup s1 a1)
      rcases e with e | e
      · subst e
        cases xs with
        | nil => rw [flat_nil] at h; exact h
        | cons x l => cases a1
      · subst e
        have e1 : (1 : Int).toNat = 1 := rfl
        rw [e1, flat_one] at h
        exact h
    · exact q _ _ _ h (Ext.new hp) (hc.new hp) (.tup (.inl (.inl upd_same)) ((a1.rep _).ext hm hc (Ext.new hp)))
theorem arl_timesL {xs : List Dt} {n : Int} {k : List Dt → Prop} (h1 : -(2 ^ 62) ≤ n) (h2 : n < 2 ^ 62) (hz : xs.length * n.toNat ≤ 100000) (h : k (List.replicate n.toNat xs).flatten) : ARL C (rTimes C.K) (.list xs) (.int n) k := fun M hm v w H Q hc hv hw q => by
  cases hw
  cases hv with
  | lst n1 s1 a1 =>
    exact .inr (.inr ⟨_, n, _, rfl, rfl, s1, by omega, by omega, by rw [a1.length]; exact Nat.le_trans hz (by decide), fun p hp =>
      q p _ _ _ h (Ext.new hp) (hc.new hp) hp upd_same ((a1.rep _).ext hm hc (Ext.new hp))⟩)
/-! == and is -/
theorem ar_eq {x y : Dt} (hx : SeqAt.shaped x = true) (hy : SeqAt.shaped y = true) (h : k (.bool (PyData.eqv x y))) : AR C (rEqD C.K) x y k := fun M hm v w H Q hc hv hw q => ⟨x, y, hv.dp, hw.dp, hx, hy, one (M := M) hc q h (.bl _)⟩
theorem ar_ne {x y : Dt} (hx : SeqAt.shaped x = true) (hy : SeqAt.shaped y = true) (h : k (.bool (!PyData.eqv x y))) : AR C (rNeD C.K) x y k := fun M hm v w H Q hc hv hw q => ⟨x, y, hv.dp, hw.dp, hx, hy, one (M := M) hc q h (.bl _)⟩
def isNone : Dt → Bool
  | .none => true
  | _ => false
def isTru (b : Bool) : Dt → Bool
  | .bool c => c == b
  | _ => false
theorem Hd.isNn {K : PySem.W.Frag} {M : MS} {H : Hp} {v : V} {d : Dt} (h : Hd K M H v d) : decide (v = .non) = isNone d := by
  cases h <;> rfl
theorem Hd.tru {K : PySem.W.Frag} {M : MS} {H : Hp} {v : V} {d : Dt} (b : Bool) (h : Hd K M H v d) : decide (v = .bl b) = isTru b d ∧ ∀ n, v ≠ .ty n := by
  cases h <;> first
    | exact ⟨rfl, fun n z => by cases z⟩
    | (rename_i c; cases b <;> cases c <;> exact ⟨rfl, fun n z => by cases z⟩)
theorem ar_isN {x : Dt} (h : k (.bool (isNone x))) : AR C rIsW x .none k := fun M hm v w H Q hc hv hw q => by
  cases hw
  refine .inl ⟨rfl, ?_⟩
  rw [hv.isNn]
  exact one (M := M) hc q h (.bl _)
theorem ar_isNN {x : Dt} (h : k (.bool (!isNone x))) : AR C rIsNW x .none k := fun M hm v w H Q hc hv hw q => by
  cases hw
  refine .inl ⟨rfl, ?_⟩
  rw [hv.isNn]
  exact one (M := M) hc q h (.bl _)
theorem ar_isB {x : Dt} {b : Bool} (h : k (.bool (isTru b x))) : AR C rIsW x (.bool b) k := fun M hm v w H Q hc hv hw q => by
  cases hw
  refine .inr ⟨b, rfl, (hv.tru b).2, ?_⟩
  rw [(hv.tru b).1]
  exact one (M := M) hc q h (.bl _)
theorem ar_isNB {x : Dt} {b : Bool} (h : k (.bool (!isTru b x))) : AR C rIsNW x (.bool b) k := fun M hm v w H Q hc hv hw q => by
  cases hw
  refine .inr ⟨b, rfl, (hv.tru b).2, ?_⟩
  rw [(hv.tru b).1]
  exact one (M := M) hc q h (.bl _)
theorem ar_inC {c : Nat} {z : Str} (h : k (.bool (decide (c ∈ z.cps.toList)))) : AR C (rInW C.K) (.str ⟨#[c]⟩) (.str z) k := fun M hm v w H Q hc hv hw q => by
  cases hv; cases hw
  exact .inr ⟨c, z, rfl, rfl, one (M := M) hc q h (.bl _)⟩
theorem ar_notInC {c : Nat} {z : Str} (h : k (.bool (!decide (c ∈ z.cps.toList)))) : AR C (rNotInW C.K) (.str ⟨#[c]⟩) (.str z) k := fun M hm v w H Q hc hv hw q => by
  cases hv; cases hw
  exact .inr ⟨c, z, rfl, rfl, one (M := M) hc q h (.bl _)⟩
theorem au_neg {i : Int} (h : k (.int (-i))) : AU C (rU fun i => .int (-i)) (.int i) k := fun M hm v H Q hc hv q => by
  cases hv
  exact ⟨i, rfl, one (M := M) hc q h (.int _)⟩
/-! items -/
theorem atI_nat' {α : Type} {xs : List α} {n : Nat} {x : α} (h : xs[n]? = some x) : atI xs (n : Int) = some x := by
  have hn : n < xs.length := (List.getElem?_eq_some_iff.mp h).1
  unfold atI ixN
  rw [if_pos (by omega), if_pos (by omega)]
  simpa using h
theorem HdAll.atI {K : PySem.W.Frag} {M : MS} {H : Hp} {vs : List V} {ds : List Dt} {i : Int} {d : Dt} (h : HdAll K M H vs ds) (e : L2.atI ds i = some d) : ∃ v, L2.atI vs i = some v ∧ Hd K M H v d := by
  unfold L2.atI at e ⊢
  rw [h.length]
  cases q : ixN ds.length i with
  | none => rw [q] at e; cases e
  | some j =>
    rw [q] at e
    exact h.get (i := j) e
theorem ar_ixT {xs : List Dt} {i : Int} {d : Dt} (e : atI xs i = some d) (h : k d) : AR C (rIx C.K) (.tuple xs) (.int i) k := fun M hm v w H Q hc hv hw q => by
  cases hw
  cases hv with
  | tup s1 a1 =>
    obtain ⟨u, h1, h2⟩ := a1.atI e
    exact .inr (.inl ⟨_, _, i, u, rfl, rfl, s1, h1, one (M := M) hc q h h2⟩)
theorem ar_ixL {xs : List Dt} {i : Int} {d : Dt} (e : atI xs i = some d) (h : k d) : AR C (rIx C.K) (.list xs) (.int i) k := fun M hm v w H Q hc hv hw q => by
  cases hw
  cases hv with
  | lst n1 s1 a1 =>
    obtain ⟨u, h1, h2⟩ := a1.atI e
    exact .inl ⟨_, _, i, u, rfl, rfl, .inl (.inl s1), h1, one (M := M) hc q h h2⟩
theorem ar_ixS {z : Str} {i : Int} {c : Nat} (hz : z.length ≤ 100000) (e : atI z.cps.toList i = some c) (h : k (.str ⟨#[c]⟩)) : AR C (rIx C.K) (.str z) (.int i) k := fun M hm v w H Q hc hv hw q => by
  cases hw
  cases hv
  exact .inr (.inr ⟨z, i, c, rfl, rfl, Nat.le_trans hz (by decide), e, one (M := M) hc q h (.str _)⟩)
end
end Pl

set_option Elab.async false
set_option linter.all false
set_option maxRecDepth 100000
set_option maxHeartbeats 4000000
/-! Pl4: built-in calls, slices over data. -/
namespace Pl
open PySem PySem.Spec PyProof.Rows L2
/-! ### isinstance -/
def tyD : Dt → String
  | .none => "NoneType" | .bool _ => "bool" | .int _ => "int" | .str _ => "str" | .list _ => "list" | .tuple _ => "tuple" | .dict _ => "dict"
theorem Hd.tyx {K : PySem.W.Frag} {M : MS} {H : Hp} {v : V} {d : Dt} (h : Hd K M H v d) : TyX K H v (.type (tyD d)) := by
  cases h with
  | non => exact .base .non
  | bl b => exact .base (.bl b)
  | int i => exact .base (.int i)
  | str x => exact .base (.str x)
  | lst n s a => exact .base (.lst s)
  | tup s a =>
    rcases s with (s | ⟨o, s⟩) | ⟨o, its, n, h1, h2, _⟩
    · exact .base (.tup s)
    · exact .fTuple s
    · exact .kTuple h1 h2
def isI : Dt → Bool
  | .int _ | .bool _ => true
  | _ => false
def isB : Dt → Bool
  | .bool _ => true
  | _ => false
def isT : Dt → Bool
  | .tuple _ => true
  | _ => false
def isS : Dt → Bool
  | .str _ => true
  | _ => false
def isL : Dt → Bool
  | .list _ => true
  | _ => false
theorem kit_isI : kitB "NoneType" "int" = some false ∧ kitB "bool" "int" = some true ∧ kitB "int" "int" = some true ∧ kitB "str" "int" = some false ∧ kitB "list" "int" = some false ∧ kitB "tuple" "int" = some false := by decide +kernel
theorem kit_isB : kitB "NoneType" "bool" = some false ∧ kitB "bool" "bool" = some true ∧ kitB "int" "bool" = some false ∧ kitB "str" "bool" = some false ∧ kitB "list" "bool" = some false ∧ kitB "tuple" "bool" = some false := by decide +kernel
theorem kit_isT : kitB "NoneType" "tuple" = some false ∧ kitB "bool" "tuple" = some false ∧ kitB "int" "tuple" = some false ∧ kitB "str" "tuple" = some false ∧ kitB "list" "tuple" = some false ∧ kitB "tuple" "tuple" = some true := by decide +kernel
theorem kit_isS : kitB "NoneType" "str" = some false ∧ kitB "bool" "str" = some false ∧ kitB "int" "str" = some false ∧ kitB "str" "str" = some true ∧ kitB "list" "str" = some false ∧ kitB "tuple" "str" = some false := by decide +kernel
theorem kit_isL : kitB "NoneType" "list" = some false ∧ kitB "bool" "list" = some false ∧ kitB "int" "list" = some false ∧ kitB "str" "list" = some false ∧ kitB "list" "list" = some true ∧ kitB "tuple" "list" = some false := by decide +kernel
section
variable {C : Cxt} {k : Dt → Prop} {ρ : AEnv} {te ta tb : TE} {m : Bool}
theorem ee_isi {T : String} {f : Dt → Bool} (hf : ∀ K M H v d, Hd K M H v d → kitB (tyD d) T = some (f d)) (h : EE C m ta ρ fun d => k (.bool (f d))) : EE C m (tCB (rIsi C.K) (tCons ta (tCons (tC (.ty T)) tNil))) ρ k := fun H0 σ H Q rp q =>
  h H0 σ H _ rp fun v d H1 h1 e1 c1 hv => ⟨v, .ty T, _, _, f d, rfl, .ty T, hv.tyx, kit_ty (hf _ _ _ _ _ hv), q _ _ _ h1 e1 c1 (.bl _)⟩
theorem ee_isiI (h : EE C m ta ρ fun d => k (.bool (isI d))) : EE C m (tCB (rIsi C.K) (tCons ta (tCons (tC (.ty "int")) tNil))) ρ k := ee_isi (fun _ _ _ _ d hd => by obtain ⟨h1, h2, h3, h4, h5, h6⟩ := kit_isI; cases hd <;> assumption) h
theorem ee_isiB (h : EE C m ta ρ fun d => k (.bool (isB d))) : EE C m (tCB (rIsi C.K) (tCons ta (tCons (tC (.ty "bool")) tNil))) ρ k := ee_isi (fun _ _ _ _ d hd => by obtain ⟨h1, h2, h3, h4, h5, h6⟩ := kit_isB; cases hd <;> assumption) h
theorem ee_isiT (h : EE C m ta ρ fun d => k (.bool (isT d))) : EE C m (tCB (rIsi C.K) (tCons ta (tCons (tC (.ty "tuple")) tNil))) ρ k := ee_isi (fun _ _ _ _ d hd => by obtain ⟨h1, h2, h3, h4, h5, h6⟩ := kit_isT; cases hd <;> assumption) h
theorem ee_isiS (h : EE C m ta ρ fun d => k (.bool (isS d))) : EE C m (tCB (rIsi C.K) (tCons ta (tCons (tC (.ty "str")) tNil))) ρ k := ee_isi (fun _ _ _ _ d hd => by obtain ⟨h1, h2, h3, h4, h5, h6⟩ := kit_isS; cases hd <;> assumption) h
theorem ee_isiL (h : EE C m ta ρ fun d => k (.bool (isL d))) : EE C m (tCB (rIsi C.K) (tCons ta (tCons (tC (.ty "list")) tNil))) ρ k := ee_isi (fun _ _ _ _ d hd => by obtain ⟨h1, h2, h3, h4, h5, h6⟩ := kit_isL; cases hd <;> assumption) h

/-! ### calls -/
def cLen (K : PySem.W.Frag) : List V → Hp → VK → Prop := fun xs H Q => ∃ x n, xs = [x] ∧ LenV K x H n ∧ Q (.int n) H
def cInt : List V → Hp → VK → Prop := fun xs H Q => (∃ i, xs = [.int i] ∧ Q (.int i) H) ∨ ∃ b, xs = [.bl b] ∧ Q (.int (if b then 1 else 0)) H
def cAbs : List V → Hp → VK → Prop := fun xs H Q => ∃ i, xs = [.int i] ∧ Q (.int (if i < 0 then -i else i)) H
def cMax2 : List V → Hp → VK → Prop := fun xs H Q => ∃ i j, xs = [.int i, .int j] ∧ Q (.int (if j > i then j else i)) H
def cMin2 : List V → Hp → VK → Prop := fun xs H Q => ∃ i j, xs = [.int i, .int j] ∧ Q (.int (if j < i then j else i)) H
def cTup (K : PySem.W.Frag) : List V → Hp → VK → Prop := fun xs H Q => ∃ p ys, xs = [.ref p] ∧ ((SqL K H p ys ∧ ∀ l, H l = none → Q (.ref l) (upd H l (.tup ys))) ∨ (SqT K H p ys ∧ Q (.ref p) H))
def cLst (K : PySem.W.Frag) : List V → Hp → VK → Prop := fun xs H Q => ∃ p ys, xs = [.ref p] ∧ (SqL K H p ys ∨ SqT K H p ys) ∧ ∀ l, H l = none → Q (.ref l) (upd H l (.lst ys))
def cStr : List V → Hp → VK → Prop := fun xs H Q => (∃ a, xs = [.str a] ∧ Q (.str a) H) ∨ ∃ i, xs = [.int i] ∧ i.natAbs.log2 < 1920 ∧ Q (.str (toString i)) H
end
section
variable {X : Cx}
theorem c_len : CallR X (.builtin "len") (cLen X.K) := call_len
theorem c_int : CallR X (.type "int") cInt := call_int1
theorem c_abs : CallR X (.builtin "abs") cAbs := call_abs
theorem c_max2 (hc : X.calm = true) : CallR X (.builtin "max") cMax2 := call_max2 hc
theorem c_min2 (hc : X.calm = true) : CallR X (.builtin "min") cMin2 := call_min2 hc
theorem c_tup : CallR X (.type "tuple") (cTup X.K) := call_tuple_of
theorem c_lst : CallR X (.type "list") (cLst X.K) := call_list_of
end
section
variable {C : Cxt} {k : Dt → Prop} {ρ : AEnv} {te ta tb : TE} {m : Bool}
theorem one1 {K : PySem.W.Frag} {M : MS} {H : Hp} {vs : List V} {x : Dt} (h : HdAll K M H vs [x]) : ∃ v, vs = [v] ∧ Hd K M H v x := by
  cases h with
  | cons h1 h2 => cases h2; exact ⟨_, rfl, h1⟩
theorem two2 {K : PySem.W.Frag} {M : MS} {H : Hp} {vs : List V} {x y : Dt} (h : HdAll K M H vs [x, y]) : ∃ v w, vs = [v, w] ∧ Hd K M H v x ∧ Hd K M H w y := by
  cases h with
  | cons h1 h2 =>
    cases h2 with
    | cons h3 h4 => cases h4; exact ⟨_, _, rfl, h1, h3⟩
theorem ac_lenT {xs : List Dt} (h : k (.int (xs.length : Nat))) : AC C (cLen C.K) [.tuple xs] k := fun M hm vs H Q hc hv q => by
  obtain ⟨v, rfl, g⟩ := one1 hv
  cases g with
  | tup s a => exact ⟨_, xs.length, rfl, .inr ⟨_, s, a.length.symm⟩, one (M := M) hc q h (.int _)⟩
theorem ac_lenL {xs : List Dt} (h : k (.int (xs.length : Nat))) : AC C (cLen C.K) [.list xs] k := fun M hm vs H Q hc hv q => by
  obtain ⟨v, rfl, g⟩ := one1 hv
  cases g with
  | lst n s a => exact ⟨_, xs.length, rfl, .inl ⟨_, .inl (.inl s), a.length.symm⟩, one (M := M) hc q h (.int _)⟩
theorem ac_lenS {z : Str} (hz : z.length ≤ 1000000) (h : k (.int (z.length : Nat))) : AC C (cLen C.K) [.str z] k := fun M hm vs H Q hc hv q => by
  obtain ⟨v, rfl, g⟩ := one1 hv
  cases g
  exact ⟨_, z.length, rfl, ⟨Nat.le_trans hz (by decide), rfl⟩, one (M := M) hc q h (.int _)⟩
theorem ac_int {i : Int} (h : k (.int i)) : AC C cInt [.int i] k := fun M hm vs H Q hc hv q => by
  obtain ⟨v, rfl, g⟩ := one1 hv
  cases g
  exact .inl ⟨i, rfl, one (M := M) hc q h (.int _)⟩
theorem ac_abs {i : Int} (h : k (.int (if i < 0 then -i else i))) : AC C cAbs [.int i] k := fun M hm vs H Q hc hv q => by
  obtain ⟨v, rfl, g⟩ := one1 hv
  cases g
  exact ⟨i, rfl, one (M := M) hc q h (.int _)⟩
theorem ac_max2 {i j : Int} (h : k (.int (if j > i then j else i))) : AC C cMax2 [.int i, .int j] k := fun M hm vs H Q hc hv q => by
  obtain ⟨v, w, rfl, g, g2⟩ := two2 hv
  cases g; cases g2
  exact ⟨i, j, rfl, one (M := M) hc q h (.int _)⟩
theorem ac_min2 {i j : Int} (h : k (.int (if j < i then j else i))) : AC C cMin2 [.int i, .int j] k := fun M hm vs H Q hc hv q => by
  obtain ⟨v, w, rfl, g, g2⟩ := two2 hv
  cases g; cases g2
  exact ⟨i, j, rfl, one (M := M) hc q h (.int _)⟩
theorem ac_tupL {xs : List Dt} (h : k (.tuple xs)) : AC C (cTup C.K) [.list xs] k := fun M hm vs H Q hc hv q => by
  obtain ⟨v, rfl, g⟩ := one1 hv
  cases g with
  | lst n s a => exact ⟨_, _, rfl, .inl ⟨.inl (.inl s), fun p hp => q _ _ _ h (Ext.new hp) (hc.new hp) (.tup (.inl (.inl upd_same)) (a.ext hm hc (Ext.new hp)))⟩⟩
theorem ac_tupT {xs : List Dt} (h : k (.tuple xs)) : AC C (cTup C.K) [.tuple xs] k := fun M hm vs H Q hc hv q => by
  obtain ⟨v, rfl, g⟩ := one1 hv
  cases g with
  | tup s a => exact ⟨_, _, rfl, .inr ⟨s, one (M := M) hc q h (.tup s a)⟩⟩
theorem acl_lstL {xs : List Dt} {k : List Dt → Prop} (h : k xs) : ACL C (cLst C.K) [.list xs] k := fun M hm vs H Q hc hv q => by
  obtain ⟨v, rfl, g⟩ := one1 hv
  cases g with
  | lst n s a => exact ⟨_, _, rfl, .inl (.inl (.inl s)), fun p hp => q p _ _ _ h (Ext.new hp) (hc.new hp) hp upd_same (a.ext hm hc (Ext.new hp))⟩
theorem acl_lstT {xs : List Dt} {k : List Dt → Prop} (h : k xs) : ACL C (cLst C.K) [.tuple xs] k := fun M hm vs H Q hc hv q => by
  obtain ⟨v, rfl, g⟩ := one1 hv
  cases g with
  | tup s a => exact ⟨_, _, rfl, .inr s, fun p hp => q p _ _ _ h (Ext.new hp) (hc.new hp) hp upd_same (a.ext hm hc (Ext.new hp))⟩
theorem ac_strS {z : Str} (h : k (.str z)) : AC C cStr [.str z] k := fun M hm vs H Q hc hv q => by
  obtain ⟨v, rfl, g⟩ := one1 hv
  cases g
  exact .inl ⟨z, rfl, one (M := M) hc q h (.str _)⟩
theorem ac_all {bs : List Bool} (h : k (.bool (bs.all id))) : AC C (rAll C.K) [.list (bs.map .bool)] k := fun M hm vs H Q hc hv q => by
  obtain ⟨v, rfl, g⟩ := one1 hv
  cases g with
  | lst n s a =>
    have e := HdAll.ofB bs _ a
    subst e
    exact ⟨_, bs, rfl, .inl (.inl s), one (M := M) hc q h (.bl _)⟩
theorem ac_any {bs : List Bool} (h : k (.bool (bs.any id))) : AC C (rAny C.K) [.list (bs.map .bool)] k := fun M hm vs H Q hc hv q => by
  obtain ⟨v, rfl, g⟩ := one1 hv
  cases g with
  | lst n s a =>
    have e := HdAll.ofB bs _ a
    subst e
    exact ⟨_, bs, rfl, .inl (.inl s), one (M := M) hc q h (.bl _)⟩
theorem ac_sum {ns : List Int} (h : k (.int ns.sum)) : AC C (rSum C.K) [.list (ns.map .int)] k := fun M hm vs H Q hc hv q => by
  obtain ⟨v, rfl, g⟩ := one1 hv
  cases g with
  | lst n s a =>
    have e := HdAll.ofI ns _ a
    subst e
    exact ⟨_, ns, rfl, .inl (.inl s), one (M := M) hc q h (.int _)⟩
theorem ac_maxL {ns : List Int} (hn : 0 < ns.length) (h : ∀ m, m ∈ ns → (∀ y, y ∈ ns → y ≤ m) → k (.int m)) : AC C (rMax C.K) [.list (ns.map .int)] k := fun M hm vs H Q hc hv q => by
  obtain ⟨v, rfl, g⟩ := one1 hv
  cases g with
  | lst n s a =>
    have e := HdAll.ofI ns _ a
    subst e
    exact ⟨_, ns, rfl, .inl (.inl s), hn, fun m h1 h2 => one (M := M) hc q (h m h1 h2) (.int _)⟩
theorem ac_minL {ns : List Int} (hn : 0 < ns.length) (h : ∀ m, m ∈ ns → (∀ y, y ∈ ns → m ≤ y) → k (.int m)) : AC C (rMin C.K) [.list (ns.map .int)] k := fun M hm vs H Q hc hv q => by
  obtain ⟨v, rfl, g⟩ := one1 hv
  cases g with
  | lst n s a =>
    have e := HdAll.ofI ns _ a
    subst e
    exact ⟨_, ns, rfl, .inl (.inl s), hn, fun m h1 h2 => one (M := M) hc q (h m h1 h2) (.int _)⟩
theorem acl_sortedI {ns : List Int} {k : List Dt → Prop} (h : ∀ ms : List Int, ms.Perm ns → ms.Pairwise (· ≤ ·) → k (ms.map .int)) : ACL C (rSortedI C.K) [.list (ns.map .int)] k := fun M hm vs H Q hc hv q => by
  obtain ⟨v, rfl, g⟩ := one1 hv
  cases g with
  | lst n s a =>
    have e := HdAll.ofI ns _ a
    subst e
    exact ⟨_, ns, rfl, .inl (.inl s), fun ms p h1 h2 hp => q p _ _ _ (h ms h1 h2) (Ext.new hp) (hc.new hp) hp upd_same (HdAll.mapI ms)⟩
/-! ### slices -/
def cut {α : Type} (xs : List α) (lo hi : Option Int) : List α := (xs.drop (HT.sIx xs.length 0 lo)).take (HT.sIx xs.length xs.length hi - HT.sIx xs.length 0 lo)
theorem HdAll.cut {K : PySem.W.Frag} {M : MS} {H : Hp} {vs : List V} {ds : List Dt} (h : HdAll K M H vs ds) (lo hi : Option Int) : HdAll K M H (cutV vs lo hi) (Pl.cut ds lo hi) := by
  unfold cutV Pl.cut
  rw [h.length]
  exact (h.drop _).take _
def rSlc (K : PySem.W.Frag) : V → Option Int → Option Int → Hp → VK → Prop := fun x lo hi H Q => rSlL K x lo hi H Q ∨ (rSlA K x lo hi H Q ∨ rSlS x lo hi H Q)
theorem s_slc {X : Cx} : SlR X (rSlc X.K) := sl_list.or (sl_tupA.or sl_str)
def EO (C : Cxt) (to : TO) (ρ : AEnv) (k : Option Int → Prop) : Prop := ∀ (H0 : Hp) (σ : L2.St) (H : Hp) (Q : Option Int → Hp → Prop), Rep C H0 ρ σ H →
  (∀ o H', k o → Ext C.cu H H' → CupOk C.cu H' → Q o H') → to σ H Q
theorem eo_none {k : Option Int → Prop} (h : k none) : EO C tNoPart ρ k := fun H0 σ H Q rp q => q none H h (Ext.refl _ _) rp.cup
theorem eo_some {k : Option Int → Prop} (h : EE C m ta ρ fun d => ∃ i, d = .int i ∧ k (some i)) : EO C (tPart ta) ρ k := fun H0 σ H Q rp q =>
  h H0 σ H _ rp fun v d H1 ⟨i, hd, hk⟩ e1 c1 hv => by
    subst hd
    cases hv
    exact ⟨i, rfl, q _ _ hk e1 c1⟩
theorem cut_whole {α : Type} {xs : List α} {lo hi : Option Int} (h : HT.sIx xs.length 0 lo = 0 ∧ HT.sIx xs.length xs.length hi = xs.length) : cut xs lo hi = xs := by
  unfold cut
  rw [h.1, h.2]
  simp
theorem ee_slT {tl th : TO} (h : EE C m ta ρ fun d => EO C tl ρ fun lo => EO C th ρ fun hi => ∃ xs, d = .tuple xs ∧ k (.tuple (cut xs lo hi))) : EE C m (tSl (rSlc C.K) ta tl th) ρ k := fun H0 σ H Q rp q =>
  h H0 σ H _ rp fun v d H1 h1 e1 c1 hv => h1 H0 σ H1 _ (rp.to e1 c1) fun lo H2 h2 e2 c2 => h2 H0 σ H2 _ ((rp.to e1 c1).to e2 c2) fun hi H3 ⟨xs, hd, hk⟩ e3 c3 => by
    subst hd
    have hv3 := (hv.ext (fun _ => Mm_c) c1 e2).ext (fun _ => Mm_c) c2 e3
    cases hv3 with
    | tup s a =>
      refine .inr (.inl ⟨_, _, rfl, s, fun e => ?_, fun _ p hp => ?_⟩)
      · refine q _ (.tuple xs) H3 ?_ ((e1.trans e2).trans e3) c3 (.tup s a)
        rw [a.length] at e
        rw [cut_whole e] at hk
        exact hk
      · exact q _ _ _ hk (((e1.trans e2).trans e3).trans (Ext.new hp)) (c3.new hp) (.tup (.inl (.inl upd_same)) ((a.cut lo hi).ext (fun _ => Mm_c) c3 (Ext.new hp)))
theorem el_sl {tl th : TO} {k : List Dt → Prop} (h : EE C m ta ρ fun d => EO C tl ρ fun lo => EO C th ρ fun hi => ∃ xs, d = .list xs ∧ k (cut xs lo hi)) : EL C m (tSl (rSlc C.K) ta tl th) ρ k := fun H0 σ H Q rp q =>
  h H0 σ H _ rp fun v d H1 h1 e1 c1 hv => h1 H0 σ H1 _ (rp.to e1 c1) fun lo H2 h2 e2 c2 => h2 H0 σ H2 _ ((rp.to e1 c1).to e2 c2) fun hi H3 ⟨xs, hd, hk⟩ e3 c3 => by
    subst hd
    have hv3 := (hv.ext (fun _ => Mm_c) c1 e2).ext (fun _ => Mm_c) c2 e3
    cases hv3 with
    | lst n s a =>
      exact .inl ⟨_, _, rfl, .inl (.inl s), fun p hp => q p _ _ _ hk (((e1.trans e2).trans e3).trans (Ext.new hp)) (c3.new hp) (((e1.trans e2).trans e3).back hp c3) upd_same ((a.cut lo hi).ext (fun _ => Mm_c) c3 (Ext.new hp))⟩
theorem HdAll.reverse {K : PySem.W.Frag} {M : MS} {H : Hp} : ∀ {ds : List Dt} {vs : List V}, HdAll K M H vs ds → HdAll K M H vs.reverse ds.reverse
  | [], _, h => by cases h; exact .nil
  | d :: ds, _, h => by
    cases h with
    | cons h1 h2 =>
      rw [List.reverse_cons, List.reverse_cons]
      exact (HdAll.reverse h2).append (.cons h1 .nil)
theorem el_rev {k : List Dt → Prop} (h : EE C m ta ρ fun d => ∃ xs, d = .list xs ∧ k xs.reverse) : EL C m (tRevL C.K ta) ρ k := fun H0 σ H Q rp q =>
  h H0 σ H _ rp fun v d H1 ⟨xs, hd, hk⟩ e1 c1 hv => by
    subst hd
    cases hv with
    | lst n s a => exact ⟨_, _, rfl, .inl (.inl s), fun p hp => q p _ _ _ hk (e1.trans (Ext.new hp)) (c1.new hp) (e1.back hp c1) upd_same (a.reverse.ext (fun _ => Mm_c) c1 (Ext.new hp))⟩
end
end Pl

set_option Elab.async false
set_option linter.all false
set_option maxRecDepth 100000
set_option maxHeartbeats 4000000
/-! Pl5: stores, targets, walks, comprehensions. -/
namespace Pl
open PySem PySem.Spec PyProof.Rows L2
/-! ### stores -/
section
variable {C : Cxt} {H0 H H' : Hp} {ρ : AEnv} {σ : L2.St}
theorem own_set {i j : Nat} {d : Dt} (h : isOwn (ρ.set i (some (.dat d))) j) : i ≠ j ∧ isOwn ρ j := by
  obtain ⟨ds, e⟩ := h
  by_cases hij : i = j
  · subst hij
    rw [List.getElem?_set] at e
    simp only [if_pos] at e
    split at e <;> cases e
  · rw [List.getElem?_set_ne hij] at e
    exact ⟨hij, ds, e⟩
theorem Mo_set {i : Nat} {d : Dt} {v : V} {cu : Option Addr} {a : Addr} (h : Mo cu (ρ.set i (some (.dat d))) (σ.set i (some v)) a) : Mo cu ρ σ a := by
  rcases h with h | ⟨j, hj, e⟩
  · exact .inl h
  · obtain ⟨hij, ho⟩ := own_set hj
    rw [List.getElem?_set_ne hij] at e
    exact .inr ⟨j, ho, e⟩
theorem AHd.mono {M M' : MS} {a : AV} {v : V} (hm : ∀ a, M' a → M a) (h : AHd C M H v a) : AHd C M' H v a := by
  cases a with
  | dat d => exact Hd.mono hm h
  | own ds =>
    obtain ⟨p, vs, rfl, h1, h2⟩ := h
    exact ⟨p, vs, rfl, h1, h2.mono hm⟩
  | cup => exact h
theorem Rep.setDat (r : Rep C H0 ρ σ H) {i : Nat} {d : Dt} {v : V} (hi : i < ρ.length) (hv : Hd C.K (Mo C.cu ρ σ) H v d) : Rep C H0 (ρ.set i (some (.dat d))) (σ.set i (some v)) H where
  len := by rw [List.length_set, List.length_set, r.len]
  slot := fun j a h => by
    by_cases hij : i = j
    · subst hij
      rw [List.getElem?_set_self hi] at h
      cases h
      exact ⟨v, List.getElem?_set_self (by rw [r.len]; exact hi), Hd.mono (fun a z => Mo_set z) hv⟩
    · rw [List.getElem?_set_ne hij] at h
      obtain ⟨w, h1, h2⟩ := r.slot j a h
      exact ⟨w, by rw [List.getElem?_set_ne hij]; exact h1, h2.mono fun a z => Mo_set z⟩
  uniq := fun j l p hj hl e1 e2 => by
    obtain ⟨n1, o1⟩ := own_set hj
    obtain ⟨n2, o2⟩ := own_set hl
    rw [List.getElem?_set_ne n1] at e1
    rw [List.getElem?_set_ne n2] at e2
    exact r.uniq j l p o1 o2 e1 e2
  own0 := fun j p hj e => by
    obtain ⟨n1, o1⟩ := own_set hj
    rw [List.getElem?_set_ne n1] at e
    exact r.own0 j p o1 e
  ext := r.ext
  cup0 := r.cup0
  cup := r.cup
  err := r.err
theorem own_set' {i j : Nat} {ds : List Dt} (h : isOwn (ρ.set i (some (.own ds))) j) : i = j ∨ (i ≠ j ∧ isOwn ρ j) := by
  obtain ⟨es, e⟩ := h
  by_cases hij : i = j
  · exact .inl hij
  · rw [List.getElem?_set_ne hij] at e
    exact .inr ⟨hij, es, e⟩
theorem Mo_set' {i : Nat} {ds : List Dt} {p : Addr} {cu : Option Addr} {a : Addr} (h : Mo cu (ρ.set i (some (.own ds))) (σ.set i (some (.ref p))) a) : Mo cu ρ σ a ∨ a = p := by
  rcases h with h | ⟨j, hj, e⟩
  · exact .inl (.inl h)
  · rcases own_set' hj with hij | ⟨hij, ho⟩
    · subst hij
      rw [List.getElem?_set] at e
      simp only [if_pos] at e
      split at e
      · cases e; exact .inr rfl
      · cases e
    · rw [List.getElem?_set_ne hij] at e
      exact .inl (.inr ⟨j, ho, e⟩)
/-- a new list goes to a name -/
theorem Rep.setOwn (r : Rep C H0 ρ σ H) {i : Nat} {ds : List Dt} {vs : List V} {p : Addr} (hi : i < ρ.length) (e : Ext C.cu H H') (hc : CupOk C.cu H') (hp : H p = none) (hp' : H' p = some (.lst vs)) (hn : nlAll ds = true) {M : MS} (hv : HdAll C.K M H' vs ds) :
    Rep C H0 (ρ.set i (some (.own ds))) (σ.set i (some (.ref p))) H' where
  len := by rw [List.length_set, List.length_set, r.len]
  slot := fun j a h => by
    by_cases hij : i = j
    · subst hij
      rw [List.getElem?_set_self hi] at h
      cases h
      exact ⟨.ref p, List.getElem?_set_self (by rw [r.len]; exact hi), p, vs, rfl, hp', HdAll.nl ds vs hn hv⟩
    · rw [List.getElem?_set_ne hij] at h
      obtain ⟨w, h1, h2⟩ := r.slot j a h
      refine ⟨w, by rw [List.getElem?_set_ne hij]; exact h1, ?_⟩
      have key : ∀ a xs, ¬ Mo C.cu ρ σ a → H a = some (.lst xs) → ¬ Mo C.cu (ρ.set i (some (.own ds))) (σ.set i (some (.ref p))) a ∧ H' a = some (.lst xs) := fun a xs n q =>
        ⟨fun z => (Mo_set' z).elim n (fun z => by
            subst z
            rw [hp] at q
            cases q), e _ _ (fun z => n (.inl z)) q⟩
      cases a with
      | dat d => exact Hd.imp key (fun a xs q => e.sqT r.cup q) d w h2
      | own es =>
        obtain ⟨q, ws, rfl, h3, h4⟩ := h2
        exact ⟨q, ws, rfl, e _ _ (r.ownNe ⟨es, h⟩ h1) h3, HdAll.imp key (fun a xs q => e.sqT r.cup q) es ws h4⟩
      | cup => exact h2
  uniq := fun j l q hj hl e1 e2 => by
    have old : ∀ j', isOwn ρ j' → σ[j']? = some (some (.ref p)) → False := fun j' hj' ej' => by
      obtain ⟨es, he⟩ := hj'
      obtain ⟨w, h1, q', ws, rfl, h3, _⟩ := r.slot j' _ he
      rw [h1] at ej'
      cases ej'
      rw [hp] at h3
      cases h3
    rcases own_set' hj with z1 | ⟨n1, o1⟩
    · subst z1
      rcases own_set' hl with z2 | ⟨n2, o2⟩
      · exact z2
      · rw [List.getElem?_set_self (by rw [r.len]; exact hi)] at e1
        cases e1
        rw [List.getElem?_set_ne n2] at e2
        exact (old l o2 e2).elim
    · rw [List.getElem?_set_ne n1] at e1
      rcases own_set' hl with z2 | ⟨n2, o2⟩
      · subst z2
        rw [List.getElem?_set_self (by rw [r.len]; exact hi)] at e2
        cases e2
        exact (old j o1 e1).elim
      · rw [List.getElem?_set_ne n2] at e2
        exact r.uniq j l q o1 o2 e1 e2
  own0 := fun j q hj e1 => by
    rcases own_set' hj with z | ⟨n1, o1⟩
    · subst z
      rw [List.getElem?_set_self (by rw [r.len]; exact hi)] at e1
      cases e1
      exact r.ext.back hp r.cup
    · rw [List.getElem?_set_ne n1] at e1
      exact r.own0 j q o1 e1
  ext := r.ext.trans e
  cup0 := r.cup0
  cup := hc
  err := r.err
/-- a list that is changed no more -/
theorem Rep.freeze (r : Rep C H0 ρ σ H) {i : Nat} {ds : List Dt} (h : ρ[i]? = some (some (.own ds))) : Rep C H0 (ρ.set i (some (.dat (.list ds)))) σ H := by
  have hi : i < ρ.length := (List.getElem?_eq_some_iff.mp h).1
  obtain ⟨v, h1, p, vs, rfl, h3, h4⟩ := r.slot i _ h
  have es : σ.set i (some (.ref p)) = σ := List.ext_getElem? fun j => by
    by_cases hij : i = j
    · subst hij
      rw [List.getElem?_set_self (by rw [r.len]; exact hi), h1]
    · rw [List.getElem?_set_ne hij]
  have mo : ∀ a, Mo C.cu (ρ.set i (some (.dat (.list ds)))) σ a → Mo C.cu ρ σ a := fun a z => by
    rw [← es] at z
    exact Mo_set z
  refine ⟨by rw [List.length_set, r.len], fun j a hj => ?_, fun j l q hj hl e1 e2 => r.uniq j l q (own_set hj).2 (own_set hl).2 e1 e2, fun j q hj e => r.own0 j q (own_set hj).2 e, r.ext, r.cup0, r.cup, r.err⟩
  by_cases hij : i = j
  · subst hij
    rw [List.getElem?_set_self hi] at hj
    cases hj
    refine ⟨_, h1, .lst (fun z => ?_) h3 (h4.mono mo)⟩
    rcases z with z | ⟨l, hl, e⟩
    · exact r.ownNe ⟨ds, h⟩ h1 z
    · exact (own_set hl).1 (r.uniq i l p ⟨ds, h⟩ (own_set hl).2 h1 e)
  · rw [List.getElem?_set_ne hij] at hj
    obtain ⟨w, q1, q2⟩ := r.slot j a hj
    exact ⟨w, q1, q2.mono mo⟩
/-- names forgotten -/
def wipeA (ρ : AEnv) : List Nat → AEnv
  | [] => ρ
  | v :: vs => (wipeA ρ vs).set v none
theorem own_none {i j : Nat} (h : isOwn (ρ.set i none) j) : i ≠ j ∧ isOwn ρ j := by
  obtain ⟨ds, e⟩ := h
  by_cases hij : i = j
  · subst hij
    rw [List.getElem?_set] at e
    simp only [if_pos] at e
    split at e <;> cases e
  · rw [List.getElem?_set_ne hij] at e
    exact ⟨hij, ds, e⟩
theorem Rep.drop1 (r : Rep C H0 ρ σ H) (i : Nat) (x : Option V) : Rep C H0 (ρ.set i none) (σ.set i x) H ∧ ∀ a, Mo C.cu (ρ.set i none) (σ.set i x) a → Mo C.cu ρ σ a := by
  have mo : ∀ a, Mo C.cu (ρ.set i none) (σ.set i x) a → Mo C.cu ρ σ a := fun a z => by
    rcases z with z | ⟨j, hj, e⟩
    · exact .inl z
    · obtain ⟨hij, ho⟩ := own_none hj
      rw [List.getElem?_set_ne hij] at e
      exact .inr ⟨j, ho, e⟩
  refine ⟨⟨by rw [List.length_set, List.length_set, r.len], fun j a h => ?_, fun j l q hj hl e1 e2 => ?_, fun j q hj e => ?_, r.ext, r.cup0, r.cup, r.err⟩, mo⟩
  · by_cases hij : i = j
    · subst hij
      rw [List.getElem?_set] at h
      simp only [if_pos] at h
      split at h <;> cases h
    · rw [List.getElem?_set_ne hij] at h
      obtain ⟨w, q1, q2⟩ := r.slot j a h
      exact ⟨w, by rw [List.getElem?_set_ne hij]; exact q1, q2.mono mo⟩
  · obtain ⟨n1, o1⟩ := own_none hj
    obtain ⟨n2, o2⟩ := own_none hl
    rw [List.getElem?_set_ne n1] at e1
    rw [List.getElem?_set_ne n2] at e2
    exact r.uniq j l q o1 o2 e1 e2
  · obtain ⟨n1, o1⟩ := own_none hj
    rw [List.getElem?_set_ne n1] at e
    exact r.own0 j q o1 e
theorem Rep.wipe (r : Rep C H0 ρ σ H) : ∀ vs : List Nat, Rep C H0 (wipeA ρ vs) (L2.wipe σ vs) H ∧ ∀ a, Mo C.cu (wipeA ρ vs) (L2.wipe σ vs) a → Mo C.cu ρ σ a
  | [] => ⟨r, fun _ z => z⟩
  | v :: vs => by
    obtain ⟨h1, h2⟩ := Rep.wipe r vs
    obtain ⟨h3, h4⟩ := h1.drop1 v none
    exact ⟨h3, fun a z => h2 a (h4 a z)⟩
end
theorem wipe_get (σ : L2.St) (vs : List Nat) (i : Nat) : (L2.wipe σ vs)[i]? = if i ∈ vs then (if i < σ.length then some none else none) else σ[i]? := by
  induction vs with
  | nil => simp [L2.wipe]
  | cons v vs ih =>
    show ((L2.wipe σ vs).set v none)[i]? = _
    by_cases h : v = i
    · subst h
      rw [if_pos List.mem_cons_self]
      rw [List.getElem?_set]
      simp only [if_pos, wipe_length]
    · rw [List.getElem?_set_ne h, ih]
      by_cases hm : i ∈ vs
      · rw [if_pos hm, if_pos (List.mem_cons_of_mem _ hm)]
      · rw [if_neg hm, if_neg]
        intro z
        rcases List.mem_cons.mp z with z | z
        · exact h z.symm
        · exact hm z
/-- σ2 parts from σ at the places js alone -/
def Off (js : List Nat) (σ σ2 : L2.St) : Prop := σ2.length = σ.length ∧ ∀ i, i ∉ js → σ2[i]? = σ[i]?
theorem Off.wipe {js vs : List Nat} {σ σ2 : L2.St} (h : Off js σ σ2) (hs : ∀ j ∈ js, j ∈ vs) : L2.wipe σ2 vs = L2.wipe σ vs := List.ext_getElem? fun i => by
  rw [wipe_get, wipe_get, h.1]
  by_cases hi : i ∈ vs
  · rw [if_pos hi, if_pos hi]
  · rw [if_neg hi, if_neg hi]
    exact h.2 i fun z => hi (hs i z)
theorem wipe_wipe (σ : L2.St) (vs : List Nat) : L2.wipe (L2.wipe σ vs) vs = L2.wipe σ vs := List.ext_getElem? fun i => by
  rw [wipe_get, wipe_length, wipe_get]
  by_cases hi : i ∈ vs
  · rw [if_pos hi, if_pos hi]
  · rw [if_neg hi]
theorem Off.wipe2 {js vs : List Nat} {σ σ2 : L2.St} (h : Off js (L2.wipe σ vs) σ2) (hs : ∀ j ∈ js, j ∈ vs) : L2.wipe σ2 vs = L2.wipe σ vs := (h.wipe hs).trans (wipe_wipe σ vs)

/-! ### targets -/
section
variable (C : Cxt)
mutual
inductive TgOk : TG → List Nat → (Dt → AEnv → Option AEnv) → Prop
  | name (i : Nat) : TgOk (gName i) [i] (fun d ρ => if i < ρ.length then some (ρ.set i (some (.dat d))) else none)
  | tup {gs : TGs} {js : List Nat} {f : List Dt → AEnv → Option AEnv} (n : Nat) : TgsOk gs js f → TgOk (gTup C.K n gs) js (fun d ρ => match d with
      | .tuple ds => if ds.length = n then f ds ρ else none
      | _ => none)
inductive TgsOk : TGs → List Nat → (List Dt → AEnv → Option AEnv) → Prop
  | nil : TgsOk gNil [] (fun ds ρ => match ds with
      | [] => some ρ
      | _ => none)
  | cons {g : TG} {gs : TGs} {js js' : List Nat} {f : Dt → AEnv → Option AEnv} {f' : List Dt → AEnv → Option AEnv} : TgOk g js f → TgsOk gs js' f' → TgsOk (gCons g gs) (js ++ js') (fun ds ρ => match ds with
      | d :: r => (f d ρ).bind (f' r)
      | [] => none)
end
end
section
variable {C : Cxt}
def GOk (C : Cxt) (g : TG) (js : List Nat) (f : Dt → AEnv → Option AEnv) : Prop := ∀ d ρ ρ2 v σ H H0 (Q : L2.St → Hp → Prop), f d ρ = some ρ2 → Rep C H0 ρ σ H → Hd C.K (Mo C.cu ρ σ) H v d →
  (∀ σ2, Rep C H0 ρ2 σ2 H → Off js σ σ2 → (∀ a, Mo C.cu ρ2 σ2 a → Mo C.cu ρ σ a) → Q σ2 H) → g v σ H Q
def GsOk (C : Cxt) (g : TGs) (js : List Nat) (f : List Dt → AEnv → Option AEnv) : Prop := ∀ ds ρ ρ2 vs σ H H0 (Q : L2.St → Hp → Prop), f ds ρ = some ρ2 → Rep C H0 ρ σ H → HdAll C.K (Mo C.cu ρ σ) H vs ds →
  (∀ σ2, Rep C H0 ρ2 σ2 H → Off js σ σ2 → (∀ a, Mo C.cu ρ2 σ2 a → Mo C.cu ρ σ a) → Q σ2 H) → g vs σ H Q
theorem tg_ok {g : TG} {js : List Nat} {f : Dt → AEnv → Option AEnv} (h : TgOk C g js f) : GOk C g js f := by
  refine TgOk.rec (C := C) (motive_1 := fun g js f _ => GOk C g js f) (motive_2 := fun g js f _ => GsOk C g js f) (fun i => ?_) (fun n _ ih => ?_) ?_ (fun _ _ ih1 ih2 => ?_) h
  · intro d ρ ρ2 v σ H H0 Q hf r hv q
    dsimp only at hf
    by_cases hi : i < ρ.length
    · rw [if_pos hi] at hf
      cases hf
      refine q _ (r.setDat hi hv) ⟨List.length_set .., fun j hj => List.getElem?_set_ne (fun z => hj (by rw [z]; exact List.mem_singleton.mpr rfl))⟩ fun a z => Mo_set z
    · rw [if_neg hi] at hf
      cases hf
  · intro d ρ ρ2 v σ H H0 Q hf r hv q
    cases hv with
    | tup s a =>
      dsimp only at hf
      split at hf
      · exact ⟨_, _, rfl, s, by rw [a.length]; assumption, ih _ _ _ _ _ _ _ _ hf r a q⟩
      · cases hf
    | _ => cases hf
  · intro ds ρ ρ2 vs σ H H0 Q hf r hv q
    cases hv with
    | nil =>
      cases hf
      exact ⟨rfl, q σ r ⟨rfl, fun _ _ => rfl⟩ fun _ z => z⟩
    | cons _ _ => cases hf
  · intro ds ρ ρ2 vs σ H H0 Q hf r hv q
    cases hv with
    | nil => cases hf
    | cons h1 h2 =>
      rename_i g gs js js' f f' _ _ v vs d ds
      dsimp only at hf
      cases e : f d ρ with
      | none => rw [e] at hf; cases hf
      | some ρ1 =>
        rw [e] at hf
        refine ⟨_, _, rfl, ih1 _ _ _ _ _ _ _ _ e r h1 fun σ1 r1 o1 m1 => ih2 _ _ _ _ _ _ _ _ hf r1 (h2.mono m1) fun σ2 r2 o2 m2 => q σ2 r2 ⟨o2.1.trans o1.1, fun i hi => ?_⟩ fun a z => m1 a (m2 a z)⟩
        rw [o2.2 i fun z => hi (List.mem_append_right _ z), o1.2 i fun z => hi (List.mem_append_left _ z)]
end
end Pl

set_option Elab.async false
set_option linter.all false
set_option maxRecDepth 100000
set_option maxHeartbeats 4000000
/-! Pl6: walks, comprehensions, statements, calls. -/
namespace Pl
open PySem PySem.Spec PyProof.Rows L2 RZ
/-! ### what is walked -/
def ExtM (M : MS) (H H' : Hp) : Prop := ∀ a o, ¬ M a → H a = some o → H' a = some o
section
variable {K : PySem.W.Frag} {M : MS} {H H' : Hp}
theorem ExtM.sqT (hM : ∀ a, M a → ∃ xs, H a = some (.lst xs)) (e : ExtM M H H') {a : Addr} {xs : List V} (h : SqT K H a xs) : SqT K H' a xs := by
  have off : ∀ o, H a = some o → (∀ ys, o ≠ .lst ys) → ¬ M a := fun o ho hn z => by
    obtain ⟨ys, hy⟩ := hM a z
    rw [ho] at hy
    exact hn ys (Option.some.inj hy)
  rcases h with (h | ⟨o, h⟩) | h
  · exact .inl (.inl (e _ _ (off _ h fun ys z => by cases z) h))
  · exact .inl (.inr ⟨o, e _ _ (off _ h fun ys z => by cases z) h⟩)
  · exact .inr h
theorem Hd.extM (hM : ∀ a, M a → ∃ xs, H a = some (.lst xs)) (e : ExtM M H H') {d : Dt} {v : V} (h : Hd K M H v d) : Hd K M H' v d :=
  Hd.imp (fun a xs n r => ⟨n, e _ _ n r⟩) (fun a xs r => e.sqT hM r) d v h
theorem HdAll.extM (hM : ∀ a, M a → ∃ xs, H a = some (.lst xs)) (e : ExtM M H H') {d : List Dt} {v : List V} (h : HdAll K M H v d) : HdAll K M H' v d :=
  HdAll.imp (fun a xs n r => ⟨n, e _ _ n r⟩) (fun a xs r => e.sqT hM r) d v h
theorem Hd.same (e : ∀ a o, H a = some o → H' a = some o) {d : Dt} {v : V} (h : Hd K M H v d) : Hd K M H' v d :=
  Hd.imp (fun a xs n r => ⟨n, e _ _ r⟩) (fun a xs r => by
    rcases r with (r | ⟨o, r⟩) | r
    · exact .inl (.inl (e _ _ r))
    · exact .inl (.inr ⟨o, e _ _ r⟩)
    · exact .inr r) d v h
end
def Mx (M : MS) (H1 : Hp) : MS := fun a => M a ∨ H1 a = none
theorem HdAll.mx {K : PySem.W.Frag} {M : MS} {H : Hp} {vs : List V} {ds : List Dt} (h : HdAll K M H vs ds) : HdAll K (Mx M H) H vs ds :=
  HdAll.imp (fun a xs n r => ⟨fun z => z.elim n (fun z => by rw [r] at z; cases z), r⟩) (fun a xs r => r) ds vs h
theorem Hd.mxM {K : PySem.W.Frag} {M : MS} {H H' : Hp} (hM : ∀ a, M a → ∃ xs, H a = some (.lst xs)) (e : ExtM M H H') {d : Dt} {v : V} (h : Hd K (Mx M H) H v d) : Hd K (Mx M H) H' v d :=
  Hd.imp (fun a xs n r => ⟨n, e _ _ (fun z => n (.inl z)) r⟩) (fun a xs r => e.sqT hM r) d v h
structure ItOk (C : Cxt) (M : MS) (H1 : Hp) (J : It) (ds : List Dt) : Prop where
  ex : ∃ (n : Nat) (G : Hp → Prop) (Y : Nat → Hp → V → Hp → Prop), Walk J n G Y ∧ n = ds.length ∧ (∀ H', ExtM M H1 H' → G H') ∧
    ∀ i H' x H'', i < n → ExtM M H1 H' → Y i H' x H'' → (∀ a o, H' a = some o → H'' a = some o) ∧ ∃ d, ds[i]? = some d ∧ Hd C.K (Mx M H1) H'' x d
def EI (C : Cxt) (wi : TI) (ρ : AEnv) (k : List Dt → Prop) : Prop := ∀ (H0 : Hp) (σ : L2.St) (H : Hp) (R : It → Hp → Prop), Rep C H0 ρ σ H →
  (∀ J ds H', k ds → Ext C.cu H H' → CupOk C.cu H' → ItOk C (Mo C.cu ρ σ) H' J ds → R J H') → wi σ H R
def iSeq (K : PySem.W.Frag) (te : TE) : TI := fun σ H R => iList K te σ H R ∨ (iTup K te σ H R ∨ iStr te σ H R)
theorem pi_or {X : Cx} {tg iter : Expr} {w1 w2 : TI} (h1 : PI X tg iter w1) (h2 : PI X tg iter w2) : PI X tg iter (fun σ H R => w1 σ H R ∨ w2 σ H R) :=
  ⟨fun pins s σ H R I h => h.elim (h1.run pins s σ H R I) (h2.run pins s σ H R I)⟩
theorem pi_seq {X : Cx} {tg l : Expr} {tl : TE} (hl : PE X l tl) : PI X tg l (iSeq X.K tl) := pi_or (pi_list hl) (pi_or (pi_tup hl) (pi_str hl))
def signs (z : Str) : List Dt := z.cps.toList.map fun c => .str ⟨#[c]⟩
def rng (lo : Int) (n : Nat) : List Dt := (List.range n).map fun i => .int (lo + (i : Nat))
def zipD (as bs : List Dt) : List Dt := List.zipWith (fun a b => .tuple [a, b]) as bs
def enumD (as : List Dt) : List Dt := as.mapIdx fun i a => .tuple [.int (i : Nat), a]
section
variable {C : Cxt} {ρ : AEnv} {te ta : TE} {k : List Dt → Prop} {H0 H : Hp} {σ : L2.St}
theorem Rep.moL (r : Rep C H0 ρ σ H) : ∀ a, Mo C.cu ρ σ a → ∃ xs, H a = some (.lst xs) := fun a h => r.lst (m := true) h
theorem it_tup {M : MS} {a : Addr} {vs : List V} {ds : List Dt} (hM : ∀ a, M a → ∃ xs, H a = some (.lst xs)) (s : SqT C.K H a vs) (h : HdAll C.K M H vs ds) : ItOk C M H (Itt C.K a) ds :=
  ⟨_, _, _, walk_tup (xs := vs), h.length, fun H' e => e.sqT hM s, fun i H' x H'' hi e ⟨e1, hx⟩ => by
    subst e1
    obtain ⟨d, h1, h2⟩ := h.mx.getV hx
    exact ⟨fun _ _ z => z, d, h1, h2.mxM hM e⟩⟩
theorem it_lst {M : MS} {a : Addr} {vs : List V} {ds : List Dt} (hM : ∀ a, M a → ∃ xs, H a = some (.lst xs)) (n : ¬ M a) (s : H a = some (.lst vs)) (h : HdAll C.K M H vs ds) : ItOk C M H (Itl C.K a) ds :=
  ⟨_, _, _, walk_list (xs := vs), h.length, fun H' e => .inl (.inl (e _ _ n s)), fun i H' x H'' hi e ⟨e1, hx⟩ => by
    subst e1
    obtain ⟨d, h1, h2⟩ := h.mx.getV hx
    exact ⟨fun _ _ z => z, d, h1, h2.mxM hM e⟩⟩
theorem moL_to (r : Rep C H0 ρ σ H) {H' : Hp} (e : Ext C.cu H H') (c : CupOk C.cu H') : ∀ a, Mo C.cu ρ σ a → ∃ xs, H' a = some (.lst xs) := (r.to e c).moL
theorem ei_tup (h : EE C true te ρ fun d => ∃ ds, d = .tuple ds ∧ k ds) : EI C (iSeq C.K te) ρ k := fun H0 σ H R r q =>
  .inr (.inl (h H0 σ H _ r fun v d H1 ⟨ds, e, hk⟩ e1 c1 hv => by
    subst e
    cases hv with
    | tup s a => exact ⟨_, rfl, ⟨_, s⟩, q _ ds H1 hk e1 c1 (it_tup (moL_to r e1 c1) s a)⟩))
theorem ei_lst (h : EE C true te ρ fun d => ∃ ds, d = .list ds ∧ k ds) : EI C (iSeq C.K te) ρ k := fun H0 σ H R r q =>
  .inl (h H0 σ H _ r fun v d H1 ⟨ds, e, hk⟩ e1 c1 hv => by
    subst e
    cases hv with
    | lst n s a => exact ⟨_, rfl, ⟨_, .inl (.inl s)⟩, q _ ds H1 hk e1 c1 (it_lst (moL_to r e1 c1) n s a)⟩)
theorem ei_str (h : EE C false te ρ fun d => ∃ z, d = .str z ∧ k (signs z)) : EI C (iSeq C.K te) ρ k := fun H0 σ H R r q =>
  .inr (.inr (h H0 σ H _ r fun v d H1 ⟨z, e, hk⟩ e1 c1 hv => by
    subst e
    cases hv
    refine ⟨z, rfl, q _ _ H1 hk e1 c1 ⟨_, _, _, walk_str (z := z), ?_, fun _ _ => True.intro, fun i H' x H'' hi e ⟨e2, c, hc, hx⟩ => ?_⟩⟩
    · unfold signs
      rw [List.length_map, Array.length_toList]
    · subst e2 hx
      refine ⟨fun _ _ z => z, .str ⟨#[c]⟩, ?_, .str _⟩
      unfold signs
      rw [List.getElem?_map, Array.getElem?_toList, hc] <;> rfl))
theorem it_rng {M : MS} {lo : Int} {n : Nat} : ItOk C M H (Itr lo n) (rng lo n) :=
  ⟨_, _, _, walk_range (lo := lo) (n := n), by unfold rng; rw [List.length_map, List.length_range], fun _ _ => True.intro, fun i H' x H'' hi e ⟨e2, hx⟩ => by
    subst e2 hx
    refine ⟨fun _ _ z => z, _, ?_, .int _⟩
    unfold rng
    rw [List.getElem?_map, List.getElem?_range hi] <;> rfl⟩
theorem ei_rng1 {t : TA} (h : ED C false t ρ fun xs => ∃ n : Int, xs = [.int n] ∧ -1000000 ≤ n ∧ n ≤ 1000000 ∧ k (rng 0 n.toNat)) : EI C (iRng1 t) ρ k := fun H0 σ H R r q =>
  h H0 σ H _ r fun vs xs H1 ⟨n, e, h1, h2, hk⟩ e1 c1 hv => by
    subst e
    obtain ⟨v, rfl, g⟩ := one1 hv
    cases g
    exact ⟨n, rfl, by omega, by omega, q _ _ H1 hk e1 c1 it_rng⟩
theorem ei_rng2 {t : TA} (h : ED C false t ρ fun xs => ∃ lo n : Int, xs = [.int lo, .int n] ∧ -1000000 ≤ lo ∧ lo ≤ 1000000 ∧ -1000000 ≤ n ∧ n ≤ 1000000 ∧ k (rng lo (n - lo).toNat)) : EI C (iRng2 t) ρ k := fun H0 σ H R r q =>
  h H0 σ H _ r fun vs xs H1 ⟨lo, n, e, h1, h2, h3, h4, hk⟩ e1 c1 hv => by
    subst e
    obtain ⟨v, w, rfl, g, g2⟩ := two2 hv
    cases g; cases g2
    exact ⟨lo, n, rfl, ⟨by omega, by omega, by omega, by omega⟩, q _ _ H1 hk e1 c1 it_rng⟩
theorem walk_zipT {K : PySem.W.Frag} {a b : Addr} {xs ys : List V} {n : Nat} (hn : n = min xs.length ys.length) : Walk (ItzT K a b) n (fun H => SqT K H a xs ∧ SqT K H b ys) (YPair (fun i => xs[i]?) (fun i => ys[i]?)) := by
  subst hn
  refine ⟨fun i H hi q => ?_, fun H q => ⟨xs, ys, q.1, q.2, by omega⟩, fun i H v H' _ q y => ?_⟩
  · have i1 : i < xs.length := by omega
    have i2 : i < ys.length := by omega
    exact ⟨xs, ys, xs[i], ys[i], q.1, q.2, by simp [i1], by simp [i2]⟩
  · obtain ⟨T, x, z, g1, g2, g3, g4, g5⟩ := y
    exact ⟨T, x, z, g1, g2, g3, g4 xs q.1, g5 ys q.2⟩
theorem zipD_len (as bs : List Dt) : (zipD as bs).length = min as.length bs.length := by unfold zipD; simp
theorem zipD_get {as bs : List Dt} {i : Nat} {a b : Dt} (h1 : as[i]? = some a) (h2 : bs[i]? = some b) : (zipD as bs)[i]? = some (.tuple [a, b]) := by
  unfold zipD
  rw [List.getElem?_zipWith, h1, h2]
theorem pair_new {M : MS} {T : Addr} {x y : V} {a b : Dt} {H H' : Hp} (hT : H T = none) (e : H' = upd H T (.tup [x, y])) (h1 : Hd C.K M H x a) (h2 : Hd C.K M H y b) : (∀ c o, H c = some o → H' c = some o) ∧ Hd C.K M H' (.ref T) (.tuple [a, b]) := by
  subst e
  have s : ∀ c o, H c = some o → (upd H T (.tup [x, y])) c = some o := fun c o z => by
    rw [upd_ne (ne_of_none z hT)]
    exact z
  exact ⟨s, .tup (.inl (.inl upd_same)) (.cons (h1.same s) (.cons (h2.same s) .nil))⟩
theorem ei_zip {t : TA} (h : ED C true t ρ fun xs => ∃ as bs, (xs = [.tuple as, .tuple bs] ∨ xs = [.list as, .list bs]) ∧ k (zipD as bs)) : EI C (iZipA C.K t) ρ k := fun H0 σ H R r q =>
  h H0 σ H _ r fun vs xs H1 ⟨as, bs, e, hk⟩ e1 c1 hv => by
    have hM := moL_to r e1 c1
    rcases e with e | e
    · subst e
      obtain ⟨v, w, rfl, g, g2⟩ := two2 hv
      cases g with
      | tup s1 a1 =>
        cases g2 with
        | tup s2 a2 =>
          refine ⟨_, _, _, _, rfl, .inr ⟨s1, s2, q _ _ H1 hk e1 c1 ⟨_, _, _, walk_zipT (by rw [a1.length, a2.length]), (zipD_len as bs).symm, fun H' e => ⟨e.sqT hM s1, e.sqT hM s2⟩, ?_⟩⟩⟩
          · intro i H' x H'' hi e y'
            obtain ⟨T, x1, x2, h1, h2, h3, h4, h5⟩ := y'
            obtain ⟨d1, g1, g2⟩ := a1.mx.getV h4
            obtain ⟨d2, g3, g4⟩ := a2.mx.getV h5
            subst h1
            obtain ⟨z1, z2⟩ := pair_new (C := C) h2 h3 (g2.mxM hM e) (g4.mxM hM e)
            exact ⟨z1, _, zipD_get g1 g3, z2⟩
    · subst e
      obtain ⟨v, w, rfl, g, g2⟩ := two2 hv
      cases g with
      | lst n1 s1 a1 =>
        cases g2 with
        | lst n2 s2 a2 =>
          refine ⟨_, _, _, _, rfl, .inl ⟨.inl (.inl s1), .inl (.inl s2), q _ _ H1 hk e1 c1 ⟨_, _, _, walk_zip (by rw [a1.length, a2.length]), (zipD_len as bs).symm, fun H' e => ⟨.inl (.inl (e _ _ n1 s1)), .inl (.inl (e _ _ n2 s2))⟩, ?_⟩⟩⟩
          intro i H' x H'' hi e y'
          obtain ⟨T, x1, x2, h1, h2, h3, h4, h5⟩ := y'
          obtain ⟨d1, g1, g2⟩ := a1.mx.getV h4
          obtain ⟨d2, g3, g4⟩ := a2.mx.getV h5
          subst h1
          obtain ⟨z1, z2⟩ := pair_new (C := C) h2 h3 (g2.mxM hM e) (g4.mxM hM e)
          exact ⟨z1, _, zipD_get g1 g3, z2⟩
/-! ### a comprehension -/
theorem nlAll_app {xs : List Dt} {y : Dt} (h : nlAll xs = true) (hy : nl y = true) : nlAll (xs ++ [y]) = true := by
  induction xs with
  | nil => rw [List.nil_append, nlAll, hy] <;> rfl
  | cons x xs ih =>
    rw [nlAll, Bool.and_eq_true] at h
    rw [List.cons_append, nlAll, h.1, ih h.2] <;> rfl
theorem HdAll.updL {K : PySem.W.Frag} {M M' : MS} {H : Hp} {D : Addr} {us us' vs : List V} {ds : List Dt} (hd : H D = some (.lst us)) (hn : nlAll ds = true) (h : HdAll K M H vs ds) : HdAll K M' (upd H D (.lst us')) vs ds := by
  have h1 : HdAll K (fun _ => True) H vs ds := HdAll.nl ds vs hn h
  refine HdAll.nl ds vs hn (M := M') (HdAll.imp (M := fun _ => True) (M' := M') (fun a xs n r => absurd True.intro n) (fun a xs r => ?_) ds vs h1)
  rcases r with (r | ⟨o, r⟩) | r
  · exact .inl (.inl (by rw [upd_ne (fun z => by rw [z, hd] at r; cases r)]; exact r))
  · exact .inl (.inr ⟨o, by rw [upd_ne (fun z => by rw [z, hd] at r; cases r)]; exact r⟩)
  · exact .inr r
/-- I: what holds of the items made behind so many turns -/
theorem el_lc {wi : TI} {g : TG} {tt : TT} {vs js : List Nat} {f : Dt → AEnv → Option AEnv} (hg : TgOk C g js f) (hs : ∀ j ∈ js, j ∈ vs)
    (h : EI C wi ρ fun ds => ds.length ≤ 100000 ∧ ∃ I : Nat → List Dt → Prop, I 0 [] ∧ (∀ i d ys, ds[i]? = some d → ys.length ≤ i → I i ys → ∃ ρ2, f d (wipeA ρ vs) = some ρ2 ∧
      ET C tt ρ2 fun b => if b = true then EE C false te ρ2 fun y => nl y = true ∧ I (i + 1) (ys ++ [y]) else I (i + 1) ys) ∧ ∀ ys, I ds.length ys → ys.length ≤ ds.length → nlAll ys = true → k ys) : EL C true (tLc wi g tt te vs) ρ k := fun H0 σ H Q r q =>
  h H0 σ H _ r fun J ds H1 ⟨hz, I, i0, it, ie⟩ e1 c1 ok D hD => by
    obtain ⟨n, G, Y, w, hn, hG, hY⟩ := ok.ex
    have r1 := r.to e1 c1
    obtain ⟨rw, mw⟩ := r1.wipe vs
    refine lc_it w (fun i H' => ∃ (ys : List Dt) (us : List V), I i ys ∧ ys.length ≤ i ∧ Ext C.cu H1 H' ∧ CupOk C.cu H' ∧ H' D = some (.lst us) ∧ nlAll ys = true ∧ HdAll C.K (Mc C.cu) H' us ys) ⟨[], [], i0, Nat.le_refl 0, Ext.new hD, c1.new hD, upd_same, rfl, .nil⟩
      (fun i H' _ ⟨_, _, _, _, e, _⟩ => hG H' fun a o na ha => e a o (fun z => na (.inl z)) ha) (fun i x H' H'' hi ⟨ys, us, hI, hl, e, c, hd, hn0, ha⟩ y => ?_) (fun H' ⟨ys, us, hI, hl, e, c, hd, hn0, ha⟩ => ?_)
    · have eM : ExtM (Mo C.cu ρ σ) H1 H' := fun a o na h' => e a o (fun z => na (.inl z)) h'
      obtain ⟨s2, d, hdi, hx⟩ := hY i H' x H'' hi eM y
      obtain ⟨ρ2, hf, ht⟩ := it i d ys hdi hl hI
      have c2 : CupOk C.cu H'' := fun c' e' => by
        obtain ⟨x', y', h1, h2⟩ := c c' e'
        exact ⟨x', y', s2 _ _ h1, h2⟩
      have e2 : Ext C.cu H' H'' := fun a o _ h' => s2 a o h'
      have rw2 := (rw.to e c).to e2 c2
      refine tg_ok hg _ _ _ _ _ _ _ _ hf rw2 (hx.mono fun a z => .inl (mw a z)) fun σ2 r2 o2 m2 => ⟨o2.wipe2 hs, ht H0 σ2 H'' _ r2 fun b H3 hb e3 c3 => ?_⟩
      have cD : C.cu ≠ some D := cup_ne_none c1 hD
      cases b with
      | false =>
        rw [if_neg Bool.false_ne_true] at hb ⊢
        exact ⟨ys, us, hb, Nat.le_succ_of_le hl, (e.trans e2).trans e3, c3, e3 _ _ cD (e2 _ _ cD hd), hn0, (ha.extC c e2).extC c2 e3⟩
      | true =>
        rw [if_pos rfl] at hb ⊢
        refine hb H0 σ2 H3 _ (r2.to e3 c3) fun u y' H4 ⟨hny, hI4⟩ e4 c4 hu => ⟨us, e4 _ _ cD (e3 _ _ cD (e2 _ _ cD hd)), ?_, ys ++ [y'], us ++ [u], hI4, by rw [List.length_append]; exact Nat.succ_le_succ hl, ?_, ?_, upd_same, nlAll_app hn0 hny, ?_⟩
        · have hn' : i < ds.length := by rw [← hn]; exact hi
          rw [ha.length]
          exact Nat.lt_of_le_of_lt hl (Nat.lt_of_lt_of_le hn' (Nat.le_trans hz (by decide)))
        · intro a o na h1
          have h4 := e4 a o na (e3 a o na (e2 a o na (e a o na h1)))
          rw [upd_ne (ne_of_none h1 hD)]
          exact h4
        · intro c' e'
          obtain ⟨x', y'', h1, h2⟩ := c4 c' e'
          refine ⟨x', y'', ?_, h2⟩
          rw [upd_ne fun z => cD (by rw [← z]; exact e')]
          exact h1
        · have ha4 := ((ha.extC c e2).extC c2 e3).extC c3 e4
          exact HdAll.updL (e4 _ _ cD (e3 _ _ cD (e2 _ _ cD hd))) (nlAll_app hn0 hny) (ha4.append (.cons hu .nil))
    · exact q D us ys H' (ie ys (by rw [← hn]; exact hI) (by rw [← hn]; exact hl) hn0) (e1.trans e) c (e1.back hD c1) hd (HdAll.nl ys us hn0 ha)
end
end Pl

set_option Elab.async false
set_option linter.all false
set_option maxRecDepth 100000
set_option maxHeartbeats 4000000
/-! Pl7: statements, loops, calls, bodies over data. -/
namespace Pl
open PySem PySem.Spec PyProof.Rows L2
structure AE where
  nx : AEnv → Prop
  rt : Dt → Prop
  bk : AEnv → Prop := fun _ => False
  ct : AEnv → Prop := fun _ => False
structure EndsOk (C : Cxt) (H0 : Hp) (N : AE) (D : Ends) : Prop where
  nx : ∀ ρ σ H, N.nx ρ → Rep C H0 ρ σ H → D.nx σ H
  rt : ∀ v d H, N.rt d → Ext C.cu H0 H → CupOk C.cu H → Hd C.K (Mc C.cu) H v d → D.rt v H
  bk : ∀ ρ σ H, N.bk ρ → Rep C H0 ρ σ H → D.bk σ H
  ct : ∀ ρ σ H, N.ct ρ → Rep C H0 ρ σ H → D.ct σ H
def SS (C : Cxt) (ts : TS) (ρ : AEnv) (N : AE) : Prop := ∀ H0 σ H (D : Ends), Rep C H0 ρ σ H → EndsOk C H0 N D → ts D σ H
section
variable {C : Cxt} {ρ : AEnv} {N : AE} {te : TE} {t u : TS}
theorem EndsOk.to {H0 : Hp} {D : Ends} {P : AEnv → Prop} {q : L2.St → Hp → Prop} (e : EndsOk C H0 N D) (h : ∀ ρ σ H, P ρ → Rep C H0 ρ σ H → q σ H) : EndsOk C H0 { N with nx := P } { D with nx := q } := ⟨h, e.rt, e.bk, e.ct⟩
theorem ss_seq (h : SS C t ρ { N with nx := fun ρ' => SS C u ρ' N }) : SS C (tSeq t u) ρ N := fun H0 σ H D r e => h H0 σ H _ r (e.to fun ρ' σ' H' h' r' => h' H0 σ' H' D r' e)
theorem ss_next (h : N.nx ρ) : SS C tNext ρ N := fun H0 σ H D r e => e.nx ρ σ H h r
theorem ss_break (h : N.bk ρ) : SS C tBreak ρ N := fun H0 σ H D r e => e.bk ρ σ H h r
theorem ss_cont (h : N.ct ρ) : SS C tCont ρ N := fun H0 σ H D r e => e.ct ρ σ H h r
theorem ss_ret (h : EE C false te ρ N.rt) : SS C (tRet te) ρ N := fun H0 σ H D r e => h H0 σ H D.rt r fun v d H' hk e1 c1 hv => e.rt v d H' hk (r.ext.trans e1) c1 hv
theorem ss_retN (h : N.rt .none) : SS C tRetN ρ N := fun H0 σ H D r e => e.rt _ _ H h r.ext r.cup .non
theorem ss_drop (h : EE C false te ρ fun _ => N.nx ρ) : SS C (tDrop te) ρ N := fun H0 σ H D r e => h H0 σ H _ r fun v d H' hk e1 c1 hv => e.nx ρ σ H' hk (r.to e1 c1)
theorem ss_if {c : TT} (h : ET C c ρ fun b => if b = true then SS C t ρ N else SS C u ρ N) : SS C (tIfS c t u) ρ N := fun H0 σ H D r e => h H0 σ H _ r fun b H' hk e1 c1 => by
  cases b with
  | true =>
    rw [if_pos rfl] at hk ⊢
    exact hk H0 σ H' D (r.to e1 c1) e
  | false =>
    rw [if_neg Bool.false_ne_true] at hk ⊢
    exact hk H0 σ H' D (r.to e1 c1) e
theorem ss_set {i : Nat} (hi : i < ρ.length) (h : EE C true te ρ fun d => N.nx (ρ.set i (some (.dat d)))) : SS C (tAsg te (gName i)) ρ N := fun H0 σ H D r e => h H0 σ H _ r fun v d H' hk e1 c1 hv =>
  e.nx _ _ H' hk ((r.to e1 c1).setDat hi hv)
theorem ss_setO {i : Nat} (hi : i < ρ.length) (h : EL C false te ρ fun ds => nlAll ds = true ∧ N.nx (ρ.set i (some (.own ds)))) : SS C (tAsg te (gName i)) ρ N := fun H0 σ H D r e => h H0 σ H _ r fun p vs ds H' ⟨hn, hk⟩ e1 c1 hp hp' hv =>
  e.nx _ _ H' hk (r.setOwn hi e1 c1 hp hp' hn hv)
theorem ss_asg {g : TG} {js : List Nat} {f : Dt → AEnv → Option AEnv} (hg : TgOk C g js f) (h : EE C true te ρ fun d => ∃ ρ2, f d ρ = some ρ2 ∧ N.nx ρ2) : SS C (tAsg te g) ρ N := fun H0 σ H D r e => h H0 σ H _ r fun v d H' ⟨ρ2, hf, hk⟩ e1 c1 hv =>
  tg_ok hg _ _ _ _ _ _ _ _ hf (r.to e1 c1) hv fun σ2 r2 _ _ => e.nx _ _ H' hk r2
/-- a name changed by an operator -/
theorem ss_aug {i : Nat} {a : Int} {f : Int → Int → Int} (hi : ρ[i]? = some (some (.dat (.int a)))) (h : EE C false te ρ fun d => ∃ b, d = .int b ∧ N.nx (ρ.set i (some (.dat (.int (f a b)))))) : SS C (tAug i te (ipI f)) ρ N := fun H0 σ H D r e => by
  obtain ⟨v, h1, h2⟩ := r.slot i _ hi
  cases h2
  exact ⟨_, h1, h H0 σ H _ r fun w d H' ⟨b, hd, hk⟩ e1 c1 hw => by
    subst hd
    cases hw
    exact ⟨a, b, rfl, rfl, e.nx _ _ H' hk ((r.to e1 c1).setDat (List.getElem?_eq_some_iff.mp hi).1 (.int _))⟩⟩
theorem ss_freeze {i : Nat} {ds : List Dt} (h : ρ[i]? = some (some (.own ds))) (k : SS C t (ρ.set i (some (.dat (.list ds)))) N) : SS C t ρ N := fun H0 σ H D r e => k H0 σ H D (r.freeze h) e
theorem Rep.upd (r : Rep C H0 ρ σ H) {i : Nat} {ds es : List Dt} {p : Addr} {vs us : List V} (h : ρ[i]? = some (some (.own ds))) (hs : σ[i]? = some (some (.ref p))) (hn : nlAll es = true) {M : MS} (hv : HdAll C.K M H us es) :
    Rep C H0 (ρ.set i (some (.own es))) σ (upd H p (.lst us)) := by
  have hi : i < ρ.length := (List.getElem?_eq_some_iff.mp h).1
  obtain ⟨v, h1, p', ws, rfl, h3, h4⟩ := r.slot i _ h
  rw [hs] at h1
  cases h1
  have own : ∀ j, isOwn (ρ.set i (some (.own es))) j → isOwn ρ j := fun j hj => by
    rcases own_set' hj with z | ⟨_, z⟩
    · subst z; exact ⟨ds, h⟩
    · exact z
  have mo : ∀ a, Mo C.cu (ρ.set i (some (.own es))) σ a → Mo C.cu ρ σ a := fun a z => by
    rcases z with z | ⟨j, hj, e⟩
    · exact .inl z
    · exact .inr ⟨j, own j hj, e⟩
  have mp : Mo C.cu ρ σ p := .inr ⟨i, ⟨ds, h⟩, hs⟩
  have cp : C.cu ≠ some p := r.ownNe ⟨ds, h⟩ hs
  have key : ∀ a xs, ¬ Mo C.cu ρ σ a → H a = some (.lst xs) → ¬ Mo C.cu (ρ.set i (some (.own es))) σ a ∧ (L2.upd H p (.lst us)) a = some (.lst xs) := fun a xs n q =>
    ⟨fun z => n (mo a z), by rw [upd_ne fun z => n (by rw [z]; exact mp)]; exact q⟩
  have key2 : ∀ a xs, SqT C.K H a xs → SqT C.K (L2.upd H p (.lst us)) a xs := fun a xs q => by
    rcases q with (q | ⟨o, q⟩) | q
    · exact .inl (.inl (by rw [upd_ne (fun z => by rw [z, h3] at q; cases q)]; exact q))
    · exact .inl (.inr ⟨o, by rw [upd_ne (fun z => by rw [z, h3] at q; cases q)]; exact q⟩)
    · exact .inr q
  refine ⟨by rw [List.length_set, r.len], fun j a hj => ?_, fun j l q hj hl => r.uniq j l q (own j hj) (own l hl), fun j q hj => r.own0 j q (own j hj), fun a o na ha => ?_, r.cup0, fun c hc => ?_, r.err⟩
  · by_cases hij : i = j
    · subst hij
      rw [List.getElem?_set_self hi] at hj
      cases hj
      exact ⟨_, hs, p, us, rfl, upd_same, HdAll.updL h3 hn hv⟩
    · rw [List.getElem?_set_ne hij] at hj
      obtain ⟨w, q1, q2⟩ := r.slot j a hj
      refine ⟨w, q1, ?_⟩
      cases a with
      | dat d => exact Hd.imp key key2 d w q2
      | own fs =>
        obtain ⟨q, xs, rfl, q3, q4⟩ := q2
        refine ⟨q, xs, rfl, ?_, HdAll.imp key key2 fs xs q4⟩
        rw [upd_ne fun z => hij (r.uniq i j p ⟨ds, h⟩ ⟨fs, hj⟩ hs (by rw [← z]; exact q1))]
        exact q3
      | cup => exact q2
  · rw [upd_ne fun z => ?_]
    · exact r.ext a o na ha
    · have := r.own0 i p ⟨ds, h⟩ hs
      rw [← z, ha] at this
      cases this
  · obtain ⟨x, y, q1, q2⟩ := r.cup c hc
    exact ⟨x, y, by rw [upd_ne fun z => cp (by rw [← z]; exact hc)]; exact q1, q2⟩
/-- xs.append(e) -/
theorem ss_append {i : Nat} {ds : List Dt} (h : ρ[i]? = some (some (.own ds))) (hz : ds.length ≤ 100000) (hd : nlAll ds = true) (k : EE C false te ρ fun d => nl d = true ∧ N.nx (ρ.set i (some (.own (ds ++ [d]))))) : SS C (tDrop (tBM C.K "list" rAppend (tVar i) (tCons te tNil))) ρ N := fun H0 σ H D r e => by
  obtain ⟨v, h1, p, vs, rfl, h3, h4⟩ := r.slot i _ h
  refine ⟨_, h1, .inl ⟨rfl, vs, .inl (.inl h3)⟩, k H0 σ H _ r fun w d H' ⟨hn, hk⟩ e1 c1 hw => ?_⟩
  have r1 := r.to e1 c1
  have g3 := e1 _ _ (r.ownNe ⟨ds, h⟩ h1) h3
  refine ⟨p, vs, w, rfl, rfl, g3, by rw [h4.length]; exact Nat.lt_of_le_of_lt hz (by decide), e.nx _ _ _ hk ?_⟩
  have h4' : HdAll C.K (Mc C.cu) H' vs ds := HdAll.ext (fun _ z => z) r.cup e1 (h4.mono fun a z => .inl z)
  exact r1.upd (vs := vs) h h1 (nlAll_app hd hn) (h4'.append (.cons hw .nil))
/-! ### loops -/
/-- the rest of the heap, seen as the base -/
theorem Rep.base {H0 H : Hp} {σ : L2.St} (r : Rep C H0 ρ σ H) : ∃ H1 : Hp, Rep C H1 ρ σ H ∧ (∀ a o, ¬ Mo C.cu ρ σ a → H a = some o → H1 a = some o) ∧ (∀ H', Ext C.cu H1 H' → Ext C.cu H0 H') ∧ (∀ ρ' σ' H', Rep C H1 ρ' σ' H' → Rep C H0 ρ' σ' H') := by
  classical
  let H1 : Hp := fun a => if (∃ i, isOwn ρ i ∧ σ[i]? = some (some (.ref a))) then none else H a
  have own1 : ∀ i p, isOwn ρ i → σ[i]? = some (some (.ref p)) → H1 p = none := fun i p hi hp => if_pos ⟨i, hi, hp⟩
  have oth : ∀ a, ¬ (∃ i, isOwn ρ i ∧ σ[i]? = some (some (.ref a))) → H1 a = H a := fun a h => if_neg h
  have up : ∀ a o, C.cu ≠ some a → H0 a = some o → H1 a = some o := fun a o na ha => by
    rw [oth a fun ⟨i, hi, hp⟩ => by
      rw [r.own0 i a hi hp] at ha
      cases ha]
    exact r.ext a o na ha
  have ex : ∀ H', Ext C.cu H1 H' → Ext C.cu H0 H' := fun H' e a o na ha => e a o na (up a o na ha)
  have sub : ∀ a o, H1 a = some o → H a = some o := fun a o h => by
    by_cases z : ∃ i, isOwn ρ i ∧ σ[i]? = some (some (.ref a))
    · rw [show H1 a = none from if_pos z] at h
      cases h
    · rw [oth a z] at h
      exact h
  refine ⟨H1, ⟨r.len, r.slot, r.uniq, own1, fun a o _ h => sub a o h, fun c hc => ?_, r.cup, fun e cls dd H' he hx => r.err e cls dd H' he (ex H' hx)⟩, fun a o na ha => ?_, ex, fun ρ' σ' H' r' => ?_⟩
  · obtain ⟨x, y, h1, h2⟩ := r.cup c hc
    exact ⟨x, y, by rw [oth c fun ⟨i, hi, hp⟩ => r.ownNe hi hp hc]; exact h1, h2⟩
  · rw [oth a fun z => na (.inr z)]
    exact ha
  · refine ⟨r'.len, r'.slot, r'.uniq, fun i p hi hp => ?_, ex H' r'.ext, r.cup0, r'.cup, r.err⟩
    have h1 := r'.own0 i p hi hp
    cases q : H0 p with
    | none => rfl
    | some o =>
      rw [up p o (r'.ownNe hi hp) q] at h1
      cases h1
theorem ss_for {wi : TI} {g : TG} {js : List Nat} {f : Dt → AEnv → Option AEnv} (hg : TgOk C g js f)
    (h : EI C wi ρ fun ds => ∃ I : Nat → AEnv → Prop, I 0 ρ ∧ (∀ i d ρ', ds[i]? = some d → I i ρ' → ∃ ρ2, f d ρ' = some ρ2 ∧ SS C t ρ2 { N with nx := I (i + 1), ct := I (i + 1), bk := N.nx }) ∧ ∀ ρ', I ds.length ρ' → N.nx ρ') : SS C (tFor wi g t) ρ N := fun H0 σ H D r e =>
  h H0 σ H _ r fun J ds H1 ⟨I, i0, it, ie⟩ e1 c1 ok => by
    obtain ⟨n, G, Y, w, hn, hG, hY⟩ := ok.ex
    have r1 := r.to e1 c1
    obtain ⟨Hb, rb, hb1, hb2, hb3⟩ := r1.base
    have eM : ∀ ρ' σ' H', Rep C Hb ρ' σ' H' → ExtM (Mo C.cu ρ σ) H1 H' := fun ρ' σ' H' r' a o na ha => r'.ext a o (fun z => na (.inl z)) (hb1 a o na ha)
    have mM : ∀ ρ' σ' H', Rep C Hb ρ' σ' H' → ∀ a, Mo C.cu ρ' σ' a → Mx (Mo C.cu ρ σ) H1 a := fun ρ' σ' H' r' a z => by
      rcases z with z | ⟨i, hi, hp⟩
      · exact .inl (.inl z)
      · by_cases na : Mo C.cu ρ σ a
        · exact .inl na
        · refine .inr ?_
          have h0 := r'.own0 i a hi hp
          cases q : H1 a with
          | none => rfl
          | some o =>
            rw [hb1 a o na q] at h0
            cases h0
    refine for_it w (fun i σ' H' => ∃ ρ', I i ρ' ∧ Rep C Hb ρ' σ' H') ⟨ρ, i0, rb⟩ (fun i σ' H' _ ⟨ρ', _, r'⟩ => hG H' (eM _ _ _ r')) (fun i x σ' H' H'' hi ⟨ρ', hI, r'⟩ y => ?_) fun σ' H' ⟨ρ', hI, r'⟩ => e.nx _ _ _ (ie ρ' (by rw [← hn]; exact hI)) (hb3 _ _ _ r')
    obtain ⟨s2, d, hd, hx⟩ := hY i H' x H'' hi (eM _ _ _ r') y
    obtain ⟨ρ2, hf, ht⟩ := it i d ρ' hd hI
    have c2 : CupOk C.cu H'' := fun c' e' => by
      obtain ⟨x', y', h1, h2⟩ := r'.cup c' e'
      exact ⟨x', y', s2 _ _ h1, h2⟩
    have r2 := r'.to (fun a o _ z => s2 a o z) c2
    refine tg_ok hg _ _ _ _ _ _ _ _ hf r2 (hx.mono (mM _ _ _ r')) fun σ2 r3 _ _ => ht Hb σ2 H'' _ r3 ⟨fun ρ4 σ4 H4 h4 r4 => ⟨ρ4, h4, r4⟩, fun v d' H4 h4 e4 c4 hv => e.rt v d' H4 h4 (hb2 H4 e4) c4 hv, fun ρ4 σ4 H4 h4 r4 => e.nx _ _ _ h4 (hb3 _ _ _ r4), fun ρ4 σ4 H4 h4 r4 => ⟨ρ4, h4, r4⟩⟩
theorem ss_while {c : TT} (W : Nat → AEnv → Prop) (m0 : Nat) (h0 : W m0 ρ) (hs : ∀ m ρ', W m ρ' → ET C c ρ' fun b => if b = true then SS C t ρ' { N with nx := fun ρ2 => ∃ m', m' < m ∧ W m' ρ2, ct := fun ρ2 => ∃ m', m' < m ∧ W m' ρ2, bk := N.nx } else N.nx ρ') : SS C (tWhile c t) ρ N := fun H0 σ H D r e =>
  ⟨fun m σ' H' => ∃ ρ', W m ρ' ∧ Rep C H0 ρ' σ' H', ⟨m0, ρ, h0, r⟩, fun m σ' H' ⟨ρ', hw, r'⟩ => hs m ρ' hw H0 σ' H' _ r' fun b H1 hb e1 c1 => by
    cases b with
    | true =>
      rw [if_pos rfl] at hb ⊢
      refine ⟨fun σ2 H2 => ∃ ρ2, (∃ m', m' < m ∧ W m' ρ2) ∧ Rep C H0 ρ2 σ2 H2, fun σ2 H2 ⟨ρ2, ⟨m', hm, hw'⟩, r2⟩ => ⟨m', hm, ρ2, hw', r2⟩, hb H0 σ' H1 _ (r'.to e1 c1) ⟨fun ρ4 σ4 H4 h4 r4 => ⟨ρ4, h4, r4⟩, e.rt, e.nx, fun ρ4 σ4 H4 h4 r4 => ⟨ρ4, h4, r4⟩⟩⟩
    | false =>
      rw [if_neg Bool.false_ne_true] at hb ⊢
      exact e.nx _ _ _ hb (r'.to e1 c1)⟩
/-! ### two names at once -/
theorem ss_par {i j : Nat} {ta tb : TE} (hi : i < ρ.length) (hj : j < ρ.length) (h : EE C false ta ρ fun x => EE C false tb ρ fun y => nl x = true ∧ nl y = true ∧ N.nx ((ρ.set i (some (.dat x))).set j (some (.dat y)))) : SS C (tPar i j (tCons ta (tCons tb tNil))) ρ N := fun H0 σ H D r e =>
  h H0 σ H _ r fun v x H1 h1 e1 c1 hv => h1 H0 σ H1 _ (r.to e1 c1) fun w y H2 ⟨n1, n2, hk⟩ e2 c2 hw => ⟨v, w, rfl, e.nx _ _ _ hk (((((r.to e1 c1).to e2 c2).setDat hi (Hd.nl _ _ n1 (hv.extC c1 e2)))).setDat (by rw [List.length_set]; exact hj) (Hd.nl _ _ n2 hw))⟩
theorem ss_par3 {i j l : Nat} {ta tb tc : TE} (hi : i < ρ.length) (hj : j < ρ.length) (hl : l < ρ.length)
    (h : EE C false ta ρ fun x => EE C false tb ρ fun y => EE C false tc ρ fun z => nl x = true ∧ nl y = true ∧ nl z = true ∧ N.nx (((ρ.set i (some (.dat x))).set j (some (.dat y))).set l (some (.dat z)))) : SS C (tPar3 i j l (tCons ta (tCons tb (tCons tc tNil)))) ρ N := fun H0 σ H D r e =>
  h H0 σ H _ r fun u x H1 h1 e1 c1 hu => h1 H0 σ H1 _ (r.to e1 c1) fun v y H2 h2 e2 c2 hv => h2 H0 σ H2 _ ((r.to e1 c1).to e2 c2) fun w z H3 ⟨n1, n2, n3, hk⟩ e3 c3 hw =>
    ⟨u, v, w, rfl, e.nx _ _ _ hk (((((((r.to e1 c1).to e2 c2).to e3 c3).setDat hi (Hd.nl _ _ n1 ((hu.extC c1 e2).extC c2 e3)))).setDat (by rw [List.length_set]; exact hj) (Hd.nl _ _ n2 (hv.extC c2 e3))).setDat (by rw [List.length_set, List.length_set]; exact hl) (Hd.nl _ _ n3 hw))⟩
end
/-! ### promises -/
abbrev ASpec := List Arg → (Dt → Prop) → Prop
def spA (K : PySem.W.Frag) (n : Nat) (R : ASpec) : Sp := fun vs H Q _ => ∃ (as : List Arg) (cu : Option Addr) (k : Dt → Prop), as.length = n ∧ R as k ∧ CupOk cu H ∧ ArgsHd K cu H vs as ∧
  ∀ v d H', k d → nl d = true → Ext cu H H' → CupOk cu H' → Hd K (Mc cu) H' v d → Q v H'
theorem ArgsHd.length {K : PySem.W.Frag} {cu : Option Addr} {H : Hp} {vs : List V} {as : List Arg} (h : ArgsHd K cu H vs as) : vs.length = as.length := by
  induction h with
  | nil => rfl
  | cons _ _ ih => rw [List.length_cons, List.length_cons, ih]
theorem spA_len {K : PySem.W.Frag} {n : Nat} {R : ASpec} {vs : List V} {H : Hp} {Q : VK} {E : XK} (h : spA K n R vs H Q E) : vs.length = n := by
  obtain ⟨as, cu, k, hl, _, _, ha, _⟩ := h
  rw [ha.length, hl]
section
variable {C : Cxt} {ρ : AEnv} {m : Bool} {k : Dt → Prop}
theorem ee_call {n : Nat} {R : ASpec} {E : XK} {ta : TA} (h : EA C ta ρ fun as => as.length = n ∧ R as k) : EE C m (tCall (spA C.K n R) [] E ta) ρ k := fun H0 σ H Q r q =>
  h H0 σ H _ r fun vs as H1 ⟨hl, hR⟩ e1 c1 ha => by
    show spA C.K n R (vs ++ []) H1 Q E
    rw [List.append_nil]
    exact ⟨as, C.cu, k, hl, hR, c1, ha, fun v d H' hk hn e2 c2 hv => q v d H' hk (e1.trans e2) c2 (Hd.nl d v hn hv)⟩
end
def argAV : Arg → AV
  | .dat d => .dat d
  | .cup => .cup
def astart (N : List Str) (as : List Arg) : AEnv := (as.map fun a => some (argAV a)) ++ List.replicate (N.length - as.length) none
theorem ArgsHd.get {K : PySem.W.Frag} {cu : Option Addr} {H : Hp} : ∀ {vs : List V} {as : List Arg} {i : Nat} {a : Arg}, ArgsHd K cu H vs as → as[i]? = some a → ∃ v, vs[i]? = some v ∧ ArgHd K cu H v a
  | _, _, _, _, .nil, e => by simp at e
  | _, _, 0, _, .cons h _, e => by
    rw [List.getElem?_cons_zero] at e
    cases e
    exact ⟨_, rfl, h⟩
  | _, _, i + 1, _, .cons _ t, e => by
    rw [List.getElem?_cons_succ] at e
    obtain ⟨v, h1, h2⟩ := ArgsHd.get (i := i) t e
    exact ⟨v, by rw [List.getElem?_cons_succ]; exact h1, h2⟩
theorem astart_own {N : List Str} {as : List Arg} {i : Nat} : ¬ isOwn (astart N as) i := fun ⟨ds, e⟩ => by
  unfold astart at e
  by_cases hi : i < as.length
  · rw [List.getElem?_append_left (by rw [List.length_map]; exact hi), List.getElem?_map] at e
    cases q : as[i]? with
    | none => rw [q] at e; cases e
    | some a =>
      rw [q] at e
      cases a <;> cases e
  · rw [List.getElem?_append_right (by rw [List.length_map]; omega), List.getElem?_replicate] at e
    split at e <;> cases e
theorem rep_start {K : PySem.W.Frag} {cu : Option Addr} {H : Hp} {vs : List V} {as : List Arg} {N : List Str} (E : XK) (hc : CupOk cu H) (h : ArgsHd K cu H vs as) : Rep ⟨K, cu, E, fun _ => False⟩ H (astart N as) (L2.start N vs) H := by
  refine ⟨?_, fun i a hi => ?_, fun i _ _ hi => (astart_own hi).elim, fun i _ hi => (astart_own hi).elim, Ext.refl _ _, hc, hc, fun _ _ _ _ z => z.elim⟩
  · unfold L2.start astart
    rw [List.length_append, List.length_append, List.length_map, List.length_map, List.length_replicate, List.length_replicate, h.length]
  · unfold astart at hi
    by_cases hl : i < as.length
    · rw [List.getElem?_append_left (by rw [List.length_map]; exact hl), List.getElem?_map] at hi
      cases q : as[i]? with
      | none => rw [q] at hi; cases hi
      | some b =>
        rw [q] at hi
        obtain ⟨v, h1, h2⟩ := h.get q
        refine ⟨v, ?_, ?_⟩
        · unfold L2.start
          rw [List.getElem?_append_left (by rw [List.length_map, h.length]; exact hl), List.getElem?_map, h1] <;> rfl
        · cases b with
          | dat d =>
            cases hi
            refine Hd.mono (fun a z => ?_) (show Hd K (Mc cu) H v d from h2)
            rcases z with z | ⟨j, hj, _⟩
            · exact z
            · exact (astart_own hj).elim
          | cup =>
            cases hi
            exact h2
    · rw [List.getElem?_append_right (by rw [List.length_map]; omega), List.getElem?_replicate] at hi
      split at hi <;> cases hi
theorem body_ok {K : PySem.W.Frag} {n : Nat} {R : ASpec} {N : List Str} {t : TS} (hb : ∀ (as : List Arg) (k : Dt → Prop) (C : Cxt), C.K = K → as.length = n → R as k → SS C t (astart N as) ⟨fun _ => k .none, fun d => nl d = true ∧ k d, fun _ => False, fun _ => False⟩)
    {vs : List V} {H : Hp} {Q : VK} {E : XK} (h : spA K n R vs H Q E) : t { nx := fun _ H' => Q .non H', rt := Q } (L2.start N vs) H := by
  obtain ⟨as, cu, k, hl, hR, hc, ha, q⟩ := h
  refine hb as k ⟨K, cu, E, fun _ => False⟩ rfl hl hR H (L2.start N vs) H _ (rep_start E hc ha) ⟨fun ρ σ H' hk r => ?_, fun v d H' hk e c hv => q v d H' hk.2 hk.1 e c hv, fun _ _ _ z => z.elim, fun _ _ _ z => z.elim⟩
  exact q .non .none H' hk rfl r.ext r.cup .non
end Pl

set_option Elab.async false
set_option linter.all false
set_option maxRecDepth 100000
set_option maxHeartbeats 4000000
/-! Pl8: defs that callers name; bodies that keep a promise over data. -/
namespace Pl
open PySem PySem.Spec PyProof.Rows L2
/-- a def that may be called by its name, all arguments given -/
structure Cl (P : Program) (w : World) (K : PySem.W.Frag) (mg : Str → Option Value) (base : Heap) (k : Nat) (x : Str) (sp : Sp) : Prop where
  ex : ∃ (f : Addr) (fd : FuncData) (ps : List Str), FnOk P w K mg base CX0 k f fd ps sp ∧ mg x = some (.ref f) ∧ PySem.W.keepIn K (.ref f) = true ∧ Binds K fd ps []
section
variable {X : Cx} {k j : Nat} {x : Str} {sp : Sp} {p pos : Pos} {e : Expr} {es : List Expr} {t : TA}
theorem pe_cl (c : Cl X.prog X.w X.K X.mg X.base k x sp) (hr : Room j X.A) (hk : k ≤ j) (hg : Gl X x) (ha : PA X (e :: es) t) (hdb : (x == ("__debug__" : Str)) = false := by decide)
    (he : starEach (e :: es) X.env = (false, eval e X.env) :: starEach es X.env := by rfl) (hpl : (backTo pos (starEach es X.env)).any (·.1) = false := by rfl) : PE X (.Call (.Name x p) (e :: es) [] pos) (tCall sp [] E0 t) := by
  obtain ⟨f, fd, ps, F, hm, kp, b⟩ := c.ex
  exact pe_call F (hr.mono hk) hg hm kp b .nil pass0 ha hdb he hpl
end
theorem pe_gk {X : Cx} {x : Str} {v : V} {pos : Pos} (hg : Gl X x) (h : ∃ u, X.mg x = some u ∧ RelV v u) (hd : (x == ("__debug__" : Str)) = false := by decide) : PE X (.Name x pos) (tC v) := by
  obtain ⟨u, hm, r⟩ := h
  exact pe_glob hg hm r hd
theorem c_str {X : Cx} : CallR X (.type "str") cStr := CallR.or SkE.call_str_str call_str_int
/-- a def of the text as the top leaves it -/
structure Df (K : PySem.W.Frag) (mg : Str → Option Value) (x : Str) (st : Stmt) (ps : List Str) : Prop where
  ex : ∃ (f : Addr) (fd : FuncData), Fun K x x st f fd ∧ mg x = some (.ref f) ∧ Binds K fd ps []
section
variable {P : Program} {w : World} {K : PySem.W.Frag} {mg : Str → Option Value} {base : Heap}
theorem cl_raw {x : Str} {st : Stmt} {N ps : List Str} {k : Nat} {sp : Sp} (F : Df K mg x st ps) (S : FnScope N ps (defScope st)) (len : ∀ vs H Q E, sp vs H Q E → vs.length = ps.length)
    (hb : ∀ (f : Addr) (cdv : Value) (A : Around) (outer : List Env) (s : Shared) (H : Hp) (vs : List V) (Q : VK) (E : XK), Room k (A.deeper (envOfC x (defScope st) s.heap.objs.size f cdv)) → sp vs H Q E →
      ∃ t, PSs (cxOf CX0 P w K mg base N x (defScope st) f cdv A outer s H E).nox (defBody st) t ∧ t { nx := fun _ H' => Q .non H', rt := Q } (L2.start N vs) H) : Cl P w K mg base (k + 1) x sp := by
  obtain ⟨f, fd, F1, hm, b⟩ := F.ex
  exact ⟨f, fd, ps, F1.ok S len (hb f), hm, F1.kp, b⟩
theorem df_mk {x : Str} {st : Stmt} {ps : List Str} {f : Addr} {h : Heap} {oc : Value} {od an : Option Addr} {osl : Array (Option Value)} {kV doc pm cdv ct : Value} (X : K.In h) (G : h.Ns mainGlobals mg) (a : PySem.W.nsIn K mainGlobals x = some (some (.ref f)))
    (l : K.lookup f = some ⟨oc, od, .func (PySem.W.fnOf x x (defArgs st) (defBody st) (defScope st) .none kV doc pm an cdv ct), osl⟩) (c : PySem.W.codeIn K cdv x = true) (k : PySem.W.keepIn K (.ref f) = true)
    (hb : ∀ (kV doc pm : Value) (an : Option Addr) (cdv ct : Value) (us : List Value), us.length = ps.length → bindArgs (PySem.W.fnOf x x (defArgs st) (defBody st) (defScope st) .none kV doc pm an cdv ct) ⟨us, []⟩ = pure (ps.zip us)) : Df K mg x st ps :=
  have F := fun_mk (st := st) l c k
  ⟨f, _, F, PySem.W.mg_of X G a, F.binds hb⟩
end
section
variable {C : Cxt} {m : Bool} {ta tb tc : TE} {ρ : AEnv} {k : Dt → Prop}
theorem ee_chain {r r' : R2} (h : EE C m ta ρ fun x => EE C m tb ρ fun y => AR C r x y fun z => ∃ b, z = .bool b ∧ if b = true then EE C m tc ρ fun w => AR C r' y w k else k (.bool false)) : EE C m (tChain r r' ta tb tc) ρ k := fun H0 σ H Q rp q =>
  h H0 σ H _ rp fun v x H1 h1 e1 c1 hv => h1 H0 σ H1 _ (rp.to e1 c1) fun w y H2 h2 e2 c2 hw => h2 _ (fun _ => Mm_c) v w H2 _ c2 (hv.ext (fun _ => Mm_c) c1 e2) hw fun u d H3 ⟨b, hd, hk⟩ e3 c3 hu => by
    subst hd
    cases hu
    refine ⟨b, rfl, ?_⟩
    cases b with
    | true =>
      rw [if_pos rfl] at hk ⊢
      exact hk H0 σ H3 _ (((rp.to e1 c1).to e2 c2).to e3 c3) fun w' z H4 h4 e4 c4 hw' => h4 _ (fun _ => Mm_c) w w' H4 Q c4 ((hw.ext (fun _ => Mm_c) c2 e3).ext (fun _ => Mm_c) c3 e4) hw' fun u d H5 hk e5 c5 hu => q u d H5 hk ((((e1.trans e2).trans e3).trans e4).trans e5) c5 hu
    | false =>
      rw [if_neg Bool.false_ne_true] at hk ⊢
      exact q _ _ H3 hk ((e1.trans e2).trans e3) c3 (.bl _)
theorem iteb {b : Bool} {A B : Prop} (h1 : b = true → A) (h2 : b = false → B) : if b = true then A else B := by
  cases b with
  | true => rw [if_pos rfl]; exact h1 rfl
  | false => rw [if_neg Bool.false_ne_true]; exact h2 rfl
theorem itet {A B : Prop} (h1 : A) : if (true : Bool) = true then A else B := by rw [if_pos rfl]; exact h1
theorem itef {A B : Prop} (h1 : B) : if (false : Bool) = true then A else B := by rw [if_neg Bool.false_ne_true]; exact h1
theorem iten {b : Bool} {A B : Prop} (h : if b = true then B else A) : if (!b) = true then A else B := by
  cases b with
  | true => rw [if_pos rfl] at h; exact itef h
  | false => rw [if_neg Bool.false_ne_true] at h; exact itet h
theorem ited {p : Prop} [Decidable p] {A B : Prop} (h1 : p → A) (h2 : ¬ p → B) : if decide p = true then A else B := by
  by_cases h : p
  · rw [decide_eq_true h]; exact itet (h1 h)
  · rw [decide_eq_false h]; exact itef (h2 h)
end
/-! ### statements, the four ends apart -/
def S4 (C : Cxt) (ts : TS) (ρ : AEnv) (nx : AEnv → Prop) (rt : Dt → Prop) (bk ct : AEnv → Prop) : Prop := SS C ts ρ ⟨nx, rt, bk, ct⟩
section
variable {C : Cxt} {ρ : AEnv} {nx bk ct : AEnv → Prop} {rt : Dt → Prop} {te ta tb tc : TE} {t u : TS}
theorem s_seq (h : S4 C t ρ (fun ρ' => S4 C u ρ' nx rt bk ct) rt bk ct) : S4 C (tSeq t u) ρ nx rt bk ct := ss_seq h
theorem s_next (h : nx ρ) : S4 C tNext ρ nx rt bk ct := ss_next h
theorem s_break (h : bk ρ) : S4 C tBreak ρ nx rt bk ct := ss_break h
theorem s_cont (h : ct ρ) : S4 C tCont ρ nx rt bk ct := ss_cont h
theorem s_ret (h : EE C false te ρ rt) : S4 C (tRet te) ρ nx rt bk ct := ss_ret h
theorem s_retN (h : rt .none) : S4 C tRetN ρ nx rt bk ct := ss_retN h
theorem s_drop (h : EE C false te ρ fun _ => nx ρ) : S4 C (tDrop te) ρ nx rt bk ct := ss_drop h
theorem s_if {c : TT} (h : ET C c ρ fun b => if b = true then S4 C t ρ nx rt bk ct else S4 C u ρ nx rt bk ct) : S4 C (tIfS c t u) ρ nx rt bk ct := ss_if h
theorem s_set {i : Nat} (hi : i < ρ.length) (h : EE C true te ρ fun d => nx (ρ.set i (some (.dat d)))) : S4 C (tAsg te (gName i)) ρ nx rt bk ct := ss_set hi h
theorem s_setO {i : Nat} (hi : i < ρ.length) (h : EL C false te ρ fun ds => nlAll ds = true ∧ nx (ρ.set i (some (.own ds)))) : S4 C (tAsg te (gName i)) ρ nx rt bk ct := ss_setO hi h
theorem s_asg {g : TG} {js : List Nat} {f : Dt → AEnv → Option AEnv} (hg : TgOk C g js f) (h : EE C true te ρ fun d => ∃ ρ2, f d ρ = some ρ2 ∧ nx ρ2) : S4 C (tAsg te g) ρ nx rt bk ct := ss_asg hg h
theorem s_aug {i : Nat} {a : Int} {f : Int → Int → Int} (hi : ρ[i]? = some (some (.dat (.int a)))) (h : EE C false te ρ fun d => ∃ b, d = .int b ∧ nx (ρ.set i (some (.dat (.int (f a b)))))) : S4 C (tAug i te (ipI f)) ρ nx rt bk ct := ss_aug hi h
theorem s_freeze {i : Nat} {ds : List Dt} (h : ρ[i]? = some (some (.own ds))) (k : S4 C t (ρ.set i (some (.dat (.list ds)))) nx rt bk ct) : S4 C t ρ nx rt bk ct := ss_freeze h k
theorem s_append {i : Nat} {ds : List Dt} (h : ρ[i]? = some (some (.own ds))) (hz : ds.length ≤ 100000) (hd : nlAll ds = true) (k : EE C false te ρ fun d => nl d = true ∧ nx (ρ.set i (some (.own (ds ++ [d]))))) : S4 C (tDrop (tBM C.K "list" rAppend (tVar i) (tCons te tNil))) ρ nx rt bk ct := ss_append h hz hd k
theorem s_par {i j : Nat} (hi : i < ρ.length) (hj : j < ρ.length) (h : EE C false ta ρ fun x => EE C false tb ρ fun y => nl x = true ∧ nl y = true ∧ nx ((ρ.set i (some (.dat x))).set j (some (.dat y)))) : S4 C (tPar i j (tCons ta (tCons tb tNil))) ρ nx rt bk ct := ss_par hi hj h
theorem s_par3 {i j l : Nat} (hi : i < ρ.length) (hj : j < ρ.length) (hl : l < ρ.length) (h : EE C false ta ρ fun x => EE C false tb ρ fun y => EE C false tc ρ fun z => nl x = true ∧ nl y = true ∧ nl z = true ∧ nx (((ρ.set i (some (.dat x))).set j (some (.dat y))).set l (some (.dat z)))) :
    S4 C (tPar3 i j l (tCons ta (tCons tb (tCons tc tNil)))) ρ nx rt bk ct := ss_par3 hi hj hl h
theorem s_for {wi : TI} {g : TG} {js : List Nat} {f : Dt → AEnv → Option AEnv} (hg : TgOk C g js f)
    (h : EI C wi ρ fun ds => ∃ I : Nat → AEnv → Prop, I 0 ρ ∧ (∀ (i : Nat) d ρ', ds[i]? = some d → I i ρ' → ∃ ρ2, f d ρ' = some ρ2 ∧ S4 C t ρ2 (I (i + 1)) rt nx (I (i + 1))) ∧ ∀ ρ', I ds.length ρ' → nx ρ') : S4 C (tFor wi g t) ρ nx rt bk ct := ss_for hg h
theorem s_while {c : TT} (W : Nat → AEnv → Prop) (m0 : Nat) (h0 : W m0 ρ) (hs : ∀ m ρ', W m ρ' → ET C c ρ' fun b => if b = true then S4 C t ρ' (fun ρ2 => ∃ m', m' < m ∧ W m' ρ2) rt nx (fun ρ2 => ∃ m', m' < m ∧ W m' ρ2) else nx ρ') : S4 C (tWhile c t) ρ nx rt bk ct := ss_while W m0 h0 hs
end
/-- a body: its end by k -/
def B4 (C : Cxt) (ts : TS) (ρ : AEnv) (k : Dt → Prop) : Prop := S4 C ts ρ (fun _ => k .none) (fun d => nl d = true ∧ k d) (fun _ => False) (fun _ => False)
section
variable {P : Program} {w : World} {K : PySem.W.Frag} {mg : Str → Option Value} {base : Heap}
theorem cl_mk {x : Str} {st : Stmt} {N ps : List Str} {k n : Nat} {R : ASpec} {t : TS} (F : Df K mg x st ps) (S : FnScope N ps (defScope st)) (hn : ps.length = n)
    (hw : ∀ (f : Addr) (cdv : Value) (A : Around) (outer : List Env) (s : Shared) (H : Hp) (E : XK), Room k (A.deeper (envOfC x (defScope st) s.heap.objs.size f cdv)) → PSs (cxOf CX0 P w K mg base N x (defScope st) f cdv A outer s H E).nox (defBody st) t)
    (hb : ∀ (as : List Arg) (k : Dt → Prop) (C : Cxt), C.K = K → as.length = n → R as k → B4 C t (astart N as) k) : Cl P w K mg base (k + 1) x (spA K n R) :=
  cl_raw F S (fun vs H Q E h => by rw [spA_len h, hn]) fun f cdv A outer s H vs Q E hr h => ⟨t, hw f cdv A outer s H E hr, body_ok hb h⟩
end
end Pl

set_option Elab.async false
set_option linter.all false
set_option maxRecDepth 100000
set_option maxHeartbeats 4000000
/-! Pl9: sorted(set(xs)) of a list of isI. -/
namespace Pl
open PySem PySem.Spec PyProof.Rows L2
theorem PE.imp {X : Cx} {e : Expr} {t t' : TE} (h : PE X e t) (i : ∀ σ H Q, t' σ H Q → t σ H Q) : PE X e t' := ⟨fun pins s σ H Q I q => h.run pins s σ H Q I (i σ H Q q)⟩
section
variable {P : Program} {w : World} {A : Around} {E : Value → Shared → Prop} {s : Shared}
/-- the empty set as it is born -/
def bornSet (w : World) : Obj := { cls := .type "set", dict := none, data := .set #[] 0 (.fresh 0 0 (!w.params.followText "set-order")) }
set_option maxHeartbeats 8000000 in
theorem set_of_list {l : Addr} {items : Array Value} (ns : List Int) {Q : Value → Shared → Prop} (calm : A.handled = none) (isl : s.heap.IsList l items) (isI : IntsAre items.toList ns) (few : ns.length + 1 < scanBound)
    (go : ∀ (g : Heap) (tk c : Nat), SetR w g s.heap.objs.size (fun j => decide (j ∈ ns)) c → c ≤ ns.length → (∀ b o, s.heap.get? b = some o → g.get? b = some o) → Q (.ref s.heap.objs.size) { s with heap := g, toks := tk }) :
    wpAny (model P w) A (call (.type "set") [.ref l]) Q E s := by
  have size : items.size = ns.length := by
    have z := IntsAre.length isI
    rwa [Array.length_toList] at z
  obtain ⟨c0, rest, mro⟩ := F.called_set.mro
  have m1 := F.called_set.made
  have m2 := F.called_set.sub
  refine wpAny_call (codeAny_of_tree ?_)
  show wpAny _ _ (callAny (.type "set") _) _ _ _
  refine wpAny_pure ⟨Code.quiet_builtin _ (by decide +kernel), codeAny_builtin F.entry_type_call ?_⟩
  rw [Around.under_plain (weight_type_call_type "set" [.ref l] []) rfl]
  have m3 := F.called_set.notType
  have m4 := F.called_set.canCreate
  have m5 := F.typeCall_set_1 (.ref l)
  repeat (any_goals (first | assumption | wp_step))
  refine codeAny_mono (code_set_led1 (.ref l) (E := E) (Q₁ := fun ob st => ob = .ref s.heap.objs.size ∧ st = { s with heap := s.heap.push (bornSet w) }) ⟨rfl, rfl⟩) fun r st hr => ?_
  cases r with
  | error e => exact hr
  | ok fl =>
    cases fl with
    | ret ob =>
      obtain ⟨rfl, rfl⟩ := hr
      have there : (s.heap.push (bornSet w)).get? s.heap.objs.size = some (bornSet w) := Heap.get?_push_size _ rfl
      have isSet : Shared.TypeIs { s with heap := s.heap.push (bornSet w) } (.ref s.heap.objs.size) "set" := ⟨_, there, rfl⟩
      have i1 := F.called_set.init.lookup
      have i2 := F.called_set.init.bind (.ref s.heap.objs.size)
      repeat (any_goals (first | assumption | wp_step))
      refine codeAny_mono (codeAny_call_builtin (R := wants (fun r t => r = .none ∧ ∃ g tk c, t = { s with heap := g, toks := tk } ∧ SetR w g s.heap.objs.size (fun j => decide (j ∈ ns)) c ∧ c ≤ ns.length ∧
          (∀ b o, s.heap.get? b = some o → g.get? b = some o)) E) F.called_set.init.plain F.entry_set_init (check_set_init_1 isSet ?_)) fun r t hr => ?_
      · obtain ⟨⟨c1, d1, dt1, sl1⟩, obl, obc, nn, obd⟩ := isl
        simp only at obc obd
        subst obc; subst obd
        have obl' : (s.heap.push (bornSet w)).get? l = some { cls := .type "list", dict := d1, data := .seq items nn, slots := sl1 } := Heap.get?_push_of_some _ obl
        have s1 := F.sub_list_set
        have s2 := F.sub_list_frozenset
        have s3 : (Value.type "list" == Value.type "dict") = false := by decide
        have isl1 : (s.heap.push (bornSet w)).IsList l items := ⟨_, obl', rfl, nn, rfl⟩
        unfold Builtin.«set.__init__» noKeywords Builtin.Frozenset.updateFrom
        generalize hit : pyIter = itf
        wp_walk
        subst hit
        refine wpAny_pyIter_list isl1 ?_
        refine wpAny_bind (wpAny_runValue ?_)
        have lS : l < s.heap.objs.size := Heap.lt_size obl
        have calm3 : A.in1.in1.in1.handled = none := by simp [calm]
        have apart : l ≠ (s.heap.push (bornSet w)).objs.size := by
          rw [Heap.size_push]; exact Nat.ne_of_lt (Nat.lt_succ_of_lt lS)
        have setOff : s.heap.objs.size ∉ [(s.heap.push (bornSet w)).objs.size, l] := by
          rw [Heap.size_push]; simp only [List.mem_cons, List.mem_singleton, List.not_mem_nil, or_false, not_or]
          exact ⟨Nat.ne_of_lt (Nat.lt_succ_self _), Nat.ne_of_gt lS⟩
        have val : ∀ (i : Nat) (v : Value), items[i]? = some v → ∃ k t, ns[i]? = some k ∧ v = .int k t := fun i v hv => by
          have hi : i < ns.length := by rw [← size]; exact (Array.getElem?_eq_some_iff.mp hv).1
          obtain ⟨t, e⟩ := PyProof.Rows.IntsAre.int_at isI i v (by rw [Array.getElem?_toList]; exact hv)
          exact ⟨ns[i], t, List.getElem?_eq_getElem hi, by rw [e, List.getD_eq_getElem?_getD, List.getElem?_eq_getElem hi] <;> rfl⟩
        refine set_update_ints ((Walks.list calm3 _ l apart items).toS) s.heap.objs.size setOff ns size few val (items.size - 0) 0 _ (by omega) (Nat.zero_le _) ⟨⟨_, Heap.get?_push_size _ rfl, rfl, rfl⟩, (isl1.push _)⟩ ?begin ?done
        case begin =>
          exact ⟨0, Nat.le_refl 0, setR_new_at (Heap.get?_push_of_some _ there)⟩
        case done =>
          intro t c hm hc hS
          obtain ⟨g, g2, d2, tk, os2⟩ := t
          have eg : g2 = s.gens := hm.gens
          have ed : d2 = s.drawn := hm.drawn
          have eo : os2 = s.os := hm.os
          subst eg; subst ed; subst eo
          show wpAny _ _ _ _ _ _
          refine wpAny_pure ?_
          show wpAny _ _ (ret Value.none) _ _ _
          rw [size] at hc
          refine wpAny_pure ⟨rfl, g, tk, c, rfl, hS, hc, fun b o e => ?_⟩
          have b0 : b < s.heap.objs.size := Heap.lt_size e
          refine hm.heap b o ?_ (Heap.get?_push_of_some _ (Heap.get?_push_of_some _ e))
          simp only [List.mem_cons, List.mem_singleton, List.not_mem_nil, or_false, not_or]
          exact ⟨Nat.ne_of_lt b0, by rw [Heap.size_push]; exact Nat.ne_of_lt (Nat.lt_succ_of_lt b0)⟩
      · cases r with
        | error e => exact hr
        | ok fl2 =>
          cases fl2 with
          | ret r =>
            obtain ⟨rfl, g, tk, c, rfl, hS, hc, keep⟩ := hr
            repeat (any_goals (first | assumption | wp_step))
            exact go _ _ _ hS hc keep
          | _ => exact hr.elim
    | _ => exact hr.elim
end
def rSetI (K : PySem.W.Frag) (w : World) : List V → Hp → VK → Prop := fun xs H Q => ∃ (l : Addr) (ns : List Int), xs = [.ref l] ∧ SqL K H l (ns.map V.int) ∧ ns.length ≤ 4000 ∧ ∀ p c, H p = none → c ≤ ns.length → Q (.ref p) (upd H p (SetO w p (fun j => decide (j ∈ ns)) c))
theorem c_setI {X : Cx} (hc : X.calm = true) : CallR X (.type "set") (rSetI X.K X.w) := by
  intro pins s σ H xs us Q I r h
  obtain ⟨l, ns, rfl, hl, hz, q⟩ := h
  obtain ⟨u, rfl, ru⟩ := r.one
  cases ru
  obtain ⟨its, rv, p, hs⟩ := I.list hl
  refine set_of_list ns (I.ok.hd hc) p.isList (by simpa using ints_of_vals rv) (by unfold scanBound; omega) fun g tk c hS hcl keep => ?_
  refine ⟨.ref s.heap.objs.size, _, I.laid (o := SetO X.w s.heap.objs.size (fun j => decide (j ∈ ns)) c) keep (Nat.le_refl _) (setO_new hS), rfl, q _ c (I.hok.fresh (Nat.le_refl _)) hcl⟩
end Pl

set_option Elab.async false
set_option linter.all false
set_option maxRecDepth 100000
set_option maxHeartbeats 4000000
/-! Pl10: sorted(set(xs)) as one, min of data, comprehensions of two fors. -/
namespace Pl
open PySem PySem.Spec PyProof.Rows L2
section
variable {C : Cxt} {ρ : AEnv} {te ta : TE} {m : Bool}
/-! ### sorted(set(xs)) -/
theorem el_sortSet {w : World} {k : List Dt → Prop} (h : EE C m ta ρ fun d => ∃ ns : List Int, d = .list (ns.map .int) ∧ ns.length < 64 ∧ ∀ ms : List Int, ms.Pairwise (· < ·) → (∀ z : Int, z ∈ ms ↔ z ∈ ns) → ms.length ≤ ns.length → k (ms.map .int)) :
    EL C m (tCB (rSortedSet w) (tCons (tCB (rSetI C.K w) (tCons ta tNil)) tNil)) ρ k := fun H0 σ H Q rp q =>
  h H0 σ H _ rp fun v d H1 ⟨ns, hd, hz, hk⟩ e1 c1 hv => by
    subst hd
    cases hv with
    | lst n s a =>
      have e := HdAll.ofI ns _ a
      subst e
      refine ⟨_, ns, rfl, .inl (.inl s), by omega, fun p c hp hc => ⟨p, _, c, rfl, upd_same, by omega, fun ms p2 h1 h2 h3 hp2 => ?_⟩⟩
      have e2 : Ext C.cu H1 (upd H1 p (SetO w p (fun j => decide (j ∈ ns)) c)) := Ext.new hp
      exact q p2 _ _ _ (hk ms h1 (fun z => by rw [h2 z]; simp) (by omega)) ((e1.trans e2).trans (Ext.new hp2)) ((c1.new hp).new hp2) ((e1.trans e2).back hp2 (c1.new hp)) upd_same (HdAll.mapI ms)
end
/-! ### min of a list of data -/
def rMinD (K : PySem.W.Frag) : List V → Hp → VK → Prop := fun vs H Q => ∃ (a : Addr) (us : List V) (x : Dt) (xs : List Dt), vs = [.ref a] ∧ SqL K H a us ∧ DpAll K H us (x :: xs) ∧ PySem.W.AlikeAll (x :: xs) ∧ PyData.depthAll (x :: xs) ≤ 60 ∧
  ∀ (i : Nat) (v : V), us[i]? = some v → (x :: xs)[i]? = some (PySem.W.minD x xs) → Q v H
theorem minD_mem (x : Dt) : ∀ (xs : List Dt), PySem.W.minD x xs ∈ x :: xs := fun xs => by
  unfold PySem.W.minD
  induction xs generalizing x with
  | nil => exact List.mem_cons_self
  | cons y r ih =>
    rw [List.foldl_cons]
    have h := ih (if PySem.W.dataLt y x = true then y else x)
    rcases List.mem_cons.mp h with e | e
    · rw [e]
      by_cases z : PySem.W.dataLt y x = true
      · rw [if_pos z]; exact List.mem_cons_of_mem _ List.mem_cons_self
      · rw [if_neg z]; exact List.mem_cons_self
    · exact List.mem_cons_of_mem _ (List.mem_cons_of_mem _ e)
theorem c_minD {X : Cx} (hc : X.calm = true) (hu : X.A.units + 64 < cLine) : CallR X (.builtin "min") (rMinD X.K) := by
  intro pins s σ H vs us Q I r h
  obtain ⟨a, ws, x, xs, rfl, hs, hd, hal, hdp, q⟩ := h
  obtain ⟨its, rv, hl, _⟩ := I.list hs
  rw [Vals.ref1 r]
  obtain ⟨as, hr⟩ := Dp.readsAll I (x :: xs) ws its hd rv
  refine PySem.W.min_list_data (I.ok.hd hc) hl.isList (by simpa using hr) hal (by omega) fun i v h' tk bs hv hrd keep => ?_
  have hi : i < its.length := by
    have := (Array.getElem?_eq_some_iff.mp hv).1
    simpa using this
  have hiw : i < ws.length := by rw [rv.length]; exact hi
  obtain ⟨u, hu1, hu2⟩ := rv.get (List.getElem?_eq_getElem hiw)
  have ev : u = v := by
    have h2 : its[i]? = some v := by simpa using hv
    rw [hu1] at h2
    exact Option.some.inj h2
  subst ev
  refine ⟨_, H, I.kept keep, hu2, q i _ (List.getElem?_eq_getElem hiw) ?_⟩
  have hrl : its.length = (x :: xs).length := SeqAt.ReadsAll.length (x :: xs) its as hr
  have hix : i < (x :: xs).length := by rw [← hrl]; exact hi
  rw [List.getElem?_eq_getElem hix]
  obtain ⟨cs, r1, _, _, _⟩ := PySem.W.readsAll_at hr i u (by simpa using hv)
  have e1 : (x :: xs).getD i .none = (x :: xs)[i] := by rw [List.getD_eq_getElem?_getD, List.getElem?_eq_getElem hix] <;> rfl
  rw [e1] at r1
  have hu3 := PySem.W.alike_unique (x :: xs)[i] (PySem.W.minD x xs) u cs bs (hal.1 _ (List.getElem_mem hix) _ (minD_mem x xs)) (Reads.keeps keep r1) hrd
  rw [hu3]
section
variable {C : Cxt} {ρ : AEnv} {te ta : TE} {m : Bool}
theorem ac_minD {x : Dt} {xs : List Dt} {k : Dt → Prop} (hal : PySem.W.AlikeAll (x :: xs)) (hd : PyData.depthAll (x :: xs) ≤ 60) (h : k (PySem.W.minD x xs)) : AC C (rMinD C.K) [.list (x :: xs)] k := fun M hm vs H Q hc hv q => by
  obtain ⟨v, rfl, g⟩ := one1 hv
  cases g with
  | lst n s a =>
    refine ⟨_, _, x, xs, rfl, .inl (.inl s), a.dp, hal, hd, fun i v hi he => ?_⟩
    obtain ⟨d, h1, h2⟩ := a.getV hi
    rw [he] at h1
    cases h1
    exact one (M := M) hc q h h2
/-! ### walks over tuples of plain things, where lists may change meanwhile -/
def TExt (H H' : Hp) : Prop := (∀ a xs, H a = some (.tup xs) → H' a = some (.tup xs)) ∧ ∀ a o u, H a = some (.frz o u) → H' a = some (.frz o u)
theorem TExt.sqT {K : PySem.W.Frag} {H H' : Hp} (e : TExt H H') {a : Addr} {xs : List V} (h : SqT K H a xs) : SqT K H' a xs := by
  rcases h with (h | ⟨o, h⟩) | h
  · exact .inl (.inl (e.1 _ _ h))
  · exact .inl (.inr ⟨o, e.2 _ _ _ h⟩)
  · exact .inr h
theorem Hd.text {K : PySem.W.Frag} {M M' : MS} {H H' : Hp} (e : TExt H H') {d : Dt} {v : V} (hn : Pl.nl d = true) (h : Hd K M H v d) : Hd K M' H' v d :=
  Hd.imp (M := fun _ => True) (M' := M') (fun a xs n r => absurd True.intro n) (fun a xs r => e.sqT r) d v (Hd.nl d v hn h)
theorem HdAll.text {K : PySem.W.Frag} {M M' : MS} {H H' : Hp} (e : TExt H H') {ds : List Dt} {vs : List V} (hn : nlAll ds = true) (h : HdAll K M H vs ds) : HdAll K M' H' vs ds :=
  HdAll.imp (M := fun _ => True) (M' := M') (fun a xs n r => absurd True.intro n) (fun a xs r => e.sqT r) ds vs (HdAll.nl ds vs hn h)
theorem nlAll_mem : ∀ {ds : List Dt} {d : Dt}, nlAll ds = true → d ∈ ds → nl d = true
  | d :: ds, e, h, hm => by
    rw [nlAll, Bool.and_eq_true] at h
    rcases List.mem_cons.mp hm with z | z
    · rw [z]; exact h.1
    · exact nlAll_mem h.2 z
structure ItOkT (C : Cxt) (H1 : Hp) (J : It) (ds : List Dt) : Prop where
  ex : ∃ (n : Nat) (G : Hp → Prop) (Y : Nat → Hp → V → Hp → Prop), Walk J n G Y ∧ n = ds.length ∧ (∀ H', TExt H1 H' → G H') ∧
    ∀ i H' x H'', i < n → TExt H1 H' → Y i H' x H'' → (∀ a o, H' a = some o → H'' a = some o) ∧ ∃ d, ds[i]? = some d ∧ nl d = true ∧ Hd C.K (fun _ => False) H'' x d
def EIT (C : Cxt) (wi : TI) (ρ : AEnv) (k : List Dt → Prop) : Prop := ∀ (H0 : Hp) (σ : L2.St) (H : Hp) (R : It → Hp → Prop), Rep C H0 ρ σ H →
  (∀ J ds H', k ds → Ext C.cu H H' → CupOk C.cu H' → ItOkT C H' J ds → R J H') → wi σ H R
theorem eit_tup {k : List Dt → Prop} (h : EE C false te ρ fun d => ∃ ds, d = .tuple ds ∧ nlAll ds = true ∧ k ds) : EIT C (iSeq C.K te) ρ k := fun H0 σ H R r q =>
  .inr (.inl (h H0 σ H _ r fun v d H1 ⟨ds, e, hn, hk⟩ e1 c1 hv => by
    subst e
    cases hv with
    | tup s a =>
      refine ⟨_, rfl, ⟨_, s⟩, q _ ds H1 hk e1 c1 ⟨_, _, _, walk_tup (xs := _), a.length, fun H' e => e.sqT s, fun i H' x H'' hi e ⟨e2, hx⟩ => ?_⟩⟩
      subst e2
      obtain ⟨d, h1, h2⟩ := a.getV hx
      exact ⟨fun _ _ z => z, d, h1, nlAll_mem hn (List.mem_of_getElem? h1), h2.text e (nlAll_mem hn (List.mem_of_getElem? h1))⟩))
theorem itT_rng {H : Hp} {lo : Int} {n : Nat} : ItOkT C H (Itr lo n) (rng lo n) :=
  ⟨_, _, _, walk_range (lo := lo) (n := n), by unfold rng; rw [List.length_map, List.length_range], fun _ _ => True.intro, fun i H' x H'' hi e ⟨e2, hx⟩ => by
    subst e2 hx
    refine ⟨fun _ _ z => z, _, ?_, rfl, .int _⟩
    unfold rng
    rw [List.getElem?_map, List.getElem?_range hi] <;> rfl⟩
theorem eit_rng1 {t : TA} {k : List Dt → Prop} (h : ED C false t ρ fun xs => ∃ n : Int, xs = [.int n] ∧ -1000000 ≤ n ∧ n ≤ 1000000 ∧ k (rng 0 n.toNat)) : EIT C (iRng1 t) ρ k := fun H0 σ H R r q =>
  h H0 σ H _ r fun vs xs H1 ⟨n, e, h1, h2, hk⟩ e1 c1 hv => by
    subst e
    obtain ⟨v, rfl, g⟩ := one1 hv
    cases g
    exact ⟨n, rfl, by omega, by omega, q _ _ H1 hk e1 c1 itT_rng⟩
theorem eit_rng2 {t : TA} {k : List Dt → Prop} (h : ED C false t ρ fun xs => ∃ lo n : Int, xs = [.int lo, .int n] ∧ -1000000 ≤ lo ∧ lo ≤ 1000000 ∧ -1000000 ≤ n ∧ n ≤ 1000000 ∧ k (rng lo (n - lo).toNat)) : EIT C (iRng2 t) ρ k := fun H0 σ H R r q =>
  h H0 σ H _ r fun vs xs H1 ⟨lo, n, e, h1, h2, h3, h4, hk⟩ e1 c1 hv => by
    subst e
    obtain ⟨v, w, rfl, g, g2⟩ := two2 hv
    cases g; cases g2
    exact ⟨lo, n, rfl, ⟨by omega, by omega, by omega, by omega⟩, q _ _ H1 hk e1 c1 itT_rng⟩
/-- each slot is plain, or as it was -/
def PlainP (vs : List Nat) (n : Nat) (ρ ρ2 : AEnv) : Prop := (∀ (i : Nat) (d : Dt), ρ2[i]? = some (some (AV.dat d)) → Pl.nl d = true ∨ (n + i ∉ vs ∧ ρ[i]? = some (some (AV.dat d)))) ∧ ∀ (i : Nat) (ds : List Dt), ρ2[i]? = some (some (AV.own ds)) → nlAll ds = true
theorem plain_nil {vs : List Nat} {n : Nat} {ρ : AEnv} : PlainP vs n ρ [] := ⟨fun i d h => by simp at h, fun i d h => by simp at h⟩
theorem plain_cons {vs : List Nat} {n : Nat} {a a2 : Option AV} {ρ ρ2 : AEnv} (ha : ∀ v, a2 = some v → match v with | .dat d => Pl.nl d = true ∨ (n ∉ vs ∧ a = some (AV.dat d)) | .own ds => nlAll ds = true | .cup => True) (h : PlainP vs (n + 1) ρ ρ2) : PlainP vs n (a :: ρ) (a2 :: ρ2) := by
  refine ⟨fun i d e => ?_, fun i d e => ?_⟩
  · cases i with
    | zero =>
      rw [List.getElem?_cons_zero] at e
      have e := Option.some.inj e
      rcases ha _ e with z | ⟨z1, z2⟩
      · exact .inl z
      · exact .inr ⟨z1, by rw [z2] <;> rfl⟩
    | succ i =>
      rw [List.getElem?_cons_succ] at e
      rcases h.1 i d e with z | ⟨z1, z2⟩
      · exact .inl z
      · exact .inr ⟨by rw [show n + (i + 1) = n + 1 + i from by omega]; exact z1, by rw [List.getElem?_cons_succ]; exact z2⟩
  · cases i with
    | zero => rw [List.getElem?_cons_zero] at e; cases e; exact ha _ rfl
    | succ i => rw [List.getElem?_cons_succ] at e; exact h.2 i d e
theorem plain_none {vs : List Nat} {n : Nat} {a : Option AV} {ρ ρ2 : AEnv} (h : PlainP vs (n + 1) ρ ρ2) : PlainP vs n (a :: ρ) (none :: ρ2) := plain_cons (fun _ e => by cases e) h
theorem plain_nl {vs : List Nat} {n : Nat} {a : Option AV} {d : Dt} {ρ ρ2 : AEnv} (hd : Pl.nl d = true) (h : PlainP vs (n + 1) ρ ρ2) : PlainP vs n (a :: ρ) (some (AV.dat d) :: ρ2) := plain_cons (fun _ e => by cases e; exact .inl hd) h
theorem plain_same {vs : List Nat} {n : Nat} {d : Dt} {ρ ρ2 : AEnv} (hd : n ∉ vs) (h : PlainP vs (n + 1) ρ ρ2) : PlainP vs n (some (AV.dat d) :: ρ) (some (AV.dat d) :: ρ2) := plain_cons (fun _ e => by cases e; exact .inr ⟨hd, rfl⟩) h
theorem plain_own {vs : List Nat} {n : Nat} {a : Option AV} {ds : List Dt} {ρ ρ2 : AEnv} (hd : nlAll ds = true) (h : PlainP vs (n + 1) ρ ρ2) : PlainP vs n (a :: ρ) (some (AV.own ds) :: ρ2) := plain_cons (fun _ e => by cases e; exact hd) h
theorem plain_cup {vs : List Nat} {n : Nat} {a : Option AV} {ρ ρ2 : AEnv} (h : PlainP vs (n + 1) ρ ρ2) : PlainP vs n (a :: ρ) (some AV.cup :: ρ2) := plain_cons (fun _ e => by cases e; trivial) h
theorem wipeA_some {ρ : AEnv} {i : Nat} {a : AV} : ∀ {vs : List Nat}, (wipeA ρ vs)[i]? = some (some a) → ρ[i]? = some (some a) := by
  intro vs e
  induction vs with
  | nil => exact e
  | cons v vs ih =>
    unfold wipeA at e
    by_cases z : v = i
    · subst z; rw [List.getElem?_set] at e; simp at e
    · rw [List.getElem?_set_ne z] at e; exact ih e
/-- a state, seen over a heap in which one list that is none of its own has changed -/
theorem Rep.over {C : Cxt} {ρ : AEnv} {H0 H H' : Hp} {σ : L2.St} (r : Rep C H0 ρ σ H) {D : Addr} {us : List V} (hd : H D = some (.lst us)) (off : ¬ Mo C.cu ρ σ D) (h0 : H0 D = none) (keep : ∀ a o, a ≠ D → C.cu ≠ some a → H a = some o → H' a = some o)
    (pd : ∀ (i : Nat) (d : Dt) (v : V), ρ[i]? = some (some (AV.dat d)) → σ[i]? = some (some v) → Pl.nl d = true ∨ Hd C.K (Mo C.cu ρ σ) H' v d) (po : ∀ (i : Nat) (ds : List Dt), ρ[i]? = some (some (AV.own ds)) → nlAll ds = true) (c : CupOk C.cu H') : Rep C H0 ρ σ H' := by
  have t : TExt H H' := ⟨fun a xs z => keep a _ (fun z' => by rw [z', hd] at z; cases z) (cup_ne_tup r.cup z) z, fun a o u z => keep a _ (fun z' => by rw [z', hd] at z; cases z) (cup_ne_frz r.cup z) z⟩
  have e0 : Ext C.cu H0 H' := fun a o na ha => keep a o (fun z => by rw [z, h0] at ha; cases ha) na (r.ext a o na ha)
  refine ⟨r.len, fun i a hi => ?_, r.uniq, r.own0, e0, r.cup0, c, r.err⟩
  obtain ⟨v, h1, h2⟩ := r.slot i a hi
  refine ⟨v, h1, ?_⟩
  cases a with
  | dat d =>
    rcases pd i d v hi h1 with z | z
    · exact Hd.text t z h2
    · exact z
  | own ds =>
    obtain ⟨p, vs, rfl, h3, h4⟩ := h2
    refine ⟨p, vs, rfl, keep p _ (fun z => off (by rw [← z]; exact .inr ⟨i, ⟨ds, hi⟩, h1⟩)) (r.ownNe ⟨ds, hi⟩ h1) h3, ?_⟩
    exact HdAll.text t (po i ds hi) h4
  | cup => exact h2
def rngI (lo : Int) (n : Nat) : List Int := (List.range n).map fun (i : Nat) => lo + (i : Int)
theorem rng_rngI (lo : Int) (n : Nat) : rng lo n = (rngI lo n).map .int := by
  unfold rng rngI
  rw [List.map_map] <;> rfl
/-! ### two fors -/
/-- I: what holds of the items made behind so many turns of the outer; J: within a turn -/
theorem el_lc2 {wi wi1 : TI} {g g1 : TG} {tt tt1 : TT} {vs vs1 js js1 : List Nat} {f f1 : Dt → AEnv → Option AEnv} {k : List Dt → Prop} (hg : TgOk C g js f) (hs : ∀ j ∈ js, j ∈ vs) (hg1 : TgOk C g1 js1 f1) (hs1 : ∀ j ∈ js1, j ∈ vs1) (hv : ∀ j ∈ vs1, j ∈ vs)
    (h : EI C wi ρ fun ds => ∃ I : Nat → List Dt → Prop, I 0 [] ∧ (∀ (i : Nat) d ys, ds[i]? = some d → I i ys → ∃ ρ2, f d (wipeA ρ vs) = some ρ2 ∧ PlainP vs 0 ρ ρ2 ∧
      ET C tt ρ2 fun b => if b = true then EIT C wi1 ρ2 fun es => ∃ J : Nat → List Dt → Prop, J 0 ys ∧ (∀ (j : Nat) e zs, es[j]? = some e → J j zs → zs.length ≤ 1000000 ∧ ∃ ρ3, f1 e (wipeA ρ2 vs1) = some ρ3 ∧
        ET C tt1 ρ3 fun b => if b = true then EE C false te ρ3 fun y => nl y = true ∧ J (j + 1) (zs ++ [y]) else J (j + 1) zs) ∧ ∀ zs, J es.length zs → I (i + 1) zs
      else I (i + 1) ys) ∧ ∀ ys, I ds.length ys → nlAll ys = true → k ys) : EL C true (tLc2 wi g tt wi1 g1 tt1 te vs vs1) ρ k := fun H0 σ H Q r q =>
  h H0 σ H _ r fun Jt ds H1 ⟨I, i0, it, ie⟩ e1 c1 ok D hD => by
    obtain ⟨n, G, Y, w, hn, hG, hY⟩ := ok.ex
    have r1 := r.to e1 c1
    obtain ⟨rw1, mw⟩ := r1.wipe vs
    have cD : C.cu ≠ some D := cup_ne_none c1 hD
    let Pv : (List Dt → Prop) → Hp → Prop := fun P H' => ∃ (ys : List Dt) (us : List V), P ys ∧ Ext C.cu H1 H' ∧ CupOk C.cu H' ∧ H' D = some (.lst us) ∧ nlAll ys = true ∧ HdAll C.K (Mc C.cu) H' us ys
    have grow : ∀ {P : List Dt → Prop} {ys : List Dt} {us : List V} {y : Dt} {u : V} {H3 H4 : Hp}, P (ys ++ [y]) → nl y = true → nlAll ys = true → Ext C.cu H1 H3 → CupOk C.cu H3 → H3 D = some (.lst us) → HdAll C.K (Mc C.cu) H3 us ys → Ext C.cu H3 H4 → CupOk C.cu H4 → Hd C.K (Mc C.cu) H4 u y → Pv P (upd H4 D (.lst (us ++ [u]))) := by
      intro P ys us y u H3 H4 hP hy hn0 e3 c3 hd ha e4 c4 hu
      refine ⟨ys ++ [y], us ++ [u], hP, fun a o na ho => ?_, fun c' ec => ?_, upd_same, nlAll_app hn0 hy, ?_⟩
      · rw [upd_ne (ne_of_none ho hD)]
        exact e4 a o na (e3 a o na ho)
      · obtain ⟨x', y', h1, h2⟩ := c4 c' ec
        exact ⟨x', y', by rw [upd_ne fun z => cD (by rw [← z]; exact ec)]; exact h1, h2⟩
      · exact HdAll.updL (e4 _ _ cD hd) (nlAll_app hn0 hy) ((ha.extC c3 e4).append (.cons hu .nil))
    refine ⟨fun i mm H' => mm = n - i ∧ i ≤ n ∧ Pv (I i) H', ⟨n, by simp, Nat.zero_le _, [], [], i0, Ext.new hD, c1.new hD, upd_same, rfl, .nil⟩, ?_⟩
    rintro i mm H' ⟨rfl, hi, ys, us, hI, e, c, hd, hn0, ha⟩
    have eM : ExtM (Mo C.cu ρ σ) H1 H' := fun a o na h' => e a o (fun z => na (.inl z)) h'
    by_cases hlt : i < n
    · refine .inr ⟨w.goes i H' hlt (hG H' eM), Pv (I (i + 1)), fun H2 p => ⟨n - (i + 1), by omega, rfl, hlt, p⟩, fun x H2 y => ?_⟩
      obtain ⟨s2, d, hdi, hx⟩ := hY i H' x H2 hlt eM (w.yields i H' x H2 hlt (hG H' eM) y)
      obtain ⟨ρ2, hf, hpl, ht⟩ := it i d ys hdi hI
      have c2 : CupOk C.cu H2 := fun c' e' => by
        obtain ⟨x', y', h1, h2⟩ := c c' e'
        exact ⟨x', y', s2 _ _ h1, h2⟩
      have e2 : Ext C.cu H' H2 := fun a o _ h' => s2 a o h'
      refine tg_ok hg _ _ _ _ _ _ _ _ hf ((rw1.to e c).to e2 c2) (hx.mono fun a z => .inl (mw a z)) fun σ2 r2 o2 m2 => ⟨o2.wipe2 hs, ht H0 σ2 H2 _ r2 fun b H3 hb e3 c3 => ?_⟩
      have ha3 := (ha.extC c e2).extC c2 e3
      have hd3 := e3 _ _ cD (e2 _ _ cD hd)
      cases b with
      | false =>
        rw [if_neg Bool.false_ne_true] at hb ⊢
        exact ⟨ys, us, hb, (e.trans e2).trans e3, c3, hd3, hn0, ha3⟩
      | true =>
        rw [if_pos rfl] at hb ⊢
        refine hb H0 σ2 H3 _ (r2.to e3 c3) fun J1 es H4 ⟨J, j0, jt, je⟩ e4 c4 ok1 => ?_
        obtain ⟨n1, G1, Y1, w1, hn1, hG1, hY1⟩ := ok1.ex
        have r4 := (r2.to e3 c3).to e4 c4
        obtain ⟨rw2, mw2⟩ := r4.wipe vs1
        have e14 : Ext C.cu H1 H4 := ((e.trans e2).trans e3).trans e4
        have hd4 := e4 _ _ cD hd3
        -- within the inner loop: what stood at H4 stands, but for the list at D
        refine ⟨fun j kk H5 => kk = n1 - j ∧ j ≤ n1 ∧ (∀ a o, a ≠ D → C.cu ≠ some a → H4 a = some o → H5 a = some o) ∧ Pv (J j) H5, ⟨n1, by simp, Nat.zero_le _, fun _ _ _ _ z => z, ys, us, j0, e14, c4, hd4, hn0, ha3.extC c3 e4⟩, ?_⟩
        rintro j kk H5 ⟨rfl, hj, keep, zs, us5, hJ, e5, c5, hd5, hn5, ha5⟩
        have t5 : TExt H4 H5 := ⟨fun a xs z => keep a _ (fun z' => by rw [z', hd4] at z; cases z) (cup_ne_tup c4 z) z, fun a o u z => keep a _ (fun z' => by rw [z', hd4] at z; cases z) (cup_ne_frz c4 z) z⟩
        by_cases hlt1 : j < n1
        · refine .inr ⟨w1.goes j H5 hlt1 (hG1 H5 t5), fun H6 => (∀ a o, a ≠ D → C.cu ≠ some a → H4 a = some o → H6 a = some o) ∧ Pv (J (j + 1)) H6, fun H6 p => ⟨n1 - (j + 1), by omega, rfl, hlt1, p⟩, fun x6 H6 y6 => ?_⟩
          obtain ⟨s6, e', he', hne, hx6⟩ := hY1 j H5 x6 H6 hlt1 t5 (w1.yields j H5 x6 H6 hlt1 (hG1 H5 t5) y6)
          obtain ⟨hzl, ρ3, hf3, ht3⟩ := jt j e' zs he' hJ
          have c6 : CupOk C.cu H6 := fun c' ec => by
            obtain ⟨x', y', h1, h2⟩ := c5 c' ec
            exact ⟨x', y', s6 _ _ h1, h2⟩
          have e56 : Ext C.cu H5 H6 := fun a o _ h' => s6 a o h'
          -- the state of the block, over the heap as it stands now: the list at D is none of its own
          have off : ∀ (ρ' : AEnv) (σ' : L2.St), (∀ a, Mo C.cu ρ' σ' a → Mo C.cu ρ σ a) → ¬ Mo C.cu ρ' σ' D := fun ρ' σ' hm z => r1.off (m := true) hD (hm D z)
          have rep5 : Rep C H0 (wipeA ρ2 vs1) (L2.wipe σ2 vs1) H5 := by
            refine Rep.over rw2 hd4 (off _ _ fun a z => mw a (m2 a (mw2 a z))) (r1.ext.back hD c1) keep (fun i d v hi hv => ?_) (fun i ds hi => hpl.2 i ds (wipeA_some hi)) c5
            rcases hpl.1 i d (wipeA_some hi) with z | ⟨z1, z2⟩
            · exact .inl z
            · obtain ⟨v0, q1, q2⟩ := r1.slot i _ z2
              have hv2 := (wipe_some hv).1
              rw [Nat.zero_add] at z1
              have ew := o2.wipe2 hs
              have e3 : σ2[i]? = σ[i]? := by rw [← wipe_out (σ := σ2) z1, ew, wipe_out z1]
              rw [e3, q1] at hv2
              cases hv2
              refine .inr (Hd.imp (fun a xs n q => ⟨fun z => n (mw a (m2 a (mw2 a z))), ?_⟩) (fun a xs q => t5.sqT (e14.sqT c1 q)) d _ q2)
              exact keep a _ (fun z => by rw [z, hD] at q; cases q) (fun z => n (.inl z)) (e14 a _ (fun z => n (.inl z)) q)
          refine tg_ok hg1 _ _ _ _ _ _ _ _ hf3 (rep5.to e56 c6) (Hd.nl _ _ hne hx6) fun σ3 r3 o3 m3 => ⟨o3.wipe2 hs1, ht3 H0 σ3 H6 _ r3 fun b2 H7 hb2 e7 c7 => ?_⟩
          have hd7 := e7 _ _ cD (s6 _ _ hd5)
          have ha7 := (ha5.extC c5 e56).extC c6 e7
          have k7 : ∀ a o, a ≠ D → C.cu ≠ some a → H4 a = some o → H7 a = some o := fun a o nD nc h4 => e7 a o nc (s6 a o (keep a o nD nc h4))
          cases b2 with
          | false =>
            rw [if_neg Bool.false_ne_true] at hb2 ⊢
            exact ⟨k7, zs, us5, hb2, (e5.trans e56).trans e7, c7, hd7, hn5, ha7⟩
          | true =>
            rw [if_pos rfl] at hb2 ⊢
            refine hb2 H0 σ3 H7 _ (r3.to e7 c7) fun u y7 H8 ⟨hny, hJ8⟩ e8 c8 hu => ⟨us5, e8 _ _ cD hd7, ?_, ?_, grow (P := J (j + 1)) hJ8 hny hn5 ((e5.trans e56).trans e7) c7 hd7 ha7 e8 c8 hu⟩
            · rw [ha5.length]
              exact Nat.lt_of_le_of_lt hzl (by decide)
            · intro a o nD nc h4
              rw [upd_ne nD]
              exact e8 a o nc (k7 a o nD nc h4)
        · have en : j = n1 := by omega
          subst en
          exact .inl ⟨w1.stops H5 (hG1 H5 t5), zs, us5, je zs (by rw [← hn1]; exact hJ), e5, c5, hd5, hn5, ha5⟩
    · have en : i = n := by omega
      subst en
      exact .inl ⟨w.stops H' (hG H' eM), q D us ys H' (ie ys (by rw [← hn]; exact hI) hn0) (e1.trans e) c (e1.back hD c1) hd (HdAll.nl ys us hn0 ha)⟩
end
end Pl

set_option Elab.async false
set_option linter.all false
set_option maxRecDepth 100000
set_option maxHeartbeats 4000000
/-! Pl11: comprehensions by a plain function; loops by a fold; two lists made at once. -/
namespace Pl
open PySem PySem.Spec PyProof.Rows L2
theorem lt_ok {a b : Nat} (h : Nat.blt a b = true) : a < b := Nat.le_of_ble_eq_true h
theorem le_ok {a b : Nat} (h : Nat.ble a b = true) : a ≤ b := Nat.le_of_ble_eq_true h
def fI (p : Int → Bool) : Dt → Option Dt
  | .int i => if p i = true then some (.int i) else none
  | _ => none
def mI (g : Int → Dt) : Dt → Option Dt
  | .int i => some (g i)
  | _ => none
theorem fI_t {p : Int → Bool} {i : Int} (h : p i = true) : fI p (.int i) = some (.int i) := by unfold fI; exact if_pos h
theorem fI_f {p : Int → Bool} {i : Int} (h : p i = false) : fI p (.int i) = none := by unfold fI; exact if_neg (by rw [h]; exact Bool.false_ne_true)
theorem fI_map (p : Int → Bool) : ∀ ns : List Int, (ns.map PyData.int).filterMap (fI p) = (ns.filter p).map .int
  | [] => rfl
  | n :: ns => by
    rw [List.map_cons, List.filterMap_cons, List.filter_cons, fI_map p ns]
    unfold fI
    cases h : p n with
    | true => simp [h]
    | false => simp [h]
theorem mI_map (g : Int → Dt) : ∀ ns : List Int, (ns.map PyData.int).filterMap (mI g) = ns.map g
  | [] => rfl
  | n :: ns => by
    rw [List.map_cons, List.filterMap_cons, mI_map g ns] <;> rfl
theorem take_snoc {α : Type} {ds : List α} {i : Nat} {d : α} (h : ds[i]? = some d) : ds.take (i + 1) = ds.take i ++ [d] := by
  rw [List.take_succ, h] <;> rfl
theorem take_all {α : Type} (ds : List α) : ds.take ds.length = ds := List.take_length
section
variable {C : Cxt} {ρ : AEnv} {te ta tb : TE} {m : Bool}
theorem EL.any {k : List Dt → Prop} (h : EL C true te ρ k) : EL C m te ρ k := fun H0 σ H Q r q => h H0 σ H Q r fun p vs ds H' hk e c hp hp' hv => q p vs ds H' hk e c hp hp' (hv.mono fun a z => by
  cases m with
  | true => exact z
  | false => exact .inl z)
theorem EE.any {k : Dt → Prop} (h : EE C true te ρ k) : EE C m te ρ k := fun H0 σ H Q r q => h H0 σ H Q r fun v d H' hk e c hv => q v d H' hk e c (hv.mono fun a z => by
  cases m with
  | true => exact z
  | false => exact .inl z)
theorem el_lcM {wi : TI} {g : TG} {tt : TT} {vs js : List Nat} {f : Dt → AEnv → Option AEnv} {k : List Dt → Prop} (hg : TgOk C g js f) (hs : ∀ j ∈ js, j ∈ vs) (φ : Dt → Option Dt)
    (h : EI C wi ρ fun ds => ds.length ≤ 100000 ∧ (∀ d, d ∈ ds → ∃ ρ2, f d (wipeA ρ vs) = some ρ2 ∧ ET C tt ρ2 fun b => if b = true then EE C false te ρ2 fun y => nl y = true ∧ φ d = some y else φ d = none) ∧ (nlAll (ds.filterMap φ) = true → k (ds.filterMap φ))) : EL C m (tLc wi g tt te vs) ρ k :=
  EL.any <| el_lc hg hs fun H0 σ H R r q => h H0 σ H R r fun J ds H' ⟨hz, hd, hk⟩ => q J ds H' ⟨hz, fun i ys => ys = (ds.take i).filterMap φ, rfl, fun i d ys hi _ hI => by
    subst hI
    obtain ⟨ρ2, h1, h2⟩ := hd d (List.mem_of_getElem? hi)
    refine ⟨ρ2, h1, h2.imp fun b hb => ?_⟩
    have e : ∀ o, φ d = o → List.filterMap φ (ds.take (i + 1)) = List.filterMap φ (ds.take i) ++ o.toList := fun o ho => by
      rw [take_snoc hi, List.filterMap_append, List.filterMap_cons, ho]
      cases o <;> rfl
    cases b with
    | true =>
      rw [if_pos rfl] at hb ⊢
      exact hb.imp fun y ⟨n, hy⟩ => ⟨n, (e _ hy).symm⟩
    | false =>
      rw [if_neg Bool.false_ne_true] at hb ⊢
      show _ = _
      rw [e _ hb]
      simp, fun ys hI _ hn => by
    have hI : ys = List.filterMap φ (ds.take ds.length) := hI
    rw [take_all] at hI
    subst hI
    exact hk hn⟩
/-- random things: each made item is one of those that S tells -/
theorem el_lcR {wi : TI} {g : TG} {vs js : List Nat} {f : Dt → AEnv → Option AEnv} {k : List Dt → Prop} (hg : TgOk C g js f) (hs : ∀ j ∈ js, j ∈ vs) (S : Dt → Prop)
    (h : EI C wi ρ fun ds => ds.length ≤ 100000 ∧ (∀ d, d ∈ ds → ∃ ρ2, f d (wipeA ρ vs) = some ρ2 ∧ EE C false te ρ2 fun y => nl y = true ∧ S y) ∧ ∀ ys, ys.length = ds.length → (∀ y, y ∈ ys → S y) → nlAll ys = true → k ys) : EL C m (tLc wi g tYes te vs) ρ k :=
  EL.any <| el_lc hg hs fun H0 σ H R r q => h H0 σ H R r fun J ds H' ⟨hz, hd, hk⟩ => q J ds H' ⟨hz, fun i ys => ys.length = i ∧ ∀ y, y ∈ ys → S y, ⟨rfl, fun y z => by cases z⟩, fun i d ys hi _ ⟨h1, h2⟩ => by
    obtain ⟨ρ2, h3, h4⟩ := hd d (List.mem_of_getElem? hi)
    refine ⟨ρ2, h3, fun H0 σ H Q r q => ?_⟩
    refine q true H ?_ (Ext.refl _ _) r.cup
    refine itet ?_
    exact h4.imp fun y ⟨n, hy⟩ => ⟨n, by rw [List.length_append, h1] <;> rfl, fun z hz => by
      rcases List.mem_append.mp hz with z1 | z1
      · exact h2 z z1
      · rw [List.mem_singleton] at z1
        rw [z1]
        exact hy⟩, fun ys ⟨h1, h2⟩ _ hn => hk ys h1 h2 hn⟩
theorem et_yes {k : Bool → Prop} (h : k true) : ET C tYes ρ k := fun H0 σ H Q r q => q true H h (Ext.refl _ _) r.cup
theorem el_lc2M {wi wi1 : TI} {g g1 : TG} {tt tt1 : TT} {vs vs1 js js1 : List Nat} {f f1 : Dt → AEnv → Option AEnv} {k : List Dt → Prop} (hg : TgOk C g js f) (hs : ∀ j ∈ js, j ∈ vs) (hg1 : TgOk C g1 js1 f1) (hs1 : ∀ j ∈ js1, j ∈ vs1) (hv : ∀ j ∈ vs1, j ∈ vs) (φ : Dt → Dt → Option Dt) (ψ : Dt → List Dt)
    (h : EI C wi ρ fun ds => ds.length ≤ 1000 ∧ (∀ d, d ∈ ds → ∃ ρ2, f d (wipeA ρ vs) = some ρ2 ∧ PlainP vs 0 ρ ρ2 ∧ ET C tt ρ2 fun b => if b = true then EIT C wi1 ρ2 fun es => es.length ≤ 1000 ∧ ψ d = es.filterMap (φ d) ∧
      ∀ e, e ∈ es → ∃ ρ3, f1 e (wipeA ρ2 vs1) = some ρ3 ∧ ET C tt1 ρ3 fun b => if b = true then EE C false te ρ3 fun y => nl y = true ∧ φ d e = some y else φ d e = none
      else ψ d = []) ∧ (nlAll (ds.map ψ).flatten = true → k (ds.map ψ).flatten)) : EL C m (tLc2 wi g tt wi1 g1 tt1 te vs vs1) ρ k :=
  EL.any <| el_lc2 hg hs hg1 hs1 hv fun H0 σ H R r q => h H0 σ H R r fun J ds H' ⟨hz, hd, hk⟩ => q J ds H' ⟨fun i ys => ys = ((ds.take i).map ψ).flatten ∧ ys.length ≤ i * 1000, ⟨rfl, Nat.zero_le _⟩, fun i d ys hi ⟨hI, hl⟩ => by
    obtain ⟨ρ2, h1, h2, h3⟩ := hd d (List.mem_of_getElem? hi)
    have hi2 : i < ds.length := (List.getElem?_eq_some_iff.mp hi).1
    have e0 : ((ds.take (i + 1)).map ψ).flatten = ((ds.take i).map ψ).flatten ++ ψ d := by
      rw [take_snoc hi]
      simp
    refine ⟨ρ2, h1, h2, h3.imp fun b hb => ?_⟩
    cases b with
    | false =>
      rw [if_neg Bool.false_ne_true] at hb ⊢
      exact ⟨by rw [e0, hb, ← hI]; simp, by omega⟩
    | true =>
      rw [if_pos rfl] at hb ⊢
      refine fun H0 σ H R r q => hb H0 σ H R r fun J1 es H1 ⟨hze, hψ, he⟩ => q J1 es H1 ⟨fun j zs => zs = ys ++ (es.take j).filterMap (φ d) ∧ zs.length ≤ i * 1000 + j, ⟨by simp, by omega⟩, fun j e zs hj ⟨hJ, hzl⟩ => ?_, fun zs ⟨hJ, hzl⟩ => ?_⟩
      · obtain ⟨ρ3, h4, h5⟩ := he e (List.mem_of_getElem? hj)
        have hj2 : j < es.length := (List.getElem?_eq_some_iff.mp hj).1
        refine ⟨by omega, ρ3, h4, h5.imp fun b2 hb2 => ?_⟩
        have e1 : ∀ o, φ d e = o → List.filterMap (φ d) (es.take (j + 1)) = List.filterMap (φ d) (es.take j) ++ o.toList := fun o ho => by
          rw [take_snoc hj, List.filterMap_append, List.filterMap_cons, ho]
          cases o <;> rfl
        cases b2 with
        | true =>
          rw [if_pos rfl] at hb2 ⊢
          exact hb2.imp fun y ⟨n, hy⟩ => ⟨n, by rw [e1 _ hy, hJ]; simp, by rw [List.length_append]; simp; omega⟩
        | false =>
          rw [if_neg Bool.false_ne_true] at hb2 ⊢
          exact ⟨by rw [e1 _ hb2, hJ]; simp, by omega⟩
      · rw [take_all] at hJ
        exact ⟨by rw [e0, hψ, hJ, hI], by omega⟩, fun ys ⟨hI, _⟩ hn => by
    rw [take_all] at hI
    subst hI
    exact hk hn⟩
/-- a for that turns one state into the next, by a plain function of the item -/
theorem s_forF {α : Type} {wi : TI} {g : TG} {js : List Nat} {f : Dt → AEnv → Option AEnv} {t : TS} {nx bk ct : AEnv → Prop} {rt : Dt → Prop} (hg : TgOk C g js f) (S : α → AEnv → Prop) (a0 : α) (F : α → Dt → α) (h0 : S a0 ρ)
    (h : EI C wi ρ fun ds => (∀ d a ρ', d ∈ ds → S a ρ' → ∃ ρ2, f d ρ' = some ρ2 ∧ S4 C t ρ2 (S (F a d)) rt nx (S (F a d))) ∧ ∀ ρ', S (ds.foldl F a0) ρ' → nx ρ') : S4 C (tFor wi g t) ρ nx rt bk ct :=
  s_for hg fun H0 σ H R r q => h H0 σ H R r fun J ds H' ⟨h1, h2⟩ => q J ds H' ⟨fun i ρ' => S ((ds.take i).foldl F a0) ρ', h0, fun i d ρ' hi hS => by
    obtain ⟨ρ2, h3, h4⟩ := h1 d _ ρ' (List.mem_of_getElem? hi) hS
    have e : F ((ds.take i).foldl F a0) d = (ds.take (i + 1)).foldl F a0 := by
      rw [take_snoc hi, List.foldl_append] <;> rfl
    rw [e] at h4
    exact ⟨ρ2, h3, h4⟩, fun ρ' hS => h2 ρ' (by have hS : S ((ds.take ds.length).foldl F a0) ρ' := hS; rw [take_all] at hS; exact hS)⟩
theorem s_forM {α β : Type} {wi : TI} {g : TG} {js : List Nat} {f : Dt → AEnv → Option AEnv} {t : TS} {nx bk ct : AEnv → Prop} {rt : Dt → Prop} (hg : TgOk C g js f) (gg : β → Dt) (S : α → AEnv → Prop) (a0 : α) (F : α → β → α) (h0 : S a0 ρ)
    (h : EI C wi ρ fun ds => ∃ xs : List β, ds = xs.map gg ∧ (∀ x a ρ', x ∈ xs → S a ρ' → ∃ ρ2, f (gg x) ρ' = some ρ2 ∧ S4 C t ρ2 (S (F a x)) rt nx (S (F a x))) ∧ ∀ ρ', S (xs.foldl F a0) ρ' → nx ρ') : S4 C (tFor wi g t) ρ nx rt bk ct :=
  s_for hg fun H0 σ H R r q => h H0 σ H R r fun J ds H' ⟨xs, hd, h1, h2⟩ => q J ds H' ⟨fun i ρ' => S ((xs.take i).foldl F a0) ρ', h0, fun i d ρ' hi hS => by
    subst hd
    rw [List.getElem?_map] at hi
    cases hx : xs[i]? with
    | none => rw [hx] at hi; cases hi
    | some x =>
      rw [hx] at hi
      have hi : some (gg x) = some d := hi
      cases hi
      obtain ⟨ρ2, h3, h4⟩ := h1 x _ ρ' (List.mem_of_getElem? hx) hS
      have e : F ((xs.take i).foldl F a0) x = (xs.take (i + 1)).foldl F a0 := by
        rw [take_snoc hx, List.foldl_append] <;> rfl
      rw [e] at h4
      exact ⟨ρ2, h3, h4⟩, fun ρ' hS => h2 ρ' (by
        subst hd
        have hS : S ((xs.take (xs.map gg).length).foldl F a0) ρ' := hS
        rw [List.length_map, take_all] at hS
        exact hS)⟩
theorem s_asg2 {i j : Nat} {nx bk ct : AEnv → Prop} {rt : Dt → Prop} (hi : i < ρ.length) (hj : j < ρ.length) (h : EE C true te ρ fun d => ∃ x y, d = .tuple [x, y] ∧ nx ((ρ.set i (some (.dat x))).set j (some (.dat y)))) : S4 C (tAsg te (gTup C.K 2 (gCons (gName i) (gCons (gName j) gNil)))) ρ nx rt bk ct :=
  s_asg (.tup 2 (.cons (.name i) (.cons (.name j) .nil))) <| h.imp fun d ⟨x, y, hd, hk⟩ => by
    subst hd
    refine ⟨_, ?_, hk⟩
    simp [hi, hj]
theorem s_asg3 {i j l : Nat} {nx bk ct : AEnv → Prop} {rt : Dt → Prop} (hi : i < ρ.length) (hj : j < ρ.length) (hl : l < ρ.length) (h : EE C true te ρ fun d => ∃ x y z, d = .tuple [x, y, z] ∧ nx (((ρ.set i (some (.dat x))).set j (some (.dat y))).set l (some (.dat z)))) : S4 C (tAsg te (gTup C.K 3 (gCons (gName i) (gCons (gName j) (gCons (gName l) gNil))))) ρ nx rt bk ct :=
  s_asg (.tup 3 (.cons (.name i) (.cons (.name j) (.cons (.name l) .nil)))) <| h.imp fun d ⟨x, y, z, hd, hk⟩ => by
    subst hd
    refine ⟨_, ?_, hk⟩
    simp [hi, hj, hl]
theorem ar_eqI {i j : Int} {k : Dt → Prop} (h : k (.bool (decide (i = j)))) : AR C (rEqD C.K) (.int i) (.int j) k := ar_eq rfl rfl (by
  have e : PyData.eqv (.int i) (.int j) = decide (i = j) := by
    by_cases h : i = j
    · subst h; simp [PyData.eqv]
    · simp [PyData.eqv, h]
  rw [e]; exact h)
theorem ar_neI {i j : Int} {k : Dt → Prop} (h : k (.bool (!decide (i = j)))) : AR C (rNeD C.K) (.int i) (.int j) k := ar_ne rfl rfl (by
  have e : PyData.eqv (.int i) (.int j) = decide (i = j) := by
    by_cases h : i = j
    · subst h; simp [PyData.eqv]
    · simp [PyData.eqv, h]
  rw [e]; exact h)
/-- two lists made at once -/
theorem s_parO {i j : Nat} {nx bk ct : AEnv → Prop} {rt : Dt → Prop} (hi : i < ρ.length) (hj : j < ρ.length) (hij : i ≠ j) (h : EL C false ta ρ fun xs => EL C false tb ρ fun ys => nlAll xs = true ∧ nlAll ys = true ∧ nx ((ρ.set i (some (.own xs))).set j (some (.own ys)))) : S4 C (tPar i j (tCons ta (tCons tb tNil))) ρ nx rt bk ct := fun H0 σ H D r e =>
  h H0 σ H _ r fun p vs xs H1 h1 e1 c1 hp hp' hv => h1 H0 σ H1 _ (r.to e1 c1) fun q ws ys H2 ⟨n1, n2, hk⟩ e2 c2 hq hq' hw =>
    ⟨_, _, rfl, e.nx _ _ _ hk ((r.setOwn hi e1 c1 hp hp' n1 hv).setOwn (by rw [List.length_set]; exact hj) e2 c2 hq hq' n2 hw)⟩
end
end Pl

set_option Elab.async false
set_option linter.all false
set_option maxRecDepth 100000
set_option maxHeartbeats 4000000
/-! Pl12: the cup, read and written; the law's start; defs of no promise. -/
namespace Pl
open PySem PySem.Spec PyProof.Rows L2
section
variable {C : Cxt} {ρ : AEnv} {te : TE} {m : Bool} {k : Dt → Prop}
theorem ee_cup0 {i : Nat} (hi : ρ[i]? = some (some .cup)) (h : ∀ x : Int, 0 ≤ x → k (.int x)) : EE C m (tOp (rIx C.K) (tVar i) (tC (.int 0))) ρ k := fun H0 σ H Q r q => by
  obtain ⟨v, h1, c, h2, rfl⟩ := r.slot i _ hi
  obtain ⟨x, y, h3, h4, h5, h6⟩ := r.cup c h2
  exact ⟨_, h1, .inl ⟨_, _, 0, .int x, rfl, rfl, .inl (.inl h3), rfl, q _ _ _ (h x h4) (Ext.refl _ _) r.cup (.int x)⟩⟩
theorem ee_cup1 {i : Nat} (hi : ρ[i]? = some (some .cup)) (h : ∀ y : Int, 0 ≤ y → y < 2147483648 → k (.int y)) : EE C m (tOp (rIx C.K) (tVar i) (tC (.int 1))) ρ k := fun H0 σ H Q r q => by
  obtain ⟨v, h1, c, h2, rfl⟩ := r.slot i _ hi
  obtain ⟨x, y, h3, h4, h5, h6⟩ := r.cup c h2
  exact ⟨_, h1, .inl ⟨_, _, 1, .int y, rfl, rfl, .inl (.inl h3), rfl, q _ _ _ (h y h5 h6) (Ext.refl _ _) r.cup (.int y)⟩⟩
theorem Rep.cupped {H0 H : Hp} {σ : L2.St} (r : Rep C H0 ρ σ H) {c : Addr} (hc : C.cu = some c) {x y : Int} (h1 : 0 ≤ x) (h2 : 0 ≤ y) (h3 : y < 2147483648) : Rep C H0 ρ σ (L2.upd H c (.lst [.int x, .int y])) := by
  have cl : CupOk C.cu (L2.upd H c (.lst [.int x, .int y])) := fun c' e => by
    rw [hc] at e
    cases e
    exact ⟨x, y, upd_same, h1, h2, h3⟩
  have e : Ext C.cu H (L2.upd H c (.lst [.int x, .int y])) := fun a o na ha => by
    rw [upd_ne fun z => na (by rw [z]; exact hc)]
    exact ha
  exact r.to e cl
theorem s_cup0 {i : Nat} {nx bk ct : AEnv → Prop} {rt : Dt → Prop} (hi : ρ[i]? = some (some .cup)) (h : EE C false te ρ fun d => ∃ x : Int, d = .int x ∧ 0 ≤ x ∧ nx ρ) : S4 C (tAsg te (gSub (tVar i) (tC (.int 0)) rSetL)) ρ nx rt bk ct := fun H0 σ H D r e =>
  h H0 σ H _ r fun v d H1 ⟨x, hd, h0, hk⟩ e1 c1 hv => by
    subst hd
    cases hv
    have r1 := r.to e1 c1
    obtain ⟨v, h1, c, h2, rfl⟩ := r1.slot i _ hi
    obtain ⟨x0, y, h3, h4, h5, h6⟩ := r1.cup c h2
    exact ⟨_, h1, c, _, 0, 0, rfl, rfl, h3, rfl, e.nx _ _ _ hk (r1.cupped h2 h0 h5 h6)⟩
theorem s_cup1 {i : Nat} {nx bk ct : AEnv → Prop} {rt : Dt → Prop} (hi : ρ[i]? = some (some .cup)) (h : EE C false te ρ fun d => ∃ y : Int, d = .int y ∧ 0 ≤ y ∧ y < 2147483648 ∧ nx ρ) : S4 C (tAsg te (gSub (tVar i) (tC (.int 1)) rSetL)) ρ nx rt bk ct := fun H0 σ H D r e =>
  h H0 σ H _ r fun v d H1 ⟨x, hd, h0, h7, hk⟩ e1 c1 hv => by
    subst hd
    cases hv
    have r1 := r.to e1 c1
    obtain ⟨v, h1, c, h2, rfl⟩ := r1.slot i _ hi
    obtain ⟨x0, y, h3, h4, h5, h6⟩ := r1.cup c h2
    exact ⟨_, h1, c, _, 1, 1, rfl, rfl, h3, rfl, e.nx _ _ _ hk (r1.cupped h2 h4 h0 h7)⟩
/-- the cup is new -/
theorem rep_cup {K : PySem.W.Frag} {H : Hp} {c : Addr} {x y : Int} (E : XK) (hc : H c = some (.lst [.int x, .int y])) (h1 : 0 ≤ x) (h2 : 0 ≤ y) (h3 : y < 2147483648) {i : Nat} {σ : L2.St} (hi : i < σ.length) : Rep ⟨K, some c, E, fun _ => False⟩ H ((List.replicate σ.length none).set i (some .cup)) (σ.set i (some (.ref c))) H := by
  have cl : CupOk (some c) H := fun c' e => by
    cases e
    exact ⟨x, y, hc, h1, h2, h3⟩
  have no : ∀ j, ¬ isOwn ((List.replicate σ.length none).set i (some .cup)) j := fun j ⟨ds, e⟩ => by
    by_cases z : i = j
    · subst z
      rw [List.getElem?_set_self (by rw [List.length_replicate]; exact hi)] at e
      cases e
    · rw [List.getElem?_set_ne z, List.getElem?_replicate] at e
      split at e <;> cases e
  refine ⟨by rw [List.length_set, List.length_set, List.length_replicate], fun j a hj => ?_, fun j _ _ z => (no j z).elim, fun j _ z => (no j z).elim, Ext.refl _ _, cl, cl, fun _ _ _ _ z => z.elim⟩
  by_cases z : i = j
  · subst z
    rw [List.getElem?_set_self (by rw [List.length_replicate]; exact hi)] at hj
    cases hj
    exact ⟨_, List.getElem?_set_self hi, c, rfl, rfl⟩
  · rw [List.getElem?_set_ne z, List.getElem?_replicate] at hj
    split at hj <;> cases hj
end
/-- what a law's cup is made of: list(script) + [0] -/
theorem te_script {K : PySem.W.Frag} {σ : L2.St} {H : Hp} {Q : VK} {i : Nat} {a : Addr} {ns : List Int} (hσ : σ[i]? = some (some (.ref a))) (hs : SqL K H a (ns.map V.int)) (hl : ns.length ≤ 99999)
    (q : ∀ x : Int, ∀ H', (∀ b o, H b = some o → H' b = some o) → Q (.int x) H') : tOp (rIx K) (tOp (rPlus K) (tCB (cLst K) (tCons (tVar i) tNil)) (tLst (tCons (tC (.int 0)) tNil))) (tC (.int 0)) σ H Q := by
  refine ⟨_, hσ, a, _, rfl, .inl hs, fun l nl => ⟨by decide, fun p np => ?_⟩⟩
  have np2 : p ≠ l := fun z => by rw [z, upd_same] at np; cases np
  have np3 : H p = none := by rw [upd_ne np2] at np; exact np
  have k1 : ∀ b o, H b = some o → (upd (upd H l (.lst (ns.map V.int))) p (.lst [.int 0])) b = some o := fun b o h => by
    rw [upd_ne (ne_of_none h np3), upd_ne (ne_of_none h nl)]
    exact h
  let C : Cxt := ⟨K, none, fun _ _ _ => False, fun _ => False⟩
  have c0 : ∀ H, CupOk C.cu H := fun H c e => by cases e
  have lp : l ≠ p := fun z => by rw [← z, upd_same] at np; cases np
  refine arl_plusL (C := C) (xs := ns.map .int) (ys := [.int 0]) (k := fun ds => ds = ns.map .int ++ [.int 0]) (by rw [List.length_map]; simp; omega) rfl (fun _ => False) (fun _ e => by cases e) _ _ _ _ (c0 _)
    (.lst id (by rw [upd_ne lp]; exact upd_same) (HdAll.mapI ns)) (.lst id upd_same (.cons (.int 0) .nil)) fun u vs ds H' hk e _ hu hu' hv => ?_
  subst hk
  cases ns with
  | nil =>
    refine ar_ixL (C := C) (d := .int 0) (atI_nat' (n := 0) rfl) (k := fun d => d = .int 0) rfl (fun _ => False) (fun _ e => by cases e) (.ref u) (.int 0) H' Q (c0 _) (.lst id hu' hv) (.int 0) fun w d H2 hd e2 _ hw => ?_
    subst hd
    cases hw
    exact q _ _ fun b o h => e2 b o (fun z => by cases z) (e b o (fun z => by cases z) (k1 b o h))
  | cons n ns =>
    refine ar_ixL (C := C) (d := .int n) (atI_nat' (n := 0) rfl) (k := fun d => d = .int n) rfl (fun _ => False) (fun _ e => by cases e) (.ref u) (.int 0) H' Q (c0 _) (.lst id hu' hv) (.int 0) fun w d H2 hd e2 _ hw => ?_
    subst hd
    cases hw
    exact q _ _ fun b o h => e2 b o (fun z => by cases z) (e b o (fun z => by cases z) (k1 b o h))
/-- a def of no promise -/
theorem cl_never {P : Program} {w : World} {K : PySem.W.Frag} {mg : Str → Option Value} {base : Heap} {x : Str} {st : Stmt} {N ps : List Str} {k : Nat} (F : Df K mg x st ps) (S : FnScope N ps (defScope st)) : Cl P w K mg base (k + 1) x (fun _ _ _ _ => False) :=
  cl_raw F S (fun _ _ _ _ h => h.elim) fun _ _ _ _ _ _ _ _ _ _ h => h.elim
end Pl

set_option Elab.async false
set_option linter.all false
set_option maxRecDepth 100000
set_option maxHeartbeats 4000000
/-! Pl13: enumerate over a tuple. -/
namespace Pl
open PySem PySem.Spec PyProof.Rows L2
open AutoSeq1 (wpAny_loadPart')
set_option maxHeartbeats 4000000 in
theorem meets_enumT {v : Value} {o : Obj} {H : Heap → Prop} (B : Begins v o H) :
    Meets (Builtin.«enumerate.__new__» ⟨[.type "enumerate", v], []⟩) (fun _ R s => H s.heap ∧
      R (.ok (.ret (.ref (s.heap.push o).objs.size))) { s with heap := (s.heap.push o).push { cls := .type "enumerate", data := .fields #[.none, .bool false, .ref s.heap.objs.size, rawInt 0, .none, .none] } }) :=
  .of_wp fun prog w A R s h => by
    obtain ⟨hp, g, d, tk, os⟩ := s
    obtain ⟨h1, h⟩ := h
    have hsub := sub_enumerate
    have q1 : ∀ {A' : Around} {E : Value → Shared → Prop} {Q : Value → Shared → Prop}, Q (.ref hp.objs.size) ⟨hp.push o, g, d, tk, os⟩ → wpAny (model prog w) A' (pyIter v) Q E ⟨hp, g, d, tk, os⟩ :=
      fun q => B.iter prog w _ _ ⟨hp, g, d, tk, os⟩ _ h1 q
    wp_walk using q1
    refine wpAny_stack_any fun st => wpAny_pure ?_
    split
    · rename_i c _ _ _ _ _
      cases (c == Value.type "enumerate")
      · wp_walk using q1
        exact ⟨_, rfl, h⟩
      · wp_walk using q1
        exact ⟨_, rfl, h⟩
    · wp_walk using q1
      exact ⟨_, rfl, h⟩
theorem call_enumT {prog : Program} {w : World} {A : Around} {E : Value → Shared → Prop} {s : Shared} {v : Value} {o : Obj} {H : Heap → Prop} {Q : Value → Shared → Prop} (B : Begins v o H) (h1 : H s.heap)
    (h : ∀ h', IsEnum h' (s.heap.objs.size + 1) s.heap.objs.size 0 .none → h'.get? s.heap.objs.size = some o → h'.objs.size = s.heap.objs.size + 2 →
      (∀ b o, s.heap.get? b = some o → h'.get? b = some o) → Q (.ref (s.heap.objs.size + 1)) { s with heap := h' }) :
    wpAny (model prog w) A (call (.type "enumerate") [v]) Q E s := by
  refine callType_new F.called_enumerate (by decide) (F.typeCall_enumerate_1 _) (F.newCall_enumerate_1 _) (fun obj => F.args_object_init_2 obj _) F.entry_enumerate_new
    (meets_enumT B) ⟨h1, ?_⟩
  have hz : (s.heap.push o).objs.size = s.heap.objs.size + 1 := Heap.size_push ..
  show _ ∧ _
  rw [hz]
  have he : IsEnum ((s.heap.push o).push { cls := .type "enumerate", data := .fields #[.none, .bool false, .ref s.heap.objs.size, rawInt 0, .none, .none] }) (s.heap.objs.size + 1) s.heap.objs.size 0 .none := by
    have := Heap.get?_push_size (s.heap.push o) (o := { cls := .type "enumerate", data := .fields #[.none, .bool false, .ref s.heap.objs.size, rawInt 0, .none, .none] }) rfl
    rw [hz] at this
    exact this
  exact ⟨⟨_, he, rfl⟩, h _ he (Heap.get?_push_of_some _ (Heap.get?_push_size _ B.free)) (by rw [Heap.size_push, hz]) fun b o x => Heap.get?_push_of_some _ (Heap.get?_push_of_some _ x)⟩
/-- the tuple at a, each item in a new pair -/
def IteT (K : PySem.W.Frag) (a : Addr) : It :=
  ⟨fun i H => ∃ (xs : List V) (x : V), SqT K H a xs ∧ xs[i]? = some x, fun i H v H' => ∃ T x, v = .ref T ∧ H T = none ∧ H' = upd H T (.tup [.int (i : Nat), x]) ∧ ∀ xs, SqT K H a xs → xs[i]? = some x, fun i H => ∃ xs : List V, SqT K H a xs ∧ xs.length = i⟩
theorem turn_enumT {P : Program} {w : World} {K : PySem.W.Frag} {elts : List Expr} {kk : Nat} {tpos : Pos} (a e it : Addr) :
    Turn P w K (.Tuple elts kk tpos) (IteT K a) [e, it] e (fun i h => (∃ old, IsEnum h e it ((i : Nat) : Int) old) ∧ h.IsTupleIter it a i ∧ e ≠ it) where
  mem := by simp
  obj := fun i h st b hb => by
    obtain ⟨⟨old, he⟩, ⟨o, ho, hc, hd⟩, _⟩ := st
    have e' : b = e ∨ b = it := by simpa using hb
    rcases e' with z | z
    · rw [z]; exact ⟨_, he, fun v q => nomatch q⟩
    · rw [z]; exact ⟨o, ho, fun v q => by rw [hd] at q; cases q⟩
  keep := fun i h h' st k => let ⟨⟨old, he⟩, hi, hne⟩ := st; ⟨⟨old, k e (by simp) _ he⟩, hi.at fun o q => k it (by simp) o q, hne⟩
  item := by
    intro X hP hw hK hc i pins s σ H E I hf st hg
    subst hP hw hK
    obtain ⟨⟨old, he⟩, hit, hne⟩ := st
    obtain ⟨xs, x, hq, hx⟩ := hg
    obtain ⟨its, rv, p, hz⟩ := I.tuple hq
    obtain ⟨u, hu, ru⟩ := rv.get hx
    have pT : s.heap.IsTuple a its.toArray := p
    have hel : e < s.heap.objs.size := Heap.lt_size he
    have hil : it < s.heap.objs.size := by obtain ⟨_, q, _⟩ := hit; exact Heap.lt_size q
    have ai : a ≠ it := fun z => by
      obtain ⟨o1, h1, h2, _⟩ := pT
      obtain ⟨o2, h3, h4, _⟩ := hit
      rw [z, h3] at h1
      cases h1
      rw [h4] at h2
      exact absurd (Value.type.inj h2) (by decide)
    have ae : a ≠ e := fun z => by
      obtain ⟨o1, h1, h2, _⟩ := pT
      have he2 : s.heap.get? e = _ := he
      rw [z, he2] at h1
      cases h1
      exact absurd (Value.type.inj h2) (by decide)
    have hd : X.A.in1.handled = none := I.ok.hd hc
    have D := Draws.tuple (prog := X.prog) (w := X.w) (A := X.A.in1) hd it a ai its.toArray
    have hlt : i < its.toArray.size := by
      have := (List.getElem?_eq_some_iff.mp hu).1
      simpa using this
    refine wpAny_pyNext_enum_itemD D he ⟨hit, pT⟩ hlt hne (fun z => by
      have e' : e = it ∨ e = a := by simpa using z
      rcases e' with z | z
      · exact hne z
      · exact ae z.symm) fun x' h' tk hx' ho hst' hT hsz hk => ?_
    have ex : x' = u := by
      have h2 : its[i]? = some x' := by simpa using hx'
      rw [hu] at h2
      exact (Option.some.inj h2).symm
    subst ex
    refine ⟨_, rfl, wpAny_letOwnedTupleGo_enum (s := { s with heap := h', toks := tk + 1 }) ho fun h'' he' sb => ?_⟩
    have hT2 : h''.get? s.heap.objs.size = some { cls := .type "tuple", data := .seq #[.int i tk, x'] } := (sb.2 _ (Nat.ne_of_gt hel)).trans hT
    have new : ObjOk X.prog X.w (upd H s.heap.objs.size (.tup [.int (i : Nat), x])) h'' s.heap.objs.size (.tup [.int (i : Nat), x]) :=
      ⟨by show 2 ≤ sizeLine; decide, [.int i tk, x'], .cons ⟨_, rfl⟩ (.cons ru .nil), ⟨_, hT2, rfl, _, rfl⟩⟩
    have I1 : Inv X pins σ (upd H s.heap.objs.size (.tup [.int (i : Nat), x])) { s with heap := h'', toks := tk + 1 } :=
      I.turnedNew (ch := [e, it]) (fun b ob hb q => (sb.2 b (fun z => hb (by simp [z]))).trans (hk b ob (fun z => hb (by simp [z])) (fun z => hb (by simp [z])) q)) hf (Nat.le_refl _) new
    refine ⟨.ref s.heap.objs.size, _, I1, rfl, ⟨_, x, rfl, I.hok.fresh (Nat.le_refl _), rfl, fun ys hy => by rw [I.tuple_inj hy hq]; exact hx⟩, ⟨⟨x', ?_⟩, hst'.1.at fun o q => (sb.2 it (Ne.symm hne)).trans q, hne⟩, fun b hb => ?_⟩
    · have e1 : ((i + 1 : Nat) : Int) = (i : Int) + 1 := by omega
      rw [e1]; exact he'
    · have hb' : b < s.heap.objs.size := by
        have e' : b = e ∨ b = it := by simpa using hb
        rcases e' with z | z
        · rw [z]; exact hel
        · rw [z]; exact hil
      rw [upd_ne (Nat.ne_of_lt hb')]
      exact (hf b hb).1
  done := by
    intro X hP hw hK hc i pins s σ H E I hf st hg
    subst hP hw hK
    obtain ⟨⟨old, he⟩, hit, hne⟩ := st
    obtain ⟨xs, hq, hx⟩ := hg
    obtain ⟨its, rv, p, hz⟩ := I.tuple hq
    have pT : s.heap.IsTuple a its.toArray := p
    have ai : a ≠ it := fun z => by
      obtain ⟨o1, h1, h2, _⟩ := pT
      obtain ⟨o2, h3, h4, _⟩ := hit
      rw [z, h3] at h1
      cases h1
      rw [h4] at h2
      exact absurd (Value.type.inj h2) (by decide)
    obtain ⟨f0, f1, f2, f3, f4, f5⟩ := hf it (by simp)
    have hl := rv.length
    have hd : X.A.in1.handled = none := I.ok.hd hc
    have D := Draws.tuple (prog := X.prog) (w := X.w) (A := X.A.in1) hd it a ai its.toArray
    have en : i = its.toArray.size := by simp; omega
    refine wpAny_pyNext_enum_endD D he ⟨by rw [← en]; exact hit, pT⟩ fun h' eb => ⟨rfl, I.turned (t' := s.toks) (fun b o hb q => eb b o hb q) f0 f1 f3 f4 f5⟩
  self := fun A i s Q E st h => let ⟨⟨_, he⟩, _⟩ := st; wpAny_pyIter_enum he h
def iEnumT (K : PySem.W.Frag) (ta : TA) : TI := fun σ H R => ta σ H fun vs H1 => ∃ a xs, vs = [.ref a] ∧ SqT K H1 a xs ∧ R (IteT K a) H1
theorem pi_enumA {X : Cx} {e : Expr} {ta : TA} {p pos tpos : Pos} {elts : List Expr} {kk : Nat} (hg : Gl X "enumerate") (hm : X.mg "enumerate" = none) (ha : PA X [e] ta) (hs : starEach [e] X.env = [(false, eval e X.env)] := by rfl) :
    PI X (.Tuple elts kk tpos) (.Call (.Name "enumerate" p) [e] [] pos) (iEnumT X.K ta) := by
  refine ⟨fun pins s σ H R I h => ?_⟩
  refine Call_ (ld_blt I hg hm boot_enumerate (PyProof.Rows.callWith_type1 (thn (ha.run pos pins s σ H _ I h) fun us s1 ⟨vs, H1, I1, r1, q1⟩ => ?_) hs rfl))
  obtain ⟨a, xs, ex, hq, q⟩ := q1
  subst ex
  cases r1 with
  | cons r rr =>
    cases rr
    cases r
    obtain ⟨its, rv, p', hz⟩ := I1.tuple hq
    have pT : s1.heap.IsTuple a its.toArray := p'
    refine call_enumT (begins_tuple a its.toArray) pT fun h' he hit hsz hk => wpAny_pyIter_enum he ?_
    have I2 : Inv X pins σ H1 { s1 with heap := h' } := I1.kept (t' := s1.toks) hk
    refine ⟨s1.heap.objs.size + 1, [s1.heap.objs.size + 1, s1.heap.objs.size], _, _, H1, rfl, I2, turn_enumT a (s1.heap.objs.size + 1) s1.heap.objs.size, ⟨⟨.none, he⟩, ⟨_, hit, rfl, rfl⟩, Nat.succ_ne_self _⟩, fun b hb => ?_, q⟩
    have e' : b = s1.heap.objs.size + 1 ∨ b = s1.heap.objs.size := by simpa using hb
    have hle : s1.heap.objs.size ≤ b := by
      rcases e' with z | z
      · rw [z]; exact Nat.le_add_right _ _
      · rw [z]; exact Nat.le_refl _
    exact I1.fpOk hle (I1.hok.fresh hle)
theorem walk_enumT {K : PySem.W.Frag} {a : Addr} {xs : List V} : Walk (IteT K a) xs.length (fun H => SqT K H a xs) (YPair (fun i => some (.int (i : Nat))) (fun i => xs[i]?)) := by
  refine ⟨fun i _ hi q => ⟨xs, xs[i], q, by simp [hi]⟩, fun _ q => ⟨xs, q, rfl⟩, fun i H v H' _ q y => ?_⟩
  obtain ⟨T, x, h1, h2, h3, h4⟩ := y
  exact ⟨T, .int (i : Nat), x, h1, h2, h3, rfl, h4 xs q⟩
theorem enumD_get {ds : List Dt} {i : Nat} {d : Dt} (h : ds[i]? = some d) : (enumD ds)[i]? = some (.tuple [.int (i : Nat), d]) := by
  unfold enumD
  rw [List.getElem?_mapIdx, h] <;> rfl
theorem ei_enum {C : Cxt} {ρ : AEnv} {t : TA} {k : List Dt → Prop} (h : ED C true t ρ fun xs => ∃ as, xs = [.tuple as] ∧ k (enumD as)) : EI C (iEnumT C.K t) ρ k := fun H0 σ H R r q =>
  h H0 σ H _ r fun vs xs H1 ⟨as, e, hk⟩ e1 c1 hv => by
    have hM := moL_to r e1 c1
    subst e
    obtain ⟨v, rfl, g⟩ := one1 hv
    cases g with
    | tup s1 a1 =>
      refine ⟨_, _, rfl, s1, q _ _ H1 hk e1 c1 ⟨_, _, _, walk_enumT, by unfold enumD; rw [List.length_mapIdx, a1.length], fun H' e => e.sqT hM s1, ?_⟩⟩
      intro i H' x H'' hi e y'
      obtain ⟨T, x1, x2, h1, h2, h3, h4, h5⟩ := y'
      obtain ⟨d2, g3, g4⟩ := a1.mx.getV h5
      cases h4
      subst h1
      obtain ⟨z1, z2⟩ := pair_new (C := C) h2 h3 (.int (i : Nat)) (g4.mxM hM e)
      exact ⟨z1, _, enumD_get g3, z2⟩
end Pl

set_option Elab.async false
set_option linter.all false
set_option maxRecDepth 100000
set_option maxHeartbeats 4000000
namespace K67
open PySem PySem.Spec PyProof.Rows L2 Pl RZ
/-! ### what each def is to answer -/
def isWhole (d : Dt) (lo hi : Int) : Bool := match d with
  | .int i => decide (lo ≤ i) && decide (i ≤ hi)
  | _ => false
def isTupleOf (d : Dt) (lo hi : Int) : Bool := match d with
  | .tuple xs => decide (lo ≤ ((xs.length : Nat) : Int)) && decide (((xs.length : Nat) : Int) ≤ hi)
  | _ => false
def ans : Option Int → Dt
  | none => .none
  | some n => .int n
def anss (os : List (Option Int)) : Dt := .tuple (os.map ans)
def okAns (d : Dt) : Bool := isNone d || isWhole d 0 1000000
def fits (d : Dt) : Bool := isTupleOf d 0 2000 && (match d with
  | .tuple xs => xs.all okAns
  | _ => false)
def Good (os : List (Option Int)) : Prop := os.length ≤ 2000 ∧ ∀ x : Int, some x ∈ os → 0 ≤ x ∧ x ≤ 1000000
def miss (o : Option Int) (w : Int) : Bool := match o with
  | none => true
  | some x => decide (w < x)
def missedN (os : List (Option Int)) (w : Int) : Int := (((os.filter fun o => miss o w).length : Nat) : Int)
def head : List Int → Dt
  | [] => .none
  | x :: _ => .int x
def Waits (os : List (Option Int)) (ms : List Int) : Prop := ms.Pairwise (· < ·) ∧ ∀ z : Int, z ∈ ms ↔ z = 0 ∨ some z ∈ os
def leastIn (ms : List Int) (none misses : Int) : Dt := if misses < none then .none else if misses - none < ((ms.length : Nat) : Int) then (match ms[(((ms.length : Nat) : Int) - 1 - (misses - none)).toNat]? with | some v => .int v | _ => .none) else .int 0
/-- the least wait by which no more are missed -/
def Least (os : List (Option Int)) (misses : Int) (d : Dt) : Prop := (d = .none ∧ ∀ w : Int, 0 ≤ w → misses < missedN os w) ∨ ∃ v : Int, d = .int v ∧ (v = 0 ∨ some v ∈ os) ∧ missedN os v ≤ misses ∧ ∀ w : Int, 0 ≤ w → w < v → misses < missedN os w
def big (o : Option Int) (bound : Int) : Bool := match o with
  | none => true
  | some x => decide (bound ≤ x)
def rowsFrom (bound : Int) : Int → List (Option Int) → List Int
  | _, [] => []
  | n, o :: os => if big o bound = true then n :: rowsFrom bound (n + 1) os else rowsFrom bound (n + 1) os
def rowsOf (os : List (Option Int)) (bound : Int) : List Int := rowsFrom bound 0 os
def paperOf (os : List (Option Int)) (misses bound : Int) : Dt := if misses < (((rowsOf os bound).length : Nat) : Int) then .tuple (((rowsOf os bound).take (misses + 1).toNat).map .int) else .none
def okAt (os : List (Option Int)) (bound i : Int) : Bool := match os[i.toNat]? with
  | some o => big o bound
  | none => false
def rising (ns : List Int) : Bool := (List.zipWith (fun a b => decide (a < b)) ns (ns.drop 1)).all id
def intOf : Dt → Option Int
  | .int i => some i
  | _ => none
def isPaper (os : List (Option Int)) (misses bound : Int) (d : Dt) : Bool := isTupleOf d (misses + 1) (misses + 1) && (match d with
  | .tuple xs => xs.all (fun x => isWhole x 0 (((os.length : Nat) : Int) - 1)) && (rising (xs.filterMap intOf) && (xs.filterMap intOf).all (okAt os bound))
  | _ => false)
def I (n : Int) : Pl.Arg := .dat (.int n)
def R_is_whole : ASpec := fun as k => ∃ d lo hi, as = [.dat d, I lo, I hi] ∧ k (.bool (isWhole d lo hi))
def R_is_tuple_of : ASpec := fun as k => ∃ d lo hi, as = [.dat d, I lo, I hi] ∧ k (.bool (isTupleOf d lo hi))
def R_is_rising : ASpec := fun as k => ∃ ns : List Int, as = [.dat (.tuple (ns.map .int))] ∧ ns.length ≤ 100000 ∧ k (.bool (rising ns))
def R_fits_answers : ASpec := fun as k => ∃ d, as = [.dat d] ∧ k (.bool (fits d))
def R_are_answers : ASpec := fun as k => ∃ d, as = [.dat d] ∧ k (.bool (fits d))
def R_need_answers : ASpec := fun as k => ∃ os, Good os ∧ as = [.dat (anss os)] ∧ k .none
def R_need_number : ASpec := fun as k => ∃ n lo hi, lo ≤ n ∧ n ≤ hi ∧ as = [I n, I lo, I hi] ∧ k .none
def R_is_miss : ASpec := fun as k => ∃ o w, as = [.dat (ans o), I w] ∧ k (.bool (miss o w))
def R_least_in : ASpec := fun as k => ∃ (ms : List Int) (n m : Int), as = [.dat (.list (ms.map .int)), I n, I m] ∧ k (leastIn ms n m)
def R_missed : ASpec := fun as k => ∃ os w, Good os ∧ 0 ≤ w ∧ w ≤ 1000000 ∧ as = [.dat (anss os), I w] ∧ k (.int (missedN os w))
def R_least_wait : ASpec := fun as k => ∃ os m, Good os ∧ 0 ≤ m ∧ m ≤ 2000 ∧ as = [.dat (anss os), I m] ∧ ∀ d, Least os m d → k d
def R_wait_paper : ASpec := fun as k => ∃ os m b, Good os ∧ 0 ≤ m ∧ m ≤ 2000 ∧ 0 ≤ b ∧ b ≤ 1000001 ∧ as = [.dat (anss os), I m, I b] ∧ k (paperOf os m b)
def R_is_wait_paper : ASpec := fun as k => ∃ os m b d, Good os ∧ 0 ≤ m ∧ m ≤ 2000 ∧ 0 ≤ b ∧ b ≤ 1000001 ∧ as = [.dat (anss os), I m, I b, .dat d] ∧ k (.bool (isPaper os m b d))
def R__law_roll : ASpec := fun as k => ∃ many, as = [.cup, I many] ∧ 1 ≤ many ∧ many ≤ 1000000 ∧ ∀ r, 0 ≤ r → r < many → k (.int r)
def R__law_some : ASpec := fun as k => ∃ ds : List Dt, as = [.cup, .dat (.list ds)] ∧ ds ≠ [] ∧ ds.length ≤ 1000 ∧ nlAll ds = true ∧ ∀ d, d ∈ ds → k d
def R__law_answers : ASpec := fun as k => ∃ many : Int, as = [.cup, I many] ∧ 0 ≤ many ∧ many ≤ 1000 ∧ ∀ os : List (Option Int), ((os.length : Nat) : Int) ≤ many → (∀ x : Int, some x ∈ os → 0 ≤ x ∧ x < 1000) → k (anss os)
def R__law_missed : ASpec := fun as k => ∃ os w, os.length ≤ 2000 ∧ as = [.dat (anss os), I w] ∧ k (.int (missedN os w))
def R__law_least : ASpec := fun as k => ∃ os m, Good os ∧ os.length ≤ 60 ∧ as = [.dat (anss os), I m] ∧ ∀ d, Least os m d → k d
def R__law_is_paper : ASpec := fun as k => ∃ (os : List (Option Int)) (m b : Int) (ns : List Int), os.length ≤ 2000 ∧ ns.length ≤ 2000 ∧ (∀ x, x ∈ ns → 0 ≤ x ∧ x < ((os.length : Nat) : Int)) ∧ as = [.dat (anss os), I m, I b, .dat (.tuple (ns.map .int))] ∧ k (.bool (isPaper os m b (.tuple (ns.map .int))))
def atom : Dt → Bool
  | .int _ => true
  | .none => true
  | .bool _ => true
  | _ => false
def plainD : Nat → Dt → Prop
  | 0, d => atom d = true
  | n + 1, d => atom d = true ∨ ∃ xs, d = .tuple xs ∧ xs.length ≤ 100000 ∧ ∀ x, x ∈ xs → plainD n x
def RSame (n : Nat) : ASpec := fun as k => ∃ d, as = [.dat d, .dat d] ∧ plainD n d ∧ k (.bool true)
def spSame (K : PySem.W.Frag) : Nat → Sp
  | 0 => fun _ _ _ _ => False
  | n + 1 => spA K 2 (RSame n)
def R__law_right : ASpec := fun as k => ∃ many : Int, as = [.cup, I many] ∧ 0 ≤ many ∧ many ≤ 40 ∧ k (.bool true)
/-- the cup: made of a script -/
def spCup (K : PySem.W.Frag) : Sp := fun vs H Q _ => ∃ (a : Addr) (ns : List Int), vs = [.ref a] ∧ SqL K H a (ns.map .int) ∧ ns.length ≤ 63 ∧ ∀ (c : Addr) (x y : Int) (H' : Hp), H c = none → 0 ≤ x → 0 ≤ y → y < 2147483648 → H' c = some (.lst [.int x, .int y]) → (∀ b o, H b = some o → H' b = some o) → Q (.ref c) H'

def top (i : Nat) : Stmt := PySem.Challenge.pw_membersheld_k67_whole_least_waits.main.body.getD i (.Pass ⟨0, 0, 0, 0⟩)
abbrev s_is_whole : Stmt := top 5
theorem sc_is_whole : FnScope ["value", "low", "high"] ["value", "low", "high"] (defScope s_is_whole) := ⟨rfl, rfl, rfl, by decide +kernel, rfl, by decide +kernel, by decide +kernel⟩
abbrev s_is_tuple_of : Stmt := top 6
theorem sc_is_tuple_of : FnScope ["value", "low", "high"] ["value", "low", "high"] (defScope s_is_tuple_of) := ⟨rfl, rfl, rfl, by decide +kernel, rfl, by decide +kernel, by decide +kernel⟩
abbrev s_is_rising : Stmt := top 7
theorem sc_is_rising : FnScope ["value", "one", "other"] ["value"] (defScope s_is_rising) := ⟨rfl, rfl, rfl, by decide +kernel, rfl, by decide +kernel, by decide +kernel⟩
abbrev s_fits_answers : Stmt := top 11
theorem sc_fits_answers : FnScope ["value", "one"] ["value"] (defScope s_fits_answers) := ⟨rfl, rfl, rfl, by decide +kernel, rfl, by decide +kernel, by decide +kernel⟩
abbrev s_need_answers : Stmt := top 12
theorem sc_need_answers : FnScope ["answers"] ["answers"] (defScope s_need_answers) := ⟨rfl, rfl, rfl, by decide +kernel, rfl, by decide +kernel, by decide +kernel⟩
abbrev s_need_number : Stmt := top 13
theorem sc_need_number : FnScope ["number", "low", "high"] ["number", "low", "high"] (defScope s_need_number) := ⟨rfl, rfl, rfl, by decide +kernel, rfl, by decide +kernel, by decide +kernel⟩
abbrev s_is_miss : Stmt := top 14
theorem sc_is_miss : FnScope ["answer", "wait"] ["answer", "wait"] (defScope s_is_miss) := ⟨rfl, rfl, rfl, by decide +kernel, rfl, by decide +kernel, by decide +kernel⟩
abbrev s_least_in : Stmt := top 15
theorem sc_least_in : FnScope ["told", "none", "misses", "spare"] ["told", "none", "misses"] (defScope s_least_in) := ⟨rfl, rfl, rfl, by decide +kernel, rfl, by decide +kernel, by decide +kernel⟩
abbrev s_are_answers : Stmt := top 16
theorem sc_are_answers : FnScope ["value"] ["value"] (defScope s_are_answers) := ⟨rfl, rfl, rfl, by decide +kernel, rfl, by decide +kernel, by decide +kernel⟩
abbrev s_missed : Stmt := top 17
theorem sc_missed : FnScope ["answers", "wait", "own"] ["answers", "wait"] (defScope s_missed) := ⟨rfl, rfl, rfl, by decide +kernel, rfl, by decide +kernel, by decide +kernel⟩
abbrev s_least_wait : Stmt := top 18
theorem sc_least_wait : FnScope ["answers", "misses", "told", "own"] ["answers", "misses"] (defScope s_least_wait) := ⟨rfl, rfl, rfl, by decide +kernel, rfl, by decide +kernel, by decide +kernel⟩
abbrev s_wait_paper : Stmt := top 19
theorem sc_wait_paper : FnScope ["answers", "misses", "bound", "rows", "at", "own"] ["answers", "misses", "bound"] (defScope s_wait_paper) := ⟨rfl, rfl, rfl, by decide +kernel, rfl, by decide +kernel, by decide +kernel⟩
abbrev s_is_wait_paper : Stmt := top 20
theorem sc_is_wait_paper : FnScope ["answers", "misses", "bound", "value", "at"] ["answers", "misses", "bound", "value"] (defScope s_is_wait_paper) := ⟨rfl, rfl, rfl, by decide +kernel, rfl, by decide +kernel, by decide +kernel⟩
abbrev s__law_roll : Stmt := top 23
theorem sc__law_roll : FnScope ["cup", "many", "found", "deep"] ["cup", "many"] (defScope s__law_roll) := ⟨rfl, rfl, rfl, by decide +kernel, rfl, by decide +kernel, by decide +kernel⟩
abbrev s__law_some : Stmt := top 25
theorem sc__law_some : FnScope ["cup", "things"] ["cup", "things"] (defScope s__law_some) := ⟨rfl, rfl, rfl, by decide +kernel, rfl, by decide +kernel, by decide +kernel⟩
abbrev s__law_answers : Stmt := top 26
theorem sc__law_answers : FnScope ["cup", "many", "most", "turn"] ["cup", "many"] (defScope s__law_answers) := ⟨rfl, rfl, rfl, by decide +kernel, rfl, by decide +kernel, by decide +kernel⟩
abbrev s__law_missed : Stmt := top 27
theorem sc__law_missed : FnScope ["answers", "wait", "own"] ["answers", "wait"] (defScope s__law_missed) := ⟨rfl, rfl, rfl, by decide +kernel, rfl, by decide +kernel, by decide +kernel⟩
abbrev s__law_least : Stmt := top 28
theorem sc__law_least : FnScope ["answers", "misses", "good", "wait", "own"] ["answers", "misses"] (defScope s__law_least) := ⟨rfl, rfl, rfl, by decide +kernel, rfl, by decide +kernel, by decide +kernel⟩
abbrev s__law_is_paper : Stmt := top 29
theorem sc__law_is_paper : FnScope ["answers", "misses", "bound", "value", "at"] ["answers", "misses", "bound", "value"] (defScope s__law_is_paper) := ⟨rfl, rfl, rfl, by decide +kernel, rfl, by decide +kernel, by decide +kernel⟩
abbrev s__law_same : Stmt := top 24
theorem sc__law_same : FnScope ["told", "due", "at"] ["told", "due"] (defScope s__law_same) := ⟨rfl, rfl, rfl, by decide +kernel, rfl, by decide +kernel, by decide +kernel⟩
abbrev s__law_right : Stmt := top 30
theorem sc__law_right : FnScope ["cup", "many", "answers", "wait", "misses", "least", "told", "base", "bound", "paper", "rows", "is_so", "some", "values", "value", "odds", "at", "lower", "step", "odd"] ["cup", "many"] (defScope s__law_right) := ⟨rfl, rfl, rfl, by decide +kernel, rfl, by decide +kernel, by decide +kernel⟩
abbrev s__law_cup : Stmt := top 22
theorem sc__law_cup : FnScope ["script", "cell"] ["script"] (defScope s__law_cup) := ⟨rfl, rfl, rfl, by decide +kernel, rfl, by decide +kernel, by decide +kernel⟩
abbrev s_law : Stmt := top 31
theorem sc_law : FnScope ["script", "cup", "many", "odds", "odd"] ["script"] (defScope s_law) := ⟨rfl, rfl, rfl, by decide +kernel, rfl, by decide +kernel, by decide +kernel⟩
structure Txt (mg : Str → Option Value) : Prop where
  b_abs : mg "abs" = none
  b_all : mg "all" = none
  b_bool : mg "bool" = none
  b_enumerate : mg "enumerate" = none
  b_int : mg "int" = none
  b_isinstance : mg "isinstance" = none
  b_len : mg "len" = none
  b_list : mg "list" = none
  b_max : mg "max" = none
  b_min : mg "min" = none
  b_range : mg "range" = none
  b_set : mg "set" = none
  b_sorted : mg "sorted" = none
  b_str : mg "str" = none
  b_tuple : mg "tuple" = none
  b_zip : mg "zip" = none
  g_ANSWERS : ∃ u, mg "ANSWERS" = some u ∧ RelV (.int 2000) u
  g_TICKS : ∃ u, mg "TICKS" = some u ∧ RelV (.int 1000000) u
/-! is_whole -/
def t_is_whole (K : PySem.W.Frag) (w : World) : TS :=
  tRet (tAndV (tCB (rIsi K) (tCons (tVar 0) (tCons (tC (.ty "int")) tNil))) (tAndV (tNotV (tCB (rIsi K) (tCons (tVar 0) (tCons (tC (.ty "bool")) tNil)))) (tChain (rLeq) (rLeq) (tVar 1) (tVar 0) (tVar 2))))
theorem w_is_whole {P : Program} {w : World} {K : PySem.W.Frag} {mg : Str → Option Value} {base : Heap} (T : Txt mg) {f : Addr} {cdv : Value} {A : Around} {outer : List Env} {s : Shared} {H : Hp} {E : XK} (hr : Room 0 (A.deeper (envOfC "is_whole" (defScope s_is_whole) s.heap.objs.size f cdv))) :
    PSs (cxOf CX0 P w K mg base ["value", "low", "high"] "is_whole" (defScope s_is_whole) f cdv A outer s H E).nox (defBody s_is_whole) (t_is_whole K w) :=
  pss_one (ps_ret (pe_and (pe_callB call_isi (by rfl) T.b_isinstance (by decide +kernel) (pa_cons (pv 0) (pa_cons (pe_bltn (v := .ty "int") (by rfl) T.b_int (by decide +kernel) rfl) pa_nil))) (pe_and (pe_not (pe_callB call_isi (by rfl) T.b_isinstance (by decide +kernel) (pa_cons (pv 0) (pa_cons (pe_bltn (v := .ty "bool") (by rfl) T.b_bool (by decide +kernel) rfl) pa_nil)))) (pe_one (pe_chain (o_leq) (o_leq) (pv 1) (pv 0) (pv 2))))))
/-! is_tuple_of -/
def t_is_tuple_of (K : PySem.W.Frag) (w : World) : TS :=
  tRet (tAndV (tCB (rIsi K) (tCons (tVar 0) (tCons (tC (.ty "tuple")) tNil))) (tChain (rLeq) (rLeq) (tVar 1) (tCB (cLen K) (tCons (tVar 0) (tNil))) (tVar 2)))
theorem w_is_tuple_of {P : Program} {w : World} {K : PySem.W.Frag} {mg : Str → Option Value} {base : Heap} (T : Txt mg) {f : Addr} {cdv : Value} {A : Around} {outer : List Env} {s : Shared} {H : Hp} {E : XK} (hr : Room 0 (A.deeper (envOfC "is_tuple_of" (defScope s_is_tuple_of) s.heap.objs.size f cdv))) :
    PSs (cxOf CX0 P w K mg base ["value", "low", "high"] "is_tuple_of" (defScope s_is_tuple_of) f cdv A outer s H E).nox (defBody s_is_tuple_of) (t_is_tuple_of K w) :=
  pss_one (ps_ret (pe_and (pe_callB call_isi (by rfl) T.b_isinstance (by decide +kernel) (pa_cons (pv 0) (pa_cons (pe_bltn (v := .ty "tuple") (by rfl) T.b_tuple (by decide +kernel) rfl) pa_nil))) (pe_one (pe_chain (o_leq) (o_leq) (pv 1) (pe_callB (c_len) (by rfl) T.b_len (by decide +kernel) (pa_cons (pv 0) (pa_nil))) (pv 2)))))
/-! is_rising -/
def t_is_rising (K : PySem.W.Frag) (w : World) : TS :=
  tRet (tCB (rAll K) (tCons (tLc (iZipA K (tCons (tVar 0) (tCons (tSl (rSlc K) (tVar 0) (tPart (tC (.int 1))) (tNoPart)) (tNil)))) (gTup K 2 (gCons (gName 1) (gCons (gName 2) (gNil)))) (tYes) (tOp (rLss K) (tVar 1) (tVar 2)) [1, 2]) (tNil)))
theorem w_is_rising {P : Program} {w : World} {K : PySem.W.Frag} {mg : Str → Option Value} {base : Heap} (T : Txt mg) {f : Addr} {cdv : Value} {A : Around} {outer : List Env} {s : Shared} {H : Hp} {E : XK} (hr : Room 0 (A.deeper (envOfC "is_rising" (defScope s_is_rising) s.heap.objs.size f cdv))) :
    PSs (cxOf CX0 P w K mg base ["value", "one", "other"] "is_rising" (defScope s_is_rising) f cdv A outer s H E).nox (defBody s_is_rising) (t_is_rising K w) :=
  pss_one (ps_ret (pe_callB (cr_all rfl) (by rfl) T.b_all (by decide +kernel) (pa_cons (pe_lc (own := [("one", 1), ("other", 2)]) rfl sc_is_rising.nd (pi_zipA rfl T.b_zip (pa_cons (pv 0) (pa_cons (pe_slice s_slc (pv 0) (po_some (pe_int)) (po_none)) (pa_nil)))) (blkOk_by (N := ["value", "one", "other"]) (sc := defScope s_is_rising) (by decide +kernel)) (fun _ _ _ _ _ => pg_tup rfl (pgs_cons (pg_name (i := 1) sc_is_rising.nd rfl (Or.inl rfl)) (pgs_cons (pg_name (i := 2) sc_is_rising.nd rfl (Or.inl rfl)) (pgs_nil)))) (fun _ _ _ _ _ => pts_nil) (fun _ _ _ _ _ => pe_cmpR (o_lss hr.units0) (pv 1) (pv 2) (nomark _))) (pa_nil))))
/-! fits_answers -/
def t_fits_answers (K : PySem.W.Frag) (w : World) : TS :=
  tRet (tAndV (tCall (spA K 3 R_is_tuple_of) [] E0 (tCons (tVar 0) (tCons (tC (.int 0)) (tCons (tC (.int 2000)) (tNil))))) (tCB (rAll K) (tCons (tLc (iSeq K (tVar 0)) (gName 1) (tYes) (tOrV (tOp (rIsW) (tVar 1) (tC .non)) (tCall (spA K 3 R_is_whole) [] E0 (tCons (tVar 1) (tCons (tC (.int 0)) (tCons (tC (.int 1000000)) (tNil)))))) [1]) (tNil))))
theorem w_fits_answers {P : Program} {w : World} {K : PySem.W.Frag} {mg : Str → Option Value} {base : Heap} (T : Txt mg) (c_is_tuple_of : Cl P w K mg base 1 "is_tuple_of" (spA K 3 R_is_tuple_of)) (c_is_whole : Cl P w K mg base 1 "is_whole" (spA K 3 R_is_whole)) {f : Addr} {cdv : Value} {A : Around} {outer : List Env} {s : Shared} {H : Hp} {E : XK} (hr : Room 1 (A.deeper (envOfC "fits_answers" (defScope s_fits_answers) s.heap.objs.size f cdv))) :
    PSs (cxOf CX0 P w K mg base ["value", "one"] "fits_answers" (defScope s_fits_answers) f cdv A outer s H E).nox (defBody s_fits_answers) (t_fits_answers K w) :=
  pss_one (ps_ret (pe_and (pe_cl c_is_tuple_of hr (by decide) rfl (pa_cons (pv 0) (pa_cons (pe_int) (pa_cons (pe_gk rfl T.g_ANSWERS) (pa_nil))))) (pe_one (pe_callB (cr_all rfl) (by rfl) T.b_all (by decide +kernel) (pa_cons (pe_lc (own := [("one", 1)]) rfl sc_fits_answers.nd (pi_seq (pv 0)) (blkOk_by (N := ["value", "one"]) (sc := defScope s_fits_answers) (by decide +kernel)) (fun _ _ _ _ _ => pg_name (i := 1) sc_fits_answers.nd rfl (Or.inl rfl)) (fun _ _ _ _ _ => pts_nil) (fun _ _ _ _ _ => pe_or (pe_cmpR (o_is) (pv 1) (pe_non) (nomark _)) (pe_one (pe_cl c_is_whole hr (by decide) rfl (pa_cons (pv 1) (pa_cons (pe_int) (pa_cons (pe_gk rfl T.g_TICKS) (pa_nil)))))))) (pa_nil))))))
/-! need_answers -/
def t_need_answers (K : PySem.W.Frag) (w : World) : TS :=
  tIfS (tNot (tB (tCall (spA K 1 R_fits_answers) [] E0 (tCons (tVar 0) (tNil))))) (tNever) (tNext)
theorem w_need_answers {P : Program} {w : World} {K : PySem.W.Frag} {mg : Str → Option Value} {base : Heap} (T : Txt mg) (c_fits_answers : Cl P w K mg base 2 "fits_answers" (spA K 1 R_fits_answers)) {f : Addr} {cdv : Value} {A : Around} {outer : List Env} {s : Shared} {H : Hp} {E : XK} (hr : Room 2 (A.deeper (envOfC "need_answers" (defScope s_need_answers) s.heap.objs.size f cdv))) :
    PSs (cxOf CX0 P w K mg base ["answers"] "need_answers" (defScope s_need_answers) f cdv A outer s H E).nox (defBody s_need_answers) (t_need_answers K w) :=
  pss_one (ps_if (pt_not (pt_val (pe_cl c_fits_answers hr (by decide) rfl (pa_cons (pv 0) (pa_nil))))) (pss_never) (pss_nil))
/-! need_number -/
def t_need_number (K : PySem.W.Frag) (w : World) : TS :=
  tIfS (tNot (tB (tCall (spA K 3 R_is_whole) [] E0 (tCons (tVar 0) (tCons (tVar 1) (tCons (tVar 2) (tNil))))))) (tNever) (tNext)
theorem w_need_number {P : Program} {w : World} {K : PySem.W.Frag} {mg : Str → Option Value} {base : Heap} (T : Txt mg) (c_is_whole : Cl P w K mg base 1 "is_whole" (spA K 3 R_is_whole)) {f : Addr} {cdv : Value} {A : Around} {outer : List Env} {s : Shared} {H : Hp} {E : XK} (hr : Room 1 (A.deeper (envOfC "need_number" (defScope s_need_number) s.heap.objs.size f cdv))) :
    PSs (cxOf CX0 P w K mg base ["number", "low", "high"] "need_number" (defScope s_need_number) f cdv A outer s H E).nox (defBody s_need_number) (t_need_number K w) :=
  pss_one (ps_if (pt_not (pt_val (pe_cl c_is_whole hr (by decide) rfl (pa_cons (pv 0) (pa_cons (pv 1) (pa_cons (pv 2) (pa_nil))))))) (pss_never) (pss_nil))
/-! is_miss -/
def t_is_miss (K : PySem.W.Frag) (w : World) : TS :=
  tRet (tOrV (tOp (rIsW) (tVar 0) (tC .non)) (tOp (rGrt) (tVar 0) (tVar 1)))
theorem w_is_miss {P : Program} {w : World} {K : PySem.W.Frag} {mg : Str → Option Value} {base : Heap} (T : Txt mg) {f : Addr} {cdv : Value} {A : Around} {outer : List Env} {s : Shared} {H : Hp} {E : XK} (hr : Room 0 (A.deeper (envOfC "is_miss" (defScope s_is_miss) s.heap.objs.size f cdv))) :
    PSs (cxOf CX0 P w K mg base ["answer", "wait"] "is_miss" (defScope s_is_miss) f cdv A outer s H E).nox (defBody s_is_miss) (t_is_miss K w) :=
  pss_one (ps_ret (pe_or (pe_cmpR (o_is) (pv 0) (pe_non) (nomark _)) (pe_one (pe_cmpR (o_grt) (pv 0) (pv 1) (nomark _)))))
/-! least_in -/
def t_least_in (K : PySem.W.Frag) (w : World) : TS :=
  tSeq (tIfS (tTest (tOp (rGrt) (tVar 1) (tVar 2))) (tRet (tC .non)) (tNext))
    (tSeq (tAsg (tOp (rMinus) (tVar 2) (tVar 1)) (gName 3))
    (tRet (tIf (tTest (tOp (rLss K) (tVar 3) (tCB (cLen K) (tCons (tVar 0) (tNil))))) (tOp (rIx K) (tVar 0) (tOp (rMinus) (tOp (rMinus) (tCB (cLen K) (tCons (tVar 0) (tNil))) (tC (.int 1))) (tVar 3))) (tC (.int 0)))))
theorem w_least_in {P : Program} {w : World} {K : PySem.W.Frag} {mg : Str → Option Value} {base : Heap} (T : Txt mg) {f : Addr} {cdv : Value} {A : Around} {outer : List Env} {s : Shared} {H : Hp} {E : XK} (hr : Room 0 (A.deeper (envOfC "least_in" (defScope s_least_in) s.heap.objs.size f cdv))) :
    PSs (cxOf CX0 P w K mg base ["told", "none", "misses", "spare"] "least_in" (defScope s_least_in) f cdv A outer s H E).nox (defBody s_least_in) (t_least_in K w) :=
  pss_cons (ps_if (pt_cmpR (o_grt) (pv 1) (pv 2) (nomark _)) (pss_one (ps_ret (pe_non))) (pss_nil))
    (pss_cons (ps_set (i := 3) sc_least_in.nd rfl (Or.inl rfl) (pe_op o_minus (pv 2) (pv 1)))
    (pss_one (ps_ret (pe_ifExp (pt_cmpR (o_lss hr.units0) (pv 3) (pe_callB (c_len) (by rfl) T.b_len (by decide +kernel) (pa_cons (pv 0) (pa_nil))) (nomark _)) (pe_ix ix_seq (pv 0) (pe_op o_minus (pe_op o_minus (pe_callB (c_len) (by rfl) T.b_len (by decide +kernel) (pa_cons (pv 0) (pa_nil))) (pe_int)) (pv 3)) (fun _ _ => rfl)) (pe_int)))))
/-! are_answers -/
def t_are_answers (K : PySem.W.Frag) (w : World) : TS :=
  tRet (tCall (spA K 1 R_fits_answers) [] E0 (tCons (tVar 0) (tNil)))
theorem w_are_answers {P : Program} {w : World} {K : PySem.W.Frag} {mg : Str → Option Value} {base : Heap} (T : Txt mg) (c_fits_answers : Cl P w K mg base 2 "fits_answers" (spA K 1 R_fits_answers)) {f : Addr} {cdv : Value} {A : Around} {outer : List Env} {s : Shared} {H : Hp} {E : XK} (hr : Room 2 (A.deeper (envOfC "are_answers" (defScope s_are_answers) s.heap.objs.size f cdv))) :
    PSs (cxOf CX0 P w K mg base ["value"] "are_answers" (defScope s_are_answers) f cdv A outer s H E).nox (defBody s_are_answers) (t_are_answers K w) :=
  pss_one (ps_ret (pe_cl c_fits_answers hr (by decide) rfl (pa_cons (pv 0) (pa_nil))))
/-! missed -/
def t_missed (K : PySem.W.Frag) (w : World) : TS :=
  tSeq (tDrop (tCall (spA K 1 R_need_answers) [] E0 (tCons (tVar 0) (tNil))))
    (tSeq (tDrop (tCall (spA K 3 R_need_number) [] E0 (tCons (tVar 1) (tCons (tC (.int 0)) (tCons (tC (.int 1000000)) (tNil))))))
    (tRet (tCB (cLen K) (tCons (tLc (iSeq K (tVar 0)) (gName 2) (tB (tCall (spA K 2 R_is_miss) [] E0 (tCons (tVar 2) (tCons (tVar 1) (tNil))))) (tVar 2) [2]) (tNil)))))
theorem w_missed {P : Program} {w : World} {K : PySem.W.Frag} {mg : Str → Option Value} {base : Heap} (T : Txt mg) (c_need_answers : Cl P w K mg base 3 "need_answers" (spA K 1 R_need_answers)) (c_need_number : Cl P w K mg base 2 "need_number" (spA K 3 R_need_number)) (c_is_miss : Cl P w K mg base 1 "is_miss" (spA K 2 R_is_miss)) {f : Addr} {cdv : Value} {A : Around} {outer : List Env} {s : Shared} {H : Hp} {E : XK} (hr : Room 3 (A.deeper (envOfC "missed" (defScope s_missed) s.heap.objs.size f cdv))) :
    PSs (cxOf CX0 P w K mg base ["answers", "wait", "own"] "missed" (defScope s_missed) f cdv A outer s H E).nox (defBody s_missed) (t_missed K w) :=
  pss_cons (ps_expr (pe_cl c_need_answers hr (by decide) rfl (pa_cons (pv 0) (pa_nil))))
    (pss_cons (ps_expr (pe_cl c_need_number hr (by decide) rfl (pa_cons (pv 1) (pa_cons (pe_int) (pa_cons (pe_gk rfl T.g_TICKS) (pa_nil))))))
    (pss_one (ps_ret (pe_callB (c_len) (by rfl) T.b_len (by decide +kernel) (pa_cons (pe_lc (own := [("own", 2)]) rfl sc_missed.nd (pi_seq (pv 0)) (blkOk_by (N := ["answers", "wait", "own"]) (sc := defScope s_missed) (by decide +kernel)) (fun _ _ _ _ _ => pg_name (i := 2) sc_missed.nd rfl (Or.inl rfl)) (fun _ _ _ _ _ => pts_one (pt_val (pe_cl c_is_miss hr (by decide) rfl (pa_cons (pv 2) (pa_cons (pv 1) (pa_nil)))))) (fun _ _ _ _ _ => pv 2)) (pa_nil))))))
/-! least_wait -/
def t_least_wait (K : PySem.W.Frag) (w : World) : TS :=
  tSeq (tDrop (tCall (spA K 1 R_need_answers) [] E0 (tCons (tVar 0) (tNil))))
    (tSeq (tDrop (tCall (spA K 3 R_need_number) [] E0 (tCons (tVar 1) (tCons (tC (.int 0)) (tCons (tC (.int 2000)) (tNil))))))
    (tSeq (tAsg (tCB (rSortedI K) (tCons (tLc (iSeq K (tVar 0)) (gName 3) (tTest (tOp (rIsNW) (tVar 3) (tC .non))) (tVar 3) [3]) (tNil))) (gName 2))
    (tRet (tCall (spA K 3 R_least_in) [] E0 (tCons (tVar 2) (tCons (tOp (rMinus) (tCB (cLen K) (tCons (tVar 0) (tNil))) (tCB (cLen K) (tCons (tVar 2) (tNil)))) (tCons (tVar 1) (tNil))))))))
theorem w_least_wait {P : Program} {w : World} {K : PySem.W.Frag} {mg : Str → Option Value} {base : Heap} (T : Txt mg) (c_need_answers : Cl P w K mg base 3 "need_answers" (spA K 1 R_need_answers)) (c_need_number : Cl P w K mg base 2 "need_number" (spA K 3 R_need_number)) (c_least_in : Cl P w K mg base 1 "least_in" (spA K 3 R_least_in)) {f : Addr} {cdv : Value} {A : Around} {outer : List Env} {s : Shared} {H : Hp} {E : XK} (hr : Room 3 (A.deeper (envOfC "least_wait" (defScope s_least_wait) s.heap.objs.size f cdv))) :
    PSs (cxOf CX0 P w K mg base ["answers", "misses", "told", "own"] "least_wait" (defScope s_least_wait) f cdv A outer s H E).nox (defBody s_least_wait) (t_least_wait K w) :=
  pss_cons (ps_expr (pe_cl c_need_answers hr (by decide) rfl (pa_cons (pv 0) (pa_nil))))
    (pss_cons (ps_expr (pe_cl c_need_number hr (by decide) rfl (pa_cons (pv 1) (pa_cons (pe_int) (pa_cons (pe_gk rfl T.g_ANSWERS) (pa_nil))))))
    (pss_cons (ps_set (i := 2) sc_least_wait.nd rfl (Or.inl rfl) (pe_callB (cr_sortedI) (by rfl) T.b_sorted (by decide +kernel) (pa_cons (pe_lc (own := [("own", 3)]) rfl sc_least_wait.nd (pi_seq (pv 0)) (blkOk_by (N := ["answers", "misses", "told", "own"]) (sc := defScope s_least_wait) (by decide +kernel)) (fun _ _ _ _ _ => pg_name (i := 3) sc_least_wait.nd rfl (Or.inl rfl)) (fun _ _ _ _ _ => pts_one (pt_cmpR (o_isN) (pv 3) (pe_non) (nomark _))) (fun _ _ _ _ _ => pv 3)) (pa_nil))))
    (pss_one (ps_ret (pe_cl c_least_in hr (by decide) rfl (pa_cons (pv 2) (pa_cons (pe_op o_minus (pe_callB (c_len) (by rfl) T.b_len (by decide +kernel) (pa_cons (pv 0) (pa_nil))) (pe_callB (c_len) (by rfl) T.b_len (by decide +kernel) (pa_cons (pv 2) (pa_nil)))) (pa_cons (pv 1) (pa_nil)))))))))
/-! wait_paper -/
def t_wait_paper (K : PySem.W.Frag) (w : World) : TS :=
  tSeq (tDrop (tCall (spA K 1 R_need_answers) [] E0 (tCons (tVar 0) (tNil))))
    (tSeq (tDrop (tCall (spA K 3 R_need_number) [] E0 (tCons (tVar 1) (tCons (tC (.int 0)) (tCons (tC (.int 2000)) (tNil))))))
    (tSeq (tDrop (tCall (spA K 3 R_need_number) [] E0 (tCons (tVar 2) (tCons (tC (.int 0)) (tCons (tOp (rPlus K) (tC (.int 1000000)) (tC (.int 1))) (tNil))))))
    (tSeq (tAsg (tLc (iEnumT K (tCons (tVar 0) (tNil))) (gTup K 2 (gCons (gName 4) (gCons (gName 5) (gNil)))) (tOr (tTest (tOp (rIsW) (tVar 5) (tC .non))) (tTest (tOp (rGeq) (tVar 5) (tVar 2)))) (tVar 4) [4, 5]) (gName 3))
    (tRet (tIf (tTest (tOp (rGrt) (tCB (cLen K) (tCons (tVar 3) (tNil))) (tVar 1))) (tCB (cTup K) (tCons (tSl (rSlc K) (tVar 3) (tNoPart) (tPart (tOp (rPlus K) (tVar 1) (tC (.int 1))))) (tNil))) (tC .non))))))
theorem w_wait_paper {P : Program} {w : World} {K : PySem.W.Frag} {mg : Str → Option Value} {base : Heap} (T : Txt mg) (c_need_answers : Cl P w K mg base 3 "need_answers" (spA K 1 R_need_answers)) (c_need_number : Cl P w K mg base 2 "need_number" (spA K 3 R_need_number)) {f : Addr} {cdv : Value} {A : Around} {outer : List Env} {s : Shared} {H : Hp} {E : XK} (hr : Room 3 (A.deeper (envOfC "wait_paper" (defScope s_wait_paper) s.heap.objs.size f cdv))) :
    PSs (cxOf CX0 P w K mg base ["answers", "misses", "bound", "rows", "at", "own"] "wait_paper" (defScope s_wait_paper) f cdv A outer s H E).nox (defBody s_wait_paper) (t_wait_paper K w) :=
  pss_cons (ps_expr (pe_cl c_need_answers hr (by decide) rfl (pa_cons (pv 0) (pa_nil))))
    (pss_cons (ps_expr (pe_cl c_need_number hr (by decide) rfl (pa_cons (pv 1) (pa_cons (pe_int) (pa_cons (pe_gk rfl T.g_ANSWERS) (pa_nil))))))
    (pss_cons (ps_expr (pe_cl c_need_number hr (by decide) rfl (pa_cons (pv 2) (pa_cons (pe_int) (pa_cons (pe_op o_plus (pe_gk rfl T.g_TICKS) (pe_int)) (pa_nil))))))
    (pss_cons (ps_setLc (i := 3) (own := [("at", 4), ("own", 5)]) rfl sc_wait_paper.nd rfl rfl (sw_true rfl rfl rfl (by decide +kernel)) (pi_enumA rfl T.b_enumerate (pa_cons (pv 0) (pa_nil))) (blkOk_by (N := ["answers", "misses", "bound", "rows", "at", "own"]) (sc := defScope s_wait_paper) (by decide +kernel)) (fun _ _ _ _ _ => pg_tup rfl (pgs_cons (pg_name (i := 4) sc_wait_paper.nd rfl (Or.inl rfl)) (pgs_cons (pg_name (i := 5) sc_wait_paper.nd rfl (Or.inl rfl)) (pgs_nil)))) (fun _ _ _ _ _ => pts_one (PW.pt (pw_or (pt_cmpR (o_is) (pv 5) (pe_non) (nomark _)) (pw_or1 (pt_cmpR (o_geq) (pv 5) (pv 2) (nomark _)))))) (fun _ _ _ _ _ => pv 4))
    (pss_one (ps_ret (pe_ifExp (pt_cmpR (o_grt) (pe_callB (c_len) (by rfl) T.b_len (by decide +kernel) (pa_cons (pv 3) (pa_nil))) (pv 1) (nomark _)) (pe_callTy (c_tup) (by rfl) T.b_tuple (by decide +kernel) (pa_cons (pe_slice s_slc (pv 3) (po_none) (po_some (pe_op o_plus (pv 1) (pe_int)))) (pa_nil))) (pe_non)))))))
/-! is_wait_paper -/
def t_is_wait_paper (K : PySem.W.Frag) (w : World) : TS :=
  tSeq (tDrop (tCall (spA K 1 R_need_answers) [] E0 (tCons (tVar 0) (tNil))))
    (tSeq (tDrop (tCall (spA K 3 R_need_number) [] E0 (tCons (tVar 1) (tCons (tC (.int 0)) (tCons (tC (.int 2000)) (tNil))))))
    (tSeq (tDrop (tCall (spA K 3 R_need_number) [] E0 (tCons (tVar 2) (tCons (tC (.int 0)) (tCons (tOp (rPlus K) (tC (.int 1000000)) (tC (.int 1))) (tNil))))))
    (tSeq (tIfS (tNot (tB (tCall (spA K 3 R_is_tuple_of) [] E0 (tCons (tVar 3) (tCons (tOp (rPlus K) (tVar 1) (tC (.int 1))) (tCons (tOp (rPlus K) (tVar 1) (tC (.int 1))) (tNil))))))) (tRet (tC (.bl false))) (tNext))
    (tSeq (tIfS (tOr (tNot (tB (tCB (rAll K) (tCons (tLc (iSeq K (tVar 3)) (gName 4) (tYes) (tCall (spA K 3 R_is_whole) [] E0 (tCons (tVar 4) (tCons (tC (.int 0)) (tCons (tOp (rMinus) (tCB (cLen K) (tCons (tVar 0) (tNil))) (tC (.int 1))) (tNil))))) [4]) (tNil))))) (tNot (tB (tCall (spA K 1 R_is_rising) [] E0 (tCons (tVar 3) (tNil)))))) (tRet (tC (.bl false))) (tNext))
    (tRet (tCB (rAll K) (tCons (tLc (iSeq K (tVar 3)) (gName 4) (tYes) (tOrV (tOp (rIsW) (tOp (rIx K) (tVar 0) (tVar 4)) (tC .non)) (tOp (rGeq) (tOp (rIx K) (tVar 0) (tVar 4)) (tVar 2))) [4]) (tNil))))))))
theorem w_is_wait_paper {P : Program} {w : World} {K : PySem.W.Frag} {mg : Str → Option Value} {base : Heap} (T : Txt mg) (c_need_answers : Cl P w K mg base 3 "need_answers" (spA K 1 R_need_answers)) (c_need_number : Cl P w K mg base 2 "need_number" (spA K 3 R_need_number)) (c_is_tuple_of : Cl P w K mg base 1 "is_tuple_of" (spA K 3 R_is_tuple_of)) (c_is_whole : Cl P w K mg base 1 "is_whole" (spA K 3 R_is_whole)) (c_is_rising : Cl P w K mg base 1 "is_rising" (spA K 1 R_is_rising)) {f : Addr} {cdv : Value} {A : Around} {outer : List Env} {s : Shared} {H : Hp} {E : XK} (hr : Room 3 (A.deeper (envOfC "is_wait_paper" (defScope s_is_wait_paper) s.heap.objs.size f cdv))) :
    PSs (cxOf CX0 P w K mg base ["answers", "misses", "bound", "value", "at"] "is_wait_paper" (defScope s_is_wait_paper) f cdv A outer s H E).nox (defBody s_is_wait_paper) (t_is_wait_paper K w) :=
  pss_cons (ps_expr (pe_cl c_need_answers hr (by decide) rfl (pa_cons (pv 0) (pa_nil))))
    (pss_cons (ps_expr (pe_cl c_need_number hr (by decide) rfl (pa_cons (pv 1) (pa_cons (pe_int) (pa_cons (pe_gk rfl T.g_ANSWERS) (pa_nil))))))
    (pss_cons (ps_expr (pe_cl c_need_number hr (by decide) rfl (pa_cons (pv 2) (pa_cons (pe_int) (pa_cons (pe_op o_plus (pe_gk rfl T.g_TICKS) (pe_int)) (pa_nil))))))
    (pss_cons (ps_if (pt_not (pt_val (pe_cl c_is_tuple_of hr (by decide) rfl (pa_cons (pv 3) (pa_cons (pe_op o_plus (pv 1) (pe_int)) (pa_cons (pe_op o_plus (pv 1) (pe_int)) (pa_nil))))))) (pss_one (ps_ret (pe_bl))) (pss_nil))
    (pss_cons (ps_if (PW.pt (pw_or (pt_not (pt_val (pe_callB (cr_all rfl) (by rfl) T.b_all (by decide +kernel) (pa_cons (pe_lc (own := [("at", 4)]) rfl sc_is_wait_paper.nd (pi_seq (pv 3)) (blkOk_by (N := ["answers", "misses", "bound", "value", "at"]) (sc := defScope s_is_wait_paper) (by decide +kernel)) (fun _ _ _ _ _ => pg_name (i := 4) sc_is_wait_paper.nd rfl (Or.inl rfl)) (fun _ _ _ _ _ => pts_nil) (fun _ _ _ _ _ => pe_cl c_is_whole hr (by decide) rfl (pa_cons (pv 4) (pa_cons (pe_int) (pa_cons (pe_op o_minus (pe_callB (c_len) (by rfl) T.b_len (by decide +kernel) (pa_cons (pv 0) (pa_nil))) (pe_int)) (pa_nil)))))) (pa_nil))))) (pw_or1 (pt_not (pt_val (pe_cl c_is_rising hr (by decide) rfl (pa_cons (pv 3) (pa_nil)))))))) (pss_one (ps_ret (pe_bl))) (pss_nil))
    (pss_one (ps_ret (pe_callB (cr_all rfl) (by rfl) T.b_all (by decide +kernel) (pa_cons (pe_lc (own := [("at", 4)]) rfl sc_is_wait_paper.nd (pi_seq (pv 3)) (blkOk_by (N := ["answers", "misses", "bound", "value", "at"]) (sc := defScope s_is_wait_paper) (by decide +kernel)) (fun _ _ _ _ _ => pg_name (i := 4) sc_is_wait_paper.nd rfl (Or.inl rfl)) (fun _ _ _ _ _ => pts_nil) (fun _ _ _ _ _ => pe_or (pe_cmpR (o_is) (pe_ix ix_seq (pv 0) (pv 4) (fun _ _ => rfl)) (pe_non) (nomark _)) (pe_one (pe_cmpR (o_geq) (pe_ix ix_seq (pv 0) (pv 4) (fun _ _ => rfl)) (pv 2) (nomark _))))) (pa_nil)))))))))
/-! _law_roll -/
def t__law_roll (K : PySem.W.Frag) (w : World) : TS :=
  tSeq (tIfS (tTest (tOp (rGrt) (tOp (rIx K) (tVar 0) (tC (.int 0))) (tC (.int 0)))) (tSeq (tAsg (tOp (rMd) (tCB (cInt) (tCons (tOp (rIx K) (tVar 0) (tC (.int 0))) (tNil))) (tVar 1)) (gName 2))
    (tSeq (tAsg (tOp (rFdv) (tOp (rIx K) (tVar 0) (tC (.int 0))) (tVar 1)) (gSub (tVar 0) (tC (.int 0)) rSetL))
    (tRet (tVar 2)))) (tNext))
    (tSeq (tAsg (tOp (rMd) (tCB (cInt) (tCons (tOp (rPlus K) (tOp (rTimes K) (tOp (rIx K) (tVar 0) (tC (.int 1))) (tC (.int 31413))) (tC (.int 8351))) (tNil))) (tC (.int 2147483399))) (gSub (tVar 0) (tC (.int 1)) rSetL))
    (tSeq (tAsg (tOp (rMd) (tCB (cInt) (tCons (tOp (rTimes K) (tOp (rIx K) (tVar 0) (tC (.int 1))) (tOp (rPlus K) (tOp (rIx K) (tVar 0) (tC (.int 1))) (tC (.int 521)))) (tNil))) (tC (.int 2147483563))) (gName 3))
    (tRet (tOp (rMd) (tCB (cInt) (tCons (tOp (rFdv) (tVar 3) (tC (.int 797))) (tNil))) (tVar 1)))))
theorem w__law_roll {P : Program} {w : World} {K : PySem.W.Frag} {mg : Str → Option Value} {base : Heap} (T : Txt mg) {f : Addr} {cdv : Value} {A : Around} {outer : List Env} {s : Shared} {H : Hp} {E : XK} (hr : Room 0 (A.deeper (envOfC "_law_roll" (defScope s__law_roll) s.heap.objs.size f cdv))) :
    PSs (cxOf CX0 P w K mg base ["cup", "many", "found", "deep"] "_law_roll" (defScope s__law_roll) f cdv A outer s H E).nox (defBody s__law_roll) (t__law_roll K w) :=
  pss_cons (ps_if (pt_cmpR (o_grt) (pe_ix ix_seq (pv 0) (pe_int) (fun _ _ => rfl)) (pe_int) (nomark _)) (pss_cons (ps_set (i := 2) sc__law_roll.nd rfl (Or.inl rfl) (pe_op o_md (pe_callTy (c_int) (by rfl) T.b_int (by decide +kernel) (pa_cons (pe_ix ix_seq (pv 0) (pe_int) (fun _ _ => rfl)) (pa_nil))) (pv 1)))
    (pss_cons (ps_asg (pe_op o_fdv (pe_ix ix_seq (pv 0) (pe_int) (fun _ _ => rfl)) (pv 1)) (pg_sub (pv 0) (pe_int) set_list))
    (pss_one (ps_ret (pv 2))))) (pss_nil))
    (pss_cons (ps_asg (pe_op o_md (pe_callTy (c_int) (by rfl) T.b_int (by decide +kernel) (pa_cons (pe_op o_plus (pe_op o_times (pe_ix ix_seq (pv 0) (pe_int) (fun _ _ => rfl)) (pe_int)) (pe_int)) (pa_nil))) (pe_int)) (pg_sub (pv 0) (pe_int) set_list))
    (pss_cons (ps_set (i := 3) sc__law_roll.nd rfl (Or.inl rfl) (pe_op o_md (pe_callTy (c_int) (by rfl) T.b_int (by decide +kernel) (pa_cons (pe_op o_times (pe_ix ix_seq (pv 0) (pe_int) (fun _ _ => rfl)) (pe_op o_plus (pe_ix ix_seq (pv 0) (pe_int) (fun _ _ => rfl)) (pe_int))) (pa_nil))) (pe_int)))
    (pss_one (ps_ret (pe_op o_md (pe_callTy (c_int) (by rfl) T.b_int (by decide +kernel) (pa_cons (pe_op o_fdv (pv 3) (pe_int)) (pa_nil))) (pv 1))))))
/-! _law_some -/
def t__law_some (K : PySem.W.Frag) (w : World) : TS :=
  tRet (tOp (rIx K) (tVar 1) (tCall (spA K 2 R__law_roll) [] E0 (tCons (tVar 0) (tCons (tCB (cLen K) (tCons (tVar 1) (tNil))) (tNil)))))
theorem w__law_some {P : Program} {w : World} {K : PySem.W.Frag} {mg : Str → Option Value} {base : Heap} (T : Txt mg) (c__law_roll : Cl P w K mg base 1 "_law_roll" (spA K 2 R__law_roll)) {f : Addr} {cdv : Value} {A : Around} {outer : List Env} {s : Shared} {H : Hp} {E : XK} (hr : Room 1 (A.deeper (envOfC "_law_some" (defScope s__law_some) s.heap.objs.size f cdv))) :
    PSs (cxOf CX0 P w K mg base ["cup", "things"] "_law_some" (defScope s__law_some) f cdv A outer s H E).nox (defBody s__law_some) (t__law_some K w) :=
  pss_one (ps_ret (pe_ix ix_seq (pv 1) (pe_cl c__law_roll hr (by decide) rfl (pa_cons (pv 0) (pa_cons (pe_callB (c_len) (by rfl) T.b_len (by decide +kernel) (pa_cons (pv 1) (pa_nil))) (pa_nil)))) (fun _ _ => rfl)))
/-! _law_answers -/
def t__law_answers (K : PySem.W.Frag) (w : World) : TS :=
  tSeq (tAsg (tCall (spA K 2 R__law_some) [] E0 (tCons (tVar 0) (tCons (tLst (tCons (tC (.int 4)) (tCons (tC (.int 12)) (tCons (tC (.int 1000)) (tNil))))) (tNil)))) (gName 2))
    (tRet (tCB (cTup K) (tCons (tLc (iRng1 (tCons (tCall (spA K 2 R__law_roll) [] E0 (tCons (tVar 0) (tCons (tOp (rPlus K) (tVar 1) (tC (.int 1))) (tNil)))) (tNil))) (gName 3) (tYes) (tIf (tTest (tOp (rEqD K) (tCall (spA K 2 R__law_roll) [] E0 (tCons (tVar 0) (tCons (tC (.int 5)) (tNil)))) (tC (.int 0)))) (tC .non) (tCall (spA K 2 R__law_roll) [] E0 (tCons (tVar 0) (tCons (tVar 2) (tNil))))) [3]) (tNil))))
theorem w__law_answers {P : Program} {w : World} {K : PySem.W.Frag} {mg : Str → Option Value} {base : Heap} (T : Txt mg) (c__law_some : Cl P w K mg base 2 "_law_some" (spA K 2 R__law_some)) (c__law_roll : Cl P w K mg base 1 "_law_roll" (spA K 2 R__law_roll)) {f : Addr} {cdv : Value} {A : Around} {outer : List Env} {s : Shared} {H : Hp} {E : XK} (hr : Room 2 (A.deeper (envOfC "_law_answers" (defScope s__law_answers) s.heap.objs.size f cdv))) :
    PSs (cxOf CX0 P w K mg base ["cup", "many", "most", "turn"] "_law_answers" (defScope s__law_answers) f cdv A outer s H E).nox (defBody s__law_answers) (t__law_answers K w) :=
  pss_cons (ps_set (i := 2) sc__law_answers.nd rfl (Or.inr rfl) (pe_cl c__law_some hr (by decide) rfl (pa_cons (pv 0) (pa_cons (pe_lst (pa_cons (pe_int) (pa_cons (pe_int) (pa_cons (pe_int) (pa_nil))))) (pa_nil)))))
    (pss_one (ps_ret (pe_callTy (c_tup) (by rfl) T.b_tuple (by decide +kernel) (pa_cons (pe_lc (own := [("turn", 3)]) rfl sc__law_answers.nd (pi_range1 rfl T.b_range (pa_cons (pe_cl c__law_roll hr (by decide) rfl (pa_cons (pv 0) (pa_cons (pe_op o_plus (pv 1) (pe_int)) (pa_nil)))) (pa_nil))) (blkOk_by (N := ["cup", "many", "most", "turn"]) (sc := defScope s__law_answers) (by decide +kernel)) (fun _ _ _ _ _ => pg_name (i := 3) sc__law_answers.nd rfl (Or.inl rfl)) (fun _ _ _ _ _ => pts_nil) (fun _ _ _ _ _ => pe_ifExp (pt_cmpR (op_eqD hr.units) (pe_cl c__law_roll hr (by decide) rfl (pa_cons (pv 0) (pa_cons (pe_int) (pa_nil)))) (pe_int) (nomark _)) (pe_non) (pe_cl c__law_roll hr (by decide) rfl (pa_cons (pv 0) (pa_cons (pv 2) (pa_nil)))))) (pa_nil)))))
/-! _law_missed -/
def t__law_missed (K : PySem.W.Frag) (w : World) : TS :=
  tRet (tCB (cLen K) (tCons (tLc (iSeq K (tVar 0)) (gName 2) (tOr (tTest (tOp (rIsW) (tVar 2) (tC .non))) (tTest (tOp (rGrt) (tVar 2) (tVar 1)))) (tVar 2) [2]) (tNil)))
theorem w__law_missed {P : Program} {w : World} {K : PySem.W.Frag} {mg : Str → Option Value} {base : Heap} (T : Txt mg) {f : Addr} {cdv : Value} {A : Around} {outer : List Env} {s : Shared} {H : Hp} {E : XK} (hr : Room 0 (A.deeper (envOfC "_law_missed" (defScope s__law_missed) s.heap.objs.size f cdv))) :
    PSs (cxOf CX0 P w K mg base ["answers", "wait", "own"] "_law_missed" (defScope s__law_missed) f cdv A outer s H E).nox (defBody s__law_missed) (t__law_missed K w) :=
  pss_one (ps_ret (pe_callB (c_len) (by rfl) T.b_len (by decide +kernel) (pa_cons (pe_lc (own := [("own", 2)]) rfl sc__law_missed.nd (pi_seq (pv 0)) (blkOk_by (N := ["answers", "wait", "own"]) (sc := defScope s__law_missed) (by decide +kernel)) (fun _ _ _ _ _ => pg_name (i := 2) sc__law_missed.nd rfl (Or.inl rfl)) (fun _ _ _ _ _ => pts_one (PW.pt (pw_or (pt_cmpR (o_is) (pv 2) (pe_non) (nomark _)) (pw_or1 (pt_cmpR (o_grt) (pv 2) (pv 1) (nomark _)))))) (fun _ _ _ _ _ => pv 2)) (pa_nil))))
/-! _law_least -/
def t__law_least (K : PySem.W.Frag) (w : World) : TS :=
  tSeq (tAsg (tLc (iSeq K (tCB (rSortedSet w) (tCons (tCB (rSetI K w) (tCons (tOp (rPlus K) (tLst (tCons (tC (.int 0)) (tNil))) (tLc (iSeq K (tVar 0)) (gName 4) (tTest (tOp (rIsNW) (tVar 4) (tC .non))) (tVar 4) [4])) (tNil))) (tNil)))) (gName 3) (tTest (tOp (rLeq) (tCall (spA K 2 R__law_missed) [] E0 (tCons (tVar 0) (tCons (tVar 3) (tNil)))) (tVar 1))) (tVar 3) [3]) (gName 2))
    (tRet (tIf (tTest (tOp (rNeD K) (tVar 2) (tLst (tNil)))) (tOp (rIx K) (tVar 2) (tC (.int 0))) (tC .non)))
theorem w__law_least {P : Program} {w : World} {K : PySem.W.Frag} {mg : Str → Option Value} {base : Heap} (T : Txt mg) (c__law_missed : Cl P w K mg base 1 "_law_missed" (spA K 2 R__law_missed)) {f : Addr} {cdv : Value} {A : Around} {outer : List Env} {s : Shared} {H : Hp} {E : XK} (hr : Room 1 (A.deeper (envOfC "_law_least" (defScope s__law_least) s.heap.objs.size f cdv))) :
    PSs (cxOf CX0 P w K mg base ["answers", "misses", "good", "wait", "own"] "_law_least" (defScope s__law_least) f cdv A outer s H E).nox (defBody s__law_least) (t__law_least K w) :=
  pss_cons (ps_setLc (i := 2) (own := [("wait", 3)]) rfl sc__law_least.nd rfl rfl (sw_true rfl rfl rfl (by decide +kernel)) (pi_seq (pe_callB (cr_sortedSet rfl) (by rfl) T.b_sorted (by decide +kernel) (pa_cons (pe_callTy (c_setI rfl) (by rfl) T.b_set (by decide +kernel) (pa_cons (pe_op o_plus (pe_lst (pa_cons (pe_int) (pa_nil))) (pe_lc (own := [("own", 4)]) rfl sc__law_least.nd (pi_seq (pv 0)) (blkOk_by (N := ["answers", "misses", "good", "wait", "own"]) (sc := defScope s__law_least) (by decide +kernel)) (fun _ _ _ _ _ => pg_name (i := 4) sc__law_least.nd rfl (Or.inl rfl)) (fun _ _ _ _ _ => pts_one (pt_cmpR (o_isN) (pv 4) (pe_non) (nomark _))) (fun _ _ _ _ _ => pv 4))) (pa_nil))) (pa_nil)))) (blkOk_by (N := ["answers", "misses", "good", "wait", "own"]) (sc := defScope s__law_least) (by decide +kernel)) (fun _ _ _ _ _ => pg_name (i := 3) sc__law_least.nd rfl (Or.inl rfl)) (fun _ _ _ _ _ => pts_one (pt_cmpR (o_leq) (pe_cl c__law_missed hr (by decide) rfl (pa_cons (pv 0) (pa_cons (pv 3) (pa_nil)))) (pv 1) (nomark _))) (fun _ _ _ _ _ => pv 3))
    (pss_one (ps_ret (pe_ifExp (pt_cmpR (op_neD hr.units) (pv 2) (pe_lst (pa_nil)) (nomark _)) (pe_ix ix_seq (pv 2) (pe_int) (fun _ _ => rfl)) (pe_non))))
/-! _law_is_paper -/
def t__law_is_paper (K : PySem.W.Frag) (w : World) : TS :=
  tSeq (tIfS (tOr (tTest (tOp (rNeD K) (tCB (cLen K) (tCons (tVar 3) (tNil))) (tOp (rPlus K) (tVar 1) (tC (.int 1))))) (tTest (tOp (rNeD K) (tLc (iRng2 (tCons (tC (.int 1)) (tCons (tCB (cLen K) (tCons (tVar 3) (tNil))) (tNil)))) (gName 4) (tTest (tOp (rLeq) (tOp (rIx K) (tVar 3) (tVar 4)) (tOp (rIx K) (tVar 3) (tOp (rMinus) (tVar 4) (tC (.int 1)))))) (tVar 4) [4]) (tLst (tNil))))) (tRet (tC (.bl false))) (tNext))
    (tRet (tOp (rEqD K) (tLc (iSeq K (tVar 3)) (gName 4) (tAnd (tTest (tOp (rIsNW) (tOp (rIx K) (tVar 0) (tVar 4)) (tC .non))) (tTest (tOp (rLss K) (tOp (rIx K) (tVar 0) (tVar 4)) (tVar 2)))) (tVar 4) [4]) (tLst (tNil))))
theorem w__law_is_paper {P : Program} {w : World} {K : PySem.W.Frag} {mg : Str → Option Value} {base : Heap} (T : Txt mg) {f : Addr} {cdv : Value} {A : Around} {outer : List Env} {s : Shared} {H : Hp} {E : XK} (hr : Room 0 (A.deeper (envOfC "_law_is_paper" (defScope s__law_is_paper) s.heap.objs.size f cdv))) :
    PSs (cxOf CX0 P w K mg base ["answers", "misses", "bound", "value", "at"] "_law_is_paper" (defScope s__law_is_paper) f cdv A outer s H E).nox (defBody s__law_is_paper) (t__law_is_paper K w) :=
  pss_cons (ps_if (PW.pt (pw_or (pt_cmpR (op_neD hr.units) (pe_callB (c_len) (by rfl) T.b_len (by decide +kernel) (pa_cons (pv 3) (pa_nil))) (pe_op o_plus (pv 1) (pe_int)) (nomark _)) (pw_or1 (pt_cmpR (op_neD hr.units) (pe_lc (own := [("at", 4)]) rfl sc__law_is_paper.nd (pi_range2 rfl T.b_range (pa_cons (pe_int) (pa_cons (pe_callB (c_len) (by rfl) T.b_len (by decide +kernel) (pa_cons (pv 3) (pa_nil))) (pa_nil)))) (blkOk_by (N := ["answers", "misses", "bound", "value", "at"]) (sc := defScope s__law_is_paper) (by decide +kernel)) (fun _ _ _ _ _ => pg_name (i := 4) sc__law_is_paper.nd rfl (Or.inl rfl)) (fun _ _ _ _ _ => pts_one (pt_cmpR (o_leq) (pe_ix ix_seq (pv 3) (pv 4) (fun _ _ => rfl)) (pe_ix ix_seq (pv 3) (pe_op o_minus (pv 4) (pe_int)) (fun _ _ => rfl)) (nomark _))) (fun _ _ _ _ _ => pv 4)) (pe_lst (pa_nil)) (nomark _))))) (pss_one (ps_ret (pe_bl))) (pss_nil))
    (pss_one (ps_ret (pe_cmpR (op_eqD hr.units) (pe_lc (own := [("at", 4)]) rfl sc__law_is_paper.nd (pi_seq (pv 3)) (blkOk_by (N := ["answers", "misses", "bound", "value", "at"]) (sc := defScope s__law_is_paper) (by decide +kernel)) (fun _ _ _ _ _ => pg_name (i := 4) sc__law_is_paper.nd rfl (Or.inl rfl)) (fun _ _ _ _ _ => pts_one (PW.pt (pw_and (pt_cmpR (o_isN) (pe_ix ix_seq (pv 0) (pv 4) (fun _ _ => rfl)) (pe_non) (nomark _)) (pw_and1 (pt_cmpR (o_lss hr.units0) (pe_ix ix_seq (pv 0) (pv 4) (fun _ _ => rfl)) (pv 2) (nomark _)))))) (fun _ _ _ _ _ => pv 4)) (pe_lst (pa_nil)) (nomark _))))
/-! _law_same -/
def t__law_same (K : PySem.W.Frag) (w : World) (sp : Sp) : TS :=
  tSeq (tIfS (tB (tCB (rIsi K) (tCons (tVar 1) (tCons (tC (.ty "tuple")) tNil)))) (tSeq (tIfS (tOr (tNot (tB (tCB (rIsi K) (tCons (tVar 0) (tCons (tC (.ty "tuple")) tNil))))) (tTest (tOp (rNeD K) (tCB (cLen K) (tCons (tVar 0) (tNil))) (tCB (cLen K) (tCons (tVar 1) (tNil)))))) (tRet (tC (.bl false))) (tNext))
    (tRet (tCB (rAll K) (tCons (tLc (iRng1 (tCons (tCB (cLen K) (tCons (tVar 1) (tNil))) (tNil))) (gName 2) (tYes) (tCall (sp) [] E0 (tCons (tOp (rIx K) (tVar 0) (tVar 2)) (tCons (tOp (rIx K) (tVar 1) (tVar 2)) (tNil)))) [2]) (tNil))))) (tNext))
    (tSeq (tIfS (tTest (tOp (rIsW) (tVar 1) (tC .non))) (tRet (tOp (rIsW) (tVar 0) (tC .non))) (tNext))
    (tSeq (tIfS (tB (tCB (rIsi K) (tCons (tVar 1) (tCons (tC (.ty "bool")) tNil)))) (tRet (tIf (tB (tVar 1)) (tOp (rIsW) (tVar 0) (tC (.bl true))) (tOp (rIsW) (tVar 0) (tC (.bl false))))) (tNext))
    (tSeq (tIfS (tB (tCB (rIsi K) (tCons (tVar 1) (tCons (tC (.ty "int")) tNil)))) (tRet (tAndV (tCB (rIsi K) (tCons (tVar 0) (tCons (tC (.ty "int")) tNil))) (tAndV (tNotV (tCB (rIsi K) (tCons (tVar 0) (tCons (tC (.ty "bool")) tNil)))) (tOp (rEqD K) (tCB (cInt) (tCons (tVar 0) (tNil))) (tVar 1))))) (tNext))
    (tRet (tAndV (tCB (rIsi K) (tCons (tVar 0) (tCons (tC (.ty "str")) tNil))) (tOp (rEqD K) (tCB (cStr) (tCons (tVar 0) (tNil))) (tVar 1)))))))
theorem w__law_same {P : Program} {w : World} {K : PySem.W.Frag} {mg : Str → Option Value} {base : Heap} (T : Txt mg) {n : Nat} {sp : Sp} (c__law_same : Cl P w K mg base n "_law_same" (sp)) {f : Addr} {cdv : Value} {A : Around} {outer : List Env} {s : Shared} {H : Hp} {E : XK} (hr : Room n (A.deeper (envOfC "_law_same" (defScope s__law_same) s.heap.objs.size f cdv))) :
    PSs (cxOf CX0 P w K mg base ["told", "due", "at"] "_law_same" (defScope s__law_same) f cdv A outer s H E).nox (defBody s__law_same) (t__law_same K w sp) :=
  pss_cons (ps_if (pt_val (pe_callB call_isi (by rfl) T.b_isinstance (by decide +kernel) (pa_cons (pv 1) (pa_cons (pe_bltn (v := .ty "tuple") (by rfl) T.b_tuple (by decide +kernel) rfl) pa_nil)))) (pss_cons (ps_if (PW.pt (pw_or (pt_not (pt_val (pe_callB call_isi (by rfl) T.b_isinstance (by decide +kernel) (pa_cons (pv 0) (pa_cons (pe_bltn (v := .ty "tuple") (by rfl) T.b_tuple (by decide +kernel) rfl) pa_nil))))) (pw_or1 (pt_cmpR (op_neD hr.units) (pe_callB (c_len) (by rfl) T.b_len (by decide +kernel) (pa_cons (pv 0) (pa_nil))) (pe_callB (c_len) (by rfl) T.b_len (by decide +kernel) (pa_cons (pv 1) (pa_nil))) (nomark _))))) (pss_one (ps_ret (pe_bl))) (pss_nil))
    (pss_one (ps_ret (pe_callB (cr_all rfl) (by rfl) T.b_all (by decide +kernel) (pa_cons (pe_lc (own := [("at", 2)]) rfl sc__law_same.nd (pi_range1 rfl T.b_range (pa_cons (pe_callB (c_len) (by rfl) T.b_len (by decide +kernel) (pa_cons (pv 1) (pa_nil))) (pa_nil))) (blkOk_by (N := ["told", "due", "at"]) (sc := defScope s__law_same) (by decide +kernel)) (fun _ _ _ _ _ => pg_name (i := 2) sc__law_same.nd rfl (Or.inl rfl)) (fun _ _ _ _ _ => pts_nil) (fun _ _ _ _ _ => pe_cl c__law_same hr (Nat.le_refl _) rfl (pa_cons (pe_ix ix_seq (pv 0) (pv 2) (fun _ _ => rfl)) (pa_cons (pe_ix ix_seq (pv 1) (pv 2) (fun _ _ => rfl)) (pa_nil))))) (pa_nil)))))) (pss_nil))
    (pss_cons (ps_if (pt_cmpR (o_is) (pv 1) (pe_non) (nomark _)) (pss_one (ps_ret (pe_cmpR (o_is) (pv 0) (pe_non) (nomark _)))) (pss_nil))
    (pss_cons (ps_if (pt_val (pe_callB call_isi (by rfl) T.b_isinstance (by decide +kernel) (pa_cons (pv 1) (pa_cons (pe_bltn (v := .ty "bool") (by rfl) T.b_bool (by decide +kernel) rfl) pa_nil)))) (pss_one (ps_ret (pe_ifExp (pt_val (pv 1)) (pe_cmpR (o_is) (pv 0) (pe_bl) (nomark _)) (pe_cmpR (o_is) (pv 0) (pe_bl) (nomark _))))) (pss_nil))
    (pss_cons (ps_if (pt_val (pe_callB call_isi (by rfl) T.b_isinstance (by decide +kernel) (pa_cons (pv 1) (pa_cons (pe_bltn (v := .ty "int") (by rfl) T.b_int (by decide +kernel) rfl) pa_nil)))) (pss_one (ps_ret (pe_and (pe_callB call_isi (by rfl) T.b_isinstance (by decide +kernel) (pa_cons (pv 0) (pa_cons (pe_bltn (v := .ty "int") (by rfl) T.b_int (by decide +kernel) rfl) pa_nil))) (pe_and (pe_not (pe_callB call_isi (by rfl) T.b_isinstance (by decide +kernel) (pa_cons (pv 0) (pa_cons (pe_bltn (v := .ty "bool") (by rfl) T.b_bool (by decide +kernel) rfl) pa_nil)))) (pe_one (pe_cmpR (op_eqD hr.units) (pe_callTy (c_int) (by rfl) T.b_int (by decide +kernel) (pa_cons (pv 0) (pa_nil))) (pv 1) (nomark _))))))) (pss_nil))
    (pss_one (ps_ret (pe_and (pe_callB call_isi (by rfl) T.b_isinstance (by decide +kernel) (pa_cons (pv 0) (pa_cons (pe_bltn (v := .ty "str") (by rfl) T.b_str (by decide +kernel) rfl) pa_nil))) (pe_one (pe_cmpR (op_eqD hr.units) (pe_callTy (c_str) (by rfl) T.b_str (by decide +kernel) (pa_cons (pv 0) (pa_nil))) (pv 1) (nomark _)))))))))
/-! _law_right -/
def t__law_right (K : PySem.W.Frag) (w : World) : TS :=
  tSeq (tAsg (tTup (tCons (tCall (spA K 2 R__law_answers) [] E0 (tCons (tVar 0) (tCons (tVar 1) (tNil)))) (tCons (tCall (spA K 2 R__law_roll) [] E0 (tCons (tVar 0) (tCons (tC (.int 15)) (tNil)))) (tCons (tCall (spA K 2 R__law_some) [] E0 (tCons (tVar 0) (tCons (tLst (tCons (tC (.int 0)) (tCons (tCall (spA K 2 R__law_roll) [] E0 (tCons (tVar 0) (tCons (tC (.int 5)) (tNil)))) (tCons (tCall (spA K 2 R__law_roll) [] E0 (tCons (tVar 0) (tCons (tOp (rPlus K) (tVar 1) (tC (.int 2))) (tNil)))) (tNil))))) (tNil)))) (tNil))))) (gTup K 3 (gCons (gName 2) (gCons (gName 3) (gCons (gName 4) (gNil))))))
    (tSeq (tAsg (tCall (spA K 2 R__law_least) [] E0 (tCons (tVar 2) (tCons (tVar 4) (tNil)))) (gName 5))
    (tSeq (tAsg (tTup (tCons (tCall (spA K 1 R_are_answers) [] E0 (tCons (tVar 2) (tNil))) (tCons (tCall (spA K 2 R_missed) [] E0 (tCons (tVar 2) (tCons (tVar 3) (tNil)))) (tCons (tCall (spA K 2 R_least_wait) [] E0 (tCons (tVar 2) (tCons (tVar 4) (tNil)))) (tNil))))) (gName 6))
    (tSeq (tIfS (tNot (tB (tCall (spSame K 2) [] E0 (tCons (tVar 6) (tCons (tTup (tCons (tC (.bl true)) (tCons (tCall (spA K 2 R__law_missed) [] E0 (tCons (tVar 2) (tCons (tVar 3) (tNil)))) (tCons (tVar 5) (tNil))))) (tNil)))))) (tRet (tC (.bl false))) (tNext))
    (tSeq (tIfS (tAnd (tTest (tOp (rIsNW) (tVar 5) (tC .non))) (tOr (tTest (tOp (rGrt) (tCall (spA K 2 R_missed) [] E0 (tCons (tVar 2) (tCons (tVar 5) (tNil)))) (tVar 4))) (tAnd (tTest (tOp (rGrt) (tVar 5) (tC (.int 0)))) (tTest (tOp (rLeq) (tCall (spA K 2 R_missed) [] E0 (tCons (tVar 2) (tCons (tOp (rMinus) (tVar 5) (tC (.int 1))) (tNil)))) (tVar 4)))))) (tRet (tC (.bl false))) (tNext))
    (tSeq (tAsg (tIf (tTest (tOp (rIsNW) (tVar 5) (tC .non))) (tVar 5) (tOp (rPlus K) (tOp (rPw) (tC (.int 10)) (tC (.int 6))) (tC (.int 1)))) (gName 7))
    (tSeq (tFor (iSeq K (tTup (tCons (tC (.int 0)) (tCons (tVar 7) (tCons (tCB (cMin2) (tCons (tOp (rPlus K) (tOp (rPw) (tC (.int 10)) (tC (.int 6))) (tC (.int 1))) (tCons (tOp (rPlus K) (tVar 7) (tC (.int 1))) (tNil)))) (tCons (tCB (cMax2) (tCons (tC (.int 0)) (tCons (tOp (rMinus) (tVar 7) (tC (.int 1))) (tNil)))) (tCons (tOp (rPlus K) (tOp (rPw) (tC (.int 10)) (tC (.int 6))) (tC (.int 1))) (tNil)))))))) (gName 8) (tSeq (tAsg (tCall (spA K 3 R_wait_paper) [] E0 (tCons (tVar 2) (tCons (tVar 4) (tCons (tVar 8) (tNil))))) (gName 9))
    (tSeq (tAsg (tLc (iRng1 (tCons (tCB (cLen K) (tCons (tVar 2) (tNil))) (tNil))) (gName 16) (tOr (tTest (tOp (rIsW) (tOp (rIx K) (tVar 2) (tVar 16)) (tC .non))) (tTest (tOp (rGeq) (tOp (rIx K) (tVar 2) (tVar 16)) (tVar 8)))) (tVar 16) [16]) (gName 10))
    (tSeq (tIfS (tNot (tB (tCall (spSame K 2) [] E0 (tCons (tVar 9) (tCons (tIf (tTest (tOp (rGrt) (tCB (cLen K) (tCons (tVar 10) (tNil))) (tVar 4))) (tCB (cTup K) (tCons (tSl (rSlc K) (tVar 10) (tNoPart) (tPart (tOp (rPlus K) (tVar 4) (tC (.int 1))))) (tNil))) (tC .non)) (tNil)))))) (tRet (tC (.bl false))) (tNext))
    (tSeq (tAsg (tOp (rEqD K) (tLc (iSeq K (tTup (tCons (tC (.int 0)) (tCons (tOp (rMinus) (tVar 8) (tC (.int 1))) (tNil))))) (gName 17) (tAnd (tTest (tChain (rLeq) (rLss K) (tC (.int 0)) (tVar 17) (tVar 8))) (tTest (tOp (rLeq) (tCall (spA K 2 R__law_missed) [] E0 (tCons (tVar 2) (tCons (tVar 17) (tNil)))) (tVar 4)))) (tVar 17) [17]) (tLst (tNil))) (gName 11))
    (tSeq (tIfS (tAnd (tTest (tOp (rGrt) (tVar 8) (tC (.int 0)))) (tTest (tOp (rNeD K) (tOp (rIsNW) (tVar 9) (tC .non)) (tVar 11)))) (tRet (tC (.bl false))) (tNext))
    (tSeq (tAsg (tIf (tTest (tOp (rNeD K) (tVar 2) (tTup (tNil)))) (tCB (cTup K) (tCons (tCB (rSortedSet w) (tCons (tCB (rSetI K w) (tCons (tLc (iRng1 (tCons (tOp (rPlus K) (tVar 4) (tC (.int 1))) (tNil))) (gName 18) (tYes) (tCall (spA K 2 R__law_roll) [] E0 (tCons (tVar 0) (tCons (tCB (cLen K) (tCons (tVar 2) (tNil))) (tNil)))) [18]) (tNil))) (tNil))) (tNil))) (tTup (tNil))) (gName 12))
    (tSeq (tAsg (tLst (tCons (tVar 12) (tCons (tCB (cTup K) (tCons (tSl (rSlc K) (tVar 10) (tPart (tOp (rMinus) (tUn (rU fun i => .int (-i)) (tVar 4)) (tC (.int 1)))) (tNoPart)) (tNil))) (tCons (tCB (cTup K) (tCons (tVar 10) (tNil))) (tCons (tCB (cTup K) (tCons (tSl (rSlc K) (tVar 10) (tNoPart) (tPart (tVar 4))) (tNil))) (tCons (tCB (cTup K) (tCons (tRevL K (tSl (rSlc K) (tVar 10) (tNoPart) (tPart (tOp (rPlus K) (tVar 4) (tC (.int 1)))))) (tNil))) (tNil))))))) (gName 13))
    (tSeq (tFor (iSeq K (tVar 13)) (gName 14) (tIfS (tNot (tB (tCall (spSame K 2) [] E0 (tCons (tCall (spA K 4 R_is_wait_paper) [] E0 (tCons (tVar 2) (tCons (tVar 4) (tCons (tVar 8) (tCons (tVar 14) (tNil)))))) (tCons (tCall (spA K 4 R__law_is_paper) [] E0 (tCons (tVar 2) (tCons (tVar 4) (tCons (tVar 8) (tCons (tVar 14) (tNil)))))) (tNil)))))) (tRet (tC (.bl false))) (tNext)))
    (tSeq (tAsg (tLst (tCons (tC .non) (tCons (tCB (cLst K) (tCons (tSl (rSlc K) (tVar 10) (tNoPart) (tPart (tOp (rPlus K) (tVar 4) (tC (.int 1))))) (tNil))) (tCons (tOp (rTimes K) (tTup (tCons (tCB (cLen K) (tCons (tVar 2) (tNil))) (tNil))) (tOp (rPlus K) (tVar 4) (tC (.int 1)))) (tCons (tOp (rTimes K) (tTup (tCons (tUn (rU fun i => .int (-i)) (tC (.int 1))) (tNil))) (tOp (rPlus K) (tVar 4) (tC (.int 1)))) (tCons (tOp (rPlus K) (tTup (tCons (tC (.bl true)) (tNil))) (tOp (rTimes K) (tTup (tCons (tC (.int 0)) (tNil))) (tVar 4))) (tCons (tOp (rTimes K) (tTup (tCons (tC .non) (tNil))) (tOp (rPlus K) (tVar 4) (tC (.int 1)))) (tCons (tC (.int 5)) (tNil))))))))) (gName 15))
    (tIfS (tTest (tOp (rNeD K) (tLc (iSeq K (tVar 15)) (gName 19) (tTest (tOp (rIsNW) (tCall (spA K 4 R_is_wait_paper) [] E0 (tCons (tVar 2) (tCons (tVar 4) (tCons (tVar 8) (tCons (tVar 19) (tNil)))))) (tC (.bl false)))) (tVar 19) [19]) (tLst (tNil)))) (tRet (tC (.bl false))) (tNext))))))))))))
    (tRet (tC (.bl true)))))))))
theorem w__law_right {P : Program} {w : World} {K : PySem.W.Frag} {mg : Str → Option Value} {base : Heap} (T : Txt mg) (c__law_answers : Cl P w K mg base 3 "_law_answers" (spA K 2 R__law_answers)) (c__law_roll : Cl P w K mg base 1 "_law_roll" (spA K 2 R__law_roll)) (c__law_some : Cl P w K mg base 2 "_law_some" (spA K 2 R__law_some)) (c__law_least : Cl P w K mg base 2 "_law_least" (spA K 2 R__law_least)) (c_are_answers : Cl P w K mg base 3 "are_answers" (spA K 1 R_are_answers)) (c_missed : Cl P w K mg base 4 "missed" (spA K 2 R_missed)) (c_least_wait : Cl P w K mg base 4 "least_wait" (spA K 2 R_least_wait)) (c__law_same : Cl P w K mg base 3 "_law_same" (spSame K 2)) (c__law_missed : Cl P w K mg base 1 "_law_missed" (spA K 2 R__law_missed)) (c_wait_paper : Cl P w K mg base 4 "wait_paper" (spA K 3 R_wait_paper)) (c_is_wait_paper : Cl P w K mg base 4 "is_wait_paper" (spA K 4 R_is_wait_paper)) (c__law_is_paper : Cl P w K mg base 1 "_law_is_paper" (spA K 4 R__law_is_paper)) {f : Addr} {cdv : Value} {A : Around} {outer : List Env} {s : Shared} {H : Hp} {E : XK} (hr : Room 4 (A.deeper (envOfC "_law_right" (defScope s__law_right) s.heap.objs.size f cdv))) :
    PSs (cxOf CX0 P w K mg base ["cup", "many", "answers", "wait", "misses", "least", "told", "base", "bound", "paper", "rows", "is_so", "some", "values", "value", "odds", "at", "lower", "step", "odd"] "_law_right" (defScope s__law_right) f cdv A outer s H E).nox (defBody s__law_right) (t__law_right K w) :=
  pss_cons (ps_asg (pe_tup (pa_cons (pe_cl c__law_answers hr (by decide) rfl (pa_cons (pv 0) (pa_cons (pv 1) (pa_nil)))) (pa_cons (pe_cl c__law_roll hr (by decide) rfl (pa_cons (pv 0) (pa_cons (pe_int) (pa_nil)))) (pa_cons (pe_cl c__law_some hr (by decide) rfl (pa_cons (pv 0) (pa_cons (pe_lst (pa_cons (pe_int) (pa_cons (pe_cl c__law_roll hr (by decide) rfl (pa_cons (pv 0) (pa_cons (pe_int) (pa_nil)))) (pa_cons (pe_cl c__law_roll hr (by decide) rfl (pa_cons (pv 0) (pa_cons (pe_op o_plus (pv 1) (pe_int)) (pa_nil)))) (pa_nil))))) (pa_nil)))) (pa_nil))))) (pg_tup rfl (pgs_cons (pg_name (i := 2) sc__law_right.nd rfl (Or.inr rfl)) (pgs_cons (pg_name (i := 3) sc__law_right.nd rfl (Or.inl rfl)) (pgs_cons (pg_name (i := 4) sc__law_right.nd rfl (Or.inr rfl)) (pgs_nil))))))
    (pss_cons (ps_set (i := 5) sc__law_right.nd rfl (Or.inl rfl) (pe_cl c__law_least hr (by decide) rfl (pa_cons (pv 2) (pa_cons (pv 4) (pa_nil)))))
    (pss_cons (ps_set (i := 6) sc__law_right.nd rfl (Or.inl rfl) (pe_tup (pa_cons (pe_cl c_are_answers hr (by decide) rfl (pa_cons (pv 2) (pa_nil))) (pa_cons (pe_cl c_missed hr (by decide) rfl (pa_cons (pv 2) (pa_cons (pv 3) (pa_nil)))) (pa_cons (pe_cl c_least_wait hr (by decide) rfl (pa_cons (pv 2) (pa_cons (pv 4) (pa_nil)))) (pa_nil))))))
    (pss_cons (ps_if (pt_not (pt_val (pe_cl c__law_same hr (by decide) rfl (pa_cons (pv 6) (pa_cons (pe_tup (pa_cons (pe_bl) (pa_cons (pe_cl c__law_missed hr (by decide) rfl (pa_cons (pv 2) (pa_cons (pv 3) (pa_nil)))) (pa_cons (pv 5) (pa_nil))))) (pa_nil)))))) (pss_one (ps_ret (pe_bl))) (pss_nil))
    (pss_cons (ps_if (PW.pt (pw_and (pt_cmpR (o_isN) (pv 5) (pe_non) (nomark _)) (pw_and1 (PW.pt (pw_or (pt_cmpR (o_grt) (pe_cl c_missed hr (by decide) rfl (pa_cons (pv 2) (pa_cons (pv 5) (pa_nil)))) (pv 4) (nomark _)) (pw_or1 (PW.pt (pw_and (pt_cmpR (o_grt) (pv 5) (pe_int) (nomark _)) (pw_and1 (pt_cmpR (o_leq) (pe_cl c_missed hr (by decide) rfl (pa_cons (pv 2) (pa_cons (pe_op o_minus (pv 5) (pe_int)) (pa_nil)))) (pv 4) (nomark _))))))))))) (pss_one (ps_ret (pe_bl))) (pss_nil))
    (pss_cons (ps_set (i := 7) sc__law_right.nd rfl (Or.inl rfl) (pe_ifExp (pt_cmpR (o_isN) (pv 5) (pe_non) (nomark _)) (pv 5) (pe_op o_plus (pe_op o_pw (pe_int) (pe_int)) (pe_int))))
    (pss_cons (ps_for PassesOwn.never rfl (pi_seq (pe_tup (pa_cons (pe_int) (pa_cons (pv 7) (pa_cons (pe_callB (c_min2 rfl) (by rfl) T.b_min (by decide +kernel) (pa_cons (pe_op o_plus (pe_op o_pw (pe_int) (pe_int)) (pe_int)) (pa_cons (pe_op o_plus (pv 7) (pe_int)) (pa_nil)))) (pa_cons (pe_callB (c_max2 rfl) (by rfl) T.b_max (by decide +kernel) (pa_cons (pe_int) (pa_cons (pe_op o_minus (pv 7) (pe_int)) (pa_nil)))) (pa_cons (pe_op o_plus (pe_op o_pw (pe_int) (pe_int)) (pe_int)) (pa_nil)))))))) (pg_name (i := 8) sc__law_right.nd rfl (Or.inr rfl)) (pss_cons (ps_set (i := 9) sc__law_right.nd rfl (Or.inl rfl) (pe_cl c_wait_paper hr (by decide) rfl (pa_cons (pv 2) (pa_cons (pv 4) (pa_cons (pv 8) (pa_nil))))))
    (pss_cons (ps_setLc (i := 10) (own := [("at", 16)]) rfl sc__law_right.nd rfl rfl (sw_true rfl rfl rfl (by decide +kernel)) (pi_range1 rfl T.b_range (pa_cons (pe_callB (c_len) (by rfl) T.b_len (by decide +kernel) (pa_cons (pv 2) (pa_nil))) (pa_nil))) (blkOk_by (N := ["cup", "many", "answers", "wait", "misses", "least", "told", "base", "bound", "paper", "rows", "is_so", "some", "values", "value", "odds", "at", "lower", "step", "odd"]) (sc := defScope s__law_right) (by decide +kernel)) (fun _ _ _ _ _ => pg_name (i := 16) sc__law_right.nd rfl (Or.inl rfl)) (fun _ _ _ _ _ => pts_one (PW.pt (pw_or (pt_cmpR (o_is) (pe_ix ix_seq (pv 2) (pv 16) (fun _ _ => rfl)) (pe_non) (nomark _)) (pw_or1 (pt_cmpR (o_geq) (pe_ix ix_seq (pv 2) (pv 16) (fun _ _ => rfl)) (pv 8) (nomark _)))))) (fun _ _ _ _ _ => pv 16))
    (pss_cons (ps_if (pt_not (pt_val (pe_cl c__law_same hr (by decide) rfl (pa_cons (pv 9) (pa_cons (pe_ifExp (pt_cmpR (o_grt) (pe_callB (c_len) (by rfl) T.b_len (by decide +kernel) (pa_cons (pv 10) (pa_nil))) (pv 4) (nomark _)) (pe_callTy (c_tup) (by rfl) T.b_tuple (by decide +kernel) (pa_cons (pe_slice s_slc (pv 10) (po_none) (po_some (pe_op o_plus (pv 4) (pe_int)))) (pa_nil))) (pe_non)) (pa_nil)))))) (pss_one (ps_ret (pe_bl))) (pss_nil))
    (pss_cons (ps_set (i := 11) sc__law_right.nd rfl (Or.inl rfl) (pe_cmpR (op_eqD hr.units) (pe_lc (own := [("lower", 17)]) rfl sc__law_right.nd (pi_seq (pe_tup (pa_cons (pe_int) (pa_cons (pe_op o_minus (pv 8) (pe_int)) (pa_nil))))) (blkOk_by (N := ["cup", "many", "answers", "wait", "misses", "least", "told", "base", "bound", "paper", "rows", "is_so", "some", "values", "value", "odds", "at", "lower", "step", "odd"]) (sc := defScope s__law_right) (by decide +kernel)) (fun _ _ _ _ _ => pg_name (i := 17) sc__law_right.nd rfl (Or.inl rfl)) (fun _ _ _ _ _ => pts_one (PW.pt (pw_and (pt_chain (o_leq) (o_lss hr.units0) (pe_int) (pv 17) (pv 8)) (pw_and1 (pt_cmpR (o_leq) (pe_cl c__law_missed hr (by decide) rfl (pa_cons (pv 2) (pa_cons (pv 17) (pa_nil)))) (pv 4) (nomark _)))))) (fun _ _ _ _ _ => pv 17)) (pe_lst (pa_nil)) (nomark _)))
    (pss_cons (ps_if (PW.pt (pw_and (pt_cmpR (o_grt) (pv 8) (pe_int) (nomark _)) (pw_and1 (pt_cmpR (op_neD hr.units) (pe_cmpR (o_isN) (pv 9) (pe_non) (nomark _)) (pv 11) (nomark _))))) (pss_one (ps_ret (pe_bl))) (pss_nil))
    (pss_cons (ps_set (i := 12) sc__law_right.nd rfl (Or.inl rfl) (pe_ifExp (pt_cmpR (op_neD hr.units) (pv 2) (pe_tup (pa_nil)) (nomark _)) (pe_callTy (c_tup) (by rfl) T.b_tuple (by decide +kernel) (pa_cons (pe_callB (cr_sortedSet rfl) (by rfl) T.b_sorted (by decide +kernel) (pa_cons (pe_callTy (c_setI rfl) (by rfl) T.b_set (by decide +kernel) (pa_cons (pe_lc (own := [("step", 18)]) rfl sc__law_right.nd (pi_range1 rfl T.b_range (pa_cons (pe_op o_plus (pv 4) (pe_int)) (pa_nil))) (blkOk_by (N := ["cup", "many", "answers", "wait", "misses", "least", "told", "base", "bound", "paper", "rows", "is_so", "some", "values", "value", "odds", "at", "lower", "step", "odd"]) (sc := defScope s__law_right) (by decide +kernel)) (fun _ _ _ _ _ => pg_name (i := 18) sc__law_right.nd rfl (Or.inl rfl)) (fun _ _ _ _ _ => pts_nil) (fun _ _ _ _ _ => pe_cl c__law_roll hr (by decide) rfl (pa_cons (pv 0) (pa_cons (pe_callB (c_len) (by rfl) T.b_len (by decide +kernel) (pa_cons (pv 2) (pa_nil))) (pa_nil))))) (pa_nil))) (pa_nil))) (pa_nil))) (pe_tup (pa_nil))))
    (pss_cons (ps_set (i := 13) sc__law_right.nd rfl (Or.inl rfl) (pe_lst (pa_cons (pv 12) (pa_cons (pe_callTy (c_tup) (by rfl) T.b_tuple (by decide +kernel) (pa_cons (pe_slice s_slc (pv 10) (po_some (pe_op o_minus (pe_un un_neg (pv 4)) (pe_int))) (po_none)) (pa_nil))) (pa_cons (pe_callTy (c_tup) (by rfl) T.b_tuple (by decide +kernel) (pa_cons (pv 10) (pa_nil))) (pa_cons (pe_callTy (c_tup) (by rfl) T.b_tuple (by decide +kernel) (pa_cons (pe_slice s_slc (pv 10) (po_none) (po_some (pv 4))) (pa_nil))) (pa_cons (pe_callTy (c_tup) (by rfl) T.b_tuple (by decide +kernel) (pa_cons (pe_revL (pe_slice s_slc (pv 10) (po_none) (po_some (pe_op o_plus (pv 4) (pe_int))))) (pa_nil))) (pa_nil))))))))
    (pss_cons (ps_for PassesOwn.never rfl (pi_seq (pv 13)) (pg_name (i := 14) sc__law_right.nd rfl (Or.inl rfl)) (pss_one (ps_if (pt_not (pt_val (pe_cl c__law_same hr (by decide) rfl (pa_cons (pe_cl c_is_wait_paper hr (by decide) rfl (pa_cons (pv 2) (pa_cons (pv 4) (pa_cons (pv 8) (pa_cons (pv 14) (pa_nil)))))) (pa_cons (pe_cl c__law_is_paper hr (by decide) rfl (pa_cons (pv 2) (pa_cons (pv 4) (pa_cons (pv 8) (pa_cons (pv 14) (pa_nil)))))) (pa_nil)))))) (pss_one (ps_ret (pe_bl))) (pss_nil))))
    (pss_cons (ps_set (i := 15) sc__law_right.nd rfl (Or.inl rfl) (pe_lst (pa_cons (pe_non) (pa_cons (pe_callTy (c_lst) (by rfl) T.b_list (by decide +kernel) (pa_cons (pe_slice s_slc (pv 10) (po_none) (po_some (pe_op o_plus (pv 4) (pe_int)))) (pa_nil))) (pa_cons (pe_op o_times (pe_tup (pa_cons (pe_callB (c_len) (by rfl) T.b_len (by decide +kernel) (pa_cons (pv 2) (pa_nil))) (pa_nil))) (pe_op o_plus (pv 4) (pe_int))) (pa_cons (pe_op o_times (pe_tup (pa_cons (pe_un un_neg (pe_int)) (pa_nil))) (pe_op o_plus (pv 4) (pe_int))) (pa_cons (pe_op o_plus (pe_tup (pa_cons (pe_bl) (pa_nil))) (pe_op o_times (pe_tup (pa_cons (pe_int) (pa_nil))) (pv 4))) (pa_cons (pe_op o_times (pe_tup (pa_cons (pe_non) (pa_nil))) (pe_op o_plus (pv 4) (pe_int))) (pa_cons (pe_int) (pa_nil))))))))))
    (pss_one (ps_if (pt_cmpR (op_neD hr.units) (pe_lc (own := [("odd", 19)]) rfl sc__law_right.nd (pi_seq (pv 15)) (blkOk_by (N := ["cup", "many", "answers", "wait", "misses", "least", "told", "base", "bound", "paper", "rows", "is_so", "some", "values", "value", "odds", "at", "lower", "step", "odd"]) (sc := defScope s__law_right) (by decide +kernel)) (fun _ _ _ _ _ => pg_name (i := 19) sc__law_right.nd rfl (Or.inl rfl)) (fun _ _ _ _ _ => pts_one (pt_cmpR (o_isN) (pe_cl c_is_wait_paper hr (by decide) rfl (pa_cons (pv 2) (pa_cons (pv 4) (pa_cons (pv 8) (pa_cons (pv 19) (pa_nil)))))) (pe_bl) (nomark _))) (fun _ _ _ _ _ => pv 19)) (pe_lst (pa_nil)) (nomark _)) (pss_one (ps_ret (pe_bl))) (pss_nil)))))))))))))
    (pss_one (ps_ret (pe_bl)))))))))
/-! _law_cup -/
def t__law_cup (K : PySem.W.Frag) (w : World) : TS :=
  tSeq (tAsg (tCB (cAbs) (tCons (tOp (rIx K) (tOp (rPlus K) (tCB (cLst K) (tCons (tVar 0) (tNil))) (tLst (tCons (tC (.int 0)) (tNil)))) (tC (.int 0))) (tNil))) (gName 1))
    (tRet (tLst (tCons (tIf (tTest (tOp (rGeq) (tVar 1) (tOp (rPw) (tC (.int 10)) (tC (.int 18))))) (tOp (rFdv) (tVar 1) (tC (.int 189))) (tC (.int 0))) (tCons (tOp (rPlus K) (tOp (rMd) (tCB (cInt) (tCons (tOp (rPlus K) (tOp (rTimes K) (tVar 1) (tC (.int 449))) (tC (.int 4663))) (tNil))) (tC (.int 2077503101))) (tC (.int 317))) (tNil)))))
theorem w__law_cup {P : Program} {w : World} {K : PySem.W.Frag} {mg : Str → Option Value} {base : Heap} (T : Txt mg) {f : Addr} {cdv : Value} {A : Around} {outer : List Env} {s : Shared} {H : Hp} {E : XK} (hr : Room 0 (A.deeper (envOfC "_law_cup" (defScope s__law_cup) s.heap.objs.size f cdv))) :
    PSs (cxOf CX0 P w K mg base ["script", "cell"] "_law_cup" (defScope s__law_cup) f cdv A outer s H E).nox (defBody s__law_cup) (t__law_cup K w) :=
  pss_cons (ps_set (i := 1) sc__law_cup.nd rfl (Or.inl rfl) (pe_callB (c_abs) (by rfl) T.b_abs (by decide +kernel) (pa_cons (pe_ix ix_seq (pe_op o_plus (pe_callTy (c_lst) (by rfl) T.b_list (by decide +kernel) (pa_cons (pv 0) (pa_nil))) (pe_lst (pa_cons (pe_int) (pa_nil)))) (pe_int) (fun _ _ => rfl)) (pa_nil))))
    (pss_one (ps_ret (pe_lst (pa_cons (pe_ifExp (pt_cmpR (o_geq) (pv 1) (pe_op o_pw (pe_int) (pe_int)) (nomark _)) (pe_op o_fdv (pv 1) (pe_int)) (pe_int)) (pa_cons (pe_op o_plus (pe_op o_md (pe_callTy (c_int) (by rfl) T.b_int (by decide +kernel) (pa_cons (pe_op o_plus (pe_op o_times (pv 1) (pe_int)) (pe_int)) (pa_nil))) (pe_int)) (pe_int)) (pa_nil))))))
/-! law -/
def t_law (K : PySem.W.Frag) (w : World) : TS :=
  tSeq (tAsg (tCall (spCup K) [] E0 (tCons (tVar 0) (tNil))) (gName 1))
    (tSeq (tFor (iSeq K (tTup (tCons (tC (.int 0)) (tCons (tC (.int 4)) (tCons (tC (.int 12)) (tCons (tC (.int 40)) (tNil))))))) (gName 2) (tIfS (tNot (tB (tCall (spA K 2 R__law_right) [] E0 (tCons (tVar 1) (tCons (tVar 2) (tNil)))))) (tRet (tC (.bl false))) (tNext)))
    (tSeq (tIfS (tNot (tB (tCall (spSame K 2) [] E0 (tCons (tTup (tCons (tCall (spA K 2 R_least_wait) [] E0 (tCons (tTup (tCons (tC (.int 5)) (tNil))) (tCons (tC (.int 0)) (tNil)))) (tCons (tCall (spA K 4 R_is_wait_paper) [] E0 (tCons (tTup (tCons (tC (.int 5)) (tNil))) (tCons (tC (.int 0)) (tCons (tC (.int 5)) (tCons (tTup (tCons (tC (.int 0)) (tNil))) (tNil)))))) (tCons (tCall (spA K 4 R_is_wait_paper) [] E0 (tCons (tTup (tCons (tC (.int 5)) (tNil))) (tCons (tC (.int 0)) (tCons (tC (.int 6)) (tCons (tTup (tCons (tC (.int 0)) (tNil))) (tNil)))))) (tNil))))) (tCons (tTup (tCons (tC (.int 5)) (tCons (tC (.bl true)) (tCons (tC (.bl false)) (tNil))))) (tNil)))))) (tRet (tC (.bl false))) (tNext))
    (tSeq (tAsg (tLst (tCons (tC .non) (tCons (tLst (tNil)) (tCons (tLst (tCons (tC (.int 1)) (tNil))) (tCons (tTup (tCons (tUn (rU fun i => .int (-i)) (tC (.int 1))) (tNil))) (tCons (tTup (tCons (tOp (rPlus K) (tOp (rPw) (tC (.int 10)) (tC (.int 6))) (tC (.int 1))) (tNil))) (tCons (tTup (tCons (tC (.bl true)) (tNil))) (tCons (tTup (tCons (tC (.str "1")) (tNil))) (tCons (tOp (rTimes K) (tTup (tCons (tC (.int 0)) (tNil))) (tC (.int 2001))) (tCons (tC (.int 5)) (tNil))))))))))) (gName 3))
    (tRet (tAndV (tOp (rEqD K) (tLc (iSeq K (tVar 3)) (gName 4) (tTest (tOp (rIsNW) (tCall (spA K 1 R_are_answers) [] E0 (tCons (tVar 4) (tNil))) (tC (.bl false)))) (tVar 4) [4]) (tLst (tNil))) (tOp (rIsW) (tCall (spA K 1 R_are_answers) [] E0 (tCons (tOp (rTimes K) (tTup (tCons (tOp (rPw) (tC (.int 10)) (tC (.int 6))) (tCons (tC .non) (tCons (tC (.int 0)) (tNil))))) (tC (.int 666))) (tNil))) (tC (.bl true))))))))
theorem w_law {P : Program} {w : World} {K : PySem.W.Frag} {mg : Str → Option Value} {base : Heap} (T : Txt mg) (c__law_cup : Cl P w K mg base 1 "_law_cup" (spCup K)) (c__law_right : Cl P w K mg base 5 "_law_right" (spA K 2 R__law_right)) (c__law_same : Cl P w K mg base 3 "_law_same" (spSame K 2)) (c_least_wait : Cl P w K mg base 4 "least_wait" (spA K 2 R_least_wait)) (c_is_wait_paper : Cl P w K mg base 4 "is_wait_paper" (spA K 4 R_is_wait_paper)) (c_are_answers : Cl P w K mg base 3 "are_answers" (spA K 1 R_are_answers)) {f : Addr} {cdv : Value} {A : Around} {outer : List Env} {s : Shared} {H : Hp} {E : XK} (hr : Room 5 (A.deeper (envOfC "law" (defScope s_law) s.heap.objs.size f cdv))) :
    PSs (cxOf CX0 P w K mg base ["script", "cup", "many", "odds", "odd"] "law" (defScope s_law) f cdv A outer s H E).nox (defBody s_law) (t_law K w) :=
  pss_cons (ps_set (i := 1) sc_law.nd rfl (Or.inl rfl) (pe_cl c__law_cup hr (by decide) rfl (pa_cons (pv 0) (pa_nil))))
    (pss_cons (ps_for PassesOwn.never rfl (pi_seq (pe_tup (pa_cons (pe_int) (pa_cons (pe_int) (pa_cons (pe_int) (pa_cons (pe_int) (pa_nil))))))) (pg_name (i := 2) sc_law.nd rfl (Or.inl rfl)) (pss_one (ps_if (pt_not (pt_val (pe_cl c__law_right hr (by decide) rfl (pa_cons (pv 1) (pa_cons (pv 2) (pa_nil)))))) (pss_one (ps_ret (pe_bl))) (pss_nil))))
    (pss_cons (ps_if (pt_not (pt_val (pe_cl c__law_same hr (by decide) rfl (pa_cons (pe_tup (pa_cons (pe_cl c_least_wait hr (by decide) rfl (pa_cons (pe_tup (pa_cons (pe_int) (pa_nil))) (pa_cons (pe_int) (pa_nil)))) (pa_cons (pe_cl c_is_wait_paper hr (by decide) rfl (pa_cons (pe_tup (pa_cons (pe_int) (pa_nil))) (pa_cons (pe_int) (pa_cons (pe_int) (pa_cons (pe_tup (pa_cons (pe_int) (pa_nil))) (pa_nil)))))) (pa_cons (pe_cl c_is_wait_paper hr (by decide) rfl (pa_cons (pe_tup (pa_cons (pe_int) (pa_nil))) (pa_cons (pe_int) (pa_cons (pe_int) (pa_cons (pe_tup (pa_cons (pe_int) (pa_nil))) (pa_nil)))))) (pa_nil))))) (pa_cons (pe_tup (pa_cons (pe_int) (pa_cons (pe_bl) (pa_cons (pe_bl) (pa_nil))))) (pa_nil)))))) (pss_one (ps_ret (pe_bl))) (pss_nil))
    (pss_cons (ps_set (i := 3) sc_law.nd rfl (Or.inl rfl) (pe_lst (pa_cons (pe_non) (pa_cons (pe_lst (pa_nil)) (pa_cons (pe_lst (pa_cons (pe_int) (pa_nil))) (pa_cons (pe_tup (pa_cons (pe_un un_neg (pe_int)) (pa_nil))) (pa_cons (pe_tup (pa_cons (pe_op o_plus (pe_op o_pw (pe_int) (pe_int)) (pe_int)) (pa_nil))) (pa_cons (pe_tup (pa_cons (pe_bl) (pa_nil))) (pa_cons (pe_tup (pa_cons (pe_str) (pa_nil))) (pa_cons (pe_op o_times (pe_tup (pa_cons (pe_int) (pa_nil))) (pe_int)) (pa_cons (pe_int) (pa_nil))))))))))))
    (pss_one (ps_ret (pe_and (pe_cmpR (op_eqD hr.units) (pe_lc (own := [("odd", 4)]) rfl sc_law.nd (pi_seq (pv 3)) (blkOk_by (N := ["script", "cup", "many", "odds", "odd"]) (sc := defScope s_law) (by decide +kernel)) (fun _ _ _ _ _ => pg_name (i := 4) sc_law.nd rfl (Or.inl rfl)) (fun _ _ _ _ _ => pts_one (pt_cmpR (o_isN) (pe_cl c_are_answers hr (by decide) rfl (pa_cons (pv 4) (pa_nil))) (pe_bl) (nomark _))) (fun _ _ _ _ _ => pv 4)) (pe_lst (pa_nil)) (nomark _)) (pe_one (pe_cmpR (o_is) (pe_cl c_are_answers hr (by decide) rfl (pa_cons (pe_op o_times (pe_tup (pa_cons (pe_op o_pw (pe_int) (pe_int)) (pa_cons (pe_non) (pa_cons (pe_int) (pa_nil))))) (pe_int)) (pa_nil))) (pe_bl) (nomark _)))))))))
end K67

set_option Elab.async false
set_option linter.all false
set_option maxRecDepth 100000
set_option maxHeartbeats 4000000
namespace K67
open PySem PySem.Spec PyProof.Rows L2 Pl RZ
local macro_rules | `(tactic| walk_at "pl1") => `(tactic| first
  | with_reducible refine s_seq ?_ | with_reducible refine s_next ?_ | with_reducible refine s_ret ?_ | with_reducible refine s_retN ?_ | with_reducible refine s_if ?_
  | (with_reducible refine s_set ?h0 ?_; (case h0 => exact lt_ok rfl)) | with_reducible refine s_drop ?_ | (with_reducible refine s_asg2 ?h0 ?h1 ?_; (case h0 => exact lt_ok rfl); (case h1 => exact lt_ok rfl)) | (with_reducible refine s_asg3 ?h0 ?h1 ?h2 ?_; (case h0 => exact lt_ok rfl); (case h1 => exact lt_ok rfl); (case h2 => exact lt_ok rfl)) | (with_reducible refine s_par ?h0 ?h1 ?_; (case h0 => exact lt_ok rfl); (case h1 => exact lt_ok rfl)) | (with_reducible refine s_par3 ?h0 ?h1 ?h2 ?_; (case h0 => exact lt_ok rfl); (case h1 => exact lt_ok rfl); (case h2 => exact lt_ok rfl))
  | refine ee_var (by rfl) ?_ | refine ee_own (by rfl) ?_
  | with_reducible refine ee_int ?_ | with_reducible refine ee_bl ?_ | with_reducible refine ee_str ?_ | with_reducible refine ee_non ?_
  | with_reducible refine ee_isiI ?_ | with_reducible refine ee_isiB ?_ | with_reducible refine ee_isiT ?_ | with_reducible refine ee_isiS ?_ | with_reducible refine ee_isiL ?_
  | with_reducible refine ee_op ?_ | with_reducible refine ee_un ?_ | with_reducible refine ee_cb ?_ | with_reducible refine ee_chain ?_ | with_reducible refine ee_andV ?_ | with_reducible refine ee_orV ?_ | with_reducible refine ee_notV ?_ | with_reducible refine ee_if ?_
  | with_reducible refine ee_tup ?_ | with_reducible refine el_lst ?_ | with_reducible refine ed_nil ?_ | with_reducible refine ed_cons ?_ | with_reducible refine ea_nil ?_ | refine ea_cup (by rfl) ?_ | with_reducible refine ea_cons ?_
  | with_reducible refine et_test (m := false) ?_ | with_reducible refine et_B (m := false) ?_ | with_reducible refine et_and ?_ | with_reducible refine et_or ?_ | with_reducible refine et_not ?_
  | with_reducible refine eo_none ?_ | with_reducible refine eo_some ?_ | with_reducible refine ee_call ?_)
local macro_rules | `(tactic| walk_at "pl2") => `(tactic| first
  | with_reducible refine ar_plusI ?_ | with_reducible refine ar_minus ?_ | (with_reducible refine ar_timesI ?_ ?_) | with_reducible refine ar_fdv ?_ ?_ | with_reducible refine ar_md ?_ ?_ | with_reducible refine ar_pw ?_ ?_
  | with_reducible refine ar_eqI ?_ | with_reducible refine ar_neI ?_
  | with_reducible refine ar_lssI ?_ | with_reducible refine ar_lssS ?_ | with_reducible refine ar_leqI ?_ | with_reducible refine ar_grtI ?_ | with_reducible refine ar_geqI ?_ | with_reducible refine ar_isN ?_ | with_reducible refine ar_isNN ?_ | with_reducible refine ar_isB ?_ | with_reducible refine ar_isNB ?_
  | with_reducible refine ar_plusT ?_ ?_ | with_reducible refine ar_plusS ?_ ?_ | with_reducible refine ar_timesT ?_ ?_ ?_ ?_ | with_reducible refine ar_inC ?_ | with_reducible refine ar_notInC ?_ | with_reducible refine au_neg ?_
  | with_reducible refine ac_lenT ?_ | with_reducible refine ac_lenL ?_ | with_reducible refine ac_lenS ?_ ?_ | with_reducible refine ac_int ?_ | with_reducible refine ac_abs ?_ | with_reducible refine ac_max2 ?_ | with_reducible refine ac_min2 ?_ | with_reducible refine ac_tupL ?_ | with_reducible refine ac_tupT ?_ | with_reducible refine ac_strS ?_
  | refine itet ?_ | refine itef ?_ | with_reducible refine iten ?_ | exact ⟨_, rfl, by assumption⟩ | (with_reducible refine ⟨_, rfl, ?_⟩) | (with_reducible refine ⟨_, _, rfl, ?_⟩) | (with_reducible refine ⟨_, _, _, rfl, ?_⟩))
local macro_rules | `(tactic| walk_at "pl") => `(tactic| repeat (first | walk_at "pl1" | walk_at "pl2"))
theorem kk {k : Dt → Prop} {d d' : Dt} (h : k d) (e : d' = d) : k d' := e ▸ h
theorem nlk {k : Dt → Prop} {d d' : Dt} (n : Pl.nl d = true) (h : k d) (e : d' = d) : Pl.nl d' = true ∧ k d' := by rw [e]; exact ⟨n, h⟩
theorem body_is_whole (d : Dt) (lo hi : Int) (k : Dt → Prop) (C : Cxt) (w : World) (hk : k (.bool (isWhole d lo hi))) : B4 C (t_is_whole C.K w) [some (.dat d), some (.dat (.int lo)), some (.dat (.int hi))] k := by
  unfold t_is_whole B4
  cases d with
  | int i =>
    walk_at "pl"
    refine ited (fun h => ?_) (fun h => ?_)
    · walk_at "pl"
      exact nlk rfl hk (by simp [isWhole, h])
    · exact nlk rfl hk (by simp [isWhole, h])
  | bool b =>
    walk_at "pl"
    exact nlk rfl hk (by simp [isWhole])
  | _ =>
    walk_at "pl"
    exact nlk rfl hk (by simp [isWhole])
theorem nl_ans (o : Option Int) : Pl.nl (ans o) = true := by cases o <;> rfl
theorem nlAll_ans : ∀ os : List (Option Int), nlAll (os.map ans) = true
  | [] => rfl
  | o :: os => by rw [List.map_cons, nlAll, nl_ans, nlAll_ans os] <;> rfl
theorem body_need_number (n lo hi : Int) (h1 : lo ≤ n) (h2 : n ≤ hi) (k : Dt → Prop) (C : Cxt) (w : World) (hk : k .none) : B4 C (t_need_number C.K w) [some (.dat (.int n)), some (.dat (.int lo)), some (.dat (.int hi))] k := by
  unfold t_need_number B4
  walk_at "pl"
  refine ⟨rfl, _, _, _, rfl, ?_⟩
  refine ⟨_, rfl, ?_⟩
  simp only [isWhole, h1, h2, decide_true, Bool.and_true]
  walk_at "pl"
  exact hk
theorem body_is_miss (o : Option Int) (w0 : Int) (k : Dt → Prop) (C : Cxt) (w : World) (hk : k (.bool (miss o w0))) : B4 C (t_is_miss C.K w) [some (.dat (ans o)), some (.dat (.int w0))] k := by
  unfold t_is_miss B4
  cases o with
  | none =>
    unfold ans
    walk_at "pl"
    exact nlk rfl hk rfl
  | some x =>
    unfold ans
    walk_at "pl"
    exact nlk rfl hk rfl
theorem isWhole_ok {x lo hi : Int} (h1 : lo ≤ x) (h2 : x ≤ hi) : isWhole (.int x) lo hi = true := by simp [isWhole, h1, h2]
theorem nlAll_ints : ∀ ns : List Int, nlAll (ns.map .int) = true
  | [] => rfl
  | n :: ns => by rw [List.map_cons, nlAll, nlAll_ints ns] <;> rfl
theorem shaped_ints (ns : List Int) : SeqAt.shaped (.list (ns.map .int)) = true := by
  have h1 : ∀ ns : List Int, PyData.canLayAll0 (ns.map .int) = true := fun ns => by
    induction ns with
    | nil => rfl
    | cons n ns ih => rw [List.map_cons, PyData.canLayAll0, ih] <;> rfl
  have h2 : ∀ ns : List Int, PyData.depthAll (ns.map .int) ≤ 1 := fun ns => by
    induction ns with
    | nil => simp [PyData.depthAll]
    | cons n ns ih =>
      rw [List.map_cons]
      simp only [PyData.depthAll, PyData.depth]
      omega
  have h3 := h2 ns
  unfold SeqAt.shaped
  rw [Bool.and_eq_true]
  exact ⟨by rw [PyData.canLay0]; exact h1 ns, decide_eq_true (by simp only [PyData.depth]; omega)⟩
theorem rngI_mem {lo : Int} {n : Nat} {x : Int} : x ∈ rngI lo n ↔ lo ≤ x ∧ x < lo + (n : Int) := by
  unfold rngI
  rw [List.mem_map]
  constructor
  · rintro ⟨a, ha, rfl⟩
    rw [List.mem_range] at ha
    omega
  · rintro ⟨h1, h2⟩
    exact ⟨(x - lo).toNat, by rw [List.mem_range]; omega, by omega⟩
theorem cmL {i j : Int} (h1 : -1000000 ≤ i) (h2 : i ≤ 1000000) : CMul i j := .inl ⟨by omega, by omega⟩
theorem cmR {i j : Int} (h1 : -1000000 ≤ j) (h2 : j ≤ 1000000) : CMul i j := .inr ⟨by omega, by omega⟩
def somes (os : List (Option Int)) : List Int := os.filterMap id
theorem somes_mem {os : List (Option Int)} {x : Int} : x ∈ somes os ↔ some x ∈ os := by
  unfold somes
  rw [List.mem_filterMap]
  exact ⟨fun ⟨a, h1, h2⟩ => by rw [← h2]; exact h1, fun h => ⟨some x, h, rfl⟩⟩
def oI : Dt → Option Dt
  | .none => none
  | d => some d
theorem oI_map : ∀ os : List (Option Int), (os.map ans).filterMap oI = (somes os).map .int
  | [] => rfl
  | none :: os => oI_map os
  | some x :: os => by
    show PyData.int x :: (os.map ans).filterMap oI = PyData.int x :: (somes os).map .int
    rw [oI_map os]
theorem fdivE (a : Int) {r : Int} (h : 0 ≤ r) : a.fdiv r = a / r := Int.fdiv_eq_ediv_of_nonneg a h
theorem fm_lo {a b : Int} (h : 0 < b) : 0 ≤ a.fmod b := Int.fmod_nonneg_of_pos a h
theorem fm_hi {a b : Int} (h : 0 < b) : a.fmod b < b := Int.fmod_lt_of_pos a h
theorem fd_lo {a b : Int} (h1 : 0 ≤ a) (h : 0 < b) : 0 ≤ a.fdiv b := by rw [fdivE a (by omega)]; exact Int.ediv_nonneg h1 (by omega)
theorem body_law_roll (many : Int) (h1 : 1 ≤ many) (h2 : many ≤ 1000000) (k : Dt → Prop) (C : Cxt) (w : World) (hk : ∀ r, 0 ≤ r → r < many → k (.int r)) : B4 C (t__law_roll C.K w) [some .cup, some (.dat (.int many)), none, none] k := by
  unfold t__law_roll B4
  refine s_seq ?_
  refine s_if ?_
  refine et_test (m := false) ?_
  refine ee_op ?_
  refine ee_cup0 rfl fun x hx => ?_
  walk_at "pl"
  refine ited (fun h => ?_) (fun h => ?_)
  · refine s_seq ?_
    refine s_set (lt_ok rfl) ?_
    refine ee_op ?_
    refine ee_cb ?_
    refine ed_cons ?_
    refine ee_cup0 rfl fun x hx => ?_
    walk_at "pl"
    · omega
    walk_at "pl"
    refine s_cup0 rfl ?_
    refine ee_op ?_
    refine ee_cup0 rfl fun y hy => ?_
    walk_at "pl"
    · exact ⟨by omega, by omega⟩
    walk_at "pl"
    refine ⟨fd_lo hy (by omega), ?_⟩
    walk_at "pl"
    exact ⟨rfl, hk _ (fm_lo (by omega)) (fm_hi (by omega))⟩
  · refine s_next ?_
    refine s_seq ?_
    refine s_cup1 rfl ?_
    refine ee_op ?_
    refine ee_cb ?_
    refine ed_cons ?_
    refine ee_op ?_
    refine ee_op ?_
    refine ee_cup1 rfl fun y hy1 hy2 => ?_
    walk_at "pl"
    · exact cmR (by omega) (by omega)
    walk_at "pl"
    · decide
    walk_at "pl"
    refine ⟨fm_lo (by decide), Int.lt_trans (fm_hi (by decide)) (by decide), ?_⟩
    refine s_seq ?_
    refine s_set (lt_ok rfl) ?_
    refine ee_op ?_
    refine ee_cb ?_
    refine ed_cons ?_
    refine ee_op ?_
    refine ee_cup1 rfl fun y hy1 hy2 => ?_
    refine ee_op ?_
    refine ee_cup1 rfl fun z hz1 hz2 => ?_
    walk_at "pl"
    · exact .inl ⟨by omega, by omega⟩
    walk_at "pl"
    · decide
    walk_at "pl"
    · exact ⟨by decide, by decide⟩
    walk_at "pl"
    · omega
    exact ⟨rfl, hk _ (fm_lo (by omega)) (fm_hi (by omega))⟩
theorem atI_of {ds : List Dt} {r : Int} (h1 : 0 ≤ r) (h2 : r < ((ds.length : Nat) : Int)) : ∃ d, L2.atI ds r = some d ∧ d ∈ ds := by
  obtain ⟨n, rfl⟩ : ∃ n : Nat, r = (n : Int) := ⟨r.toNat, by omega⟩
  have h3 : n < ds.length := by omega
  exact ⟨ds[n], atI_nat' (List.getElem?_eq_getElem h3), List.getElem_mem h3⟩
theorem body_law_some (ds : List Dt) (h1 : ds ≠ []) (h2 : ds.length ≤ 1000) (hn : nlAll ds = true) (k : Dt → Prop) (C : Cxt) (w : World) (hk : ∀ d, d ∈ ds → k d) : B4 C (t__law_some C.K w) [some .cup, some (.dat (.list ds))] k := by
  unfold t__law_some B4
  walk_at "pl"
  have hl : 0 < ds.length := List.length_pos_iff.mpr h1
  refine ⟨rfl, _, rfl, by omega, by omega, fun r r1 r2 => ?_⟩
  obtain ⟨d, e, hd⟩ := atI_of r1 r2
  exact ar_ixL e ⟨nlAll_mem hn hd, hk d hd⟩
theorem body_law_answers (many : Int) (h1 : 0 ≤ many) (h2 : many ≤ 1000) (k : Dt → Prop) (C : Cxt) (w : World) (hk : ∀ os : List (Option Int), ((os.length : Nat) : Int) ≤ many → (∀ x : Int, some x ∈ os → 0 ≤ x ∧ x < 1000) → k (anss os)) :
    B4 C (t__law_answers C.K w) [some .cup, some (.dat (.int many)), none, none] k := by
  unfold t__law_answers B4
  refine s_seq (s_set (lt_ok rfl) (ee_call (ea_cup rfl (ea_cons (ee_new ?_)))))
  walk_at "pl"
  refine ⟨le_ok rfl, ?_⟩
  walk_at "pl"
  refine ⟨rfl, _, rfl, by simp, by decide, rfl, fun d hd => ?_⟩
  have hd : ∃ most : Int, d = .int most ∧ 1 ≤ most ∧ most ≤ 1000 := by
    simp only [List.mem_cons, List.not_mem_nil, or_false] at hd
    rcases hd with z | z | z <;> exact ⟨_, z, by decide, by decide⟩
  obtain ⟨most, rfl, m1, m2⟩ := hd
  refine s_ret (ee_cb (ed_cons (ee_new ?_)))
  refine el_lcR (vs := [3]) (.name 3) (by decide) (fun y => ∃ o : Option Int, y = ans o ∧ ∀ x, o = some x → 0 ≤ x ∧ x < 1000) ?_
  refine ei_rng1 ?_
  walk_at "pl"
  refine ⟨rfl, _, rfl, by omega, by omega, fun n n1 n2 => ?_⟩
  walk_at "pl"
  refine ⟨by omega, by omega, by unfold rng; rw [List.length_map, List.length_range]; omega, fun d hd => ?_, fun ys hl hy hn => ?_⟩
  · refine ⟨_, rfl, ?_⟩
    walk_at "pl"
    refine ⟨rfl, _, rfl, by omega, by omega, fun z z1 z2 => ?_⟩
    walk_at "pl"
    refine ited (fun h => ?_) (fun h => ?_)
    · walk_at "pl"
      exact ⟨rfl, none, rfl, fun x e => by cases e⟩
    · walk_at "pl"
      refine ⟨rfl, _, rfl, by omega, by omega, fun x x1 x2 => ?_⟩
      exact ⟨rfl, some x, rfl, fun x' e => by cases e; omega⟩
  · have ho : ∃ os : List (Option Int), ys = os.map ans ∧ ∀ x : Int, some x ∈ os → 0 ≤ x ∧ x < 1000 := by
      clear hl hn
      induction ys with
      | nil => exact ⟨[], rfl, fun x e => by cases e⟩
      | cons y ys ih =>
        obtain ⟨os, e1, e2⟩ := ih fun z hz => hy z (List.mem_cons_of_mem _ hz)
        obtain ⟨o, e3, e4⟩ := hy y List.mem_cons_self
        refine ⟨o :: os, by rw [List.map_cons, e1, e3], fun x hx => ?_⟩
        rcases List.mem_cons.mp hx with z | z
        · exact e4 x z.symm
        · exact e2 x z
    obtain ⟨os, e1, e2⟩ := ho
    subst e1
    walk_at "pl"
    refine ⟨nlAll_ans os, hk os ?_ e2⟩
    rw [List.length_map] at hl
    rw [hl]
    unfold rng
    rw [List.length_map, List.length_range]
    omega
theorem all_true {ds : List Dt} : ∃ n : Nat, ds.filterMap (fun _ => some (PyData.bool true)) = (List.replicate n true).map PyData.bool := by
  induction ds with
  | nil => exact ⟨0, rfl⟩
  | cons d ds ih =>
    obtain ⟨n, e⟩ := ih
    exact ⟨n + 1, by rw [List.filterMap_cons, e] <;> rfl⟩
theorem rng_mem {lo : Int} {n : Nat} {d : Dt} (h : d ∈ rng lo n) : ∃ i : Nat, i < n ∧ d = .int (lo + (i : Int)) := by
  unfold rng at h
  obtain ⟨i, hi, rfl⟩ := List.mem_map.mp h
  exact ⟨i, List.mem_range.mp hi, rfl⟩
theorem mem2 {a b d : Dt} (h : d ∈ [a, b]) : d = a ∨ d = b := by simpa using h
theorem mem3 {a b c d : Dt} (h : d ∈ [a, b, c]) : d = a ∨ d = b ∨ d = c := by simpa using h
theorem ee_headL {C : Cxt} {ρ : AEnv} {i : Nat} {ns : List Int} {k : Dt → Prop} (hi : ρ[i]? = some (some (.dat (.list (ns.map .int))))) (h : k (head ns)) : EE C true (tIf (tTest (tOp (rNeD C.K) (tVar i) (tLst tNil))) (tOp (rIx C.K) (tVar i) (tC (.int 0))) (tC .non)) ρ k := by
  refine ee_if ?_
  refine et_test (m := false) ?_
  refine ee_op (ee_var hi (ee_new ?_))
  walk_at "pl"
  refine ⟨by decide, ?_⟩
  refine ar_ne (shaped_ints _) rfl ?_
  cases ns with
  | nil =>
    walk_at "pl"
    exact h
  | cons x xs =>
    walk_at "pl"
    refine ee_var hi ?_
    walk_at "pl"
    exact ar_ixL (d := .int x) (atI_nat' (n := 0) rfl) h
theorem raw_cup {K : PySem.W.Frag} {w : World} {vs : List V} {H : Hp} {Q : VK} {E : XK} (h : spCup K vs H Q E) : t__law_cup K w { nx := fun _ H' => Q .non H', rt := Q } (L2.start ["script", "cell"] vs) H := by
  obtain ⟨a, ns, rfl, hs, hl, q⟩ := h
  unfold t__law_cup
  refine te_script (i := 0) rfl hs (by omega) fun x H1 e1 => ?_
  -- cell = abs(x)
  refine ⟨x, rfl, ?_⟩
  let C : Cxt := ⟨K, none, fun _ _ _ => False, fun _ => False⟩
  have c0 : ∀ H, CupOk C.cu H := fun H c e => by cases e
  obtain ⟨cell, ec, hc0⟩ : ∃ cell : Int, (if x < 0 then -x else x) = cell ∧ 0 ≤ cell := by
    by_cases h : x < 0
    · exact ⟨-x, if_pos h, by omega⟩
    · exact ⟨x, if_neg h, by omega⟩
  rw [ec]
  have r : Rep C H1 [none, some (.dat (.int cell))] [some (.ref a), some (.int cell)] H1 := by
    refine ⟨rfl, fun i a hi => ?_, fun i _ _ hi => ?_, fun i _ hi => ?_, Ext.refl _ _, c0 _, c0 _, fun _ _ _ _ z => z.elim⟩
    · match i with
      | 0 => cases hi
      | 1 => cases hi; exact ⟨_, rfl, .int cell⟩
      | i + 2 => simp at hi
    all_goals
      obtain ⟨ds, hi⟩ := hi
      match i with
      | 0 => cases hi
      | 1 => cases hi
      | i + 2 => simp at hi
  have key : ∀ k : List Dt → Prop, (∀ x y : Int, 0 ≤ x → 0 ≤ y → y < 2147483648 → k [.int x, .int y]) → EL C false (tLst (tCons (tIf (tTest (tOp (rGeq) (tVar 1) (tOp (rPw) (tC (.int 10)) (tC (.int 18))))) (tOp (rFdv) (tVar 1) (tC (.int 189))) (tC (.int 0))) (tCons (tOp (rPlus K) (tOp (rMd) (tCB (cInt) (tCons (tOp (rPlus K) (tOp (rTimes K) (tVar 1) (tC (.int 449))) (tC (.int 4663))) (tNil))) (tC (.int 2077503101))) (tC (.int 317))) (tNil)))) [none, some (.dat (.int cell))] k := by
    intro k hk
    have tail : ∀ x : Int, 0 ≤ x → ED C false (tCons (tOp (rPlus K) (tOp (rMd) (tCB (cInt) (tCons (tOp (rPlus K) (tOp (rTimes K) (tVar 1) (tC (.int 449))) (tC (.int 4663))) (tNil))) (tC (.int 2077503101))) (tC (.int 317))) (tNil)) [none, some (.dat (.int cell))] fun xs => (PyData.int x :: xs).length ≤ 100000 ∧ k (PyData.int x :: xs) := by
      intro x hx
      refine ed_cons ?_
      refine ee_op (r := rPlus C.K) ?_
      refine ee_op ?_
      refine ee_cb ?_
      refine ed_cons ?_
      refine ee_op (r := rPlus C.K) ?_
      refine ee_op (r := rTimes C.K) ?_
      walk_at "pl"
      · exact cmR (by omega) (by omega)
      walk_at "pl"
      · decide
      walk_at "pl"
      refine ⟨by simp, ?_⟩
      have f1 := fm_lo (a := cell * 449 + 4663) (b := 2077503101) (by decide)
      have f2 := fm_hi (a := cell * 449 + 4663) (b := 2077503101) (by decide)
      exact hk _ _ hx (by omega) (by omega)
    refine el_lst ?_
    refine ed_cons ?_
    walk_at "pl"
    · exact ⟨by decide, by decide, by decide⟩
    walk_at "pl"
    refine ited (fun h => ?_) (fun h => ?_)
    · walk_at "pl"
      · exact ⟨by decide, by decide⟩
      exact tail _ (fd_lo hc0 (by decide))
    · refine ee_int ?_
      exact tail _ (by decide)
  refine key (fun ds => ∃ x y : Int, ds = [.int x, .int y] ∧ 0 ≤ x ∧ 0 ≤ y ∧ y < 2147483648) (fun x y h1 h2 h3 => ⟨x, y, rfl, h1, h2, h3⟩) H1 _ H1 Q r fun p vs ds H2 ⟨x, y, hd, h1, h2, h3⟩ e2 _ hp hp' hv => ?_
  subst hd
  obtain ⟨v, u, rfl, hv1, hv2⟩ := two2 hv
  cases hv1
  cases hv2
  have np : H p = none := by
    cases hh : H p with
    | none => rfl
    | some o => rw [e1 _ _ hh] at hp; cases hp
  exact q p x y H2 np h1 h2 h3 hp' fun b o hb => e2 b o (fun z => by cases z) (e1 b o hb)
def spLaw (K : PySem.W.Frag) : Sp := fun vs H Q _ => ∃ (a : Addr) (ns : List Int), vs = [.ref a] ∧ SqL K H a (ns.map V.int) ∧ ns.length ≤ 63 ∧ ∀ H', Q (.bl true) H'
theorem raw_end {C : Cxt} {t : TS} {ρ : AEnv} {H0 H : Hp} {σ : L2.St} {D : Ends} (h : S4 C t ρ (fun _ => False) (fun d => d = .bool true) (fun _ => False) (fun _ => False)) (r : Rep C H0 ρ σ H) (q : ∀ H', D.rt (.bl true) H') : t D σ H :=
  h H0 σ H D r ⟨fun _ _ _ z => z.elim, fun v d H' hd _ _ hv => by
    have hd : d = .bool true := hd
    subst hd
    cases hv
    exact q H', fun _ _ _ z => z.elim, fun _ _ _ z => z.elim⟩
theorem waits_one : ∀ {xs ys : List Int}, xs.Pairwise (· < ·) → ys.Pairwise (· < ·) → (∀ z : Int, z ∈ xs ↔ z ∈ ys) → xs = ys
  | [], [], _, _, _ => rfl
  | [], y :: ys, _, _, h => by have := (h y).mpr List.mem_cons_self; cases this
  | x :: xs, [], _, _, h => by have := (h x).mp List.mem_cons_self; cases this
  | x :: xs, y :: ys, p, q, h => by
    rw [List.pairwise_cons] at p q
    have e : x = y := by
      rcases List.mem_cons.mp ((h x).mp List.mem_cons_self) with z | z
      · exact z
      · rcases List.mem_cons.mp ((h y).mpr List.mem_cons_self) with z2 | z2
        · exact z2.symm
        · have := q.1 x z
          have := p.1 y z2
          omega
    subst e
    rw [waits_one p.2 q.2 fun z => ?_]
    constructor
    · intro hz
      rcases List.mem_cons.mp ((h z).mp (List.mem_cons_of_mem _ hz)) with e | e
      · have := p.1 z hz
        omega
      · exact e
    · intro hz
      rcases List.mem_cons.mp ((h z).mpr (List.mem_cons_of_mem _ hz)) with e | e
      · have := q.1 z hz
        omega
      · exact e
theorem waits_eq {os : List (Option Int)} {xs ys : List Int} (hx : Waits os xs) (hy : Waits os ys) : xs = ys := waits_one hx.1 hy.1 fun z => by rw [hx.2 z, hy.2 z]
/-! ### many alike -/
theorem body_law_same (n : Nat) (d : Dt) (hp : plainD n d) (k : Dt → Prop) (C : Cxt) (w : World) (hk : k (.bool true)) : B4 C (t__law_same C.K w (spSame C.K n)) [some (.dat d), some (.dat d), none] k := by
  unfold t__law_same B4
  cases d with
  | int i =>
    walk_at "pl"
    exact nlk rfl hk (by simp)
  | none =>
    walk_at "pl"
    exact nlk rfl hk rfl
  | bool b =>
    cases b <;> (walk_at "pl"; exact nlk rfl hk rfl)
  | tuple xs =>
    cases n with
    | zero => cases hp
    | succ n =>
      rcases hp with hp | ⟨ys, e, hz, hp⟩
      · cases hp
      cases e
      walk_at "pl"
      rw [decide_eq_true (show (((xs.length : Nat) : Int)) = ((xs.length : Nat) : Int) from rfl)]
      walk_at "pl"
      refine ee_new ?_
      refine el_lcM (vs := [2]) (.name 2) (by decide) (fun _ => some (.bool true)) ?_
      refine ei_rng1 ?_
      walk_at "pl"
      refine ⟨by omega, by omega, by unfold rng; rw [List.length_map, List.length_range]; omega, fun d hd => ?_, fun _ => ?_⟩
      · obtain ⟨i, hi, rfl⟩ := rng_mem hd
        have hi : i < xs.length := by omega
        refine ⟨_, rfl, et_yes (itet ?_)⟩
        refine ee_call ?_
        walk_at "pl"
        rw [Int.zero_add]
        refine ar_ixT (atI_nat' (List.getElem?_eq_getElem hi)) ?_
        walk_at "pl"
        refine ar_ixT (atI_nat' (List.getElem?_eq_getElem hi)) ?_
        walk_at "pl"
        exact ⟨rfl, _, rfl, hp _ (List.getElem_mem hi), rfl, rfl⟩
      · obtain ⟨n2, e2⟩ := all_true (ds := rng 0 (((xs.length : Nat) : Int)).toNat)
        rw [e2]
        walk_at "pl"
        refine ac_all ?_
        exact nlk rfl hk (by simp)
  | _ => cases n with
    | zero => cases hp
    | succ n =>
      rcases hp with hp | ⟨ys, e, hz, hp⟩
      · cases hp
      · cases e

end K67

set_option Elab.async false
set_option linter.all false
set_option maxRecDepth 100000
set_option maxHeartbeats 4000000
namespace K67
open PySem PySem.Spec PyProof.Rows L2 Pl RZ
local macro_rules | `(tactic| walk_at "pl1") => `(tactic| first
  | with_reducible refine s_seq ?_ | with_reducible refine s_next ?_ | with_reducible refine s_ret ?_ | with_reducible refine s_retN ?_ | with_reducible refine s_if ?_
  | (with_reducible refine s_set ?h0 ?_; (case h0 => exact lt_ok rfl)) | with_reducible refine s_drop ?_ | (with_reducible refine s_asg2 ?h0 ?h1 ?_; (case h0 => exact lt_ok rfl); (case h1 => exact lt_ok rfl)) | (with_reducible refine s_asg3 ?h0 ?h1 ?h2 ?_; (case h0 => exact lt_ok rfl); (case h1 => exact lt_ok rfl); (case h2 => exact lt_ok rfl)) | (with_reducible refine s_par ?h0 ?h1 ?_; (case h0 => exact lt_ok rfl); (case h1 => exact lt_ok rfl)) | (with_reducible refine s_par3 ?h0 ?h1 ?h2 ?_; (case h0 => exact lt_ok rfl); (case h1 => exact lt_ok rfl); (case h2 => exact lt_ok rfl))
  | refine ee_var (by rfl) ?_ | refine ee_own (by rfl) ?_
  | with_reducible refine ee_int ?_ | with_reducible refine ee_bl ?_ | with_reducible refine ee_str ?_ | with_reducible refine ee_non ?_
  | with_reducible refine ee_isiI ?_ | with_reducible refine ee_isiB ?_ | with_reducible refine ee_isiT ?_ | with_reducible refine ee_isiS ?_ | with_reducible refine ee_isiL ?_
  | with_reducible refine ee_op ?_ | with_reducible refine ee_un ?_ | with_reducible refine ee_cb ?_ | with_reducible refine ee_chain ?_ | with_reducible refine ee_andV ?_ | with_reducible refine ee_orV ?_ | with_reducible refine ee_notV ?_ | with_reducible refine ee_if ?_
  | with_reducible refine ee_tup ?_ | with_reducible refine el_lst ?_ | with_reducible refine ed_nil ?_ | with_reducible refine ed_cons ?_ | with_reducible refine ea_nil ?_ | refine ea_cup (by rfl) ?_ | with_reducible refine ea_cons ?_
  | with_reducible refine et_test (m := false) ?_ | with_reducible refine et_B (m := false) ?_ | with_reducible refine et_and ?_ | with_reducible refine et_or ?_ | with_reducible refine et_not ?_
  | with_reducible refine eo_none ?_ | with_reducible refine eo_some (m := false) ?_ | with_reducible refine ee_call ?_)
local macro_rules | `(tactic| walk_at "pl2") => `(tactic| first
  | with_reducible refine ar_plusI ?_ | with_reducible refine ar_minus ?_ | (with_reducible refine ar_timesI ?_ ?_) | with_reducible refine ar_fdv ?_ ?_ | with_reducible refine ar_md ?_ ?_ | with_reducible refine ar_pw ?_ ?_
  | with_reducible refine ar_eqI ?_ | with_reducible refine ar_neI ?_
  | with_reducible refine ar_lssI ?_ | with_reducible refine ar_lssS ?_ | with_reducible refine ar_leqI ?_ | with_reducible refine ar_grtI ?_ | with_reducible refine ar_geqI ?_ | with_reducible refine ar_isN ?_ | with_reducible refine ar_isNN ?_ | with_reducible refine ar_isB ?_ | with_reducible refine ar_isNB ?_
  | with_reducible refine ar_plusT ?_ ?_ | with_reducible refine ar_plusS ?_ ?_ | with_reducible refine ar_timesT ?_ ?_ ?_ ?_ | with_reducible refine ar_inC ?_ | with_reducible refine ar_notInC ?_ | with_reducible refine au_neg ?_
  | with_reducible refine ac_lenT ?_ | with_reducible refine ac_lenL ?_ | with_reducible refine ac_lenS ?_ ?_ | with_reducible refine ac_int ?_ | with_reducible refine ac_abs ?_ | with_reducible refine ac_max2 ?_ | with_reducible refine ac_min2 ?_ | with_reducible refine ac_tupL ?_ | with_reducible refine ac_tupT ?_ | with_reducible refine ac_strS ?_
  | refine itet ?_ | refine itef ?_ | with_reducible refine iten ?_ | exact ⟨_, rfl, by assumption⟩ | (with_reducible refine ⟨_, rfl, ?_⟩) | (with_reducible refine ⟨_, _, rfl, ?_⟩) | (with_reducible refine ⟨_, _, _, rfl, ?_⟩))
local macro_rules | `(tactic| walk_at "pl") => `(tactic| repeat (first | walk_at "pl1" | walk_at "pl2"))
section
variable {C : Cxt} {ρ : AEnv} {te ta : TE} {m : Bool} {k : Dt → Prop}
theorem mapB (p : Dt → Bool) (xs : List Dt) : xs.filterMap (fun d => some (PyData.bool (p d))) = (xs.map p).map .bool := by
  induction xs with
  | nil => rfl
  | cons x xs ih => rw [List.filterMap_cons, List.map_cons, List.map_cons, ih]
theorem allB (p : Dt → Bool) (xs : List Dt) : (xs.map p).all id = xs.all p := by
  rw [List.all_map] <;> rfl
theorem ee_allLc {wi : TI} {g : TG} {vs js : List Nat} {f : Dt → AEnv → Option AEnv} (hg : TgOk C g js f) (hs : ∀ j ∈ js, j ∈ vs) (p : Dt → Bool)
    (h : EI C wi ρ fun ds => ds.length ≤ 100000 ∧ (∀ d, d ∈ ds → ∃ ρ2, f d (wipeA ρ vs) = some ρ2 ∧ EE C false te ρ2 fun y => y = .bool (p d)) ∧ k (.bool (ds.all p))) : EE C m (tCB (rAll C.K) (tCons (tLc wi g tYes te vs) tNil)) ρ k := by
  refine ee_cb (ed_cons (ee_new (el_lcM hg hs (fun d => some (.bool (p d))) ?_)))
  refine fun H0 σ H R r q => h H0 σ H R r fun J ds H' ⟨h1, h2, h3⟩ => q J ds H' ⟨h1, fun d hd => ?_, fun _ => ?_⟩
  · obtain ⟨ρ2, h4, h5⟩ := h2 d hd
    exact ⟨ρ2, h4, et_yes (itet (h5.imp fun y hy => by subst hy; exact ⟨rfl, rfl⟩))⟩
  · rw [mapB]
    refine ed_nil (ac_all ?_)
    rw [allB]
    exact h3
def dO (p : Option Int → Bool) : Dt → Option Dt
  | .none => if p none = true then some .none else none
  | .int x => if p (some x) = true then some (.int x) else none
  | _ => none
theorem dO_map (p : Option Int → Bool) : ∀ os : List (Option Int), (os.map ans).filterMap (dO p) = (os.filter p).map ans
  | [] => rfl
  | o :: os => by
    rw [List.map_cons, List.filterMap_cons, List.filter_cons, dO_map p os]
    cases o with
    | none =>
      unfold ans dO
      cases h : p none <;> simp [h, ans]
    | some x =>
      unfold ans dO
      cases h : p (some x) <;> simp [h, ans]
theorem dO_t {p : Option Int → Bool} {o : Option Int} (h : p o = true) : dO p (ans o) = some (ans o) := by
  cases o <;> (unfold ans dO; exact if_pos h)
theorem dO_f {p : Option Int → Bool} {o : Option Int} (h : p o = false) : dO p (ans o) = none := by
  cases o <;> (unfold ans dO; exact if_neg (by rw [h]; exact Bool.false_ne_true))
theorem ar_eqNil {ns : List Int} (h : k (.bool ns.isEmpty)) : AR C (rEqD C.K) (.list (ns.map .int)) (.list []) k := ar_eq (shaped_ints ns) rfl (by
  cases ns with
  | nil => exact h
  | cons x xs => exact h)
theorem ar_neNil {ns : List Int} (h : k (.bool (!ns.isEmpty))) : AR C (rNeD C.K) (.list (ns.map .int)) (.list []) k := ar_ne (shaped_ints ns) rfl (by
  cases ns with
  | nil => exact h
  | cons x xs => exact h)
end
theorem body_is_tuple_of (d : Dt) (lo hi : Int) (k : Dt → Prop) (C : Cxt) (w : World) (hk : k (.bool (isTupleOf d lo hi))) : B4 C (t_is_tuple_of C.K w) [some (.dat d), some (.dat (.int lo)), some (.dat (.int hi))] k := by
  unfold t_is_tuple_of B4
  cases d with
  | tuple xs =>
    walk_at "pl"
    refine ited (fun h => ?_) (fun h => ?_)
    · walk_at "pl"
      exact nlk rfl hk (by simp [isTupleOf, h])
    · exact nlk rfl hk (by simp [isTupleOf, h])
  | _ =>
    walk_at "pl"
    exact nlk rfl hk rfl
theorem okAns_or (d : Dt) : isNone d = false → isWhole d 0 1000000 = okAns d := fun h => by unfold okAns; rw [h] <;> rfl
theorem body_fits_answers (d : Dt) (k : Dt → Prop) (C : Cxt) (w : World) (hk : k (.bool (fits d))) : B4 C (t_fits_answers C.K w) [some (.dat d), none] k := by
  unfold t_fits_answers B4
  walk_at "pl"
  refine ⟨rfl, _, _, _, rfl, ?_⟩
  refine ⟨_, rfl, ?_⟩
  cases hT : isTupleOf d 0 2000 with
  | false =>
    refine itef ?_
    exact nlk rfl hk (by unfold fits; rw [hT] <;> rfl)
  | true =>
    refine itet ?_
    cases d with
    | tuple xs =>
      have hl : xs.length ≤ 2000 := by
        have h2 := hT
        unfold isTupleOf at h2
        rw [Bool.and_eq_true] at h2
        have := of_decide_eq_true h2.2
        omega
      refine ee_allLc (vs := [1]) (.name 1) (by decide) okAns ?_
      refine ei_tup ?_
      walk_at "pl"
      refine ⟨by omega, fun d hd => ?_, ?_⟩
      · refine ⟨_, rfl, ?_⟩
        refine ee_orV (ee_op (ee_var rfl (ee_non (ar_isN ?_))))
        refine ⟨_, rfl, ?_⟩
        cases hn : isNone d with
        | true =>
          refine itet ?_
          unfold okAns
          rw [hn] <;> rfl
        | false =>
          refine itef ?_
          walk_at "pl"
          refine ⟨rfl, _, _, _, rfl, ?_⟩
          rw [okAns_or d hn]
      · exact nlk rfl hk (by unfold fits; rw [hT] <;> rfl)
    | _ => cases hT
theorem body_are_answers (d : Dt) (k : Dt → Prop) (C : Cxt) (w : World) (hk : k (.bool (fits d))) : B4 C (t_are_answers C.K w) [some (.dat d)] k := by
  unfold t_are_answers B4
  walk_at "pl"
  exact ⟨rfl, _, rfl, rfl, hk⟩
theorem fits_good {os : List (Option Int)} (g : Good os) : fits (anss os) = true := by
  unfold fits anss isTupleOf
  rw [Bool.and_eq_true, Bool.and_eq_true]
  refine ⟨⟨decide_eq_true (by omega), decide_eq_true (by rw [List.length_map]; have := g.1; omega)⟩, ?_⟩
  rw [List.all_eq_true]
  intro x hx
  obtain ⟨o, ho, rfl⟩ := List.mem_map.mp hx
  cases o with
  | none => rfl
  | some x =>
    obtain ⟨h1, h2⟩ := g.2 x ho
    unfold okAns
    rw [show isWhole (ans (some x)) 0 1000000 = true from isWhole_ok h1 h2]
    rfl
theorem body_need_answers (os : List (Option Int)) (g : Good os) (k : Dt → Prop) (C : Cxt) (w : World) (hk : k .none) : B4 C (t_need_answers C.K w) [some (.dat (anss os))] k := by
  unfold t_need_answers B4
  walk_at "pl"
  refine ⟨rfl, _, rfl, ?_⟩
  rw [fits_good g]
  walk_at "pl"
  exact hk
theorem cut_to {α : Type} (xs : List α) {i : Int} (h : 0 ≤ i) : cut xs none (some i) = xs.take i.toNat := by
  obtain ⟨n, rfl⟩ : ∃ n : Nat, i = (n : Int) := ⟨i.toNat, by omega⟩
  unfold cut
  rw [HT.sIx_nat, HT.sIx_none, Int.toNat_natCast]
  show (xs.drop 0).take (min n xs.length - 0) = _
  rw [List.drop_zero, Nat.sub_zero]
  by_cases hn : n ≤ xs.length
  · rw [Nat.min_eq_left hn]
  · rw [Nat.min_eq_right (by omega), List.take_length, List.take_of_length_le (by omega)]
theorem cut_from {α : Type} (xs : List α) : cut xs (some 1) none = xs.drop 1 := by
  unfold cut
  rw [show (some (1 : Int)) = some ((1 : Nat) : Int) from rfl, HT.sIx_nat, HT.sIx_none]
  by_cases hn : 1 ≤ xs.length
  · rw [Nat.min_eq_left hn, List.take_of_length_le (by rw [List.length_drop]; omega)]
  · have : xs = [] := List.length_eq_zero_iff.mp (by omega)
    subst this
    rfl
theorem cut_map {α β : Type} (f : α → β) (xs : List α) (a b : Option Int) : cut (xs.map f) a b = (cut xs a b).map f := by
  unfold cut
  rw [List.length_map, List.map_take, List.map_drop]
theorem cut_mem {α : Type} {xs : List α} {a b : Option Int} {x : α} (h : x ∈ cut xs a b) : x ∈ xs := by
  unfold cut at h
  exact List.mem_of_mem_drop (List.mem_of_mem_take h)
theorem cut_len {α : Type} (xs : List α) (a b : Option Int) : (cut xs a b).length ≤ xs.length := by
  unfold cut
  rw [List.length_take, List.length_drop]
  omega
def pairLt : Dt → Bool
  | .tuple [.int a, .int b] => decide (a < b)
  | _ => false
theorem rising_all : ∀ (as bs : List Int), (zipD (as.map .int) (bs.map .int)).all pairLt = (List.zipWith (fun a b => decide (a < b)) as bs).all id
  | [], bs => by simp [zipD]
  | a :: as, [] => by simp [zipD]
  | a :: as, b :: bs => by
    have ih := rising_all as bs
    unfold zipD at ih ⊢
    rw [List.map_cons, List.map_cons, List.zipWith_cons_cons, List.zipWith_cons_cons, List.all_cons, List.all_cons, ih] <;> rfl
theorem body_is_rising (ns : List Int) (hz : ns.length ≤ 100000) (k : Dt → Prop) (C : Cxt) (w : World) (hk : k (.bool (rising ns))) : B4 C (t_is_rising C.K w) [some (.dat (.tuple (ns.map .int))), none, none] k := by
  unfold t_is_rising B4
  refine s_ret ?_
  refine ee_allLc (vs := [1, 2]) (js := [1, 2]) (.tup 2 (.cons (.name 1) (.cons (.name 2) .nil))) (by decide) pairLt ?_
  refine ei_zip ?_
  refine ed_cons (ee_var rfl (ed_cons (ee_slT ?_)))
  walk_at "pl"
  refine ⟨_, _, .inl rfl, ?_⟩
  rw [cut_from, ← List.map_drop]
  refine ⟨?_, fun d hd => ?_, ?_⟩
  · unfold zipD
    rw [List.length_zipWith, List.length_map]
    omega
  · unfold zipD at hd
    have hp : ∃ a b : Int, d = .tuple [.int a, .int b] := by
      clear hk
      generalize ns.drop 1 = bs at hd
      induction ns generalizing bs with
      | nil => simp at hd
      | cons n ns ih =>
        cases bs with
        | nil => simp at hd
        | cons b bs =>
          rw [List.map_cons, List.map_cons, List.zipWith_cons_cons] at hd
          rcases List.mem_cons.mp hd with z | z
          · exact ⟨_, _, z⟩
          · exact ih (by simp at hz; omega) _ z
    obtain ⟨a, b, rfl⟩ := hp
    refine ⟨_, rfl, ?_⟩
    walk_at "pl"
    rfl
  · rw [rising_all]
    exact nlk rfl hk rfl
end K67

set_option Elab.async false
set_option linter.all false
set_option maxRecDepth 100000
set_option maxHeartbeats 4000000
namespace K67
open PySem PySem.Spec PyProof.Rows L2 Pl RZ
local macro_rules | `(tactic| walk_at "pl1") => `(tactic| first
  | with_reducible refine s_seq ?_ | with_reducible refine s_next ?_ | with_reducible refine s_ret ?_ | with_reducible refine s_retN ?_ | with_reducible refine s_if ?_
  | (with_reducible refine s_set ?h0 ?_; (case h0 => exact lt_ok rfl)) | with_reducible refine s_drop ?_ | (with_reducible refine s_asg2 ?h0 ?h1 ?_; (case h0 => exact lt_ok rfl); (case h1 => exact lt_ok rfl)) | (with_reducible refine s_asg3 ?h0 ?h1 ?h2 ?_; (case h0 => exact lt_ok rfl); (case h1 => exact lt_ok rfl); (case h2 => exact lt_ok rfl)) | (with_reducible refine s_par ?h0 ?h1 ?_; (case h0 => exact lt_ok rfl); (case h1 => exact lt_ok rfl)) | (with_reducible refine s_par3 ?h0 ?h1 ?h2 ?_; (case h0 => exact lt_ok rfl); (case h1 => exact lt_ok rfl); (case h2 => exact lt_ok rfl))
  | refine ee_var (by rfl) ?_ | refine ee_own (by rfl) ?_
  | with_reducible refine ee_int ?_ | with_reducible refine ee_bl ?_ | with_reducible refine ee_str ?_ | with_reducible refine ee_non ?_
  | with_reducible refine ee_isiI ?_ | with_reducible refine ee_isiB ?_ | with_reducible refine ee_isiT ?_ | with_reducible refine ee_isiS ?_ | with_reducible refine ee_isiL ?_
  | with_reducible refine ee_op ?_ | with_reducible refine ee_un ?_ | with_reducible refine ee_cb ?_ | with_reducible refine ee_chain ?_ | with_reducible refine ee_andV ?_ | with_reducible refine ee_orV ?_ | with_reducible refine ee_notV ?_ | with_reducible refine ee_if ?_
  | with_reducible refine ee_tup ?_ | with_reducible refine el_lst ?_ | with_reducible refine ed_nil ?_ | with_reducible refine ed_cons ?_ | with_reducible refine ea_nil ?_ | refine ea_cup (by rfl) ?_ | with_reducible refine ea_cons ?_
  | with_reducible refine et_test (m := false) ?_ | with_reducible refine et_B (m := false) ?_ | with_reducible refine et_and ?_ | with_reducible refine et_or ?_ | with_reducible refine et_not ?_
  | with_reducible refine eo_none ?_ | with_reducible refine eo_some (m := false) ?_ | with_reducible refine ee_call ?_)
local macro_rules | `(tactic| walk_at "pl2") => `(tactic| first
  | with_reducible refine ar_plusI ?_ | with_reducible refine ar_minus ?_ | (with_reducible refine ar_timesI ?_ ?_) | with_reducible refine ar_fdv ?_ ?_ | with_reducible refine ar_md ?_ ?_ | with_reducible refine ar_pw ?_ ?_
  | with_reducible refine ar_eqI ?_ | with_reducible refine ar_neI ?_
  | with_reducible refine ar_lssI ?_ | with_reducible refine ar_lssS ?_ | with_reducible refine ar_leqI ?_ | with_reducible refine ar_grtI ?_ | with_reducible refine ar_geqI ?_ | with_reducible refine ar_isN ?_ | with_reducible refine ar_isNN ?_ | with_reducible refine ar_isB ?_ | with_reducible refine ar_isNB ?_
  | with_reducible refine ar_plusT ?_ ?_ | with_reducible refine ar_plusS ?_ ?_ | with_reducible refine ar_timesT ?_ ?_ ?_ ?_ | with_reducible refine ar_inC ?_ | with_reducible refine ar_notInC ?_ | with_reducible refine au_neg ?_
  | with_reducible refine ac_lenT ?_ | with_reducible refine ac_lenL ?_ | with_reducible refine ac_lenS ?_ ?_ | with_reducible refine ac_int ?_ | with_reducible refine ac_abs ?_ | with_reducible refine ac_max2 ?_ | with_reducible refine ac_min2 ?_ | with_reducible refine ac_tupL ?_ | with_reducible refine ac_tupT ?_ | with_reducible refine ac_strS ?_
  | refine itet ?_ | refine itef ?_ | with_reducible refine iten ?_ | exact ⟨_, rfl, by assumption⟩ | (with_reducible refine ⟨_, rfl, ?_⟩) | (with_reducible refine ⟨_, _, rfl, ?_⟩) | (with_reducible refine ⟨_, _, _, rfl, ?_⟩))
local macro_rules | `(tactic| walk_at "pl") => `(tactic| repeat (first | walk_at "pl1" | walk_at "pl2"))
theorem nlq {k : Dt → Prop} {d d' : Dt} (h : k d) (e : d' = d) (n : Pl.nl d' = true) : Pl.nl d' = true ∧ k d' := ⟨n, e ▸ h⟩
theorem body_least_in (ms : List Int) (n mi : Int) (k : Dt → Prop) (C : Cxt) (w : World) (hk : k (leastIn ms n mi)) : B4 C (t_least_in C.K w) [some (.dat (.list (ms.map .int))), some (.dat (.int n)), some (.dat (.int mi)), none] k := by
  unfold t_least_in B4
  walk_at "pl"
  refine ited (fun h => ?_) (fun h => ?_)
  · walk_at "pl"
    exact nlq hk (by unfold leastIn; rw [if_pos h]) rfl
  · walk_at "pl"
    rw [List.length_map]
    refine ited (fun h2 => ?_) (fun h2 => ?_)
    · walk_at "pl"
      rw [List.length_map]
      obtain ⟨j, hj⟩ : ∃ j : Nat, (((ms.length : Nat) : Int) - 1 - (mi - n)) = (j : Int) := ⟨(((ms.length : Nat) : Int) - 1 - (mi - n)).toNat, by omega⟩
      have h3 : j < ms.length := by omega
      rw [hj]
      refine ar_ixL (d := .int ms[j]) (atI_nat' (by rw [List.getElem?_map, List.getElem?_eq_getElem h3] <;> rfl)) ?_
      exact nlq hk (by unfold leastIn; rw [if_neg h, if_pos h2, hj, Int.toNat_natCast, List.getElem?_eq_getElem h3]) rfl
    · walk_at "pl"
      exact nlq hk (by unfold leastIn; rw [if_neg h, if_neg h2]) rfl
theorem body_missed (os : List (Option Int)) (w0 : Int) (g : Good os) (h1 : 0 ≤ w0) (h2 : w0 ≤ 1000000) (k : Dt → Prop) (C : Cxt) (w : World) (hk : k (.int (missedN os w0))) : B4 C (t_missed C.K w) [some (.dat (anss os)), some (.dat (.int w0)), none] k := by
  unfold t_missed B4
  walk_at "pl"
  refine ⟨rfl, _, g, rfl, ?_⟩
  walk_at "pl"
  refine ⟨rfl, _, _, _, h1, h2, rfl, ?_⟩
  walk_at "pl"
  refine ee_new ?_
  refine el_lcM (vs := [2]) (.name 2) (by decide) (dO fun o => miss o w0) ?_
  refine ei_tup ?_
  walk_at "pl"
  refine ⟨by rw [List.length_map]; exact Nat.le_trans g.1 (by decide), fun d hd => ?_, fun _ => ?_⟩
  · obtain ⟨o, ho, rfl⟩ := List.mem_map.mp hd
    refine ⟨_, rfl, ?_⟩
    walk_at "pl"
    refine ⟨rfl, _, _, rfl, ?_⟩
    refine ⟨_, rfl, ?_⟩
    cases hm : miss o w0 with
    | true =>
      walk_at "pl"
      exact ⟨nl_ans o, dO_t hm⟩
    | false =>
      walk_at "pl"
      exact dO_f hm
  · rw [dO_map]
    walk_at "pl"
    exact nlk rfl hk (by rw [List.length_map] <;> rfl)
theorem body_law_missed (os : List (Option Int)) (w0 : Int) (g : os.length ≤ 2000) (k : Dt → Prop) (C : Cxt) (w : World) (hk : k (.int (missedN os w0))) : B4 C (t__law_missed C.K w) [some (.dat (anss os)), some (.dat (.int w0)), none] k := by
  unfold t__law_missed B4
  walk_at "pl"
  refine ee_new ?_
  refine el_lcM (vs := [2]) (.name 2) (by decide) (dO fun o => miss o w0) ?_
  refine ei_tup ?_
  walk_at "pl"
  refine ⟨by rw [List.length_map]; exact Nat.le_trans g (by decide), fun d hd => ?_, fun _ => ?_⟩
  · obtain ⟨o, ho, rfl⟩ := List.mem_map.mp hd
    refine ⟨_, rfl, ?_⟩
    walk_at "pl"
    cases o with
    | none =>
      walk_at "pl"
      exact ⟨rfl, rfl⟩
    | some x =>
      refine itef ?_
      refine et_test (m := false) (ee_op (ee_var (d := .int x) rfl ?_))
      walk_at "pl"
      refine ited (fun h => ?_) (fun h => ?_)
      · walk_at "pl"
        exact ⟨rfl, dO_t (o := some x) (decide_eq_true h)⟩
      · exact dO_f (o := some x) (decide_eq_false h)
  · rw [dO_map]
    walk_at "pl"
    exact nlk rfl hk (by rw [List.length_map] <;> rfl)
theorem somes_len (os : List (Option Int)) : (somes os).length ≤ os.length := List.length_filterMap_le _ _
theorem body_least_wait (os : List (Option Int)) (mi : Int) (g : Good os) (h1 : 0 ≤ mi) (h2 : mi ≤ 2000) (k : Dt → Prop) (C : Cxt) (w : World) (hk : ∀ ms : List Int, ms.Perm (somes os) → ms.Pairwise (· ≤ ·) → Pl.nl (leastIn ms (((os.length : Nat) : Int) - ((ms.length : Nat) : Int)) mi) = true ∧ k (leastIn ms (((os.length : Nat) : Int) - ((ms.length : Nat) : Int)) mi)) : B4 C (t_least_wait C.K w) [some (.dat (anss os)), some (.dat (.int mi)), none, none] k := by
  unfold t_least_wait B4
  walk_at "pl"
  refine ⟨rfl, _, g, rfl, ?_⟩
  walk_at "pl"
  refine ⟨rfl, _, _, _, h1, h2, rfl, ?_⟩
  refine s_seq ?_
  refine s_set (lt_ok rfl) ?_
  refine ee_new ?_
  refine el_cb ?_
  refine ed_cons ?_
  refine ee_new ?_
  refine el_lcM (vs := [3]) (.name 3) (by decide) oI ?_
  refine ei_tup ?_
  walk_at "pl"
  refine ⟨by rw [List.length_map]; exact Nat.le_trans g.1 (by decide), fun d hd => ?_, fun _ => ?_⟩
  · obtain ⟨o, ho, rfl⟩ := List.mem_map.mp hd
    refine ⟨_, rfl, ?_⟩
    walk_at "pl"
    cases o with
    | none =>
      walk_at "pl"
      rfl
    | some x =>
      walk_at "pl"
      exact ⟨rfl, rfl⟩
  rw [oI_map]
  walk_at "pl"
  refine acl_sortedI fun ms p1 p2 => ?_
  walk_at "pl"
  refine ac_lenT (xs := os.map ans) ?_
  walk_at "pl"
  refine ⟨rfl, _, _, _, rfl, ?_⟩
  rw [List.length_map, List.length_map]
  exact hk ms p1 p2
def enO (bound : Int) : Dt → Option Dt
  | .tuple [.int i, .none] => some (.int i)
  | .tuple [.int i, .int x] => if bound ≤ x then some (.int i) else none
  | _ => none
theorem enO_rows (bound : Int) : ∀ (os : List (Option Int)) (n : Nat), ((os.map ans).mapIdx fun i a => PyData.tuple [.int ((n + i : Nat) : Int), a]).filterMap (enO bound) = (rowsFrom bound (n : Int) os).map .int
  | [], n => rfl
  | o :: os, n => by
    have ih := enO_rows bound os (n + 1)
    have e1 : (fun (i : Nat) (a : Dt) => PyData.tuple [.int ((n + (i + 1) : Nat) : Int), a]) = fun (i : Nat) (a : Dt) => PyData.tuple [.int ((n + 1 + i : Nat) : Int), a] := by
      funext i a
      rw [show n + (i + 1) = n + 1 + i from by omega]
    rw [List.map_cons, List.mapIdx_cons, List.filterMap_cons, e1, ih, rowsFrom]
    have e2 : (((n + 1 : Nat) : Int)) = (n : Int) + 1 := by omega
    rw [e2]
    cases o with
    | none => rfl
    | some x =>
      have e3 : enO bound (PyData.tuple [PyData.int ((n + 0 : Nat) : Int), ans (some x)]) = if bound ≤ x then some (PyData.int ((n + 0 : Nat) : Int)) else none := rfl
      rw [e3]
      by_cases h : bound ≤ x
      · rw [if_pos h, if_pos (show big (some x) bound = true from decide_eq_true h)] <;> rfl
      · rw [if_neg h, if_neg (show ¬ big (some x) bound = true from by rw [show big (some x) bound = false from decide_eq_false h]; exact Bool.false_ne_true)]
theorem enumD_rows (bound : Int) (os : List (Option Int)) : (enumD (os.map ans)).filterMap (enO bound) = (rowsOf os bound).map .int := by
  have h := enO_rows bound os 0
  unfold enumD rowsOf
  simpa using h
theorem enumD_mem {os : List (Option Int)} {d : Dt} (h : d ∈ enumD (os.map ans)) : ∃ (i : Nat) (o : Option Int), d = .tuple [.int (i : Int), ans o] := by
  unfold enumD at h
  rw [List.mem_mapIdx] at h
  obtain ⟨i, hi, rfl⟩ := h
  rw [List.getElem_map]
  exact ⟨i, _, rfl⟩
theorem body_wait_paper (os : List (Option Int)) (mi b : Int) (g : Good os) (h1 : 0 ≤ mi) (h2 : mi ≤ 2000) (h3 : 0 ≤ b) (h4 : b ≤ 1000001) (k : Dt → Prop) (C : Cxt) (w : World) (hk : k (paperOf os mi b)) : B4 C (t_wait_paper C.K w) [some (.dat (anss os)), some (.dat (.int mi)), some (.dat (.int b)), none, none, none] k := by
  unfold t_wait_paper B4
  walk_at "pl"
  refine ⟨rfl, _, g, rfl, ?_⟩
  walk_at "pl"
  refine ⟨rfl, _, _, _, h1, h2, rfl, ?_⟩
  walk_at "pl"
  refine ⟨rfl, _, _, _, h3, h4, rfl, ?_⟩
  walk_at "pl"
  refine ee_new ?_
  refine el_lcM (vs := [4, 5]) (js := [4, 5]) (.tup 2 (.cons (.name 4) (.cons (.name 5) .nil))) (by decide) (enO b) ?_
  refine ei_enum ?_
  walk_at "pl"
  refine ⟨by unfold enumD; rw [List.length_mapIdx, List.length_map]; exact Nat.le_trans g.1 (by decide), fun d hd => ?_, fun _ => ?_⟩
  · obtain ⟨i, o, rfl⟩ := enumD_mem hd
    refine ⟨_, rfl, ?_⟩
    walk_at "pl"
    cases o with
    | none =>
      walk_at "pl"
      exact ⟨rfl, rfl⟩
    | some x =>
      refine itef ?_
      refine et_test (m := false) (ee_op (ee_var (d := .int x) rfl ?_))
      walk_at "pl"
      refine ited (fun h => ?_) (fun h => ?_)
      · walk_at "pl"
        exact ⟨rfl, if_pos h⟩
      · exact if_neg h
  · rw [enumD_rows]
    walk_at "pl"
    rw [List.length_map]
    refine ited (fun h => ?_) (fun h => ?_)
    · walk_at "pl"
      refine ee_new ?_
      refine el_sl ?_
      walk_at "pl"
      rw [cut_map, cut_to _ (by omega)]
      walk_at "pl"
      exact nlq hk (by unfold paperOf; rw [if_pos h]) (nlAll_ints _)
    · walk_at "pl"
      exact nlq hk (by unfold paperOf; rw [if_neg h]) rfl
end K67

set_option Elab.async false
set_option linter.all false
set_option maxRecDepth 100000
set_option maxHeartbeats 4000000
namespace K67
open PySem PySem.Spec PyProof.Rows L2 Pl RZ
local macro_rules | `(tactic| walk_at "pl1") => `(tactic| first
  | with_reducible refine s_seq ?_ | with_reducible refine s_next ?_ | with_reducible refine s_ret ?_ | with_reducible refine s_retN ?_ | with_reducible refine s_if ?_
  | (with_reducible refine s_set ?h0 ?_; (case h0 => exact lt_ok rfl)) | with_reducible refine s_drop ?_ | (with_reducible refine s_asg2 ?h0 ?h1 ?_; (case h0 => exact lt_ok rfl); (case h1 => exact lt_ok rfl)) | (with_reducible refine s_asg3 ?h0 ?h1 ?h2 ?_; (case h0 => exact lt_ok rfl); (case h1 => exact lt_ok rfl); (case h2 => exact lt_ok rfl)) | (with_reducible refine s_par ?h0 ?h1 ?_; (case h0 => exact lt_ok rfl); (case h1 => exact lt_ok rfl)) | (with_reducible refine s_par3 ?h0 ?h1 ?h2 ?_; (case h0 => exact lt_ok rfl); (case h1 => exact lt_ok rfl); (case h2 => exact lt_ok rfl))
  | refine ee_var (by rfl) ?_ | refine ee_own (by rfl) ?_
  | with_reducible refine ee_int ?_ | with_reducible refine ee_bl ?_ | with_reducible refine ee_str ?_ | with_reducible refine ee_non ?_
  | with_reducible refine ee_isiI ?_ | with_reducible refine ee_isiB ?_ | with_reducible refine ee_isiT ?_ | with_reducible refine ee_isiS ?_ | with_reducible refine ee_isiL ?_
  | with_reducible refine ee_op ?_ | with_reducible refine ee_un ?_ | with_reducible refine ee_cb ?_ | with_reducible refine ee_chain ?_ | with_reducible refine ee_andV ?_ | with_reducible refine ee_orV ?_ | with_reducible refine ee_notV ?_ | with_reducible refine ee_if ?_
  | with_reducible refine ee_tup ?_ | with_reducible refine el_lst ?_ | with_reducible refine ed_nil ?_ | with_reducible refine ed_cons ?_ | with_reducible refine ea_nil ?_ | refine ea_cup (by rfl) ?_ | with_reducible refine ea_cons ?_
  | with_reducible refine et_test (m := false) ?_ | with_reducible refine et_B (m := false) ?_ | with_reducible refine et_and ?_ | with_reducible refine et_or ?_ | with_reducible refine et_not ?_
  | with_reducible refine eo_none ?_ | with_reducible refine eo_some (m := false) ?_ | with_reducible refine ee_call ?_)
local macro_rules | `(tactic| walk_at "pl2") => `(tactic| first
  | with_reducible refine ar_plusI ?_ | with_reducible refine ar_minus ?_ | (with_reducible refine ar_timesI ?_ ?_) | with_reducible refine ar_fdv ?_ ?_ | with_reducible refine ar_md ?_ ?_ | with_reducible refine ar_pw ?_ ?_
  | with_reducible refine ar_eqI ?_ | with_reducible refine ar_neI ?_
  | with_reducible refine ar_lssI ?_ | with_reducible refine ar_lssS ?_ | with_reducible refine ar_leqI ?_ | with_reducible refine ar_grtI ?_ | with_reducible refine ar_geqI ?_ | with_reducible refine ar_isN ?_ | with_reducible refine ar_isNN ?_ | with_reducible refine ar_isB ?_ | with_reducible refine ar_isNB ?_
  | with_reducible refine ar_plusT ?_ ?_ | with_reducible refine ar_plusS ?_ ?_ | with_reducible refine ar_timesT ?_ ?_ ?_ ?_ | with_reducible refine ar_inC ?_ | with_reducible refine ar_notInC ?_ | with_reducible refine au_neg ?_
  | with_reducible refine ac_lenT ?_ | with_reducible refine ac_lenL ?_ | with_reducible refine ac_lenS ?_ ?_ | with_reducible refine ac_int ?_ | with_reducible refine ac_abs ?_ | with_reducible refine ac_max2 ?_ | with_reducible refine ac_min2 ?_ | with_reducible refine ac_tupL ?_ | with_reducible refine ac_tupT ?_ | with_reducible refine ac_strS ?_
  | refine itet ?_ | refine itef ?_ | with_reducible refine iten ?_ | exact ⟨_, rfl, by assumption⟩ | (with_reducible refine ⟨_, rfl, ?_⟩) | (with_reducible refine ⟨_, _, rfl, ?_⟩) | (with_reducible refine ⟨_, _, _, rfl, ?_⟩))
local macro_rules | `(tactic| walk_at "pl") => `(tactic| repeat (first | walk_at "pl1" | walk_at "pl2"))
theorem ee_lcAll {C : Cxt} {ρ ρ3 : AEnv} {te : TE} {m m2 : Bool} {k : Dt → Prop} {wi : TI} {g : TG} {vs js : List Nat} {f : Dt → AEnv → Option AEnv} (hg : TgOk C g js f) (hs : ∀ j ∈ js, j ∈ vs) (p : Dt → Bool)
    (h : EI C wi ρ fun ds => ds.length ≤ 100000 ∧ (∀ d, d ∈ ds → ∃ ρ2, f d (wipeA ρ vs) = some ρ2 ∧ EE C false te ρ2 fun y => y = .bool (p d)) ∧ k (.bool (ds.all p))) : EE C m (tLc wi g tYes te vs) ρ fun x => ED C m2 tNil ρ3 fun xs => AC C (rAll C.K) (x :: xs) k := by
  refine ee_new (el_lcM hg hs (fun d => some (.bool (p d))) ?_)
  refine fun H0 σ H R r q => h H0 σ H R r fun J ds H' ⟨h1, h2, h3⟩ => q J ds H' ⟨h1, fun d hd => ?_, fun _ => ?_⟩
  · obtain ⟨ρ2, h4, h5⟩ := h2 d hd
    exact ⟨ρ2, h4, et_yes (itet (h5.imp fun y hy => by subst hy; exact ⟨rfl, rfl⟩))⟩
  · rw [mapB]
    refine ed_nil (ac_all ?_)
    rw [allB]
    exact h3
theorem ints_back : ∀ {xs : List Dt} {lo hi : Int}, (xs.all fun x => isWhole x lo hi) = true → xs = (xs.filterMap intOf).map .int ∧ ∀ i : Int, i ∈ xs.filterMap intOf → lo ≤ i ∧ i ≤ hi
  | [], _, _, _ => ⟨rfl, fun i h => by cases h⟩
  | x :: xs, lo, hi, h => by
    rw [List.all_cons, Bool.and_eq_true] at h
    obtain ⟨e, q⟩ := ints_back h.2
    cases x with
    | int i =>
      have h1 := h.1
      unfold isWhole at h1
      rw [Bool.and_eq_true] at h1
      have l1 := of_decide_eq_true h1.1
      have l2 := of_decide_eq_true h1.2
      refine ⟨?_, fun j hj => ?_⟩
      · show _ = PyData.int i :: (xs.filterMap intOf).map .int
        rw [← e]
      · have hj : j ∈ i :: xs.filterMap intOf := hj
        rcases List.mem_cons.mp hj with z | z
        · subst z; exact ⟨l1, l2⟩
        · exact q j z
    | _ => cases h.1
def pAt (os : List (Option Int)) (b : Int) : Dt → Bool
  | .int i => okAt os b i
  | _ => false
theorem pAt_all (os : List (Option Int)) (b : Int) (ns : List Int) : (ns.map PyData.int).all (pAt os b) = ns.all (okAt os b) := by
  rw [List.all_map] <;> rfl
theorem at_ans {os : List (Option Int)} {i : Int} (h1 : 0 ≤ i) (h2 : i < ((os.length : Nat) : Int)) : ∃ o, os[i.toNat]? = some o ∧ L2.atI (os.map ans) i = some (ans o) := by
  obtain ⟨n, rfl⟩ : ∃ n : Nat, i = (n : Int) := ⟨i.toNat, by omega⟩
  have h3 : n < os.length := by omega
  refine ⟨os[n], by rw [Int.toNat_natCast]; exact List.getElem?_eq_getElem h3, atI_nat' ?_⟩
  rw [List.getElem?_map, List.getElem?_eq_getElem h3] <;> rfl
/-- answers[at] is None or answers[at] >= bound -/
theorem ee_okAt {C : Cxt} {ρ : AEnv} {i j l : Nat} {os : List (Option Int)} {b at1 : Int} {k : Dt → Prop} (hi : ρ[i]? = some (some (.dat (anss os)))) (hj : ρ[j]? = some (some (.dat (.int at1)))) (hl : ρ[l]? = some (some (.dat (.int b)))) (h1 : 0 ≤ at1) (h2 : at1 < ((os.length : Nat) : Int)) (h : k (.bool (okAt os b at1))) :
    EE C false (tOrV (tOp (rIsW) (tOp (rIx C.K) (tVar i) (tVar j)) (tC .non)) (tOp (rGeq) (tOp (rIx C.K) (tVar i) (tVar j)) (tVar l))) ρ k := by
  obtain ⟨o, e1, e2⟩ := at_ans h1 h2
  unfold okAt at h
  rw [e1] at h
  refine ee_orV (ee_op (ee_op (ee_var hi (ee_var hj (ar_ixT e2 (ee_non (ar_isN ⟨_, rfl, ?_⟩)))))))
  cases o with
  | none => exact itet h
  | some x => exact itef (ee_op (ee_op (ee_var hi (ee_var hj (ar_ixT e2 (ee_var hl (ar_geqI h)))))))
theorem et_okAt {C : Cxt} {ρ : AEnv} {i j l : Nat} {os : List (Option Int)} {b at1 : Int} {k : Bool → Prop} (hi : ρ[i]? = some (some (.dat (anss os)))) (hj : ρ[j]? = some (some (.dat (.int at1)))) (hl : ρ[l]? = some (some (.dat (.int b)))) (h1 : 0 ≤ at1) (h2 : at1 < ((os.length : Nat) : Int)) (h : k (okAt os b at1)) :
    ET C (tOr (tTest (tOp (rIsW) (tOp (rIx C.K) (tVar i) (tVar j)) (tC .non))) (tTest (tOp (rGeq) (tOp (rIx C.K) (tVar i) (tVar j)) (tVar l)))) ρ k := by
  obtain ⟨o, e1, e2⟩ := at_ans h1 h2
  unfold okAt at h
  rw [e1] at h
  refine et_or (et_test (m := false) (ee_op (ee_op (ee_var hi (ee_var hj (ar_ixT e2 (ee_non (ar_isN ⟨_, rfl, ?_⟩))))))))
  cases o with
  | none => exact itet h
  | some x => exact itef (et_test (m := false) (ee_op (ee_op (ee_var hi (ee_var hj (ar_ixT e2 (ee_var hl (ar_geqI ⟨_, rfl, h⟩))))))))
/-- answers[at] is not None and answers[at] < bound -/
theorem et_notAt {C : Cxt} {ρ : AEnv} {i j l : Nat} {os : List (Option Int)} {b at1 : Int} {k : Bool → Prop} (hi : ρ[i]? = some (some (.dat (anss os)))) (hj : ρ[j]? = some (some (.dat (.int at1)))) (hl : ρ[l]? = some (some (.dat (.int b)))) (h1 : 0 ≤ at1) (h2 : at1 < ((os.length : Nat) : Int)) (h : k (!okAt os b at1)) :
    ET C (tAnd (tTest (tOp (rIsNW) (tOp (rIx C.K) (tVar i) (tVar j)) (tC .non))) (tTest (tOp (rLss C.K) (tOp (rIx C.K) (tVar i) (tVar j)) (tVar l)))) ρ k := by
  obtain ⟨o, e1, e2⟩ := at_ans h1 h2
  unfold okAt at h
  rw [e1] at h
  refine et_and (et_test (m := false) (ee_op (ee_op (ee_var hi (ee_var hj (ar_ixT e2 (ee_non (ar_isNN ⟨_, rfl, ?_⟩))))))))
  cases o with
  | none => exact itef h
  | some x =>
    refine itet (et_test (m := false) (ee_op (ee_op (ee_var hi (ee_var hj (ar_ixT e2 (ee_var hl (ar_lssI ⟨_, rfl, ?_⟩))))))))
    have e3 : (!big (some x) b) = decide (x < b) := by
      show (!decide (b ≤ x)) = _
      by_cases z : b ≤ x
      · rw [decide_eq_true z, decide_eq_false (by omega)] <;> rfl
      · rw [decide_eq_false z, decide_eq_true (by omega)] <;> rfl
    rw [← e3]
    exact h
theorem body_is_wait_paper (os : List (Option Int)) (mi b : Int) (d : Dt) (g : Good os) (h1 : 0 ≤ mi) (h2 : mi ≤ 2000) (h3 : 0 ≤ b) (h4 : b ≤ 1000001) (k : Dt → Prop) (C : Cxt) (w : World) (hk : k (.bool (isPaper os mi b d))) :
    B4 C (t_is_wait_paper C.K w) [some (.dat (anss os)), some (.dat (.int mi)), some (.dat (.int b)), some (.dat d), none] k := by
  unfold t_is_wait_paper B4
  walk_at "pl"
  refine ⟨rfl, _, g, rfl, ?_⟩
  walk_at "pl"
  refine ⟨rfl, _, _, _, h1, h2, rfl, ?_⟩
  walk_at "pl"
  refine ⟨rfl, _, _, _, h3, h4, rfl, ?_⟩
  walk_at "pl"
  refine ⟨rfl, _, _, _, rfl, ?_⟩
  refine ⟨_, rfl, ?_⟩
  cases hT : isTupleOf d (mi + 1) (mi + 1) with
  | false =>
    walk_at "pl"
    exact nlq hk (by unfold isPaper; rw [hT] <;> rfl) rfl
  | true =>
    cases d with
    | tuple xs =>
      have hl : xs.length ≤ 2001 := by
        have h2 := hT
        unfold isTupleOf at h2
        rw [Bool.and_eq_true] at h2
        have := of_decide_eq_true h2.2
        omega
      walk_at "pl"
      refine ee_lcAll (vs := [4]) (.name 4) (by decide) (fun x => isWhole x 0 (((os.length : Nat) : Int) - 1)) ?_
      refine ei_tup ?_
      walk_at "pl"
      refine ⟨by omega, fun d hd => ?_, ?_⟩
      · refine ⟨_, rfl, ?_⟩
        walk_at "pl"
        refine ac_lenT (xs := os.map ans) ?_
        walk_at "pl"
        rw [List.length_map]
        exact ⟨rfl, _, _, _, rfl, rfl⟩
      · refine ⟨_, rfl, ?_⟩
        cases hA : (xs.all fun x => isWhole x 0 (((os.length : Nat) : Int) - 1)) with
        | false =>
          walk_at "pl"
          exact nlq hk (by unfold isPaper; rw [hT]; show _ = PyData.bool (true && ((xs.all fun x => isWhole x 0 (((os.length : Nat) : Int) - 1)) && _)); rw [hA] <;> rfl) rfl
        | true =>
          obtain ⟨ex, hin⟩ := ints_back hA
          have eP : isPaper os mi b (.tuple xs) = (rising (xs.filterMap intOf) && (xs.filterMap intOf).all (okAt os b)) := by
            unfold isPaper
            rw [hT]
            show (true && ((xs.all fun x => isWhole x 0 (((os.length : Nat) : Int) - 1)) && _)) = _
            rw [hA] <;> rfl
          rw [eP] at hk
          generalize xs.filterMap intOf = ns at hk hin ex
          subst ex
          rw [List.length_map] at hl
          walk_at "pl"
          refine ⟨rfl, _, rfl, by omega, ?_⟩
          refine ⟨_, rfl, ?_⟩
          cases hR : rising ns with
          | false =>
            rw [hR] at hk
            walk_at "pl"
            exact nlq hk rfl rfl
          | true =>
            rw [hR] at hk
            walk_at "pl"
            refine ee_lcAll (vs := [4]) (.name 4) (by decide) (pAt os b) ?_
            refine ei_tup ?_
            walk_at "pl"
            refine ⟨by rw [List.length_map]; omega, fun d hd => ?_, ?_⟩
            · obtain ⟨i, hi, rfl⟩ := List.mem_map.mp hd
              obtain ⟨q1, q2⟩ := hin i hi
              refine ⟨_, rfl, ?_⟩
              exact ee_okAt (os := os) rfl rfl rfl q1 (by omega) rfl
            · rw [pAt_all]
              exact nlq hk rfl rfl
    | _ => cases hT
end K67

set_option Elab.async false
set_option linter.all false
set_option maxRecDepth 100000
set_option maxHeartbeats 4000000
namespace K67
open PySem PySem.Spec PyProof.Rows L2 Pl RZ
local macro_rules | `(tactic| walk_at "pl1") => `(tactic| first
  | with_reducible refine s_seq ?_ | with_reducible refine s_next ?_ | with_reducible refine s_ret ?_ | with_reducible refine s_retN ?_ | with_reducible refine s_if ?_
  | (with_reducible refine s_set ?h0 ?_; (case h0 => exact lt_ok rfl)) | with_reducible refine s_drop ?_ | (with_reducible refine s_asg2 ?h0 ?h1 ?_; (case h0 => exact lt_ok rfl); (case h1 => exact lt_ok rfl)) | (with_reducible refine s_asg3 ?h0 ?h1 ?h2 ?_; (case h0 => exact lt_ok rfl); (case h1 => exact lt_ok rfl); (case h2 => exact lt_ok rfl)) | (with_reducible refine s_par ?h0 ?h1 ?_; (case h0 => exact lt_ok rfl); (case h1 => exact lt_ok rfl)) | (with_reducible refine s_par3 ?h0 ?h1 ?h2 ?_; (case h0 => exact lt_ok rfl); (case h1 => exact lt_ok rfl); (case h2 => exact lt_ok rfl))
  | refine ee_var (by rfl) ?_ | refine ee_own (by rfl) ?_
  | with_reducible refine ee_int ?_ | with_reducible refine ee_bl ?_ | with_reducible refine ee_str ?_ | with_reducible refine ee_non ?_
  | with_reducible refine ee_isiI ?_ | with_reducible refine ee_isiB ?_ | with_reducible refine ee_isiT ?_ | with_reducible refine ee_isiS ?_ | with_reducible refine ee_isiL ?_
  | with_reducible refine ee_op ?_ | with_reducible refine ee_un ?_ | with_reducible refine ee_cb ?_ | with_reducible refine ee_chain ?_ | with_reducible refine ee_andV ?_ | with_reducible refine ee_orV ?_ | with_reducible refine ee_notV ?_ | with_reducible refine ee_if ?_
  | with_reducible refine ee_tup ?_ | with_reducible refine el_lst ?_ | with_reducible refine ed_nil ?_ | with_reducible refine ed_cons ?_ | with_reducible refine ea_nil ?_ | refine ea_cup (by rfl) ?_ | with_reducible refine ea_cons ?_
  | with_reducible refine et_test (m := false) ?_ | with_reducible refine et_B (m := false) ?_ | with_reducible refine et_and ?_ | with_reducible refine et_or ?_ | with_reducible refine et_not ?_
  | with_reducible refine eo_none ?_ | with_reducible refine eo_some (m := false) ?_ | with_reducible refine ee_call ?_)
local macro_rules | `(tactic| walk_at "pl2") => `(tactic| first
  | with_reducible refine ar_plusI ?_ | with_reducible refine ar_minus ?_ | (with_reducible refine ar_timesI ?_ ?_) | with_reducible refine ar_fdv ?_ ?_ | with_reducible refine ar_md ?_ ?_ | with_reducible refine ar_pw ?_ ?_
  | with_reducible refine ar_eqI ?_ | with_reducible refine ar_neI ?_
  | with_reducible refine ar_lssI ?_ | with_reducible refine ar_lssS ?_ | with_reducible refine ar_leqI ?_ | with_reducible refine ar_grtI ?_ | with_reducible refine ar_geqI ?_ | with_reducible refine ar_isN ?_ | with_reducible refine ar_isNN ?_ | with_reducible refine ar_isB ?_ | with_reducible refine ar_isNB ?_
  | with_reducible refine ar_plusT ?_ ?_ | with_reducible refine ar_plusS ?_ ?_ | with_reducible refine ar_timesT ?_ ?_ ?_ ?_ | with_reducible refine ar_inC ?_ | with_reducible refine ar_notInC ?_ | with_reducible refine au_neg ?_
  | with_reducible refine ac_lenT ?_ | with_reducible refine ac_lenL ?_ | with_reducible refine ac_lenS ?_ ?_ | with_reducible refine ac_int ?_ | with_reducible refine ac_abs ?_ | with_reducible refine ac_max2 ?_ | with_reducible refine ac_min2 ?_ | with_reducible refine ac_tupL ?_ | with_reducible refine ac_tupT ?_ | with_reducible refine ac_strS ?_
  | refine itet ?_ | refine itef ?_ | with_reducible refine iten ?_ | exact ⟨_, rfl, by assumption⟩ | (with_reducible refine ⟨_, rfl, ?_⟩) | (with_reducible refine ⟨_, _, rfl, ?_⟩) | (with_reducible refine ⟨_, _, _, rfl, ?_⟩))
local macro_rules | `(tactic| walk_at "pl") => `(tactic| repeat (first | walk_at "pl1" | walk_at "pl2"))
/-! ### plain laws -/
theorem missed_le {os : List (Option Int)} {a b : Int} (h : a ≤ b) : missedN os b ≤ missedN os a := by
  unfold missedN
  induction os with
  | nil => exact Int.le_refl _
  | cons o os ih =>
    rw [List.filter_cons, List.filter_cons]
    have hm : miss o b = true → miss o a = true := fun z => by
      cases o with
      | none => rfl
      | some x =>
        have := of_decide_eq_true (show decide (b < x) = true from z)
        exact decide_eq_true (by omega)
    cases hb : miss o b with
    | true =>
      rw [if_pos rfl, if_pos (hm hb), List.length_cons, List.length_cons]
      omega
    | false =>
      rw [if_neg Bool.false_ne_true]
      split
      · rw [List.length_cons]; omega
      · exact ih
theorem missed_cong {os : List (Option Int)} {a b : Int} (h : ∀ o, o ∈ os → miss o a = miss o b) : missedN os a = missedN os b := by
  unfold missedN
  rw [List.filter_congr fun o ho => h o ho]
theorem missed_split (os : List (Option Int)) (w : Int) : missedN os w = ((os.length : Nat) : Int) - (((somes os).length : Nat) : Int) + ((((somes os).filter fun x => decide (w < x)).length : Nat) : Int) := by
  unfold missedN
  induction os with
  | nil => rfl
  | cons o os ih =>
    cases o with
    | none =>
      have e1 : somes (none :: os) = somes os := rfl
      rw [List.filter_cons, show miss none w = true from rfl, if_pos rfl, e1, List.length_cons, List.length_cons]
      omega
    | some x =>
      have e1 : somes (some x :: os) = x :: somes os := rfl
      have e2 : miss (some x) w = decide (w < x) := rfl
      rw [List.filter_cons, e1, List.filter_cons, e2, List.length_cons, List.length_cons]
      by_cases h : w < x
      · rw [decide_eq_true h, if_pos rfl, if_pos rfl, List.length_cons, List.length_cons]
        omega
      · rw [decide_eq_false h, if_neg Bool.false_ne_true, if_neg Bool.false_ne_true]
        omega
theorem filt_len_le {α : Type} (p : α → Bool) (xs : List α) : (xs.filter p).length ≤ xs.length := List.length_filter_le _ _
theorem filt_all {α : Type} {p : α → Bool} {xs : List α} (h : ∀ x, x ∈ xs → p x = true) : (xs.filter p).length = xs.length := by rw [List.filter_eq_self.mpr h]
theorem filt_none {α : Type} {p : α → Bool} {xs : List α} (h : ∀ x, x ∈ xs → p x = false) : (xs.filter p).length = 0 := by
  rw [List.filter_eq_nil_iff.mpr fun x hx => by rw [h x hx]; exact Bool.false_ne_true]
  rfl
theorem leastIn_least {os : List (Option Int)} {ms : List Int} {mi : Int} (p : ms.Perm (somes os)) (s : ms.Pairwise (· ≤ ·)) : Least os mi (leastIn ms (((os.length : Nat) : Int) - ((ms.length : Nat) : Int)) mi) := by
  have hs : ∀ w : Int, missedN os w = ((os.length : Nat) : Int) - ((ms.length : Nat) : Int) + (((ms.filter fun x => decide (w < x)).length : Nat) : Int) := fun w => by
    rw [missed_split, (p.filter _).length_eq, p.length_eq]
  unfold leastIn
  by_cases h : mi < ((os.length : Nat) : Int) - ((ms.length : Nat) : Int)
  · rw [if_pos h]
    exact .inl ⟨rfl, fun w _ => by rw [hs w]; omega⟩
  · rw [if_neg h]
    by_cases h2 : mi - (((os.length : Nat) : Int) - ((ms.length : Nat) : Int)) < ((ms.length : Nat) : Int)
    · rw [if_pos h2]
      obtain ⟨j, hj⟩ : ∃ j : Nat, (((ms.length : Nat) : Int) - 1 - (mi - (((os.length : Nat) : Int) - ((ms.length : Nat) : Int)))) = (j : Int) := ⟨(((ms.length : Nat) : Int) - 1 - (mi - (((os.length : Nat) : Int) - ((ms.length : Nat) : Int)))).toNat, by omega⟩
      have h3 : j < ms.length := by omega
      rw [hj, Int.toNat_natCast, List.getElem?_eq_getElem h3]
      have hsorted : ∀ (a b : Nat) (ha : a < ms.length) (hb : b < ms.length), a ≤ b → ms[a] ≤ ms[b] := fun a b ha hb hab => by
        rcases Nat.lt_or_eq_of_le hab with z | z
        · exact List.pairwise_iff_getElem.mp s a b ha hb z
        · subst z; exact Int.le_refl _
      refine .inr ⟨ms[j], rfl, .inr (somes_mem.mp (p.mem_iff.mp (List.getElem_mem h3))), ?_, fun w w0 hw => ?_⟩
      · rw [hs]
        have e : ms.filter (fun x => decide (ms[j] < x)) = (ms.take (j + 1)).filter (fun x => decide (ms[j] < x)) ++ (ms.drop (j + 1)).filter (fun x => decide (ms[j] < x)) := by
          rw [← List.filter_append, List.take_append_drop]
        have l1 : ((ms.take (j + 1)).filter (fun x => decide (ms[j] < x))).length = 0 := filt_none fun x hx => by
          obtain ⟨i, hi, rfl⟩ := List.mem_iff_getElem.mp hx
          rw [List.length_take] at hi
          rw [List.getElem_take]
          have := hsorted i j (by omega) h3 (by omega)
          exact decide_eq_false (by omega)
        have l2 := filt_len_le (fun x => decide (ms[j] < x)) (ms.drop (j + 1))
        rw [List.length_drop] at l2
        rw [e, List.length_append]
        omega
      · rw [hs]
        have e : ms.filter (fun x => decide (w < x)) = (ms.take j).filter (fun x => decide (w < x)) ++ (ms.drop j).filter (fun x => decide (w < x)) := by
          rw [← List.filter_append, List.take_append_drop]
        have l1 : ((ms.drop j).filter (fun x => decide (w < x))).length = (ms.drop j).length := filt_all fun x hx => by
          obtain ⟨i, hi, rfl⟩ := List.mem_iff_getElem.mp hx
          rw [List.length_drop] at hi
          rw [List.getElem_drop]
          have := hsorted j (j + i) h3 (by omega) (by omega)
          exact decide_eq_true (by omega)
        rw [List.length_drop] at l1
        rw [e, List.length_append]
        omega
    · rw [if_neg h2]
      refine .inr ⟨0, rfl, .inl rfl, ?_, fun w w0 hw => by omega⟩
      rw [hs]
      have := filt_len_le (fun x => decide (0 < x)) ms
      omega
theorem least_nl {os : List (Option Int)} {mi : Int} {d : Dt} (h : Least os mi d) : Pl.nl d = true := by
  rcases h with ⟨rfl, _⟩ | ⟨v, rfl, _⟩ <;> rfl
theorem least_atom {os : List (Option Int)} {mi : Int} {d : Dt} (h : Least os mi d) : atom d = true := by
  rcases h with ⟨rfl, _⟩ | ⟨v, rfl, _⟩ <;> rfl
theorem least_one {os : List (Option Int)} {mi : Int} {d e : Dt} (g : Good os) (h1 : Least os mi d) (h2 : Least os mi e) : d = e := by
  have nn : ∀ v : Int, (v = 0 ∨ some v ∈ os) → 0 ≤ v := fun v hv => by
    rcases hv with z | z
    · omega
    · exact (g.2 v z).1
  rcases h1 with ⟨rfl, a1⟩ | ⟨v, rfl, a1, a2, a3⟩
  · rcases h2 with ⟨rfl, b1⟩ | ⟨u, rfl, b1, b2, b3⟩
    · rfl
    · have := a1 u (nn u b1)
      omega
  · rcases h2 with ⟨rfl, b1⟩ | ⟨u, rfl, b1, b2, b3⟩
    · have := b1 v (nn v a1)
      omega
    · have e : v = u := by
        rcases Int.lt_trichotomy v u with z | z | z
        · have := b3 v (nn v a1) z
          omega
        · exact z
        · have := a3 u (nn u b1) z
          omega
      rw [e]
theorem greatest (other : Int) : ∀ ms : List Int, (∃ m, m ∈ ms ∧ m ≤ other) → ∃ m, m ∈ ms ∧ m ≤ other ∧ ∀ x, x ∈ ms → x ≤ other → x ≤ m
  | [], ⟨m, h, _⟩ => by cases h
  | a :: ms, h => by
    by_cases hr : ∃ m, m ∈ ms ∧ m ≤ other
    · obtain ⟨m, h1, h2, h3⟩ := greatest other ms hr
      by_cases ha : a ≤ other ∧ m < a
      · refine ⟨a, List.mem_cons_self, ha.1, fun x hx hxo => ?_⟩
        rcases List.mem_cons.mp hx with z | z
        · omega
        · have := h3 x z hxo
          omega
      · refine ⟨m, List.mem_cons_of_mem _ h1, h2, fun x hx hxo => ?_⟩
        rcases List.mem_cons.mp hx with z | z
        · subst z
          omega
        · exact h3 x z hxo
    · obtain ⟨m, h1, h2⟩ := h
      rcases List.mem_cons.mp h1 with z | z
      · subst z
        refine ⟨m, List.mem_cons_self, h2, fun x hx hxo => ?_⟩
        rcases List.mem_cons.mp hx with z | z
        · omega
        · exact (hr ⟨x, z, hxo⟩).elim
      · exact (hr ⟨m, z, h2⟩).elim
theorem law_least {os : List (Option Int)} {ms : List Int} {mi : Int} (hw : Waits os ms) : Least os mi (head (ms.filter fun v => decide (missedN os v ≤ mi))) := by
  have key : ∀ w : Int, 0 ≤ w → ∃ m, m ∈ ms ∧ m ≤ w ∧ missedN os m = missedN os w := fun w w0 => by
    obtain ⟨m, m1, m2, m3⟩ := greatest w ms ⟨0, (hw.2 0).mpr (.inl rfl), w0⟩
    refine ⟨m, m1, m2, missed_cong fun o ho => ?_⟩
    cases o with
    | none => rfl
    | some x =>
      show decide (m < x) = decide (w < x)
      by_cases hx : x ≤ w
      · have h4 := m3 x ((hw.2 x).mpr (.inr ho)) hx
        rw [decide_eq_false (by omega), decide_eq_false (by omega)]
      · rw [decide_eq_true (by omega), decide_eq_true (by omega)]
  have hp := hw.1.filter fun v => decide (missedN os v ≤ mi)
  cases hg : ms.filter fun v => decide (missedN os v ≤ mi) with
  | nil =>
    refine .inl ⟨rfl, fun w w0 => ?_⟩
    obtain ⟨m, m1, m2, m3⟩ := key w w0
    have := List.filter_eq_nil_iff.mp hg m m1
    have h2 : ¬ missedN os m ≤ mi := fun z => this (decide_eq_true z)
    omega
  | cons x xs =>
    rw [hg] at hp
    have hx : x ∈ ms.filter fun v => decide (missedN os v ≤ mi) := by rw [hg]; exact List.mem_cons_self
    rw [List.mem_filter] at hx
    refine .inr ⟨x, rfl, (hw.2 x).mp hx.1, of_decide_eq_true hx.2, fun w w0 hwx => ?_⟩
    obtain ⟨m, m1, m2, m3⟩ := key w w0
    by_cases hm : missedN os m ≤ mi
    · have hin : m ∈ x :: xs := by rw [← hg]; exact List.mem_filter.mpr ⟨m1, decide_eq_true hm⟩
      rcases List.mem_cons.mp hin with z | z
      · omega
      · have := (List.pairwise_cons.mp hp).1 m z
        omega
    · omega
/-! rows and papers -/
theorem big_miss (o : Option Int) (b : Int) : big o b = miss o (b - 1) := by
  cases o with
  | none => rfl
  | some x =>
    show decide (b ≤ x) = decide (b - 1 < x)
    by_cases h : b ≤ x
    · rw [decide_eq_true h, decide_eq_true (by omega)]
    · rw [decide_eq_false h, decide_eq_false (by omega)]
theorem rows_len (b : Int) : ∀ (os : List (Option Int)) (n : Int), (((rowsFrom b n os).length : Nat) : Int) = missedN os (b - 1)
  | [], n => rfl
  | o :: os, n => by
    have ih := rows_len b os (n + 1)
    unfold missedN at ih ⊢
    rw [List.filter_cons, rowsFrom, big_miss]
    split
    · rw [List.length_cons, List.length_cons]; omega
    · exact ih
theorem rows_mem (b : Int) : ∀ (os : List (Option Int)) (n x : Int), x ∈ rowsFrom b n os → n ≤ x ∧ x < n + ((os.length : Nat) : Int)
  | [], n, x, h => by cases h
  | o :: os, n, x, h => by
    unfold rowsFrom at h
    rw [List.length_cons]
    split at h
    · rcases List.mem_cons.mp h with z | z
      · omega
      · have := rows_mem b os (n + 1) x z
        omega
    · have := rows_mem b os (n + 1) x h
      omega
theorem rows_range (full : List (Option Int)) (b : Int) : ∀ (os : List (Option Int)) (n : Nat), full.drop n = os → ((List.range os.length).map fun i => ((n + i : Nat) : Int)).filter (okAt full b) = rowsFrom b (n : Int) os
  | [], n, _ => rfl
  | o :: os, n, h => by
    have h1 : full.drop (n + 1) = os := by rw [← List.drop_drop, h] <;> rfl
    have ih := rows_range full b os (n + 1) h1
    have h2 : full[n]? = some o := by
      have : (full.drop n)[0]? = some o := by rw [h] <;> rfl
      rw [List.getElem?_drop] at this
      simpa using this
    rw [List.length_cons, List.range_succ_eq_map, List.map_cons, List.map_map, List.filter_cons, rowsFrom]
    have e1 : okAt full b (((n + 0 : Nat) : Int)) = big o b := by
      unfold okAt
      rw [Int.toNat_natCast, Nat.add_zero, h2]
    have e2 : ((fun i => ((n + i : Nat) : Int)) ∘ Nat.succ) = fun i => ((n + 1 + i : Nat) : Int) := by
      funext i
      show ((n + (i + 1) : Nat) : Int) = _
      rw [show n + (i + 1) = n + 1 + i from by omega]
    rw [e1, e2, ih]
    have e3 : (((n + 1 : Nat) : Int)) = (n : Int) + 1 := by omega
    rw [e3] <;> rfl
theorem rows_rng (os : List (Option Int)) (b : Int) : (rngI 0 os.length).filter (okAt os b) = rowsOf os b := by
  have h := rows_range os b os 0 rfl
  unfold rngI rowsOf
  simpa using h
theorem fall_rising (ns : List Int) (q : Int → Bool) (hq : ∀ i : Nat, (h : i + 1 < ns.length) → q ((i : Int) + 1) = decide (ns[i + 1] ≤ ns[i])) : ((rngI 1 (ns.length - 1)).filter q).isEmpty = rising ns := by
  have e : ((rngI 1 (ns.length - 1)).filter q).isEmpty = (rngI 1 (ns.length - 1)).all fun i => !q i := by
    generalize rngI 1 (ns.length - 1) = L
    induction L with
    | nil => rfl
    | cons x xs ih =>
      rw [List.filter_cons, List.all_cons, ← ih]
      cases q x <;> rfl
  rw [e, Bool.eq_iff_iff, List.all_eq_true]
  unfold rising
  rw [List.all_eq_true]
  constructor
  · intro h b hb
    obtain ⟨i, hi, rfl⟩ := List.mem_iff_getElem.mp hb
    rw [List.length_zipWith, List.length_drop] at hi
    rw [List.getElem_zipWith, List.getElem_drop]
    have h1 := h ((i : Int) + 1) (rngI_mem.mpr (by omega))
    rw [hq i (by omega)] at h1
    have h2 : ¬ ns[i + 1] ≤ ns[i] := fun z => by rw [decide_eq_true z] at h1; cases h1
    have e3 : ns[1 + i]'(by omega) = ns[i + 1] := by congr 1; omega
    rw [e3]
    exact decide_eq_true (by omega)
  · intro h x hx
    obtain ⟨h1, h2⟩ := rngI_mem.mp hx
    obtain ⟨i, rfl⟩ : ∃ i : Nat, x = (i : Int) + 1 := ⟨(x - 1).toNat, by omega⟩
    have hi : i + 1 < ns.length := by omega
    rw [hq i hi]
    have hl : i < (List.zipWith (fun a b => decide (a < b)) ns (ns.drop 1)).length := by rw [List.length_zipWith, List.length_drop]; omega
    have h3 := h _ (List.getElem_mem hl)
    rw [List.getElem_zipWith, List.getElem_drop] at h3
    have e3 : ns[1 + i]'(by omega) = ns[i + 1] := by congr 1; omega
    rw [e3] at h3
    have h4 := of_decide_eq_true h3
    rw [decide_eq_false (by omega)] <;> rfl
end K67

set_option Elab.async false
set_option linter.all false
set_option maxRecDepth 100000
set_option maxHeartbeats 4000000
namespace K67
open PySem PySem.Spec PyProof.Rows L2 Pl RZ
local macro_rules | `(tactic| walk_at "pl1") => `(tactic| first
  | with_reducible refine s_seq ?_ | with_reducible refine s_next ?_ | with_reducible refine s_ret ?_ | with_reducible refine s_retN ?_ | with_reducible refine s_if ?_
  | (with_reducible refine s_set ?h0 ?_; (case h0 => exact lt_ok rfl)) | with_reducible refine s_drop ?_ | (with_reducible refine s_asg2 ?h0 ?h1 ?_; (case h0 => exact lt_ok rfl); (case h1 => exact lt_ok rfl)) | (with_reducible refine s_asg3 ?h0 ?h1 ?h2 ?_; (case h0 => exact lt_ok rfl); (case h1 => exact lt_ok rfl); (case h2 => exact lt_ok rfl)) | (with_reducible refine s_par ?h0 ?h1 ?_; (case h0 => exact lt_ok rfl); (case h1 => exact lt_ok rfl)) | (with_reducible refine s_par3 ?h0 ?h1 ?h2 ?_; (case h0 => exact lt_ok rfl); (case h1 => exact lt_ok rfl); (case h2 => exact lt_ok rfl))
  | refine ee_var (by rfl) ?_ | refine ee_own (by rfl) ?_
  | with_reducible refine ee_int ?_ | with_reducible refine ee_bl ?_ | with_reducible refine ee_str ?_ | with_reducible refine ee_non ?_
  | with_reducible refine ee_isiI ?_ | with_reducible refine ee_isiB ?_ | with_reducible refine ee_isiT ?_ | with_reducible refine ee_isiS ?_ | with_reducible refine ee_isiL ?_
  | with_reducible refine ee_op ?_ | with_reducible refine ee_un ?_ | with_reducible refine ee_cb ?_ | with_reducible refine ee_chain ?_ | with_reducible refine ee_andV ?_ | with_reducible refine ee_orV ?_ | with_reducible refine ee_notV ?_ | with_reducible refine ee_if ?_
  | with_reducible refine ee_tup ?_ | with_reducible refine el_lst ?_ | with_reducible refine ed_nil ?_ | with_reducible refine ed_cons ?_ | with_reducible refine ea_nil ?_ | refine ea_cup (by rfl) ?_ | with_reducible refine ea_cons ?_
  | with_reducible refine et_test (m := false) ?_ | with_reducible refine et_B (m := false) ?_ | with_reducible refine et_and ?_ | with_reducible refine et_or ?_ | with_reducible refine et_not ?_
  | with_reducible refine eo_none ?_ | with_reducible refine eo_some (m := false) ?_ | with_reducible refine ee_call ?_)
local macro_rules | `(tactic| walk_at "pl2") => `(tactic| first
  | with_reducible refine ar_plusI ?_ | with_reducible refine ar_minus ?_ | (with_reducible refine ar_timesI ?_ ?_) | with_reducible refine ar_fdv ?_ ?_ | with_reducible refine ar_md ?_ ?_ | with_reducible refine ar_pw ?_ ?_
  | with_reducible refine ar_eqI ?_ | with_reducible refine ar_neI ?_
  | with_reducible refine ar_lssI ?_ | with_reducible refine ar_lssS ?_ | with_reducible refine ar_leqI ?_ | with_reducible refine ar_grtI ?_ | with_reducible refine ar_geqI ?_ | with_reducible refine ar_isN ?_ | with_reducible refine ar_isNN ?_ | with_reducible refine ar_isB ?_ | with_reducible refine ar_isNB ?_
  | with_reducible refine ar_plusT ?_ ?_ | with_reducible refine ar_plusS ?_ ?_ | with_reducible refine ar_timesT ?_ ?_ ?_ ?_ | with_reducible refine ar_inC ?_ | with_reducible refine ar_notInC ?_ | with_reducible refine au_neg ?_
  | with_reducible refine ac_lenT ?_ | with_reducible refine ac_lenL ?_ | with_reducible refine ac_lenS ?_ ?_ | with_reducible refine ac_int ?_ | with_reducible refine ac_abs ?_ | with_reducible refine ac_max2 ?_ | with_reducible refine ac_min2 ?_ | with_reducible refine ac_tupL ?_ | with_reducible refine ac_tupT ?_ | with_reducible refine ac_strS ?_
  | refine itet ?_ | refine itef ?_ | with_reducible refine iten ?_ | exact ⟨_, rfl, by assumption⟩ | (with_reducible refine ⟨_, rfl, ?_⟩) | (with_reducible refine ⟨_, _, rfl, ?_⟩) | (with_reducible refine ⟨_, _, _, rfl, ?_⟩))
local macro_rules | `(tactic| walk_at "pl") => `(tactic| repeat (first | walk_at "pl1" | walk_at "pl2"))
theorem empty_all (p : Int → Bool) : ∀ ns : List Int, (ns.filter fun i => !p i).isEmpty = ns.all p
  | [] => rfl
  | n :: ns => by
    rw [List.filter_cons, List.all_cons, ← empty_all p ns]
    cases p n <;> rfl
theorem body_law_least (os : List (Option Int)) (mi : Int) (g : Good os) (h0 : os.length ≤ 60) (k : Dt → Prop) (C : Cxt) (w : World) (hk : ∀ d, Least os mi d → k d) : B4 C (t__law_least C.K w) [some (.dat (anss os)), some (.dat (.int mi)), none, none, none] k := by
  unfold t__law_least B4
  refine s_seq ?_
  refine s_set (lt_ok rfl) ?_
  refine ee_new ?_
  have fin : ∀ ms : List Int, Waits os ms → ms.length ≤ 61 → (ms.map PyData.int).length ≤ 100000 ∧ (∀ d, d ∈ ms.map PyData.int → ∃ ρ2, (fun (d : Dt) (ρ : AEnv) => if 3 < ρ.length then some (ρ.set 3 (some (.dat d))) else none) d (wipeA [some (.dat (anss os)), some (.dat (.int mi)), none, none, none] [3]) = some ρ2 ∧ ET C (tTest (tOp (rLeq) (tCall (spA C.K 2 R__law_missed) [] E0 (tCons (tVar 0) (tCons (tVar 3) (tNil)))) (tVar 1))) ρ2 fun b => if b = true then EE C false (tVar 3) ρ2 fun y => nl y = true ∧ fI (fun v => decide (missedN os v ≤ mi)) d = some y else fI (fun v => decide (missedN os v ≤ mi)) d = none) := by
    intro ms hw hl
    refine ⟨by rw [List.length_map]; omega, fun d hd => ?_⟩
    obtain ⟨v, hv, rfl⟩ := List.mem_map.mp hd
    refine ⟨_, rfl, ?_⟩
    walk_at "pl"
    refine ⟨rfl, _, _, by omega, rfl, ?_⟩
    walk_at "pl"
    refine ited (fun h => ?_) (fun h => ?_)
    · walk_at "pl"
      exact ⟨rfl, fI_t (decide_eq_true h)⟩
    · exact fI_f (decide_eq_false h)
  refine el_lcM (vs := [3]) (.name 3) (by decide) (fI fun v => decide (missedN os v ≤ mi)) ?_
  refine ei_lst ?_
  refine ee_new ?_
  refine el_sortSet ?_
  refine ee_new ?_
  refine el_op ?_
  refine ee_new ?_
  walk_at "pl"
  refine ⟨le_ok rfl, ?_⟩
  refine ee_new ?_
  refine el_lcM (vs := [4]) (.name 4) (by decide) oI ?_
  refine ei_tup ?_
  walk_at "pl"
  refine ⟨by rw [List.length_map]; omega, fun d hd => ?_, fun _ => ?_⟩
  · obtain ⟨o, ho, rfl⟩ := List.mem_map.mp hd
    refine ⟨_, rfl, ?_⟩
    walk_at "pl"
    cases o with
    | none =>
      walk_at "pl"
      rfl
    | some x =>
      walk_at "pl"
      exact ⟨rfl, rfl⟩
  rw [oI_map]
  have hlen : (somes os).length ≤ 60 := Nat.le_trans (somes_len os) h0
  refine arl_plusL (by simp; omega) ?_
  refine ⟨0 :: somes os, rfl, by simp; omega, fun ms p1 p2 p3 => ?_⟩
  have hw : Waits os ms := ⟨p1, fun z => by rw [p2 z, List.mem_cons, somes_mem]⟩
  have hl : ms.length ≤ 61 := by simp at p3; omega
  obtain ⟨q1, q2⟩ := fin ms hw hl
  refine ⟨_, rfl, q1, q2, fun hn => ?_⟩
  rw [fI_map]
  refine s_ret ?_
  refine EE.any ?_
  refine ee_headL rfl ?_
  have hL := law_least (mi := mi) hw
  exact ⟨least_nl hL, hk _ hL⟩
theorem isPaper_ints {os : List (Option Int)} {mi b : Int} {ns : List Int} (hr : ∀ x, x ∈ ns → 0 ≤ x ∧ x < ((os.length : Nat) : Int)) : isPaper os mi b (.tuple (ns.map .int)) = (decide (((ns.length : Nat) : Int) = mi + 1) && (rising ns && ns.all (okAt os b))) := by
  have e1 : ((ns.map PyData.int).all fun x => isWhole x 0 (((os.length : Nat) : Int) - 1)) = true := by
    rw [List.all_eq_true]
    intro x hx
    obtain ⟨i, hi, rfl⟩ := List.mem_map.mp hx
    have := hr i hi
    exact isWhole_ok (by omega) (by omega)
  have e2 : (ns.map PyData.int).filterMap intOf = ns := by
    clear e1 hr
    induction ns with
    | nil => rfl
    | cons n ns ih => rw [List.map_cons, List.filterMap_cons, ih] <;> rfl
  have e3 : isTupleOf (.tuple (ns.map .int)) (mi + 1) (mi + 1) = decide (((ns.length : Nat) : Int) = mi + 1) := by
    show (decide (mi + 1 ≤ (((ns.map PyData.int).length : Nat) : Int)) && decide ((((ns.map PyData.int).length : Nat) : Int) ≤ mi + 1)) = _
    rw [List.length_map]
    by_cases h : ((ns.length : Nat) : Int) = mi + 1
    · rw [decide_eq_true h, decide_eq_true (by omega), decide_eq_true (by omega)] <;> rfl
    · rw [decide_eq_false h]
      by_cases h2 : mi + 1 ≤ ((ns.length : Nat) : Int)
      · rw [decide_eq_true h2, decide_eq_false (by omega)] <;> rfl
      · rw [decide_eq_false h2] <;> rfl
  unfold isPaper
  rw [e3]
  show (_ && (((ns.map PyData.int).all fun x => isWhole x 0 (((os.length : Nat) : Int) - 1)) && (rising ((ns.map PyData.int).filterMap intOf) && ((ns.map PyData.int).filterMap intOf).all (okAt os b)))) = _
  rw [e1, e2] <;> rfl
theorem body_law_is_paper (os : List (Option Int)) (mi b : Int) (ns : List Int) (h0 : os.length ≤ 2000) (h1 : ns.length ≤ 2000) (hr : ∀ x, x ∈ ns → 0 ≤ x ∧ x < ((os.length : Nat) : Int)) (k : Dt → Prop) (C : Cxt) (w : World) (hk : k (.bool (isPaper os mi b (.tuple (ns.map .int))))) :
    B4 C (t__law_is_paper C.K w) [some (.dat (anss os)), some (.dat (.int mi)), some (.dat (.int b)), some (.dat (.tuple (ns.map .int))), none] k := by
  rw [isPaper_ints hr] at hk
  unfold t__law_is_paper B4
  walk_at "pl"
  rw [List.length_map]
  refine ited (fun h => ?_) (fun h => ?_)
  · rw [decide_eq_true h] at hk
    refine et_test (m := false) ?_
    refine ee_op ?_
    refine ee_new ?_
    refine el_lcM (vs := [4]) (.name 4) (by decide) (fI fun i => match ns[i.toNat]?, ns[(i - 1).toNat]? with | some x, some y => decide (x ≤ y) | _, _ => false) ?_
    refine ei_rng2 ?_
    walk_at "pl"
    rw [List.length_map]
    refine ⟨by decide, by decide, by omega, by omega, ?_⟩
    rw [rng_rngI, show (((ns.length : Nat) : Int) - 1).toNat = ns.length - 1 from by omega]
    refine ⟨by simp [rngI]; omega, fun d hd => ?_, fun _ => ?_⟩
    · obtain ⟨i, hi, rfl⟩ := List.mem_map.mp hd
      have hi := rngI_mem.mp hi
      obtain ⟨j, rfl⟩ : ∃ j : Nat, i = (j : Int) + 1 := ⟨(i - 1).toNat, by omega⟩
      have hj : j + 1 < ns.length := by omega
      refine ⟨_, rfl, ?_⟩
      walk_at "pl"
      have a1 : L2.atI (ns.map PyData.int) ((j : Int) + 1) = some (.int ns[j + 1]) := by
        rw [show (j : Int) + 1 = ((j + 1 : Nat) : Int) from by omega]
        exact atI_nat' (by rw [List.getElem?_map, List.getElem?_eq_getElem hj] <;> rfl)
      have a2 : L2.atI (ns.map PyData.int) ((j : Int) + 1 - 1) = some (.int ns[j]) := by
        rw [show (j : Int) + 1 - 1 = (j : Int) from by omega]
        exact atI_nat' (by rw [List.getElem?_map, List.getElem?_eq_getElem (by omega)] <;> rfl)
      have a3 : (match ns[((j : Int) + 1).toNat]?, ns[((j : Int) + 1 - 1).toNat]? with | some x, some y => decide (x ≤ y) | _, _ => false) = decide (ns[j + 1] ≤ ns[j]) := by
        rw [show ((j : Int) + 1).toNat = j + 1 from by omega, show ((j : Int) + 1 - 1).toNat = j from by omega, List.getElem?_eq_getElem hj, List.getElem?_eq_getElem (show j < ns.length from by omega)]
      refine ar_ixT a1 ?_
      walk_at "pl"
      refine ar_ixT a2 ?_
      walk_at "pl"
      refine ited (fun h => ?_) (fun h => ?_)
      · walk_at "pl"
        exact ⟨rfl, fI_t (by rw [a3]; exact decide_eq_true h)⟩
      · exact fI_f (by rw [a3]; exact decide_eq_false h)
    · rw [fI_map]
      refine ee_new ?_
      walk_at "pl"
      refine ⟨by decide, ?_⟩
      refine ar_neNil ?_
      have eR := fall_rising ns (fun i => match ns[i.toNat]?, ns[(i - 1).toNat]? with | some x, some y => decide (x ≤ y) | _, _ => false) fun j hj => by
        show (match ns[((j : Int) + 1).toNat]?, ns[((j : Int) + 1 - 1).toNat]? with | some x, some y => decide (x ≤ y) | _, _ => false) = _
        rw [show ((j : Int) + 1).toNat = j + 1 from by omega, show ((j : Int) + 1 - 1).toNat = j from by omega, List.getElem?_eq_getElem hj, List.getElem?_eq_getElem (show j < ns.length from by omega)]
      rw [eR]
      refine ⟨_, rfl, ?_⟩
      cases hR : rising ns with
      | false =>
        rw [hR] at hk
        walk_at "pl"
        exact nlq hk rfl rfl
      | true =>
        rw [hR] at hk
        walk_at "pl"
        refine ee_new ?_
        refine el_lcM (vs := [4]) (.name 4) (by decide) (fI fun i => !okAt os b i) ?_
        refine ei_tup ?_
        walk_at "pl"
        refine ⟨by rw [List.length_map]; omega, fun d hd => ?_, fun _ => ?_⟩
        · obtain ⟨i, hi, rfl⟩ := List.mem_map.mp hd
          obtain ⟨i1, i2⟩ := hr i hi
          refine ⟨_, rfl, ?_⟩
          refine et_notAt (os := os) rfl rfl rfl i1 i2 ?_
          cases ho : okAt os b i with
          | true => exact itef (fI_f (by rw [ho] <;> rfl))
          | false =>
            refine itet ?_
            walk_at "pl"
            exact ⟨rfl, fI_t (by rw [ho] <;> rfl)⟩
        · rw [fI_map]
          refine ee_new ?_
          walk_at "pl"
          refine ⟨by decide, ?_⟩
          refine ar_eqNil ?_
          refine nlq hk ?_ rfl
          congr 1
          show _ = ns.all (okAt os b)
          exact empty_all _ _
  · rw [decide_eq_false h] at hk
    walk_at "pl"
    exact nlq hk rfl rfl
end K67

set_option Elab.async false
set_option linter.all false
set_option maxRecDepth 100000
set_option maxHeartbeats 4000000
namespace K67
open PySem PySem.Spec PyProof.Rows L2 Pl RZ
local macro_rules | `(tactic| walk_at "pl1") => `(tactic| first
  | with_reducible refine s_seq ?_ | with_reducible refine s_next ?_ | with_reducible refine s_ret ?_ | with_reducible refine s_retN ?_ | with_reducible refine s_if ?_
  | (with_reducible refine s_set ?h0 ?_; (case h0 => exact lt_ok rfl)) | with_reducible refine s_drop ?_ | (with_reducible refine s_asg2 ?h0 ?h1 ?_; (case h0 => exact lt_ok rfl); (case h1 => exact lt_ok rfl)) | (with_reducible refine s_asg3 ?h0 ?h1 ?h2 ?_; (case h0 => exact lt_ok rfl); (case h1 => exact lt_ok rfl); (case h2 => exact lt_ok rfl)) | (with_reducible refine s_par ?h0 ?h1 ?_; (case h0 => exact lt_ok rfl); (case h1 => exact lt_ok rfl)) | (with_reducible refine s_par3 ?h0 ?h1 ?h2 ?_; (case h0 => exact lt_ok rfl); (case h1 => exact lt_ok rfl); (case h2 => exact lt_ok rfl))
  | refine ee_var (by rfl) ?_ | refine ee_own (by rfl) ?_
  | with_reducible refine ee_int ?_ | with_reducible refine ee_bl ?_ | with_reducible refine ee_str ?_ | with_reducible refine ee_non ?_
  | with_reducible refine ee_isiI ?_ | with_reducible refine ee_isiB ?_ | with_reducible refine ee_isiT ?_ | with_reducible refine ee_isiS ?_ | with_reducible refine ee_isiL ?_
  | with_reducible refine ee_op ?_ | with_reducible refine ee_un ?_ | with_reducible refine ee_cb ?_ | with_reducible refine ee_chain ?_ | with_reducible refine ee_andV ?_ | with_reducible refine ee_orV ?_ | with_reducible refine ee_notV ?_ | with_reducible refine ee_if ?_
  | with_reducible refine ee_tup ?_ | with_reducible refine el_lst ?_ | with_reducible refine ed_nil ?_ | with_reducible refine ed_cons ?_ | with_reducible refine ea_nil ?_ | refine ea_cup (by rfl) ?_ | with_reducible refine ea_cons ?_
  | with_reducible refine et_test (m := false) ?_ | with_reducible refine et_B (m := false) ?_ | with_reducible refine et_and ?_ | with_reducible refine et_or ?_ | with_reducible refine et_not ?_
  | with_reducible refine eo_none ?_ | with_reducible refine eo_some (m := false) ?_ | with_reducible refine ee_call ?_)
local macro_rules | `(tactic| walk_at "pl2") => `(tactic| first
  | with_reducible refine ar_plusI ?_ | with_reducible refine ar_minus ?_ | (with_reducible refine ar_timesI ?_ ?_) | with_reducible refine ar_fdv ?_ ?_ | with_reducible refine ar_md ?_ ?_ | with_reducible refine ar_pw ?_ ?_
  | with_reducible refine ar_eqI ?_ | with_reducible refine ar_neI ?_
  | with_reducible refine ar_lssI ?_ | with_reducible refine ar_lssS ?_ | with_reducible refine ar_leqI ?_ | with_reducible refine ar_grtI ?_ | with_reducible refine ar_geqI ?_ | with_reducible refine ar_isN ?_ | with_reducible refine ar_isNN ?_ | with_reducible refine ar_isB ?_ | with_reducible refine ar_isNB ?_
  | with_reducible refine ar_plusT ?_ ?_ | with_reducible refine ar_plusS ?_ ?_ | with_reducible refine ar_timesT ?_ ?_ ?_ ?_ | with_reducible refine ar_inC ?_ | with_reducible refine ar_notInC ?_ | with_reducible refine au_neg ?_
  | with_reducible refine ac_lenT ?_ | with_reducible refine ac_lenL ?_ | with_reducible refine ac_lenS ?_ ?_ | with_reducible refine ac_int ?_ | with_reducible refine ac_abs ?_ | with_reducible refine ac_max2 ?_ | with_reducible refine ac_min2 ?_ | with_reducible refine ac_tupL ?_ | with_reducible refine ac_tupT ?_ | with_reducible refine ac_strS ?_
  | refine itet ?_ | refine itef ?_ | with_reducible refine iten ?_ | exact ⟨_, rfl, by assumption⟩ | (with_reducible refine ⟨_, rfl, ?_⟩) | (with_reducible refine ⟨_, _, rfl, ?_⟩) | (with_reducible refine ⟨_, _, _, rfl, ?_⟩))
local macro_rules | `(tactic| walk_at "pl") => `(tactic| repeat (first | walk_at "pl1" | walk_at "pl2"))
def tailT (K : PySem.W.Frag) (w : World) : TS :=
  (tSeq (tAsg (tIf (tTest (tOp (rNeD K) (tVar 2) (tTup (tNil)))) (tCB (cTup K) (tCons (tCB (rSortedSet w) (tCons (tCB (rSetI K w) (tCons (tLc (iRng1 (tCons (tOp (rPlus K) (tVar 4) (tC (.int 1))) (tNil))) (gName 18) (tYes) (tCall (spA K 2 R__law_roll) [] E0 (tCons (tVar 0) (tCons (tCB (cLen K) (tCons (tVar 2) (tNil))) (tNil)))) [18]) (tNil))) (tNil))) (tNil))) (tTup (tNil))) (gName 12))
    (tSeq (tAsg (tLst (tCons (tVar 12) (tCons (tCB (cTup K) (tCons (tSl (rSlc K) (tVar 10) (tPart (tOp (rMinus) (tUn (rU fun i => .int (-i)) (tVar 4)) (tC (.int 1)))) (tNoPart)) (tNil))) (tCons (tCB (cTup K) (tCons (tVar 10) (tNil))) (tCons (tCB (cTup K) (tCons (tSl (rSlc K) (tVar 10) (tNoPart) (tPart (tVar 4))) (tNil))) (tCons (tCB (cTup K) (tCons (tRevL K (tSl (rSlc K) (tVar 10) (tNoPart) (tPart (tOp (rPlus K) (tVar 4) (tC (.int 1)))))) (tNil))) (tNil))))))) (gName 13))
    (tSeq (tFor (iSeq K (tVar 13)) (gName 14) (tIfS (tNot (tB (tCall (spSame K 2) [] E0 (tCons (tCall (spA K 4 R_is_wait_paper) [] E0 (tCons (tVar 2) (tCons (tVar 4) (tCons (tVar 8) (tCons (tVar 14) (tNil)))))) (tCons (tCall (spA K 4 R__law_is_paper) [] E0 (tCons (tVar 2) (tCons (tVar 4) (tCons (tVar 8) (tCons (tVar 14) (tNil)))))) (tNil)))))) (tRet (tC (.bl false))) (tNext)))
    (tSeq (tAsg (tLst (tCons (tC .non) (tCons (tCB (cLst K) (tCons (tSl (rSlc K) (tVar 10) (tNoPart) (tPart (tOp (rPlus K) (tVar 4) (tC (.int 1))))) (tNil))) (tCons (tOp (rTimes K) (tTup (tCons (tCB (cLen K) (tCons (tVar 2) (tNil))) (tNil))) (tOp (rPlus K) (tVar 4) (tC (.int 1)))) (tCons (tOp (rTimes K) (tTup (tCons (tUn (rU fun i => .int (-i)) (tC (.int 1))) (tNil))) (tOp (rPlus K) (tVar 4) (tC (.int 1)))) (tCons (tOp (rPlus K) (tTup (tCons (tC (.bl true)) (tNil))) (tOp (rTimes K) (tTup (tCons (tC (.int 0)) (tNil))) (tVar 4))) (tCons (tOp (rTimes K) (tTup (tCons (tC .non) (tNil))) (tOp (rPlus K) (tVar 4) (tC (.int 1)))) (tCons (tC (.int 5)) (tNil))))))))) (gName 15))
    (tIfS (tTest (tOp (rNeD K) (tLc (iSeq K (tVar 15)) (gName 19) (tTest (tOp (rIsNW) (tCall (spA K 4 R_is_wait_paper) [] E0 (tCons (tVar 2) (tCons (tVar 4) (tCons (tVar 8) (tCons (tVar 19) (tNil)))))) (tC (.bl false)))) (tVar 19) [19]) (tLst (tNil)))) (tRet (tC (.bl false))) (tNext))))))
def turnT (K : PySem.W.Frag) (w : World) : TS :=
  (tSeq (tAsg (tCall (spA K 3 R_wait_paper) [] E0 (tCons (tVar 2) (tCons (tVar 4) (tCons (tVar 8) (tNil))))) (gName 9))
    (tSeq (tAsg (tLc (iRng1 (tCons (tCB (cLen K) (tCons (tVar 2) (tNil))) (tNil))) (gName 16) (tOr (tTest (tOp (rIsW) (tOp (rIx K) (tVar 2) (tVar 16)) (tC .non))) (tTest (tOp (rGeq) (tOp (rIx K) (tVar 2) (tVar 16)) (tVar 8)))) (tVar 16) [16]) (gName 10))
    (tSeq (tIfS (tNot (tB (tCall (spSame K 2) [] E0 (tCons (tVar 9) (tCons (tIf (tTest (tOp (rGrt) (tCB (cLen K) (tCons (tVar 10) (tNil))) (tVar 4))) (tCB (cTup K) (tCons (tSl (rSlc K) (tVar 10) (tNoPart) (tPart (tOp (rPlus K) (tVar 4) (tC (.int 1))))) (tNil))) (tC .non)) (tNil)))))) (tRet (tC (.bl false))) (tNext))
    (tSeq (tAsg (tOp (rEqD K) (tLc (iSeq K (tTup (tCons (tC (.int 0)) (tCons (tOp (rMinus) (tVar 8) (tC (.int 1))) (tNil))))) (gName 17) (tAnd (tTest (tChain (rLeq) (rLss K) (tC (.int 0)) (tVar 17) (tVar 8))) (tTest (tOp (rLeq) (tCall (spA K 2 R__law_missed) [] E0 (tCons (tVar 2) (tCons (tVar 17) (tNil)))) (tVar 4)))) (tVar 17) [17]) (tLst (tNil))) (gName 11))
    (tSeq (tIfS (tAnd (tTest (tOp (rGrt) (tVar 8) (tC (.int 0)))) (tTest (tOp (rNeD K) (tOp (rIsNW) (tVar 9) (tC .non)) (tVar 11)))) (tRet (tC (.bl false))) (tNext))
    (tailT K w))))))
def slots (C : Cxt) (many wt mi : Int) (os : List (Option Int)) (d5 d6 d7 : Dt) (rest : AEnv) : AEnv := some .cup :: some (.dat (.int many)) :: some (.dat (anss os)) :: some (.dat (.int wt)) :: some (.dat (.int mi)) :: some (.dat d5) :: some (.dat d6) :: some (.dat d7) :: rest
theorem ee_paper {C : Cxt} {ρ : AEnv} {os : List (Option Int)} {mi b : Int} {k : Dt → Prop} (h0 : 0 ≤ mi) (h10 : ρ[10]? = some (some (.dat (.list ((rowsOf os b).map .int))))) (h4 : ρ[4]? = some (some (.dat (.int mi)))) (h : k (paperOf os mi b)) :
    EE C false (tIf (tTest (tOp (rGrt) (tCB (cLen C.K) (tCons (tVar 10) (tNil))) (tVar 4))) (tCB (cTup C.K) (tCons (tSl (rSlc C.K) (tVar 10) (tNoPart) (tPart (tOp (rPlus C.K) (tVar 4) (tC (.int 1))))) (tNil))) (tC .non)) ρ k := by
  refine ee_if (et_test (m := false) (ee_op (ee_cb (ed_cons (ee_var h10 (ed_nil (ac_lenL (ee_var h4 (ar_grtI ⟨_, rfl, ?_⟩)))))))))
  rw [List.length_map]
  refine ited (fun z => ?_) (fun z => ?_)
  · refine ee_cb (ed_cons (ee_new (el_sl (ee_var h10 (eo_none (eo_some (m := false) (ee_op (ee_var h4 (ee_int (ar_plusI ⟨_, rfl, _, rfl, ?_⟩))))))))))
    rw [cut_map, cut_to _ (by omega)]
    refine ed_nil (ac_tupL ?_)
    unfold paperOf at h
    rw [if_pos z] at h
    exact h
  · unfold paperOf at h
    rw [if_neg z] at h
    exact ee_non h
theorem paper_plain {os : List (Option Int)} {mi b : Int} (h : os.length ≤ 2000) : plainD 1 (paperOf os mi b) := by
  unfold paperOf
  split
  · refine .inr ⟨_, rfl, ?_, fun x hx => ?_⟩
    · rw [List.length_map, List.length_take]
      have := rows_len b os 0
      have h2 : (rowsOf os b).length ≤ 2000 := by
        unfold rowsOf
        have h3 : missedN os (b - 1) ≤ ((os.length : Nat) : Int) := by unfold missedN; have := filt_len_le (fun o => miss o (b - 1)) os; omega
        omega
      omega
    · obtain ⟨i, _, rfl⟩ := List.mem_map.mp hx
      rfl
  · exact .inl rfl
theorem paper_nl {os : List (Option Int)} {mi b : Int} : Pl.nl (paperOf os mi b) = true := by
  unfold paperOf
  split
  · exact nlAll_ints _
  · rfl
def soP (os : List (Option Int)) (mi b l : Int) : Bool := decide (0 ≤ l) && (decide (l < b) && decide (missedN os l ≤ mi))
theorem so_fact {os : List (Option Int)} {mi b : Int} (hb : 0 < b) : (!isNone (paperOf os mi b)) = ([0, b - 1].filter (soP os mi b)).isEmpty := by
  have hl := rows_len b os 0
  have hmono := missed_le (os := os) (show (0 : Int) ≤ b - 1 from by omega)
  have e0 : soP os mi b 0 = decide (missedN os 0 ≤ mi) := by unfold soP; rw [decide_eq_true (show (0 : Int) ≤ 0 from by omega), decide_eq_true hb] <;> rfl
  have e1 : soP os mi b (b - 1) = decide (missedN os (b - 1) ≤ mi) := by unfold soP; rw [decide_eq_true (show (0 : Int) ≤ b - 1 from by omega), decide_eq_true (show b - 1 < b from by omega)] <;> rfl
  rw [List.filter_cons, List.filter_cons, List.filter_nil, e0, e1]
  unfold paperOf
  by_cases h : mi < (((rowsOf os b).length : Nat) : Int)
  · have h2 : mi < missedN os (b - 1) := by rw [← hl]; exact h
    rw [if_pos h, decide_eq_false (by omega), decide_eq_false (by omega)] <;> rfl
  · have h2 : ¬ mi < missedN os (b - 1) := by rw [← hl]; exact h
    rw [if_neg h, decide_eq_true (show missedN os (b - 1) ≤ mi from by omega)]
    cases decide (missedN os 0 ≤ mi) <;> rfl
theorem len_miss (os : List (Option Int)) (w : Int) : missedN os w ≤ ((os.length : Nat) : Int) := by unfold missedN; have := filt_len_le (fun o => miss o w) os; omega
theorem turn_ok {C : Cxt} {w : World} {many wt mi b : Int} {os : List (Option Int)} {d5 d6 d7 : Dt} {a9 a10 a11 : Option AV} {r12 : AEnv} {nx : AEnv → Prop} {k : Dt → Prop} {bk ct : AEnv → Prop} (g : Good os) (hz : os.length ≤ 40) (m1 : 0 ≤ mi) (m2 : mi ≤ 41) (b1 : 0 ≤ b) (b2 : b ≤ 1000001) (hr : r12.length = 8)
    (tail : ∀ p : Dt, S4 C (tailT C.K w) (slots C many wt mi os d5 d6 d7 (some (.dat (.int b)) :: some (.dat p) :: some (.dat (.list ((rowsOf os b).map .int))) :: some (.dat (.bool ([0, b - 1].filter (soP os mi b)).isEmpty)) :: r12)) nx k bk ct) :
    S4 C (turnT C.K w) (slots C many wt mi os d5 d6 d7 (some (.dat (.int b)) :: a9 :: a10 :: a11 :: r12)) nx k bk ct := by
  match r12, hr with
  | [c0, c1, c2, c3, c4, c5, c6, c7], _ =>
  unfold turnT
  unfold slots at tail ⊢
  walk_at "pl"
  refine ⟨rfl, _, _, _, g, m1, by omega, b1, b2, rfl, ?_⟩
  refine s_seq ?_
  refine s_set (lt_ok rfl) ?_
  refine ee_new ?_
  refine el_lcM (vs := [16]) (.name 16) (by decide) (fI (okAt os b)) ?_
  refine ei_rng1 ?_
  walk_at "pl"
  refine ac_lenT (xs := os.map ans) ?_
  walk_at "pl"
  rw [List.length_map, Int.toNat_natCast, rng_rngI]
  refine ⟨by omega, by omega, by simp [rngI]; omega, fun d hd => ?_, fun _ => ?_⟩
  · obtain ⟨i, hi, rfl⟩ := List.mem_map.mp hd
    have hi := rngI_mem.mp hi
    refine ⟨_, rfl, ?_⟩
    refine et_okAt (os := os) rfl rfl rfl hi.1 (by omega) ?_
    cases ho : okAt os b i with
    | true =>
      refine itet ?_
      walk_at "pl"
      exact ⟨rfl, fI_t ho⟩
    | false => exact itef (fI_f ho)
  rw [fI_map, rows_rng]
  refine s_seq ?_
  refine s_if ?_
  refine et_not ?_
  refine et_B (m := false) ?_
  refine ee_call ?_
  refine ea_cons ?_
  refine ee_var rfl ?_
  refine ea_cons ?_
  refine ee_paper (os := os) (b := b) m1 rfl rfl ?_
  refine ea_nil ?_
  refine ⟨rfl, _, rfl, paper_plain g.1, ?_⟩
  refine ⟨_, rfl, ?_⟩
  refine itef ?_
  refine s_next ?_
  refine s_seq ?_
  refine s_set (lt_ok rfl) ?_
  refine ee_op ?_
  refine ee_new ?_
  refine el_lcM (vs := [17]) (.name 17) (by decide) (fI (soP os mi b)) ?_
  refine ei_tup ?_
  walk_at "pl"
  refine ⟨le_ok rfl, _, rfl, le_ok rfl, fun d hd => ?_, fun _ => ?_⟩
  · obtain ⟨l, rfl⟩ : ∃ l : Int, d = .int l := by
      rcases mem2 hd with z | z <;> exact ⟨_, z⟩
    refine ⟨_, rfl, ?_⟩
    walk_at "pl"
    refine ited (fun q0 => ?_) (fun q0 => ?_)
    · walk_at "pl"
      refine ited (fun q1 => ?_) (fun q1 => ?_)
      · walk_at "pl"
        refine ⟨rfl, _, _, by omega, rfl, ?_⟩
        walk_at "pl"
        refine ited (fun q2 => ?_) (fun q2 => ?_)
        · walk_at "pl"
          exact ⟨rfl, fI_t (by unfold soP; rw [decide_eq_true q0, decide_eq_true q1, decide_eq_true q2] <;> rfl)⟩
        · exact fI_f (by unfold soP; rw [decide_eq_true q0, decide_eq_true q1, decide_eq_false q2] <;> rfl)
      · exact fI_f (by unfold soP; rw [decide_eq_true q0, decide_eq_false q1] <;> rfl)
    · walk_at "pl"
      exact fI_f (by unfold soP; rw [decide_eq_false q0] <;> rfl)
  rw [show [PyData.int 0, PyData.int (b - 1)] = [0, b - 1].map PyData.int from rfl, fI_map]
  refine ee_new ?_
  walk_at "pl"
  refine ⟨by decide, ?_⟩
  refine ar_eqNil ?_
  refine s_seq ?_
  refine s_if ?_
  walk_at "pl"
  have fin := tail (paperOf os mi b)
  refine ited (fun hb => ?_) (fun hb => ?_)
  · walk_at "pl"
    refine ar_ne rfl rfl ?_
    rw [so_fact hb]
    refine ⟨_, rfl, ?_⟩
    have e : PyData.eqv (.bool ([0, b - 1].filter (soP os mi b)).isEmpty) (.bool ([0, b - 1].filter (soP os mi b)).isEmpty) = true := by simp [PyData.eqv]
    rw [e]
    walk_at "pl"
    exact fin
  · walk_at "pl"
    exact fin
end K67

set_option Elab.async false
set_option linter.all false
set_option maxRecDepth 100000
set_option maxHeartbeats 4000000
namespace K67
open PySem PySem.Spec PyProof.Rows L2 Pl RZ
local macro_rules | `(tactic| walk_at "pl1") => `(tactic| first
  | with_reducible refine s_seq ?_ | with_reducible refine s_next ?_ | with_reducible refine s_ret ?_ | with_reducible refine s_retN ?_ | with_reducible refine s_if ?_
  | (with_reducible refine s_set ?h0 ?_; (case h0 => exact lt_ok rfl)) | with_reducible refine s_drop ?_ | (with_reducible refine s_asg2 ?h0 ?h1 ?_; (case h0 => exact lt_ok rfl); (case h1 => exact lt_ok rfl)) | (with_reducible refine s_asg3 ?h0 ?h1 ?h2 ?_; (case h0 => exact lt_ok rfl); (case h1 => exact lt_ok rfl); (case h2 => exact lt_ok rfl)) | (with_reducible refine s_par ?h0 ?h1 ?_; (case h0 => exact lt_ok rfl); (case h1 => exact lt_ok rfl)) | (with_reducible refine s_par3 ?h0 ?h1 ?h2 ?_; (case h0 => exact lt_ok rfl); (case h1 => exact lt_ok rfl); (case h2 => exact lt_ok rfl))
  | refine ee_var (by rfl) ?_ | refine ee_own (by rfl) ?_
  | with_reducible refine ee_int ?_ | with_reducible refine ee_bl ?_ | with_reducible refine ee_str ?_ | with_reducible refine ee_non ?_
  | with_reducible refine ee_isiI ?_ | with_reducible refine ee_isiB ?_ | with_reducible refine ee_isiT ?_ | with_reducible refine ee_isiS ?_ | with_reducible refine ee_isiL ?_
  | with_reducible refine ee_op ?_ | with_reducible refine ee_un ?_ | with_reducible refine ee_cb ?_ | with_reducible refine ee_chain ?_ | with_reducible refine ee_andV ?_ | with_reducible refine ee_orV ?_ | with_reducible refine ee_notV ?_ | with_reducible refine ee_if ?_
  | with_reducible refine ee_tup ?_ | with_reducible refine el_lst ?_ | with_reducible refine ed_nil ?_ | with_reducible refine ed_cons ?_ | with_reducible refine ea_nil ?_ | refine ea_cup (by rfl) ?_ | with_reducible refine ea_cons ?_
  | with_reducible refine et_test (m := false) ?_ | with_reducible refine et_B (m := false) ?_ | with_reducible refine et_and ?_ | with_reducible refine et_or ?_ | with_reducible refine et_not ?_
  | with_reducible refine eo_none ?_ | with_reducible refine eo_some (m := false) ?_ | with_reducible refine ee_call ?_)
local macro_rules | `(tactic| walk_at "pl2") => `(tactic| first
  | with_reducible refine ar_plusI ?_ | with_reducible refine ar_minus ?_ | (with_reducible refine ar_timesI ?_ ?_) | with_reducible refine ar_fdv ?_ ?_ | with_reducible refine ar_md ?_ ?_ | with_reducible refine ar_pw ?_ ?_
  | with_reducible refine ar_eqI ?_ | with_reducible refine ar_neI ?_
  | with_reducible refine ar_lssI ?_ | with_reducible refine ar_lssS ?_ | with_reducible refine ar_leqI ?_ | with_reducible refine ar_grtI ?_ | with_reducible refine ar_geqI ?_ | with_reducible refine ar_isN ?_ | with_reducible refine ar_isNN ?_ | with_reducible refine ar_isB ?_ | with_reducible refine ar_isNB ?_
  | with_reducible refine ar_plusT ?_ ?_ | with_reducible refine ar_plusS ?_ ?_ | with_reducible refine ar_timesT ?_ ?_ ?_ ?_ | with_reducible refine ar_inC ?_ | with_reducible refine ar_notInC ?_ | with_reducible refine au_neg ?_
  | with_reducible refine ac_lenT ?_ | with_reducible refine ac_lenL ?_ | with_reducible refine ac_lenS ?_ ?_ | with_reducible refine ac_int ?_ | with_reducible refine ac_abs ?_ | with_reducible refine ac_max2 ?_ | with_reducible refine ac_min2 ?_ | with_reducible refine ac_tupL ?_ | with_reducible refine ac_tupT ?_ | with_reducible refine ac_strS ?_
  | refine itet ?_ | refine itef ?_ | with_reducible refine iten ?_ | exact ⟨_, rfl, by assumption⟩ | (with_reducible refine ⟨_, rfl, ?_⟩) | (with_reducible refine ⟨_, _, rfl, ?_⟩) | (with_reducible refine ⟨_, _, _, rfl, ?_⟩))
local macro_rules | `(tactic| walk_at "pl") => `(tactic| repeat (first | walk_at "pl1" | walk_at "pl2"))
theorem shaped_ans (os : List (Option Int)) : SeqAt.shaped (anss os) = true := by
  have h1 : ∀ os : List (Option Int), PyData.canLayAll0 (os.map ans) = true := fun os => by
    induction os with
    | nil => rfl
    | cons o os ih => rw [List.map_cons, PyData.canLayAll0, ih]; cases o <;> rfl
  have h2 : ∀ os : List (Option Int), PyData.depthAll (os.map ans) ≤ 1 := fun os => by
    induction os with
    | nil => simp [PyData.depthAll]
    | cons o os ih =>
      rw [List.map_cons]
      have : (ans o).depth ≤ 1 := by cases o <;> simp [ans, PyData.depth]
      simp only [PyData.depthAll]
      omega
  have h3 := h2 os
  unfold SeqAt.shaped anss
  rw [Bool.and_eq_true]
  exact ⟨by rw [PyData.canLay0]; exact h1 os, decide_eq_true (by simp only [PyData.depth]; omega)⟩
def InR (os : List (Option Int)) (d : Dt) : Prop := ∃ ns : List Int, d = .tuple (ns.map .int) ∧ ns.length ≤ 2000 ∧ ∀ x, x ∈ ns → 0 ≤ x ∧ x < ((os.length : Nat) : Int)
theorem tests_false {os : List (Option Int)} {mi b : Int} {x : Dt} {n : Nat} {xs : List Dt} (h : isWhole x 0 (((os.length : Nat) : Int) - 1) = false) : isPaper os mi b (.tuple (x :: xs)) = false := by
  unfold isPaper
  show (_ && ((x :: xs).all (fun x => isWhole x 0 (((os.length : Nat) : Int) - 1)) && _)) = false
  rw [List.all_cons, h]
  cases isTupleOf (.tuple (x :: xs)) (mi + 1) (mi + 1) <;> rfl
theorem rep_flat (x : Dt) : ∀ n : Nat, (List.replicate n [x]).flatten = List.replicate n x
  | 0 => rfl
  | n + 1 => by rw [List.replicate_succ, List.flatten_cons, rep_flat x n, List.replicate_succ] <;> rfl
theorem fm_none (xs : List Dt) : xs.filterMap (fun _ => (none : Option Dt)) = [] := by
  induction xs with
  | nil => rfl
  | cons x xs ih => rw [List.filterMap_cons, ih]
theorem ints_of {n : Int} : ∀ {ys : List Dt}, (∀ y, y ∈ ys → ∃ x : Int, y = .int x ∧ 0 ≤ x ∧ x < n) → ∃ ns : List Int, ys = ns.map .int ∧ ∀ x, x ∈ ns → 0 ≤ x ∧ x < n
  | [], _ => ⟨[], rfl, fun x h => by cases h⟩
  | y :: ys, h => by
    obtain ⟨ns, e, q⟩ := ints_of (ys := ys) fun z hz => h z (List.mem_cons_of_mem _ hz)
    obtain ⟨x, rfl, x1, x2⟩ := h y List.mem_cons_self
    refine ⟨x :: ns, by rw [List.map_cons, e], fun z hz => ?_⟩
    rcases List.mem_cons.mp hz with e | e
    · subst e; exact ⟨x1, x2⟩
    · exact q z e
theorem tail_ok {C : Cxt} {w : World} {many wt mi b : Int} {os : List (Option Int)} {d5 d6 d7 p so : Dt} {r12 : AEnv} {nx : AEnv → Prop} {k : Dt → Prop} {bk ct : AEnv → Prop} (g : Good os) (hz : os.length ≤ 40) (m1 : 0 ≤ mi) (m2 : mi ≤ 41) (b1 : 0 ≤ b) (b2 : b ≤ 1000001) (hr : r12.length = 8)
    (fin : ∀ r : AEnv, r.length = 11 → nx (slots C many wt mi os d5 d6 d7 (some (.dat (.int b)) :: r))) :
    S4 C (tailT C.K w) (slots C many wt mi os d5 d6 d7 (some (.dat (.int b)) :: some (.dat p) :: some (.dat (.list ((rowsOf os b).map .int))) :: some (.dat so) :: r12)) nx k bk ct := by
  match r12, hr with
  | [c0, c1, c2, c3, c4, c5, c6, c7], _ =>
  have hrl : (rowsOf os b).length ≤ 40 := by
    have h1 := rows_len b os 0
    have h2 := len_miss os (b - 1)
    unfold rowsOf
    omega
  have hrm : ∀ x, x ∈ rowsOf os b → 0 ≤ x ∧ x < ((os.length : Nat) : Int) := fun x hx => by
    have := rows_mem b os 0 x hx
    omega
  have inCut : ∀ a c : Option Int, InR os (.tuple ((cut (rowsOf os b) a c).map .int)) := fun a c => ⟨_, rfl, by have := cut_len (rowsOf os b) a c; omega, fun x hx => hrm x (cut_mem hx)⟩
  unfold tailT
  unfold slots at fin ⊢
  refine s_seq ?_
  refine s_set (lt_ok rfl) ?_
  have step : ∀ d12 : Dt, InR os d12 → S4 C (tSeq (tAsg (tLst (tCons (tVar 12) (tCons (tCB (cTup C.K) (tCons (tSl (rSlc C.K) (tVar 10) (tPart (tOp (rMinus) (tUn (rU fun i => .int (-i)) (tVar 4)) (tC (.int 1)))) (tNoPart)) (tNil))) (tCons (tCB (cTup C.K) (tCons (tVar 10) (tNil))) (tCons (tCB (cTup C.K) (tCons (tSl (rSlc C.K) (tVar 10) (tNoPart) (tPart (tVar 4))) (tNil))) (tCons (tCB (cTup C.K) (tCons (tRevL C.K (tSl (rSlc C.K) (tVar 10) (tNoPart) (tPart (tOp (rPlus C.K) (tVar 4) (tC (.int 1)))))) (tNil))) (tNil))))))) (gName 13))
    (tSeq (tFor (iSeq C.K (tVar 13)) (gName 14) (tIfS (tNot (tB (tCall (spSame C.K 2) [] E0 (tCons (tCall (spA C.K 4 R_is_wait_paper) [] E0 (tCons (tVar 2) (tCons (tVar 4) (tCons (tVar 8) (tCons (tVar 14) (tNil)))))) (tCons (tCall (spA C.K 4 R__law_is_paper) [] E0 (tCons (tVar 2) (tCons (tVar 4) (tCons (tVar 8) (tCons (tVar 14) (tNil)))))) (tNil)))))) (tRet (tC (.bl false))) (tNext)))
    (tSeq (tAsg (tLst (tCons (tC .non) (tCons (tCB (cLst C.K) (tCons (tSl (rSlc C.K) (tVar 10) (tNoPart) (tPart (tOp (rPlus C.K) (tVar 4) (tC (.int 1))))) (tNil))) (tCons (tOp (rTimes C.K) (tTup (tCons (tCB (cLen C.K) (tCons (tVar 2) (tNil))) (tNil))) (tOp (rPlus C.K) (tVar 4) (tC (.int 1)))) (tCons (tOp (rTimes C.K) (tTup (tCons (tUn (rU fun i => .int (-i)) (tC (.int 1))) (tNil))) (tOp (rPlus C.K) (tVar 4) (tC (.int 1)))) (tCons (tOp (rPlus C.K) (tTup (tCons (tC (.bl true)) (tNil))) (tOp (rTimes C.K) (tTup (tCons (tC (.int 0)) (tNil))) (tVar 4))) (tCons (tOp (rTimes C.K) (tTup (tCons (tC .non) (tNil))) (tOp (rPlus C.K) (tVar 4) (tC (.int 1)))) (tCons (tC (.int 5)) (tNil))))))))) (gName 15))
    (tIfS (tTest (tOp (rNeD C.K) (tLc (iSeq C.K (tVar 15)) (gName 19) (tTest (tOp (rIsNW) (tCall (spA C.K 4 R_is_wait_paper) [] E0 (tCons (tVar 2) (tCons (tVar 4) (tCons (tVar 8) (tCons (tVar 19) (tNil)))))) (tC (.bl false)))) (tVar 19) [19]) (tLst (tNil)))) (tRet (tC (.bl false))) (tNext)))))
      [some .cup, some (.dat (.int many)), some (.dat (anss os)), some (.dat (.int wt)), some (.dat (.int mi)), some (.dat d5), some (.dat d6), some (.dat d7), some (.dat (.int b)), some (.dat p), some (.dat (.list ((rowsOf os b).map .int))), some (.dat so), some (.dat d12), c1, c2, c3, c4, c5, c6, c7] nx k bk ct := by
    intro d12 hd12
    refine s_seq ?_
    refine s_set (lt_ok rfl) ?_
    refine ee_new ?_
    walk_at "pl"
    refine ee_new ?_
    refine el_sl ?_
    walk_at "pl"
    refine ee_new ?_
    refine el_sl ?_
    walk_at "pl"
    refine ee_new ?_
    refine el_rev ?_
    refine ee_new ?_
    refine el_sl ?_
    walk_at "pl"
    refine ⟨le_ok rfl, ?_⟩
    have hv : ∀ d, d ∈ [d12, PyData.tuple (cut ((rowsOf os b).map PyData.int) (some (-mi - 1)) none), PyData.tuple ((rowsOf os b).map PyData.int), PyData.tuple (cut ((rowsOf os b).map PyData.int) none (some mi)), PyData.tuple (cut ((rowsOf os b).map PyData.int) none (some (mi + 1))).reverse] → InR os d := by
      intro d hd
      simp only [List.mem_cons, List.not_mem_nil, or_false] at hd
      rcases hd with z | z | z | z | z
      · rw [z]; exact hd12
      · rw [z, cut_map]; exact inCut _ _
      · rw [z]; exact ⟨_, rfl, by omega, hrm⟩
      · rw [z, cut_map]; exact inCut _ _
      · rw [z, cut_map, ← List.map_reverse]
        exact ⟨_, rfl, by rw [List.length_reverse]; have := cut_len (rowsOf os b) none (some (mi + 1)); omega, fun x hx => hrm x (cut_mem (List.mem_reverse.mp hx))⟩
    generalize [d12, PyData.tuple (cut ((rowsOf os b).map PyData.int) (some (-mi - 1)) none), PyData.tuple ((rowsOf os b).map PyData.int), PyData.tuple (cut ((rowsOf os b).map PyData.int) none (some mi)), PyData.tuple (cut ((rowsOf os b).map PyData.int) none (some (mi + 1))).reverse] = vals at hv ⊢
    refine s_seq ?_
    refine s_for (.name 14) ?_
    refine ei_lst ?_
    refine ee_var rfl ?_
    refine ⟨_, rfl, fun i ρ' => ∃ a14 : Option AV, ρ' = [some .cup, some (.dat (.int many)), some (.dat (anss os)), some (.dat (.int wt)), some (.dat (.int mi)), some (.dat d5), some (.dat d6), some (.dat d7), some (.dat (.int b)), some (.dat p), some (.dat (.list ((rowsOf os b).map .int))), some (.dat so), some (.dat d12), some (.dat (.list vals)), a14, c3, c4, c5, c6, c7], ⟨_, rfl⟩, fun i d ρ' hi hI => ?_, fun ρ' hI => ?_⟩
    · obtain ⟨a14, rfl⟩ := hI
      obtain ⟨ns, rfl, n1, n2⟩ := hv d (List.mem_of_getElem? hi)
      refine ⟨_, rfl, ?_⟩
      walk_at "pl"
      refine ee_call ?_
      walk_at "pl"
      refine ⟨rfl, _, _, _, _, g, m1, by omega, b1, b2, rfl, ?_⟩
      walk_at "pl"
      refine ⟨rfl, _, _, _, _, by omega, n1, n2, rfl, ?_⟩
      walk_at "pl"
      refine ⟨rfl, _, rfl, .inl rfl, ?_⟩
      walk_at "pl"
      exact ⟨_, rfl⟩
    · obtain ⟨a14, rfl⟩ := hI
      refine s_seq ?_
      refine s_set (lt_ok rfl) ?_
      refine ee_new ?_
      refine el_lst ?_
      refine ed_cons (ee_non ?_)
      refine ed_cons ?_
      refine ee_new (el_cb ?_)
      refine ed_cons (ee_new (el_sl ?_))
      walk_at "pl"
      refine acl_lstL ?_
      walk_at "pl"
      refine ac_lenT (xs := os.map ans) ?_
      walk_at "pl"
      refine ⟨le_ok rfl, ?_⟩
      walk_at "pl"
      · omega
      · omega
      · simp; omega
      walk_at "pl"
      refine ⟨le_ok rfl, ?_⟩
      walk_at "pl"
      · omega
      · omega
      · simp; omega
      walk_at "pl"
      refine ⟨le_ok rfl, ?_⟩
      walk_at "pl"
      refine ⟨le_ok rfl, ?_⟩
      walk_at "pl"
      · omega
      · omega
      · simp; omega
      refine ar_plusT (by rw [rep_flat]; simp; omega) ?_
      walk_at "pl"
      refine ⟨le_ok rfl, ?_⟩
      walk_at "pl"
      · omega
      · omega
      · simp; omega
      walk_at "pl"
      refine ⟨le_ok rfl, ?_⟩
      have hodd : ∀ d, d ∈ [PyData.none, PyData.list (cut ((rowsOf os b).map PyData.int) none (some (mi + 1))), PyData.tuple (List.replicate (mi + 1).toNat [PyData.int (((os.map ans).length : Nat) : Int)]).flatten, PyData.tuple (List.replicate (mi + 1).toNat [PyData.int (-1)]).flatten, PyData.tuple ([PyData.bool true] ++ (List.replicate mi.toNat [PyData.int 0]).flatten), PyData.tuple (List.replicate (mi + 1).toNat [PyData.none]).flatten, PyData.int 5] → isPaper os mi b d = false := by
        have es : (mi + 1).toNat = mi.toNat + 1 := by omega
        intro d hd
        simp only [List.mem_cons, List.not_mem_nil, or_false] at hd
        rcases hd with z | z | z | z | z | z | z
        · rw [z]; rfl
        · rw [z]; rfl
        · rw [z, rep_flat, es, List.replicate_succ]
          refine tests_false (n := 0) ?_
          show (decide ((0 : Int) ≤ (((os.map ans).length : Nat) : Int)) && decide ((((os.map ans).length : Nat) : Int) ≤ ((os.length : Nat) : Int) - 1)) = false
          rw [List.length_map, decide_eq_false (show ¬ ((os.length : Nat) : Int) ≤ ((os.length : Nat) : Int) - 1 from by omega), Bool.and_false]
        · rw [z, rep_flat, es, List.replicate_succ]
          exact tests_false (n := 0) rfl
        · rw [z]
          exact tests_false (n := 0) rfl
        · rw [z, rep_flat, es, List.replicate_succ]
          exact tests_false (n := 0) rfl
        · rw [z]; rfl
      generalize hX : [PyData.none, PyData.list (cut ((rowsOf os b).map PyData.int) none (some (mi + 1))), PyData.tuple (List.replicate (mi + 1).toNat [PyData.int (((os.map ans).length : Nat) : Int)]).flatten, PyData.tuple (List.replicate (mi + 1).toNat [PyData.int (-1)]).flatten, PyData.tuple ([PyData.bool true] ++ (List.replicate mi.toNat [PyData.int 0]).flatten), PyData.tuple (List.replicate (mi + 1).toNat [PyData.none]).flatten, PyData.int 5] = odds at hodd ⊢
      have hol : odds.length ≤ 100000 := by rw [← hX]; exact le_ok rfl
      · refine s_if ?_
        refine et_test (m := false) ?_
        refine ee_op ?_
        refine ee_new ?_
        refine el_lcM (vs := [19]) (.name 19) (by decide) (fun _ => none) ?_
        refine ei_lst ?_
        refine ee_var rfl ?_
        refine ⟨_, rfl, hol, fun d hd => ?_, fun _ => ?_⟩
        · refine ⟨_, rfl, ?_⟩
          walk_at "pl"
          refine ⟨rfl, _, _, _, _, g, m1, by omega, b1, b2, rfl, ?_⟩
          rw [hodd d hd]
          walk_at "pl"
          rfl
        · rw [fm_none]
          refine ee_new ?_
          walk_at "pl"
          refine ⟨by decide, ?_⟩
          refine ar_ne rfl rfl ?_
          walk_at "pl"
          exact fin _ rfl
  refine ee_if ?_
  refine et_test (m := false) ?_
  walk_at "pl"
  refine ⟨by decide, ?_⟩
  refine ar_ne (shaped_ans os) rfl ?_
  cases os with
  | nil =>
    walk_at "pl"
    refine ⟨by decide, ?_⟩
    exact step _ ⟨[], rfl, by simp, fun x hx => by cases hx⟩
  | cons o os =>
    refine ⟨_, rfl, ?_⟩
    refine itet ?_
    refine ee_cb ?_
    refine ed_cons ?_
    refine ee_new ?_
    refine el_sortSet ?_
    refine ee_new ?_
    refine el_lcR (vs := [18]) (.name 18) (by decide) (fun y => ∃ x : Int, y = .int x ∧ 0 ≤ x ∧ x < (((o :: os).length : Nat) : Int)) ?_
    refine ei_rng1 ?_
    walk_at "pl"
    refine ⟨by omega, by omega, by unfold rng; rw [List.length_map, List.length_range]; omega, fun d hd => ?_, fun ys hl hy _ => ?_⟩
    · refine ⟨_, rfl, ?_⟩
      walk_at "pl"
      refine ac_lenT (xs := (o :: os).map ans) ?_
      walk_at "pl"
      rw [List.length_map]
      exact ⟨rfl, _, rfl, by simp; omega, by omega, fun r r1 r2 => ⟨rfl, r, rfl, r1, r2⟩⟩
    · obtain ⟨ns, rfl, q⟩ := ints_of hy
      rw [List.length_map] at hl
      unfold rng at hl
      rw [List.length_map, List.length_range] at hl
      refine ⟨ns, rfl, by omega, fun ms p1 p2 p3 => ?_⟩
      refine ed_nil (ac_tupL ?_)
      exact step _ ⟨ms, rfl, by omega, fun x hx => q x ((p2 x).mp hx)⟩
end K67

set_option Elab.async false
set_option linter.all false
set_option maxRecDepth 100000
set_option maxHeartbeats 4000000
namespace K67
open PySem PySem.Spec PyProof.Rows L2 Pl RZ
local macro_rules | `(tactic| walk_at "pl1") => `(tactic| first
  | with_reducible refine s_seq ?_ | with_reducible refine s_next ?_ | with_reducible refine s_ret ?_ | with_reducible refine s_retN ?_ | with_reducible refine s_if ?_
  | (with_reducible refine s_set ?h0 ?_; (case h0 => exact lt_ok rfl)) | with_reducible refine s_drop ?_ | (with_reducible refine s_asg2 ?h0 ?h1 ?_; (case h0 => exact lt_ok rfl); (case h1 => exact lt_ok rfl)) | (with_reducible refine s_asg3 ?h0 ?h1 ?h2 ?_; (case h0 => exact lt_ok rfl); (case h1 => exact lt_ok rfl); (case h2 => exact lt_ok rfl)) | (with_reducible refine s_par ?h0 ?h1 ?_; (case h0 => exact lt_ok rfl); (case h1 => exact lt_ok rfl)) | (with_reducible refine s_par3 ?h0 ?h1 ?h2 ?_; (case h0 => exact lt_ok rfl); (case h1 => exact lt_ok rfl); (case h2 => exact lt_ok rfl))
  | refine ee_var (by rfl) ?_ | refine ee_own (by rfl) ?_
  | with_reducible refine ee_int ?_ | with_reducible refine ee_bl ?_ | with_reducible refine ee_str ?_ | with_reducible refine ee_non ?_
  | with_reducible refine ee_isiI ?_ | with_reducible refine ee_isiB ?_ | with_reducible refine ee_isiT ?_ | with_reducible refine ee_isiS ?_ | with_reducible refine ee_isiL ?_
  | with_reducible refine ee_op ?_ | with_reducible refine ee_un ?_ | with_reducible refine ee_cb ?_ | with_reducible refine ee_chain ?_ | with_reducible refine ee_andV ?_ | with_reducible refine ee_orV ?_ | with_reducible refine ee_notV ?_ | with_reducible refine ee_if ?_
  | with_reducible refine ee_tup ?_ | with_reducible refine el_lst ?_ | with_reducible refine ed_nil ?_ | with_reducible refine ed_cons ?_ | with_reducible refine ea_nil ?_ | refine ea_cup (by rfl) ?_ | with_reducible refine ea_cons ?_
  | with_reducible refine et_test (m := false) ?_ | with_reducible refine et_B (m := false) ?_ | with_reducible refine et_and ?_ | with_reducible refine et_or ?_ | with_reducible refine et_not ?_
  | with_reducible refine eo_none ?_ | with_reducible refine eo_some (m := false) ?_ | with_reducible refine ee_call ?_)
local macro_rules | `(tactic| walk_at "pl2") => `(tactic| first
  | with_reducible refine ar_plusI ?_ | with_reducible refine ar_minus ?_ | (with_reducible refine ar_timesI ?_ ?_) | with_reducible refine ar_fdv ?_ ?_ | with_reducible refine ar_md ?_ ?_ | with_reducible refine ar_pw ?_ ?_
  | with_reducible refine ar_eqI ?_ | with_reducible refine ar_neI ?_
  | with_reducible refine ar_lssI ?_ | with_reducible refine ar_lssS ?_ | with_reducible refine ar_leqI ?_ | with_reducible refine ar_grtI ?_ | with_reducible refine ar_geqI ?_ | with_reducible refine ar_isN ?_ | with_reducible refine ar_isNN ?_ | with_reducible refine ar_isB ?_ | with_reducible refine ar_isNB ?_
  | with_reducible refine ar_plusT ?_ ?_ | with_reducible refine ar_plusS ?_ ?_ | with_reducible refine ar_timesT ?_ ?_ ?_ ?_ | with_reducible refine ar_inC ?_ | with_reducible refine ar_notInC ?_ | with_reducible refine au_neg ?_
  | with_reducible refine ac_lenT ?_ | with_reducible refine ac_lenL ?_ | with_reducible refine ac_lenS ?_ ?_ | with_reducible refine ac_int ?_ | with_reducible refine ac_abs ?_ | with_reducible refine ac_max2 ?_ | with_reducible refine ac_min2 ?_ | with_reducible refine ac_tupL ?_ | with_reducible refine ac_tupT ?_ | with_reducible refine ac_strS ?_
  | refine itet ?_ | refine itef ?_ | with_reducible refine iten ?_ | exact ⟨_, rfl, by assumption⟩ | (with_reducible refine ⟨_, rfl, ?_⟩) | (with_reducible refine ⟨_, _, rfl, ?_⟩) | (with_reducible refine ⟨_, _, _, rfl, ?_⟩))
local macro_rules | `(tactic| walk_at "pl") => `(tactic| repeat (first | walk_at "pl1" | walk_at "pl2"))
theorem plain3 {a b c : Dt} (h1 : atom a = true) (h2 : atom b = true) (h3 : atom c = true) : plainD 1 (.tuple [a, b, c]) := .inr ⟨_, rfl, le_ok rfl, fun x hx => by
  rcases mem3 hx with z | z | z <;> rw [z] <;> assumption⟩
theorem body_law_right (many : Int) (h1 : 0 ≤ many) (h2 : many ≤ 40) (k : Dt → Prop) (C : Cxt) (w : World) (hk : k (.bool true)) : B4 C (t__law_right C.K w) [some .cup, some (.dat (.int many)), none, none, none, none, none, none, none, none, none, none, none, none, none, none, none, none, none, none] k := by
  unfold t__law_right B4
  walk_at "pl"
  refine ⟨rfl, _, rfl, h1, by omega, fun os o1 o2 => ?_⟩
  have g : Good os := ⟨by omega, fun x hx => by have := o2 x hx; omega⟩
  have hn := nlAll_ans os
  walk_at "pl"
  refine ⟨rfl, _, rfl, by omega, by omega, fun wt w1 w2 => ?_⟩
  walk_at "pl"
  refine ee_new ?_
  walk_at "pl"
  refine ⟨rfl, _, rfl, by omega, by omega, fun r r1 r2 => ?_⟩
  walk_at "pl"
  refine ⟨rfl, _, rfl, by omega, by omega, fun q q1 q2 => ?_⟩
  walk_at "pl"
  refine ⟨le_ok rfl, ?_⟩
  walk_at "pl"
  refine ⟨rfl, _, rfl, by simp, le_ok rfl, rfl, fun d hd => ?_⟩
  obtain ⟨mi, rfl, m1, m2⟩ : ∃ mi : Int, d = .int mi ∧ 0 ≤ mi ∧ mi ≤ 41 := by
    rcases mem3 hd with z | z | z <;> exact ⟨_, z, by omega, by omega⟩
  walk_at "pl"
  refine ⟨le_ok rfl, ?_⟩
  walk_at "pl"
  refine ⟨rfl, _, _, g, by omega, rfl, fun least hL => ?_⟩
  walk_at "pl"
  refine ⟨rfl, _, rfl, ?_⟩
  rw [fits_good g]
  walk_at "pl"
  refine ⟨rfl, _, _, g, w1, by omega, rfl, ?_⟩
  walk_at "pl"
  refine ⟨rfl, _, _, g, m1, by omega, rfl, fun least2 hL2 => ?_⟩
  have el := least_one g hL2 hL
  subst el
  walk_at "pl"
  refine ⟨le_ok rfl, ?_⟩
  refine s_seq ?_
  refine s_if ?_
  refine et_not ?_
  refine et_B (m := false) ?_
  refine ee_call ?_
  walk_at "pl"
  refine ⟨rfl, _, _, by omega, rfl, ?_⟩
  walk_at "pl"
  refine ⟨le_ok rfl, ?_⟩
  walk_at "pl"
  refine ⟨rfl, _, rfl, plain3 rfl rfl (least_atom hL), ?_⟩
  walk_at "pl"
  -- the rest, behind the least
  have e10 : (10 : Int) ^ Int.toNat 6 = 1000000 := by decide
  have rest : ∀ (bs : Int), 0 ≤ bs → bs ≤ 1000001 → S4 C (tFor (iSeq C.K (tTup (tCons (tC (.int 0)) (tCons (tVar 7) (tCons (tCB (cMin2) (tCons (tOp (rPlus C.K) (tOp (rPw) (tC (.int 10)) (tC (.int 6))) (tC (.int 1))) (tCons (tOp (rPlus C.K) (tVar 7) (tC (.int 1))) (tNil)))) (tCons (tCB (cMax2) (tCons (tC (.int 0)) (tCons (tOp (rMinus) (tVar 7) (tC (.int 1))) (tNil)))) (tCons (tOp (rPlus C.K) (tOp (rPw) (tC (.int 10)) (tC (.int 6))) (tC (.int 1))) (tNil)))))))) (gName 8) (turnT C.K w))
      (slots C many wt mi os least2 (.tuple [.bool true, .int (missedN os wt), least2]) (.int bs) [none, none, none, none, none, none, none, none, none, none, none, none]) (fun ρ' => S4 C (tRet (tC (.bl true))) ρ' (fun _ => k .none) (fun d => nl d = true ∧ k d) (fun _ => False) (fun _ => False)) (fun d => nl d = true ∧ k d) (fun _ => False) (fun _ => False) := by
    intro bs bs1 bs2
    refine s_for (.name 8) ?_
    refine ei_tup ?_
    unfold slots
    walk_at "pl"
    · exact ⟨by decide, by decide, by decide⟩
    walk_at "pl"
    · exact ⟨by decide, by decide, by decide⟩
    walk_at "pl"
    refine ⟨le_ok rfl, _, rfl, fun i ρ' => ∃ r : AEnv, r.length = 12 ∧ ρ' = slots C many wt mi os least2 (.tuple [.bool true, .int (missedN os wt), least2]) (.int bs) r, ⟨_, rfl, rfl⟩, fun i d ρ' hi hI => ?_, fun ρ' hI => ?_⟩
    · obtain ⟨r, hr, rfl⟩ := hI
      match r, hr with
      | [a8, a9, a10, a11, a12, a13, a14, a15, a16, a17, a18, a19], _ =>
      obtain ⟨b, rfl, b1, b2⟩ : ∃ b : Int, d = .int b ∧ 0 ≤ b ∧ b ≤ 1000001 := by
        have hd := List.mem_of_getElem? hi
        simp only [List.mem_cons, List.not_mem_nil, or_false, e10] at hd
        rcases hd with z | z | z | z | z
        · exact ⟨_, z, by omega, by omega⟩
        · exact ⟨_, z, by omega, by omega⟩
        · refine ⟨_, z, ?_, ?_⟩ <;> (split <;> omega)
        · refine ⟨_, z, ?_, ?_⟩ <;> (split <;> omega)
        · exact ⟨_, z, by omega, by omega⟩
      refine ⟨_, rfl, ?_⟩
      refine turn_ok g (by omega) m1 m2 b1 b2 (r12 := [a12, a13, a14, a15, a16, a17, a18, a19]) rfl fun p => ?_
      exact tail_ok g (by omega) m1 m2 b1 b2 rfl fun r hr => ⟨_, by rw [List.length_cons, hr], rfl⟩
    · obtain ⟨r, hr, rfl⟩ := hI
      refine s_ret (ee_bl ?_)
      exact ⟨rfl, hk⟩
  have hL0 := hL
  rcases hL with ⟨rfl, l1⟩ | ⟨v, rfl, l1, l2, l3⟩
  · walk_at "pl"
    · exact ⟨by decide, by decide, by decide⟩
    walk_at "pl"
    rw [e10]
    exact rest (1000000 + 1) (by decide) (by decide)
  · have hv : 0 ≤ v ∧ v ≤ 1000000 := by
      rcases l1 with z | z
      · omega
      · exact g.2 v z
    walk_at "pl"
    refine ⟨rfl, _, _, g, hv.1, hv.2, rfl, ?_⟩
    walk_at "pl"
    rw [decide_eq_false (show ¬ mi < missedN os v from by omega)]
    walk_at "pl"
    refine ited (fun hp => ?_) (fun hp => ?_)
    · walk_at "pl"
      refine ⟨rfl, _, _, g, by omega, by omega, rfl, ?_⟩
      walk_at "pl"
      have := l3 (v - 1) (by omega) (by omega)
      rw [decide_eq_false (show ¬ missedN os (v - 1) ≤ mi from by omega)]
      walk_at "pl"
      exact rest v hv.1 (by omega)
    · walk_at "pl"
      exact rest v hv.1 (by omega)
end K67

set_option Elab.async false
set_option linter.all false
set_option maxRecDepth 100000
set_option maxHeartbeats 4000000
namespace K67
open PySem PySem.Spec PyProof.Rows L2 Pl RZ
local macro_rules | `(tactic| walk_at "pl1") => `(tactic| first
  | with_reducible refine s_seq ?_ | with_reducible refine s_next ?_ | with_reducible refine s_ret ?_ | with_reducible refine s_retN ?_ | with_reducible refine s_if ?_
  | (with_reducible refine s_set ?h0 ?_; (case h0 => exact lt_ok rfl)) | with_reducible refine s_drop ?_ | (with_reducible refine s_asg2 ?h0 ?h1 ?_; (case h0 => exact lt_ok rfl); (case h1 => exact lt_ok rfl)) | (with_reducible refine s_asg3 ?h0 ?h1 ?h2 ?_; (case h0 => exact lt_ok rfl); (case h1 => exact lt_ok rfl); (case h2 => exact lt_ok rfl)) | (with_reducible refine s_par ?h0 ?h1 ?_; (case h0 => exact lt_ok rfl); (case h1 => exact lt_ok rfl)) | (with_reducible refine s_par3 ?h0 ?h1 ?h2 ?_; (case h0 => exact lt_ok rfl); (case h1 => exact lt_ok rfl); (case h2 => exact lt_ok rfl))
  | refine ee_var (by rfl) ?_ | refine ee_own (by rfl) ?_
  | with_reducible refine ee_int ?_ | with_reducible refine ee_bl ?_ | with_reducible refine ee_str ?_ | with_reducible refine ee_non ?_
  | with_reducible refine ee_isiI ?_ | with_reducible refine ee_isiB ?_ | with_reducible refine ee_isiT ?_ | with_reducible refine ee_isiS ?_ | with_reducible refine ee_isiL ?_
  | with_reducible refine ee_op ?_ | with_reducible refine ee_un ?_ | with_reducible refine ee_cb ?_ | with_reducible refine ee_chain ?_ | with_reducible refine ee_andV ?_ | with_reducible refine ee_orV ?_ | with_reducible refine ee_notV ?_ | with_reducible refine ee_if ?_
  | with_reducible refine ee_tup ?_ | with_reducible refine el_lst ?_ | with_reducible refine ed_nil ?_ | with_reducible refine ed_cons ?_ | with_reducible refine ea_nil ?_ | refine ea_cup (by rfl) ?_ | with_reducible refine ea_cons ?_
  | with_reducible refine et_test (m := false) ?_ | with_reducible refine et_B (m := false) ?_ | with_reducible refine et_and ?_ | with_reducible refine et_or ?_ | with_reducible refine et_not ?_
  | with_reducible refine eo_none ?_ | with_reducible refine eo_some (m := false) ?_ | with_reducible refine ee_call ?_)
local macro_rules | `(tactic| walk_at "pl2") => `(tactic| first
  | with_reducible refine ar_plusI ?_ | with_reducible refine ar_minus ?_ | (with_reducible refine ar_timesI ?_ ?_) | with_reducible refine ar_fdv ?_ ?_ | with_reducible refine ar_md ?_ ?_ | with_reducible refine ar_pw ?_ ?_
  | with_reducible refine ar_eqI ?_ | with_reducible refine ar_neI ?_
  | with_reducible refine ar_lssI ?_ | with_reducible refine ar_lssS ?_ | with_reducible refine ar_leqI ?_ | with_reducible refine ar_grtI ?_ | with_reducible refine ar_geqI ?_ | with_reducible refine ar_isN ?_ | with_reducible refine ar_isNN ?_ | with_reducible refine ar_isB ?_ | with_reducible refine ar_isNB ?_
  | with_reducible refine ar_plusT ?_ ?_ | with_reducible refine ar_plusS ?_ ?_ | with_reducible refine ar_timesT ?_ ?_ ?_ ?_ | with_reducible refine ar_inC ?_ | with_reducible refine ar_notInC ?_ | with_reducible refine au_neg ?_
  | with_reducible refine ac_lenT ?_ | with_reducible refine ac_lenL ?_ | with_reducible refine ac_lenS ?_ ?_ | with_reducible refine ac_int ?_ | with_reducible refine ac_abs ?_ | with_reducible refine ac_max2 ?_ | with_reducible refine ac_min2 ?_ | with_reducible refine ac_tupL ?_ | with_reducible refine ac_tupT ?_ | with_reducible refine ac_strS ?_
  | refine itet ?_ | refine itef ?_ | with_reducible refine iten ?_ | exact ⟨_, rfl, by assumption⟩ | (with_reducible refine ⟨_, rfl, ?_⟩) | (with_reducible refine ⟨_, _, rfl, ?_⟩) | (with_reducible refine ⟨_, _, _, rfl, ?_⟩))
local macro_rules | `(tactic| walk_at "pl") => `(tactic| repeat (first | walk_at "pl1" | walk_at "pl2"))
theorem fits_tuple (xs : List Dt) : fits (.tuple xs) = (decide (((xs.length : Nat) : Int) ≤ 2000) && xs.all okAns) := by
  show ((decide ((0 : Int) ≤ ((xs.length : Nat) : Int)) && decide (((xs.length : Nat) : Int) ≤ 2000)) && xs.all okAns) = _
  rw [decide_eq_true (show (0 : Int) ≤ ((xs.length : Nat) : Int) from by omega), Bool.true_and]
theorem raw_law {K : PySem.W.Frag} {w : World} {vs : List V} {H : Hp} {Q : VK} {E : XK} (h : spLaw K vs H Q E) : t_law K w { nx := fun _ H' => Q .non H', rt := Q } (L2.start ["script", "cup", "many", "odds", "odd"] vs) H := by
  obtain ⟨a, ns, rfl, hs, hl, q⟩ := h
  unfold t_law
  refine ⟨_, rfl, a, ns, rfl, hs, hl, fun c x y H1 _ h1 h2 h3 hc _ => ?_⟩
  have r := rep_cup (K := K) (fun _ _ _ => False) hc h1 h2 h3 (i := 1) (σ := L2.start ["script", "cup", "many", "odds", "odd"] [.ref a]) (lt_ok rfl)
  dsimp only [gName]
  refine raw_end (C := ⟨K, some c, fun _ _ _ => False, fun _ => False⟩) (ρ := [none, some .cup, none, none, none]) ?_ r ?_
  case refine_2 => exact q
  generalize hC : (⟨K, some c, fun _ _ _ => False, fun _ => False⟩ : Cxt) = C
  have hK : K = C.K := by rw [← hC]
  subst hK
  refine s_seq ?_
  refine s_for (.name 2) ?_
  refine ei_tup ?_
  walk_at "pl"
  refine ⟨le_ok rfl, _, rfl, fun i ρ' => ∃ a2 : Option AV, ρ' = [none, some .cup, a2, none, none], ⟨_, rfl⟩, fun i d ρ' hi hI => ?_, fun ρ' hI => ?_⟩
  · obtain ⟨a2, rfl⟩ := hI
    obtain ⟨many, rfl, hm1, hm2⟩ : ∃ many : Int, d = .int many ∧ 0 ≤ many ∧ many ≤ 40 := by
      have hd := List.mem_of_getElem? hi
      simp only [List.mem_cons, List.not_mem_nil, or_false] at hd
      rcases hd with z | z | z | z <;> exact ⟨_, z, by omega, by omega⟩
    refine ⟨_, rfl, ?_⟩
    walk_at "pl"
    refine ⟨rfl, _, rfl, hm1, hm2, ?_⟩
    walk_at "pl"
    exact ⟨_, rfl⟩
  · obtain ⟨a2, rfl⟩ := hI
    have e10 : (10 : Int) ^ Int.toNat 6 = 1000000 := by decide
    have g5 : Good [some 5] := ⟨by decide, fun x hx => by simp at hx; omega⟩
    have h5 : Least [some 5] 0 (.int 5) := .inr ⟨5, rfl, .inr List.mem_cons_self, by decide, fun w0 z1 z2 => by
      unfold missedN
      rw [List.filter_cons, show miss (some 5) w0 = true from decide_eq_true z2, if_pos rfl, List.filter_nil]
      decide⟩
    refine s_seq ?_
    refine s_if ?_
    refine et_not ?_
    refine et_B (m := false) ?_
    refine ee_call ?_
    walk_at "pl"
    refine ⟨le_ok rfl, ?_⟩
    walk_at "pl"
    refine ⟨rfl, [some 5], 0, g5, by decide, by decide, rfl, fun d hd => ?_⟩
    have ed := least_one g5 hd h5
    subst ed
    walk_at "pl"
    refine ⟨le_ok rfl, ?_⟩
    walk_at "pl"
    refine ⟨le_ok rfl, ?_⟩
    walk_at "pl"
    refine ⟨rfl, [some 5], 0, 5, _, g5, by decide, by decide, by decide, by decide, rfl, ?_⟩
    rw [show isPaper [some 5] 0 5 (.tuple [.int 0]) = true from by decide +kernel]
    walk_at "pl"
    refine ⟨le_ok rfl, ?_⟩
    walk_at "pl"
    refine ⟨le_ok rfl, ?_⟩
    walk_at "pl"
    refine ⟨rfl, [some 5], 0, 6, _, g5, by decide, by decide, by decide, by decide, rfl, ?_⟩
    rw [show isPaper [some 5] 0 6 (.tuple [.int 0]) = false from by decide +kernel]
    walk_at "pl"
    refine ⟨le_ok rfl, ?_⟩
    walk_at "pl"
    refine ⟨le_ok rfl, ?_⟩
    walk_at "pl"
    refine ⟨rfl, _, rfl, plain3 rfl rfl rfl, ?_⟩
    refine ⟨_, rfl, ?_⟩
    refine itef ?_
    refine s_next ?_
    refine s_seq ?_
    refine s_set (lt_ok rfl) ?_
    refine ee_new ?_
    refine el_lst ?_
    refine ed_cons (ee_non ?_)
    refine ed_cons (ee_new ?_)
    walk_at "pl"
    refine ⟨le_ok rfl, ?_⟩
    refine ed_cons (ee_new ?_)
    walk_at "pl"
    refine ⟨le_ok rfl, ?_⟩
    walk_at "pl"
    refine ⟨le_ok rfl, ?_⟩
    walk_at "pl"
    · exact ⟨by decide, by decide, by decide⟩
    walk_at "pl"
    rw [e10]
    refine ⟨le_ok rfl, ?_⟩
    walk_at "pl"
    refine ⟨le_ok rfl, ?_⟩
    walk_at "pl"
    refine ⟨le_ok rfl, ?_⟩
    walk_at "pl"
    refine ⟨le_ok rfl, ?_⟩
    walk_at "pl"
    · decide
    · decide
    · decide
    walk_at "pl"
    refine ⟨le_ok rfl, ?_⟩
    have hodd : ∀ d, d ∈ [PyData.none, PyData.list [], PyData.list [PyData.int 1], PyData.tuple [PyData.int (-1)], PyData.tuple [PyData.int (1000000 + 1)], PyData.tuple [PyData.bool true], PyData.tuple [PyData.str "1"], PyData.tuple (List.replicate (Int.toNat 2001) [PyData.int 0]).flatten, PyData.int 5] → fits d = false := by
      intro d hd
      simp only [List.mem_cons, List.not_mem_nil, or_false] at hd
      rcases hd with z | z | z | z | z | z | z | z | z
      · rw [z]; rfl
      · rw [z]; rfl
      · rw [z]; rfl
      · rw [z]; rfl
      · rw [z]; rfl
      · rw [z]; rfl
      · rw [z]; rfl
      · rw [z, rep_flat, fits_tuple, List.length_replicate]
        rfl
      · rw [z]; rfl
    generalize hX : [PyData.none, PyData.list [], PyData.list [PyData.int 1], PyData.tuple [PyData.int (-1)], PyData.tuple [PyData.int (1000000 + 1)], PyData.tuple [PyData.bool true], PyData.tuple [PyData.str "1"], PyData.tuple (List.replicate (Int.toNat 2001) [PyData.int 0]).flatten, PyData.int 5] = odds at hodd ⊢
    have hol : odds.length ≤ 100000 := by rw [← hX]; exact le_ok rfl
    refine s_ret ?_
    refine ee_andV ?_
    refine ee_op ?_
    refine ee_new ?_
    refine el_lcM (vs := [4]) (.name 4) (by decide) (fun _ => none) ?_
    refine ei_lst ?_
    refine ee_var rfl ?_
    refine ⟨_, rfl, hol, fun d hd => ?_, fun _ => ?_⟩
    · refine ⟨_, rfl, ?_⟩
      walk_at "pl"
      refine ⟨rfl, _, rfl, ?_⟩
      rw [hodd d hd]
      walk_at "pl"
      rfl
    · rw [fm_none]
      refine ee_new ?_
      walk_at "pl"
      refine ⟨by decide, ?_⟩
      refine ar_eq rfl rfl ?_
      walk_at "pl"
      · exact ⟨by decide, by decide, by decide⟩
      walk_at "pl"
      rw [e10]
      refine ⟨le_ok rfl, ?_⟩
      walk_at "pl"
      · decide
      · decide
      · decide
      walk_at "pl"
      refine ⟨rfl, _, rfl, ?_⟩
      have ef : fits (PyData.tuple (List.replicate (Int.toNat 666) [PyData.int 1000000, PyData.none, PyData.int 0]).flatten) = true := by
        have hlen : (List.replicate (Int.toNat 666) [PyData.int 1000000, PyData.none, PyData.int 0]).flatten.length = 1998 := by
          rw [List.length_flatten, List.map_replicate]
          decide +kernel
        rw [fits_tuple, hlen, Bool.and_eq_true]
        refine ⟨rfl, ?_⟩
        rw [List.all_eq_true]
        intro x hx
        rw [List.mem_flatten] at hx
        obtain ⟨l, hl, hx⟩ := hx
        have hl := List.eq_of_mem_replicate hl
        subst hl
        rcases mem3 hx with z | z | z <;> (rw [z]; rfl)
      rw [ef]
      walk_at "pl"
      rfl
end K67

set_option Elab.async false
set_option linter.all false
set_option maxRecDepth 100000
set_option maxHeartbeats 4000000
namespace K67
open PySem PySem.Spec PyProof.Rows L2 Pl RZ
local macro_rules | `(tactic| walk_at "pl1") => `(tactic| first
  | with_reducible refine s_seq ?_ | with_reducible refine s_next ?_ | with_reducible refine s_ret ?_ | with_reducible refine s_retN ?_ | with_reducible refine s_if ?_
  | (with_reducible refine s_set ?h0 ?_; (case h0 => exact lt_ok rfl)) | with_reducible refine s_drop ?_ | (with_reducible refine s_asg2 ?h0 ?h1 ?_; (case h0 => exact lt_ok rfl); (case h1 => exact lt_ok rfl)) | (with_reducible refine s_asg3 ?h0 ?h1 ?h2 ?_; (case h0 => exact lt_ok rfl); (case h1 => exact lt_ok rfl); (case h2 => exact lt_ok rfl)) | (with_reducible refine s_par ?h0 ?h1 ?_; (case h0 => exact lt_ok rfl); (case h1 => exact lt_ok rfl)) | (with_reducible refine s_par3 ?h0 ?h1 ?h2 ?_; (case h0 => exact lt_ok rfl); (case h1 => exact lt_ok rfl); (case h2 => exact lt_ok rfl))
  | refine ee_var (by rfl) ?_ | refine ee_own (by rfl) ?_
  | with_reducible refine ee_int ?_ | with_reducible refine ee_bl ?_ | with_reducible refine ee_str ?_ | with_reducible refine ee_non ?_
  | with_reducible refine ee_isiI ?_ | with_reducible refine ee_isiB ?_ | with_reducible refine ee_isiT ?_ | with_reducible refine ee_isiS ?_ | with_reducible refine ee_isiL ?_
  | with_reducible refine ee_op ?_ | with_reducible refine ee_un ?_ | with_reducible refine ee_cb ?_ | with_reducible refine ee_chain ?_ | with_reducible refine ee_andV ?_ | with_reducible refine ee_orV ?_ | with_reducible refine ee_notV ?_ | with_reducible refine ee_if ?_
  | with_reducible refine ee_tup ?_ | with_reducible refine el_lst ?_ | with_reducible refine ed_nil ?_ | with_reducible refine ed_cons ?_ | with_reducible refine ea_nil ?_ | refine ea_cup (by rfl) ?_ | with_reducible refine ea_cons ?_
  | with_reducible refine et_test (m := false) ?_ | with_reducible refine et_B (m := false) ?_ | with_reducible refine et_and ?_ | with_reducible refine et_or ?_ | with_reducible refine et_not ?_
  | with_reducible refine eo_none ?_ | with_reducible refine eo_some (m := false) ?_ | with_reducible refine ee_call ?_)
local macro_rules | `(tactic| walk_at "pl2") => `(tactic| first
  | with_reducible refine ar_plusI ?_ | with_reducible refine ar_minus ?_ | (with_reducible refine ar_timesI ?_ ?_) | with_reducible refine ar_fdv ?_ ?_ | with_reducible refine ar_md ?_ ?_ | with_reducible refine ar_pw ?_ ?_
  | with_reducible refine ar_eqI ?_ | with_reducible refine ar_neI ?_
  | with_reducible refine ar_lssI ?_ | with_reducible refine ar_lssS ?_ | with_reducible refine ar_leqI ?_ | with_reducible refine ar_grtI ?_ | with_reducible refine ar_geqI ?_ | with_reducible refine ar_isN ?_ | with_reducible refine ar_isNN ?_ | with_reducible refine ar_isB ?_ | with_reducible refine ar_isNB ?_
  | with_reducible refine ar_plusT ?_ ?_ | with_reducible refine ar_plusS ?_ ?_ | with_reducible refine ar_timesT ?_ ?_ ?_ ?_ | with_reducible refine ar_inC ?_ | with_reducible refine ar_notInC ?_ | with_reducible refine au_neg ?_
  | with_reducible refine ac_lenT ?_ | with_reducible refine ac_lenL ?_ | with_reducible refine ac_lenS ?_ ?_ | with_reducible refine ac_int ?_ | with_reducible refine ac_abs ?_ | with_reducible refine ac_max2 ?_ | with_reducible refine ac_min2 ?_ | with_reducible refine ac_tupL ?_ | with_reducible refine ac_tupT ?_ | with_reducible refine ac_strS ?_
  | refine itet ?_ | refine itef ?_ | with_reducible refine iten ?_ | exact ⟨_, rfl, by assumption⟩ | (with_reducible refine ⟨_, rfl, ?_⟩) | (with_reducible refine ⟨_, _, rfl, ?_⟩) | (with_reducible refine ⟨_, _, _, rfl, ?_⟩))
local macro_rules | `(tactic| walk_at "pl") => `(tactic| repeat (first | walk_at "pl1" | walk_at "pl2"))
section
variable (as : List Pl.Arg) (k : Dt → Prop) (C : Cxt) (w : World)
theorem bd_is_whole (hl : as.length = 3) (h : R_is_whole as k) : B4 C (t_is_whole C.K w) (astart ["value", "low", "high"] as) k := by obtain ⟨d, lo, hi, rfl, hk⟩ := h; exact body_is_whole d lo hi k C w hk
theorem bd_is_tuple_of (hl : as.length = 3) (h : R_is_tuple_of as k) : B4 C (t_is_tuple_of C.K w) (astart ["value", "low", "high"] as) k := by obtain ⟨d, lo, hi, rfl, hk⟩ := h; exact body_is_tuple_of d lo hi k C w hk
theorem bd_is_rising (hl : as.length = 1) (h : R_is_rising as k) : B4 C (t_is_rising C.K w) (astart ["value", "one", "other"] as) k := by obtain ⟨ns, rfl, hz, hk⟩ := h; exact body_is_rising ns hz k C w hk
theorem bd_fits_answers (hl : as.length = 1) (h : R_fits_answers as k) : B4 C (t_fits_answers C.K w) (astart ["value", "one"] as) k := by obtain ⟨d, rfl, hk⟩ := h; exact body_fits_answers d k C w hk
theorem bd_are_answers (hl : as.length = 1) (h : R_are_answers as k) : B4 C (t_are_answers C.K w) (astart ["value"] as) k := by obtain ⟨d, rfl, hk⟩ := h; exact body_are_answers d k C w hk
theorem bd_need_answers (hl : as.length = 1) (h : R_need_answers as k) : B4 C (t_need_answers C.K w) (astart ["answers"] as) k := by obtain ⟨os, g, rfl, hk⟩ := h; exact body_need_answers os g k C w hk
theorem bd_need_number (hl : as.length = 3) (h : R_need_number as k) : B4 C (t_need_number C.K w) (astart ["number", "low", "high"] as) k := by obtain ⟨n, lo, hi, h1, h2, rfl, hk⟩ := h; exact body_need_number n lo hi h1 h2 k C w hk
theorem bd_is_miss (hl : as.length = 2) (h : R_is_miss as k) : B4 C (t_is_miss C.K w) (astart ["answer", "wait"] as) k := by obtain ⟨o, w0, rfl, hk⟩ := h; exact body_is_miss o w0 k C w hk
theorem bd_least_in (hl : as.length = 3) (h : R_least_in as k) : B4 C (t_least_in C.K w) (astart ["told", "none", "misses", "spare"] as) k := by obtain ⟨ms, n, m, rfl, hk⟩ := h; exact body_least_in ms n m k C w hk
theorem bd_missed (hl : as.length = 2) (h : R_missed as k) : B4 C (t_missed C.K w) (astart ["answers", "wait", "own"] as) k := by obtain ⟨os, w0, g, h1, h2, rfl, hk⟩ := h; exact body_missed os w0 g h1 h2 k C w hk
theorem bd_least_wait (hl : as.length = 2) (h : R_least_wait as k) : B4 C (t_least_wait C.K w) (astart ["answers", "misses", "told", "own"] as) k := by
  obtain ⟨os, m, g, h1, h2, rfl, hk⟩ := h
  exact body_least_wait os m g h1 h2 k C w fun ms p1 p2 => ⟨least_nl (leastIn_least p1 p2), hk _ (leastIn_least p1 p2)⟩
theorem bd_wait_paper (hl : as.length = 3) (h : R_wait_paper as k) : B4 C (t_wait_paper C.K w) (astart ["answers", "misses", "bound", "rows", "at", "own"] as) k := by obtain ⟨os, m, b, g, h1, h2, h3, h4, rfl, hk⟩ := h; exact body_wait_paper os m b g h1 h2 h3 h4 k C w hk
theorem bd_is_wait_paper (hl : as.length = 4) (h : R_is_wait_paper as k) : B4 C (t_is_wait_paper C.K w) (astart ["answers", "misses", "bound", "value", "at"] as) k := by obtain ⟨os, m, b, d, g, h1, h2, h3, h4, rfl, hk⟩ := h; exact body_is_wait_paper os m b d g h1 h2 h3 h4 k C w hk
theorem bd__law_roll (hl : as.length = 2) (h : R__law_roll as k) : B4 C (t__law_roll C.K w) (astart ["cup", "many", "found", "deep"] as) k := by obtain ⟨many, rfl, h1, h2, hk⟩ := h; exact body_law_roll many h1 h2 k C w hk
theorem bd__law_some (hl : as.length = 2) (h : R__law_some as k) : B4 C (t__law_some C.K w) (astart ["cup", "things"] as) k := by obtain ⟨ds, rfl, h1, h2, h3, hk⟩ := h; exact body_law_some ds h1 h2 h3 k C w hk
theorem bd__law_answers (hl : as.length = 2) (h : R__law_answers as k) : B4 C (t__law_answers C.K w) (astart ["cup", "many", "most", "turn"] as) k := by obtain ⟨many, rfl, h1, h2, hk⟩ := h; exact body_law_answers many h1 h2 k C w hk
theorem bd__law_missed (hl : as.length = 2) (h : R__law_missed as k) : B4 C (t__law_missed C.K w) (astart ["answers", "wait", "own"] as) k := by obtain ⟨os, w0, g, rfl, hk⟩ := h; exact body_law_missed os w0 g k C w hk
theorem bd__law_least (hl : as.length = 2) (h : R__law_least as k) : B4 C (t__law_least C.K w) (astart ["answers", "misses", "good", "wait", "own"] as) k := by obtain ⟨os, m, g, h0, rfl, hk⟩ := h; exact body_law_least os m g h0 k C w hk
theorem bd__law_is_paper (hl : as.length = 4) (h : R__law_is_paper as k) : B4 C (t__law_is_paper C.K w) (astart ["answers", "misses", "bound", "value", "at"] as) k := by obtain ⟨os, m, b, ns, h0, h1, hr, rfl, hk⟩ := h; exact body_law_is_paper os m b ns h0 h1 hr k C w hk
theorem bd__law_right (hl : as.length = 2) (h : R__law_right as k) : B4 C (t__law_right C.K w) (astart ["cup", "many", "answers", "wait", "misses", "least", "told", "base", "bound", "paper", "rows", "is_so", "some", "values", "value", "odds", "at", "lower", "step", "odd"] as) k := by obtain ⟨many, rfl, h1, h2, hk⟩ := h; exact body_law_right many h1 h2 k C w hk
end
section
variable {P : Program} {w : World} {K : PySem.W.Frag} {mg : Str → Option Value} {base : Heap}
theorem cl_same (T : Txt mg) (D : Df K mg "_law_same" s__law_same ["told", "due"]) : ∀ n : Nat, Cl P w K mg base (n + 1) "_law_same" (spSame K n)
  | 0 => cl_never D sc__law_same
  | n + 1 => cl_mk D sc__law_same rfl (fun _ _ _ _ _ _ _ hr => w__law_same T (cl_same T D n) hr) fun as k C hK hl hR => by
    subst hK
    obtain ⟨d, rfl, hp, hk⟩ := hR
    exact body_law_same n d hp k C w hk
theorem cl_cup (T : Txt mg) (D : Df K mg "_law_cup" s__law_cup ["script"]) : Cl P w K mg base 1 "_law_cup" (spCup K) :=
  cl_raw D sc__law_cup (fun vs H Q E h => by obtain ⟨_, _, rfl, _⟩ := h; rfl) fun f cdv A outer s H vs Q E hr h => ⟨t__law_cup K w, w__law_cup T hr, raw_cup h⟩
end
end K67

set_option Elab.async false
set_option linter.all false
set_option maxRecDepth 100000
set_option maxHeartbeats 4000000
namespace K67
open PySem PySem.Spec PyProof.Rows L2 Pl
section
variable {P : Program} {w : World} {K : PySem.W.Frag} {mg : Str → Option Value} {base : Heap}
structure Tops (K : PySem.W.Frag) (mg : Str → Option Value) : Prop where
  T : Txt mg
  d_is_whole : Df K mg "is_whole" s_is_whole ["value", "low", "high"]
  d_is_tuple_of : Df K mg "is_tuple_of" s_is_tuple_of ["value", "low", "high"]
  d_is_rising : Df K mg "is_rising" s_is_rising ["value"]
  d_is_miss : Df K mg "is_miss" s_is_miss ["answer", "wait"]
  d_least_in : Df K mg "least_in" s_least_in ["told", "none", "misses"]
  d__law_roll : Df K mg "_law_roll" s__law_roll ["cup", "many"]
  d__law_missed : Df K mg "_law_missed" s__law_missed ["answers", "wait"]
  d__law_is_paper : Df K mg "_law_is_paper" s__law_is_paper ["answers", "misses", "bound", "value"]
  d__law_cup : Df K mg "_law_cup" s__law_cup ["script"]
  d_fits_answers : Df K mg "fits_answers" s_fits_answers ["value"]
  d_need_number : Df K mg "need_number" s_need_number ["number", "low", "high"]
  d__law_some : Df K mg "_law_some" s__law_some ["cup", "things"]
  d__law_least : Df K mg "_law_least" s__law_least ["answers", "misses"]
  d_need_answers : Df K mg "need_answers" s_need_answers ["answers"]
  d_are_answers : Df K mg "are_answers" s_are_answers ["value"]
  d__law_answers : Df K mg "_law_answers" s__law_answers ["cup", "many"]
  d__law_same : Df K mg "_law_same" s__law_same ["told", "due"]
  d_missed : Df K mg "missed" s_missed ["answers", "wait"]
  d_least_wait : Df K mg "least_wait" s_least_wait ["answers", "misses"]
  d_wait_paper : Df K mg "wait_paper" s_wait_paper ["answers", "misses", "bound"]
  d_is_wait_paper : Df K mg "is_wait_paper" s_is_wait_paper ["answers", "misses", "bound", "value"]
  d__law_right : Df K mg "_law_right" s__law_right ["cup", "many"]
theorem k_is_whole (D : Tops K mg) : Cl P w K mg base 1 "is_whole" (spA K 3 R_is_whole) :=
  cl_mk D.d_is_whole sc_is_whole rfl (fun _ _ _ _ _ _ _ hr => w_is_whole D.T  hr) fun as k C hK hl hR => by subst hK; exact bd_is_whole as k C w hl hR
theorem k_is_tuple_of (D : Tops K mg) : Cl P w K mg base 1 "is_tuple_of" (spA K 3 R_is_tuple_of) :=
  cl_mk D.d_is_tuple_of sc_is_tuple_of rfl (fun _ _ _ _ _ _ _ hr => w_is_tuple_of D.T  hr) fun as k C hK hl hR => by subst hK; exact bd_is_tuple_of as k C w hl hR
theorem k_is_rising (D : Tops K mg) : Cl P w K mg base 1 "is_rising" (spA K 1 R_is_rising) :=
  cl_mk D.d_is_rising sc_is_rising rfl (fun _ _ _ _ _ _ _ hr => w_is_rising D.T  hr) fun as k C hK hl hR => by subst hK; exact bd_is_rising as k C w hl hR
theorem k_is_miss (D : Tops K mg) : Cl P w K mg base 1 "is_miss" (spA K 2 R_is_miss) :=
  cl_mk D.d_is_miss sc_is_miss rfl (fun _ _ _ _ _ _ _ hr => w_is_miss D.T  hr) fun as k C hK hl hR => by subst hK; exact bd_is_miss as k C w hl hR
theorem k_least_in (D : Tops K mg) : Cl P w K mg base 1 "least_in" (spA K 3 R_least_in) :=
  cl_mk D.d_least_in sc_least_in rfl (fun _ _ _ _ _ _ _ hr => w_least_in D.T  hr) fun as k C hK hl hR => by subst hK; exact bd_least_in as k C w hl hR
theorem k__law_roll (D : Tops K mg) : Cl P w K mg base 1 "_law_roll" (spA K 2 R__law_roll) :=
  cl_mk D.d__law_roll sc__law_roll rfl (fun _ _ _ _ _ _ _ hr => w__law_roll D.T  hr) fun as k C hK hl hR => by subst hK; exact bd__law_roll as k C w hl hR
theorem k__law_missed (D : Tops K mg) : Cl P w K mg base 1 "_law_missed" (spA K 2 R__law_missed) :=
  cl_mk D.d__law_missed sc__law_missed rfl (fun _ _ _ _ _ _ _ hr => w__law_missed D.T  hr) fun as k C hK hl hR => by subst hK; exact bd__law_missed as k C w hl hR
theorem k__law_is_paper (D : Tops K mg) : Cl P w K mg base 1 "_law_is_paper" (spA K 4 R__law_is_paper) :=
  cl_mk D.d__law_is_paper sc__law_is_paper rfl (fun _ _ _ _ _ _ _ hr => w__law_is_paper D.T  hr) fun as k C hK hl hR => by subst hK; exact bd__law_is_paper as k C w hl hR
theorem k__law_cup (D : Tops K mg) : Cl P w K mg base 1 "_law_cup" (spCup K) := cl_cup D.T D.d__law_cup
theorem k_fits_answers (D : Tops K mg) (c_is_tuple_of : Cl P w K mg base 1 "is_tuple_of" (spA K 3 R_is_tuple_of)) (c_is_whole : Cl P w K mg base 1 "is_whole" (spA K 3 R_is_whole)) : Cl P w K mg base 2 "fits_answers" (spA K 1 R_fits_answers) :=
  cl_mk D.d_fits_answers sc_fits_answers rfl (fun _ _ _ _ _ _ _ hr => w_fits_answers D.T c_is_tuple_of c_is_whole hr) fun as k C hK hl hR => by subst hK; exact bd_fits_answers as k C w hl hR
theorem k_need_number (D : Tops K mg) (c_is_whole : Cl P w K mg base 1 "is_whole" (spA K 3 R_is_whole)) : Cl P w K mg base 2 "need_number" (spA K 3 R_need_number) :=
  cl_mk D.d_need_number sc_need_number rfl (fun _ _ _ _ _ _ _ hr => w_need_number D.T c_is_whole hr) fun as k C hK hl hR => by subst hK; exact bd_need_number as k C w hl hR
theorem k__law_some (D : Tops K mg) (c__law_roll : Cl P w K mg base 1 "_law_roll" (spA K 2 R__law_roll)) : Cl P w K mg base 2 "_law_some" (spA K 2 R__law_some) :=
  cl_mk D.d__law_some sc__law_some rfl (fun _ _ _ _ _ _ _ hr => w__law_some D.T c__law_roll hr) fun as k C hK hl hR => by subst hK; exact bd__law_some as k C w hl hR
theorem k__law_least (D : Tops K mg) (c__law_missed : Cl P w K mg base 1 "_law_missed" (spA K 2 R__law_missed)) : Cl P w K mg base 2 "_law_least" (spA K 2 R__law_least) :=
  cl_mk D.d__law_least sc__law_least rfl (fun _ _ _ _ _ _ _ hr => w__law_least D.T c__law_missed hr) fun as k C hK hl hR => by subst hK; exact bd__law_least as k C w hl hR
theorem k_need_answers (D : Tops K mg) (c_fits_answers : Cl P w K mg base 2 "fits_answers" (spA K 1 R_fits_answers)) : Cl P w K mg base 3 "need_answers" (spA K 1 R_need_answers) :=
  cl_mk D.d_need_answers sc_need_answers rfl (fun _ _ _ _ _ _ _ hr => w_need_answers D.T c_fits_answers hr) fun as k C hK hl hR => by subst hK; exact bd_need_answers as k C w hl hR
theorem k_are_answers (D : Tops K mg) (c_fits_answers : Cl P w K mg base 2 "fits_answers" (spA K 1 R_fits_answers)) : Cl P w K mg base 3 "are_answers" (spA K 1 R_are_answers) :=
  cl_mk D.d_are_answers sc_are_answers rfl (fun _ _ _ _ _ _ _ hr => w_are_answers D.T c_fits_answers hr) fun as k C hK hl hR => by subst hK; exact bd_are_answers as k C w hl hR
theorem k__law_answers (D : Tops K mg) (c__law_some : Cl P w K mg base 2 "_law_some" (spA K 2 R__law_some)) (c__law_roll : Cl P w K mg base 1 "_law_roll" (spA K 2 R__law_roll)) : Cl P w K mg base 3 "_law_answers" (spA K 2 R__law_answers) :=
  cl_mk D.d__law_answers sc__law_answers rfl (fun _ _ _ _ _ _ _ hr => w__law_answers D.T c__law_some c__law_roll hr) fun as k C hK hl hR => by subst hK; exact bd__law_answers as k C w hl hR
theorem k__law_same (D : Tops K mg) : Cl P w K mg base 3 "_law_same" (spSame K 2) := cl_same D.T D.d__law_same 2
theorem k_missed (D : Tops K mg) (c_need_answers : Cl P w K mg base 3 "need_answers" (spA K 1 R_need_answers)) (c_need_number : Cl P w K mg base 2 "need_number" (spA K 3 R_need_number)) (c_is_miss : Cl P w K mg base 1 "is_miss" (spA K 2 R_is_miss)) : Cl P w K mg base 4 "missed" (spA K 2 R_missed) :=
  cl_mk D.d_missed sc_missed rfl (fun _ _ _ _ _ _ _ hr => w_missed D.T c_need_answers c_need_number c_is_miss hr) fun as k C hK hl hR => by subst hK; exact bd_missed as k C w hl hR
theorem k_least_wait (D : Tops K mg) (c_need_answers : Cl P w K mg base 3 "need_answers" (spA K 1 R_need_answers)) (c_need_number : Cl P w K mg base 2 "need_number" (spA K 3 R_need_number)) (c_least_in : Cl P w K mg base 1 "least_in" (spA K 3 R_least_in)) : Cl P w K mg base 4 "least_wait" (spA K 2 R_least_wait) :=
  cl_mk D.d_least_wait sc_least_wait rfl (fun _ _ _ _ _ _ _ hr => w_least_wait D.T c_need_answers c_need_number c_least_in hr) fun as k C hK hl hR => by subst hK; exact bd_least_wait as k C w hl hR
theorem k_wait_paper (D : Tops K mg) (c_need_answers : Cl P w K mg base 3 "need_answers" (spA K 1 R_need_answers)) (c_need_number : Cl P w K mg base 2 "need_number" (spA K 3 R_need_number)) : Cl P w K mg base 4 "wait_paper" (spA K 3 R_wait_paper) :=
  cl_mk D.d_wait_paper sc_wait_paper rfl (fun _ _ _ _ _ _ _ hr => w_wait_paper D.T c_need_answers c_need_number hr) fun as k C hK hl hR => by subst hK; exact bd_wait_paper as k C w hl hR
theorem k_is_wait_paper (D : Tops K mg) (c_need_answers : Cl P w K mg base 3 "need_answers" (spA K 1 R_need_answers)) (c_need_number : Cl P w K mg base 2 "need_number" (spA K 3 R_need_number)) (c_is_tuple_of : Cl P w K mg base 1 "is_tuple_of" (spA K 3 R_is_tuple_of)) (c_is_whole : Cl P w K mg base 1 "is_whole" (spA K 3 R_is_whole)) (c_is_rising : Cl P w K mg base 1 "is_rising" (spA K 1 R_is_rising)) : Cl P w K mg base 4 "is_wait_paper" (spA K 4 R_is_wait_paper) :=
  cl_mk D.d_is_wait_paper sc_is_wait_paper rfl (fun _ _ _ _ _ _ _ hr => w_is_wait_paper D.T c_need_answers c_need_number c_is_tuple_of c_is_whole c_is_rising hr) fun as k C hK hl hR => by subst hK; exact bd_is_wait_paper as k C w hl hR
theorem k__law_right (D : Tops K mg) (c__law_answers : Cl P w K mg base 3 "_law_answers" (spA K 2 R__law_answers)) (c__law_roll : Cl P w K mg base 1 "_law_roll" (spA K 2 R__law_roll)) (c__law_some : Cl P w K mg base 2 "_law_some" (spA K 2 R__law_some)) (c__law_least : Cl P w K mg base 2 "_law_least" (spA K 2 R__law_least)) (c_are_answers : Cl P w K mg base 3 "are_answers" (spA K 1 R_are_answers)) (c_missed : Cl P w K mg base 4 "missed" (spA K 2 R_missed)) (c_least_wait : Cl P w K mg base 4 "least_wait" (spA K 2 R_least_wait)) (c__law_same : Cl P w K mg base 3 "_law_same" (spSame K 2)) (c__law_missed : Cl P w K mg base 1 "_law_missed" (spA K 2 R__law_missed)) (c_wait_paper : Cl P w K mg base 4 "wait_paper" (spA K 3 R_wait_paper)) (c_is_wait_paper : Cl P w K mg base 4 "is_wait_paper" (spA K 4 R_is_wait_paper)) (c__law_is_paper : Cl P w K mg base 1 "_law_is_paper" (spA K 4 R__law_is_paper)) : Cl P w K mg base 5 "_law_right" (spA K 2 R__law_right) :=
  cl_mk D.d__law_right sc__law_right rfl (fun _ _ _ _ _ _ _ hr => w__law_right D.T c__law_answers c__law_roll c__law_some c__law_least c_are_answers c_missed c_least_wait c__law_same c__law_missed c_wait_paper c_is_wait_paper c__law_is_paper hr) fun as k C hK hl hR => by subst hK; exact bd__law_right as k C w hl hR
theorem all_cl (D : Tops K mg) (P : Program) (w : World) (base : Heap) : (Cl P w K mg base 1 "_law_cup" (spCup K)) ∧ (Cl P w K mg base 5 "_law_right" (spA K 2 R__law_right)) ∧ (Cl P w K mg base 3 "_law_same" (spSame K 2)) ∧ (Cl P w K mg base 4 "least_wait" (spA K 2 R_least_wait)) ∧ (Cl P w K mg base 4 "is_wait_paper" (spA K 4 R_is_wait_paper)) ∧ (Cl P w K mg base 3 "are_answers" (spA K 1 R_are_answers)) := by
  have c_is_whole : Cl P w K mg base 1 "is_whole" (spA K 3 R_is_whole) := k_is_whole D 
  have c_is_tuple_of : Cl P w K mg base 1 "is_tuple_of" (spA K 3 R_is_tuple_of) := k_is_tuple_of D 
  have c_is_rising : Cl P w K mg base 1 "is_rising" (spA K 1 R_is_rising) := k_is_rising D 
  have c_is_miss : Cl P w K mg base 1 "is_miss" (spA K 2 R_is_miss) := k_is_miss D 
  have c_least_in : Cl P w K mg base 1 "least_in" (spA K 3 R_least_in) := k_least_in D 
  have c__law_roll : Cl P w K mg base 1 "_law_roll" (spA K 2 R__law_roll) := k__law_roll D 
  have c__law_missed : Cl P w K mg base 1 "_law_missed" (spA K 2 R__law_missed) := k__law_missed D 
  have c__law_is_paper : Cl P w K mg base 1 "_law_is_paper" (spA K 4 R__law_is_paper) := k__law_is_paper D 
  have c__law_cup : Cl P w K mg base 1 "_law_cup" (spCup K) := k__law_cup D 
  have c_fits_answers : Cl P w K mg base 2 "fits_answers" (spA K 1 R_fits_answers) := k_fits_answers D c_is_tuple_of c_is_whole
  have c_need_number : Cl P w K mg base 2 "need_number" (spA K 3 R_need_number) := k_need_number D c_is_whole
  have c__law_some : Cl P w K mg base 2 "_law_some" (spA K 2 R__law_some) := k__law_some D c__law_roll
  have c__law_least : Cl P w K mg base 2 "_law_least" (spA K 2 R__law_least) := k__law_least D c__law_missed
  have c_need_answers : Cl P w K mg base 3 "need_answers" (spA K 1 R_need_answers) := k_need_answers D c_fits_answers
  have c_are_answers : Cl P w K mg base 3 "are_answers" (spA K 1 R_are_answers) := k_are_answers D c_fits_answers
  have c__law_answers : Cl P w K mg base 3 "_law_answers" (spA K 2 R__law_answers) := k__law_answers D c__law_some c__law_roll
  have c__law_same : Cl P w K mg base 3 "_law_same" (spSame K 2) := k__law_same D 
  have c_missed : Cl P w K mg base 4 "missed" (spA K 2 R_missed) := k_missed D c_need_answers c_need_number c_is_miss
  have c_least_wait : Cl P w K mg base 4 "least_wait" (spA K 2 R_least_wait) := k_least_wait D c_need_answers c_need_number c_least_in
  have c_wait_paper : Cl P w K mg base 4 "wait_paper" (spA K 3 R_wait_paper) := k_wait_paper D c_need_answers c_need_number
  have c_is_wait_paper : Cl P w K mg base 4 "is_wait_paper" (spA K 4 R_is_wait_paper) := k_is_wait_paper D c_need_answers c_need_number c_is_tuple_of c_is_whole c_is_rising
  have c__law_right : Cl P w K mg base 5 "_law_right" (spA K 2 R__law_right) := k__law_right D c__law_answers c__law_roll c__law_some c__law_least c_are_answers c_missed c_least_wait c__law_same c__law_missed c_wait_paper c_is_wait_paper c__law_is_paper
  exact ⟨c__law_cup, c__law_right, c__law_same, c_least_wait, c_is_wait_paper, c_are_answers⟩
end
theorem all_mk {l : PySem.W.OpenLaw} {w : World} {K : PySem.W.Frag} {h : Heap} {mg : Str → Option Value} {fa : Addr} (X : K.In h) (G : h.Ns mainGlobals mg) (hfa : mg "law" = some (.ref fa))
    {f0 : Addr} {od0 an0 : Option Addr} {sl0 : Array (Option Value)} {oc0 kV0 dc0 pm0 cd0 ct0 : Value}
    (a0 : PySem.W.nsIn K mainGlobals "is_whole" = some (some (.ref f0)))
    (l0 : K.lookup f0 = some ⟨oc0, od0, .func (PySem.W.fnOf "is_whole" "is_whole" (defArgs s_is_whole) (defBody s_is_whole) (defScope s_is_whole) .none kV0 dc0 pm0 an0 cd0 ct0), sl0⟩)
    (c0 : PySem.W.codeIn K cd0 "is_whole" = true)
    (k0 : PySem.W.keepIn K (.ref f0) = true)
    {f1 : Addr} {od1 an1 : Option Addr} {sl1 : Array (Option Value)} {oc1 kV1 dc1 pm1 cd1 ct1 : Value}
    (a1 : PySem.W.nsIn K mainGlobals "is_tuple_of" = some (some (.ref f1)))
    (l1 : K.lookup f1 = some ⟨oc1, od1, .func (PySem.W.fnOf "is_tuple_of" "is_tuple_of" (defArgs s_is_tuple_of) (defBody s_is_tuple_of) (defScope s_is_tuple_of) .none kV1 dc1 pm1 an1 cd1 ct1), sl1⟩)
    (c1 : PySem.W.codeIn K cd1 "is_tuple_of" = true)
    (k1 : PySem.W.keepIn K (.ref f1) = true)
    {f2 : Addr} {od2 an2 : Option Addr} {sl2 : Array (Option Value)} {oc2 kV2 dc2 pm2 cd2 ct2 : Value}
    (a2 : PySem.W.nsIn K mainGlobals "is_rising" = some (some (.ref f2)))
    (l2 : K.lookup f2 = some ⟨oc2, od2, .func (PySem.W.fnOf "is_rising" "is_rising" (defArgs s_is_rising) (defBody s_is_rising) (defScope s_is_rising) .none kV2 dc2 pm2 an2 cd2 ct2), sl2⟩)
    (c2 : PySem.W.codeIn K cd2 "is_rising" = true)
    (k2 : PySem.W.keepIn K (.ref f2) = true)
    {f3 : Addr} {od3 an3 : Option Addr} {sl3 : Array (Option Value)} {oc3 kV3 dc3 pm3 cd3 ct3 : Value}
    (a3 : PySem.W.nsIn K mainGlobals "is_miss" = some (some (.ref f3)))
    (l3 : K.lookup f3 = some ⟨oc3, od3, .func (PySem.W.fnOf "is_miss" "is_miss" (defArgs s_is_miss) (defBody s_is_miss) (defScope s_is_miss) .none kV3 dc3 pm3 an3 cd3 ct3), sl3⟩)
    (c3 : PySem.W.codeIn K cd3 "is_miss" = true)
    (k3 : PySem.W.keepIn K (.ref f3) = true)
    {f4 : Addr} {od4 an4 : Option Addr} {sl4 : Array (Option Value)} {oc4 kV4 dc4 pm4 cd4 ct4 : Value}
    (a4 : PySem.W.nsIn K mainGlobals "least_in" = some (some (.ref f4)))
    (l4 : K.lookup f4 = some ⟨oc4, od4, .func (PySem.W.fnOf "least_in" "least_in" (defArgs s_least_in) (defBody s_least_in) (defScope s_least_in) .none kV4 dc4 pm4 an4 cd4 ct4), sl4⟩)
    (c4 : PySem.W.codeIn K cd4 "least_in" = true)
    (k4 : PySem.W.keepIn K (.ref f4) = true)
    {f5 : Addr} {od5 an5 : Option Addr} {sl5 : Array (Option Value)} {oc5 kV5 dc5 pm5 cd5 ct5 : Value}
    (a5 : PySem.W.nsIn K mainGlobals "_law_roll" = some (some (.ref f5)))
    (l5 : K.lookup f5 = some ⟨oc5, od5, .func (PySem.W.fnOf "_law_roll" "_law_roll" (defArgs s__law_roll) (defBody s__law_roll) (defScope s__law_roll) .none kV5 dc5 pm5 an5 cd5 ct5), sl5⟩)
    (c5 : PySem.W.codeIn K cd5 "_law_roll" = true)
    (k5 : PySem.W.keepIn K (.ref f5) = true)
    {f6 : Addr} {od6 an6 : Option Addr} {sl6 : Array (Option Value)} {oc6 kV6 dc6 pm6 cd6 ct6 : Value}
    (a6 : PySem.W.nsIn K mainGlobals "_law_missed" = some (some (.ref f6)))
    (l6 : K.lookup f6 = some ⟨oc6, od6, .func (PySem.W.fnOf "_law_missed" "_law_missed" (defArgs s__law_missed) (defBody s__law_missed) (defScope s__law_missed) .none kV6 dc6 pm6 an6 cd6 ct6), sl6⟩)
    (c6 : PySem.W.codeIn K cd6 "_law_missed" = true)
    (k6 : PySem.W.keepIn K (.ref f6) = true)
    {f7 : Addr} {od7 an7 : Option Addr} {sl7 : Array (Option Value)} {oc7 kV7 dc7 pm7 cd7 ct7 : Value}
    (a7 : PySem.W.nsIn K mainGlobals "_law_is_paper" = some (some (.ref f7)))
    (l7 : K.lookup f7 = some ⟨oc7, od7, .func (PySem.W.fnOf "_law_is_paper" "_law_is_paper" (defArgs s__law_is_paper) (defBody s__law_is_paper) (defScope s__law_is_paper) .none kV7 dc7 pm7 an7 cd7 ct7), sl7⟩)
    (c7 : PySem.W.codeIn K cd7 "_law_is_paper" = true)
    (k7 : PySem.W.keepIn K (.ref f7) = true)
    {f8 : Addr} {od8 an8 : Option Addr} {sl8 : Array (Option Value)} {oc8 kV8 dc8 pm8 cd8 ct8 : Value}
    (a8 : PySem.W.nsIn K mainGlobals "_law_cup" = some (some (.ref f8)))
    (l8 : K.lookup f8 = some ⟨oc8, od8, .func (PySem.W.fnOf "_law_cup" "_law_cup" (defArgs s__law_cup) (defBody s__law_cup) (defScope s__law_cup) .none kV8 dc8 pm8 an8 cd8 ct8), sl8⟩)
    (c8 : PySem.W.codeIn K cd8 "_law_cup" = true)
    (k8 : PySem.W.keepIn K (.ref f8) = true)
    {f9 : Addr} {od9 an9 : Option Addr} {sl9 : Array (Option Value)} {oc9 kV9 dc9 pm9 cd9 ct9 : Value}
    (a9 : PySem.W.nsIn K mainGlobals "fits_answers" = some (some (.ref f9)))
    (l9 : K.lookup f9 = some ⟨oc9, od9, .func (PySem.W.fnOf "fits_answers" "fits_answers" (defArgs s_fits_answers) (defBody s_fits_answers) (defScope s_fits_answers) .none kV9 dc9 pm9 an9 cd9 ct9), sl9⟩)
    (c9 : PySem.W.codeIn K cd9 "fits_answers" = true)
    (k9 : PySem.W.keepIn K (.ref f9) = true)
    {f10 : Addr} {od10 an10 : Option Addr} {sl10 : Array (Option Value)} {oc10 kV10 dc10 pm10 cd10 ct10 : Value}
    (a10 : PySem.W.nsIn K mainGlobals "need_number" = some (some (.ref f10)))
    (l10 : K.lookup f10 = some ⟨oc10, od10, .func (PySem.W.fnOf "need_number" "need_number" (defArgs s_need_number) (defBody s_need_number) (defScope s_need_number) .none kV10 dc10 pm10 an10 cd10 ct10), sl10⟩)
    (c10 : PySem.W.codeIn K cd10 "need_number" = true)
    (k10 : PySem.W.keepIn K (.ref f10) = true)
    {f11 : Addr} {od11 an11 : Option Addr} {sl11 : Array (Option Value)} {oc11 kV11 dc11 pm11 cd11 ct11 : Value}
    (a11 : PySem.W.nsIn K mainGlobals "_law_some" = some (some (.ref f11)))
    (l11 : K.lookup f11 = some ⟨oc11, od11, .func (PySem.W.fnOf "_law_some" "_law_some" (defArgs s__law_some) (defBody s__law_some) (defScope s__law_some) .none kV11 dc11 pm11 an11 cd11 ct11), sl11⟩)
    (c11 : PySem.W.codeIn K cd11 "_law_some" = true)
    (k11 : PySem.W.keepIn K (.ref f11) = true)
    {f12 : Addr} {od12 an12 : Option Addr} {sl12 : Array (Option Value)} {oc12 kV12 dc12 pm12 cd12 ct12 : Value}
    (a12 : PySem.W.nsIn K mainGlobals "_law_least" = some (some (.ref f12)))
    (l12 : K.lookup f12 = some ⟨oc12, od12, .func (PySem.W.fnOf "_law_least" "_law_least" (defArgs s__law_least) (defBody s__law_least) (defScope s__law_least) .none kV12 dc12 pm12 an12 cd12 ct12), sl12⟩)
    (c12 : PySem.W.codeIn K cd12 "_law_least" = true)
    (k12 : PySem.W.keepIn K (.ref f12) = true)
    {f13 : Addr} {od13 an13 : Option Addr} {sl13 : Array (Option Value)} {oc13 kV13 dc13 pm13 cd13 ct13 : Value}
    (a13 : PySem.W.nsIn K mainGlobals "need_answers" = some (some (.ref f13)))
    (l13 : K.lookup f13 = some ⟨oc13, od13, .func (PySem.W.fnOf "need_answers" "need_answers" (defArgs s_need_answers) (defBody s_need_answers) (defScope s_need_answers) .none kV13 dc13 pm13 an13 cd13 ct13), sl13⟩)
    (c13 : PySem.W.codeIn K cd13 "need_answers" = true)
    (k13 : PySem.W.keepIn K (.ref f13) = true)
    {f14 : Addr} {od14 an14 : Option Addr} {sl14 : Array (Option Value)} {oc14 kV14 dc14 pm14 cd14 ct14 : Value}
    (a14 : PySem.W.nsIn K mainGlobals "are_answers" = some (some (.ref f14)))
    (l14 : K.lookup f14 = some ⟨oc14, od14, .func (PySem.W.fnOf "are_answers" "are_answers" (defArgs s_are_answers) (defBody s_are_answers) (defScope s_are_answers) .none kV14 dc14 pm14 an14 cd14 ct14), sl14⟩)
    (c14 : PySem.W.codeIn K cd14 "are_answers" = true)
    (k14 : PySem.W.keepIn K (.ref f14) = true)
    {f15 : Addr} {od15 an15 : Option Addr} {sl15 : Array (Option Value)} {oc15 kV15 dc15 pm15 cd15 ct15 : Value}
    (a15 : PySem.W.nsIn K mainGlobals "_law_answers" = some (some (.ref f15)))
    (l15 : K.lookup f15 = some ⟨oc15, od15, .func (PySem.W.fnOf "_law_answers" "_law_answers" (defArgs s__law_answers) (defBody s__law_answers) (defScope s__law_answers) .none kV15 dc15 pm15 an15 cd15 ct15), sl15⟩)
    (c15 : PySem.W.codeIn K cd15 "_law_answers" = true)
    (k15 : PySem.W.keepIn K (.ref f15) = true)
    {f16 : Addr} {od16 an16 : Option Addr} {sl16 : Array (Option Value)} {oc16 kV16 dc16 pm16 cd16 ct16 : Value}
    (a16 : PySem.W.nsIn K mainGlobals "_law_same" = some (some (.ref f16)))
    (l16 : K.lookup f16 = some ⟨oc16, od16, .func (PySem.W.fnOf "_law_same" "_law_same" (defArgs s__law_same) (defBody s__law_same) (defScope s__law_same) .none kV16 dc16 pm16 an16 cd16 ct16), sl16⟩)
    (c16 : PySem.W.codeIn K cd16 "_law_same" = true)
    (k16 : PySem.W.keepIn K (.ref f16) = true)
    {f17 : Addr} {od17 an17 : Option Addr} {sl17 : Array (Option Value)} {oc17 kV17 dc17 pm17 cd17 ct17 : Value}
    (a17 : PySem.W.nsIn K mainGlobals "missed" = some (some (.ref f17)))
    (l17 : K.lookup f17 = some ⟨oc17, od17, .func (PySem.W.fnOf "missed" "missed" (defArgs s_missed) (defBody s_missed) (defScope s_missed) .none kV17 dc17 pm17 an17 cd17 ct17), sl17⟩)
    (c17 : PySem.W.codeIn K cd17 "missed" = true)
    (k17 : PySem.W.keepIn K (.ref f17) = true)
    {f18 : Addr} {od18 an18 : Option Addr} {sl18 : Array (Option Value)} {oc18 kV18 dc18 pm18 cd18 ct18 : Value}
    (a18 : PySem.W.nsIn K mainGlobals "least_wait" = some (some (.ref f18)))
    (l18 : K.lookup f18 = some ⟨oc18, od18, .func (PySem.W.fnOf "least_wait" "least_wait" (defArgs s_least_wait) (defBody s_least_wait) (defScope s_least_wait) .none kV18 dc18 pm18 an18 cd18 ct18), sl18⟩)
    (c18 : PySem.W.codeIn K cd18 "least_wait" = true)
    (k18 : PySem.W.keepIn K (.ref f18) = true)
    {f19 : Addr} {od19 an19 : Option Addr} {sl19 : Array (Option Value)} {oc19 kV19 dc19 pm19 cd19 ct19 : Value}
    (a19 : PySem.W.nsIn K mainGlobals "wait_paper" = some (some (.ref f19)))
    (l19 : K.lookup f19 = some ⟨oc19, od19, .func (PySem.W.fnOf "wait_paper" "wait_paper" (defArgs s_wait_paper) (defBody s_wait_paper) (defScope s_wait_paper) .none kV19 dc19 pm19 an19 cd19 ct19), sl19⟩)
    (c19 : PySem.W.codeIn K cd19 "wait_paper" = true)
    (k19 : PySem.W.keepIn K (.ref f19) = true)
    {f20 : Addr} {od20 an20 : Option Addr} {sl20 : Array (Option Value)} {oc20 kV20 dc20 pm20 cd20 ct20 : Value}
    (a20 : PySem.W.nsIn K mainGlobals "is_wait_paper" = some (some (.ref f20)))
    (l20 : K.lookup f20 = some ⟨oc20, od20, .func (PySem.W.fnOf "is_wait_paper" "is_wait_paper" (defArgs s_is_wait_paper) (defBody s_is_wait_paper) (defScope s_is_wait_paper) .none kV20 dc20 pm20 an20 cd20 ct20), sl20⟩)
    (c20 : PySem.W.codeIn K cd20 "is_wait_paper" = true)
    (k20 : PySem.W.keepIn K (.ref f20) = true)
    {f21 : Addr} {od21 an21 : Option Addr} {sl21 : Array (Option Value)} {oc21 kV21 dc21 pm21 cd21 ct21 : Value}
    (a21 : PySem.W.nsIn K mainGlobals "_law_right" = some (some (.ref f21)))
    (l21 : K.lookup f21 = some ⟨oc21, od21, .func (PySem.W.fnOf "_law_right" "_law_right" (defArgs s__law_right) (defBody s__law_right) (defScope s__law_right) .none kV21 dc21 pm21 an21 cd21 ct21), sl21⟩)
    (c21 : PySem.W.codeIn K cd21 "_law_right" = true)
    (k21 : PySem.W.keepIn K (.ref f21) = true)
    {f22 : Addr} {od22 an22 : Option Addr} {sl22 : Array (Option Value)} {oc22 kV22 dc22 pm22 cd22 ct22 : Value}
    (a22 : PySem.W.nsIn K mainGlobals "law" = some (some (.ref f22)))
    (l22 : K.lookup f22 = some ⟨oc22, od22, .func (PySem.W.fnOf "law" "law" (defArgs s_law) (defBody s_law) (defScope s_law) .none kV22 dc22 pm22 an22 cd22 ct22), sl22⟩)
    (c22 : PySem.W.codeIn K cd22 "law" = true)
    (k22 : PySem.W.keepIn K (.ref f22) = true)
    (z_abs : PySem.W.nsIn K mainGlobals "abs" = some none)
    (z_all : PySem.W.nsIn K mainGlobals "all" = some none)
    (z_bool : PySem.W.nsIn K mainGlobals "bool" = some none)
    (z_enumerate : PySem.W.nsIn K mainGlobals "enumerate" = some none)
    (z_int : PySem.W.nsIn K mainGlobals "int" = some none)
    (z_isinstance : PySem.W.nsIn K mainGlobals "isinstance" = some none)
    (z_len : PySem.W.nsIn K mainGlobals "len" = some none)
    (z_list : PySem.W.nsIn K mainGlobals "list" = some none)
    (z_max : PySem.W.nsIn K mainGlobals "max" = some none)
    (z_min : PySem.W.nsIn K mainGlobals "min" = some none)
    (z_range : PySem.W.nsIn K mainGlobals "range" = some none)
    (z_set : PySem.W.nsIn K mainGlobals "set" = some none)
    (z_sorted : PySem.W.nsIn K mainGlobals "sorted" = some none)
    (z_str : PySem.W.nsIn K mainGlobals "str" = some none)
    (z_tuple : PySem.W.nsIn K mainGlobals "tuple" = some none)
    (z_zip : PySem.W.nsIn K mainGlobals "zip" = some none)
    {v_ANSWERS : Value} (g_ANSWERS : PySem.W.nsIn K mainGlobals "ANSWERS" = some (some v_ANSWERS)) (r_ANSWERS : RelV (.int 2000) v_ANSWERS)
    {v_TICKS : Value} (g_TICKS : PySem.W.nsIn K mainGlobals "TICKS" = some (some v_TICKS)) (r_TICKS : RelV (.int 1000000) v_TICKS)
    : ∃ fd : FuncData, (∀ (s : Shared) (v : Value), BindsTo s fd ⟨[v], []⟩ [("script", v)]) ∧ ∀ base : Heap, K.In base → base.Ns mainGlobals mg → FnOk l.prog w K mg base CX0 6 fa fd ["script"] (spLaw K) := by
  have e := hfa.symm.trans (PySem.W.mg_of X G a22)
  cases e
  have T : Txt mg := ⟨PySem.W.mg_none_of X G z_abs, PySem.W.mg_none_of X G z_all, PySem.W.mg_none_of X G z_bool, PySem.W.mg_none_of X G z_enumerate, PySem.W.mg_none_of X G z_int, PySem.W.mg_none_of X G z_isinstance, PySem.W.mg_none_of X G z_len, PySem.W.mg_none_of X G z_list, PySem.W.mg_none_of X G z_max, PySem.W.mg_none_of X G z_min, PySem.W.mg_none_of X G z_range, PySem.W.mg_none_of X G z_set, PySem.W.mg_none_of X G z_sorted, PySem.W.mg_none_of X G z_str, PySem.W.mg_none_of X G z_tuple, PySem.W.mg_none_of X G z_zip, ⟨_, PySem.W.mg_of X G g_ANSWERS, r_ANSWERS⟩, ⟨_, PySem.W.mg_of X G g_TICKS, r_TICKS⟩⟩
  have d0 : Df K mg "is_whole" s_is_whole ["value", "low", "high"] := df_mk X G a0 l0 c0 k0 fun _ _ _ _ _ _ us hl => match us, hl with | [_, _, _], _ => rfl
  have d1 : Df K mg "is_tuple_of" s_is_tuple_of ["value", "low", "high"] := df_mk X G a1 l1 c1 k1 fun _ _ _ _ _ _ us hl => match us, hl with | [_, _, _], _ => rfl
  have d2 : Df K mg "is_rising" s_is_rising ["value"] := df_mk X G a2 l2 c2 k2 fun _ _ _ _ _ _ us hl => match us, hl with | [_], _ => rfl
  have d3 : Df K mg "is_miss" s_is_miss ["answer", "wait"] := df_mk X G a3 l3 c3 k3 fun _ _ _ _ _ _ us hl => match us, hl with | [_, _], _ => rfl
  have d4 : Df K mg "least_in" s_least_in ["told", "none", "misses"] := df_mk X G a4 l4 c4 k4 fun _ _ _ _ _ _ us hl => match us, hl with | [_, _, _], _ => rfl
  have d5 : Df K mg "_law_roll" s__law_roll ["cup", "many"] := df_mk X G a5 l5 c5 k5 fun _ _ _ _ _ _ us hl => match us, hl with | [_, _], _ => rfl
  have d6 : Df K mg "_law_missed" s__law_missed ["answers", "wait"] := df_mk X G a6 l6 c6 k6 fun _ _ _ _ _ _ us hl => match us, hl with | [_, _], _ => rfl
  have d7 : Df K mg "_law_is_paper" s__law_is_paper ["answers", "misses", "bound", "value"] := df_mk X G a7 l7 c7 k7 fun _ _ _ _ _ _ us hl => match us, hl with | [_, _, _, _], _ => rfl
  have d8 : Df K mg "_law_cup" s__law_cup ["script"] := df_mk X G a8 l8 c8 k8 fun _ _ _ _ _ _ us hl => match us, hl with | [_], _ => rfl
  have d9 : Df K mg "fits_answers" s_fits_answers ["value"] := df_mk X G a9 l9 c9 k9 fun _ _ _ _ _ _ us hl => match us, hl with | [_], _ => rfl
  have d10 : Df K mg "need_number" s_need_number ["number", "low", "high"] := df_mk X G a10 l10 c10 k10 fun _ _ _ _ _ _ us hl => match us, hl with | [_, _, _], _ => rfl
  have d11 : Df K mg "_law_some" s__law_some ["cup", "things"] := df_mk X G a11 l11 c11 k11 fun _ _ _ _ _ _ us hl => match us, hl with | [_, _], _ => rfl
  have d12 : Df K mg "_law_least" s__law_least ["answers", "misses"] := df_mk X G a12 l12 c12 k12 fun _ _ _ _ _ _ us hl => match us, hl with | [_, _], _ => rfl
  have d13 : Df K mg "need_answers" s_need_answers ["answers"] := df_mk X G a13 l13 c13 k13 fun _ _ _ _ _ _ us hl => match us, hl with | [_], _ => rfl
  have d14 : Df K mg "are_answers" s_are_answers ["value"] := df_mk X G a14 l14 c14 k14 fun _ _ _ _ _ _ us hl => match us, hl with | [_], _ => rfl
  have d15 : Df K mg "_law_answers" s__law_answers ["cup", "many"] := df_mk X G a15 l15 c15 k15 fun _ _ _ _ _ _ us hl => match us, hl with | [_, _], _ => rfl
  have d16 : Df K mg "_law_same" s__law_same ["told", "due"] := df_mk X G a16 l16 c16 k16 fun _ _ _ _ _ _ us hl => match us, hl with | [_, _], _ => rfl
  have d17 : Df K mg "missed" s_missed ["answers", "wait"] := df_mk X G a17 l17 c17 k17 fun _ _ _ _ _ _ us hl => match us, hl with | [_, _], _ => rfl
  have d18 : Df K mg "least_wait" s_least_wait ["answers", "misses"] := df_mk X G a18 l18 c18 k18 fun _ _ _ _ _ _ us hl => match us, hl with | [_, _], _ => rfl
  have d19 : Df K mg "wait_paper" s_wait_paper ["answers", "misses", "bound"] := df_mk X G a19 l19 c19 k19 fun _ _ _ _ _ _ us hl => match us, hl with | [_, _, _], _ => rfl
  have d20 : Df K mg "is_wait_paper" s_is_wait_paper ["answers", "misses", "bound", "value"] := df_mk X G a20 l20 c20 k20 fun _ _ _ _ _ _ us hl => match us, hl with | [_, _, _, _], _ => rfl
  have d21 : Df K mg "_law_right" s__law_right ["cup", "many"] := df_mk X G a21 l21 c21 k21 fun _ _ _ _ _ _ us hl => match us, hl with | [_, _], _ => rfl
  have D : Tops K mg := ⟨T, d0, d1, d2, d3, d4, d5, d6, d7, d8, d9, d10, d11, d12, d13, d14, d15, d16, d17, d18, d19, d20, d21⟩
  have F := fun_mk (st := s_law) l22 c22 k22
  refine ⟨PySem.W.fnOf "law" "law" (defArgs s_law) (defBody s_law) (defScope s_law) .none kV22 dc22 pm22 an22 cd22 ct22, fun s v => .of_eq rfl, fun base _ _ => ?_⟩
  obtain ⟨c__law_cup, c__law_right, c__law_same, c_least_wait, c_is_wait_paper, c_are_answers⟩ := all_cl D l.prog w base
  exact F.ok sc_law (fun vs H Q E h => by obtain ⟨_, _, rfl, _⟩ := h; rfl) fun cdv A outer s H vs Q E hr h => ⟨t_law K w, w_law T c__law_cup c__law_right c__law_same c_least_wait c_is_wait_paper c_are_answers hr, raw_law h⟩
theorem walk {l : PySem.W.OpenLaw} {q : Program} {loose : List Str} {XP : (Str → Option Value) → Heap → Prop} {YP : World → Heap → Prop} {d : DefRec} {K : Params → PySem.W.Frag} (hn : l.most = some 63) (hdf : d.params.defaults = [])
    (hY : ∀ (w : World) (h : Heap), YP w h → (K w.params).In h)
    (F : ∀ (w : World) (mg : Str → Option Value) (fa : Addr) (h : Heap), (K w.params).In h → h.Ns mainGlobals mg → mg d.name = some (.ref fa) →
      ∃ fd : FuncData, (∀ (s : Shared) (u : Value), BindsTo s fd ⟨[u], []⟩ [("script", u)]) ∧ ∀ base : Heap, (K w.params).In base → base.Ns mainGlobals mg → FnOk l.prog w (K w.params) mg base CX0 6 fa fd ["script"] (spLaw (K w.params))) :
    PySem.W.WalkO q loose XP YP l.row.toRowW d [] (fun f vs => PySem.call f vs) :=
  L2.walk_of (n := 63) (k := 6) (x := "script") (CX := fun _ => CX0) (sp := fun w => spLaw (K w.params)) hn (by decide) hdf ⟨rfl, by decide, by decide⟩ hY F (fun _ _ a ns hl _ hS => ⟨a, ns, rfl, hS, hl, fun _ => rfl⟩) fun _ _ _ _ _ z => z
end K67
open PySem PySem.W PyProof.Rows
set_option maxRecDepth 100000 in
set_option maxHeartbeats 0 in
theorem PySem.Challenge.cw_membersheld_k67_whole_least_waits_holds : PySem.Challenge.rw_membersheld_k67_whole_least_waits.Holds := by
  w_on; o_law; k_head; (case hw => w_witness2)
  k_fill
  refine K67.walk (l := PySem.Challenge.rw_membersheld_k67_whole_least_waits) rfl rfl (fun w h Y => PySem.W.kIn_of Y) ?F
  case F =>
    intro w mg fa h KX G hmg
    refine' K67.all_mk KX G hmg ?a0 ?l0 ?c0 ?k0 ?a1 ?l1 ?c1 ?k1 ?a2 ?l2 ?c2 ?k2 ?a3 ?l3 ?c3 ?k3 ?a4 ?l4 ?c4 ?k4 ?a5 ?l5 ?c5 ?k5 ?a6 ?l6 ?c6 ?k6 ?a7 ?l7 ?c7 ?k7 ?a8 ?l8 ?c8 ?k8 ?a9 ?l9 ?c9 ?k9 ?a10 ?l10 ?c10 ?k10 ?a11 ?l11 ?c11 ?k11 ?a12 ?l12 ?c12 ?k12 ?a13 ?l13 ?c13 ?k13 ?a14 ?l14 ?c14 ?k14 ?a15 ?l15 ?c15 ?k15 ?a16 ?l16 ?c16 ?k16 ?a17 ?l17 ?c17 ?k17 ?a18 ?l18 ?c18 ?k18 ?a19 ?l19 ?c19 ?k19 ?a20 ?l20 ?c20 ?k20 ?a21 ?l21 ?c21 ?k21 ?a22 ?l22 ?c22 ?k22 ?z_abs ?z_all ?z_bool ?z_enumerate ?z_int ?z_isinstance ?z_len ?z_list ?z_max ?z_min ?z_range ?z_set ?z_sorted ?z_str ?z_tuple ?z_zip ?g_ANSWERS ?r_ANSWERS ?g_TICKS ?r_TICKS
    (case a0 => k_is)
    (case l0 => k_is)
    (case c0 => k_is)
    (case k0 => k_is)
    (case a1 => k_is)
    (case l1 => k_is)
    (case c1 => k_is)
    (case k1 => k_is)
    (case a2 => k_is)
    (case l2 => k_is)
    (case c2 => k_is)
    (case k2 => k_is)
    (case a3 => k_is)
    (case l3 => k_is)
    (case c3 => k_is)
    (case k3 => k_is)
    (case a4 => k_is)
    (case l4 => k_is)
    (case c4 => k_is)
    (case k4 => k_is)
    (case a5 => k_is)
    (case l5 => k_is)
    (case c5 => k_is)
    (case k5 => k_is)
    (case a6 => k_is)
    (case l6 => k_is)
    (case c6 => k_is)
    (case k6 => k_is)
    (case a7 => k_is)
    (case l7 => k_is)
    (case c7 => k_is)
    (case k7 => k_is)
    (case a8 => k_is)
    (case l8 => k_is)
    (case c8 => k_is)
    (case k8 => k_is)
    (case a9 => k_is)
    (case l9 => k_is)
    (case c9 => k_is)
    (case k9 => k_is)
    (case a10 => k_is)
    (case l10 => k_is)
    (case c10 => k_is)
    (case k10 => k_is)
    (case a11 => k_is)
    (case l11 => k_is)
    (case c11 => k_is)
    (case k11 => k_is)
    (case a12 => k_is)
    (case l12 => k_is)
    (case c12 => k_is)
    (case k12 => k_is)
    (case a13 => k_is)
    (case l13 => k_is)
    (case c13 => k_is)
    (case k13 => k_is)
    (case a14 => k_is)
    (case l14 => k_is)
    (case c14 => k_is)
    (case k14 => k_is)
    (case a15 => k_is)
    (case l15 => k_is)
    (case c15 => k_is)
    (case k15 => k_is)
    (case a16 => k_is)
    (case l16 => k_is)
    (case c16 => k_is)
    (case k16 => k_is)
    (case a17 => k_is)
    (case l17 => k_is)
    (case c17 => k_is)
    (case k17 => k_is)
    (case a18 => k_is)
    (case l18 => k_is)
    (case c18 => k_is)
    (case k18 => k_is)
    (case a19 => k_is)
    (case l19 => k_is)
    (case c19 => k_is)
    (case k19 => k_is)
    (case a20 => k_is)
    (case l20 => k_is)
    (case c20 => k_is)
    (case k20 => k_is)
    (case a21 => k_is)
    (case l21 => k_is)
    (case c21 => k_is)
    (case k21 => k_is)
    (case a22 => k_is)
    (case l22 => k_is)
    (case c22 => k_is)
    (case k22 => k_is)
    (case z_abs => k_is)
    (case z_all => k_is)
    (case z_bool => k_is)
    (case z_enumerate => k_is)
    (case z_int => k_is)
    (case z_isinstance => k_is)
    (case z_len => k_is)
    (case z_list => k_is)
    (case z_max => k_is)
    (case z_min => k_is)
    (case z_range => k_is)
    (case z_set => k_is)
    (case z_sorted => k_is)
    (case z_str => k_is)
    (case z_tuple => k_is)
    (case z_zip => k_is)
    (case g_ANSWERS => k_is)
    (case r_ANSWERS => exact ⟨_, rfl⟩)
    (case g_TICKS => k_is)
    (case r_TICKS => exact ⟨_, rfl⟩)

