import PyProof.Rows.All
import Wide.All
import OpenK.AllK
import Wide.FinOn
import HandS.ForMost
import HandS.ForExc
import HandS.Evl
import HandS.Zip
import HandS.TupAny
import HandS.TupSets
import HandS.TupMul
import HandS.IsInst
import HandS.DictTup
import HandS.DictComp
import HandS.SortInts
import HandS.Style
import HandS.Wide
import HandS.WideMore
import HandS.Flow
import HandS.Conv
import HandS.Defaults
import KE.GoesEnum
import HandS.ExcInit
import PySem.Challenge.RW_creditfloor_k79_demands_that_force_are_w
set_option Elab.async false
set_option linter.all false
set_option maxRecDepth 100000
set_option maxHeartbeats 4000000
/-! G0: what values stand for in a heap (data without addresses), expressions that come to data, whatever else is tracked beside it. -/
namespace G
open PySem PySem.Spec PyProof.Rows L2 Evl

abbrev D := PyData
mutual
/-- v stands for the data d in the heap B -/
inductive Rp (B : Hp) : V → D → Prop where
  | non : Rp B .non .none
  | bl (b : Bool) : Rp B (.bl b) (.bool b)
  | int (i : Int) : Rp B (.int i) (.int i)
  | str (x : Str) : Rp B (.str x) (.str x)
  | lst {a : Addr} {xs : List V} {ds : List D} : B a = some (.lst xs) → RpA B xs ds → Rp B (.ref a) (.list ds)
  | tup {a : Addr} {xs : List V} {ds : List D} : B a = some (.tup xs) → RpA B xs ds → Rp B (.ref a) (.tuple ds)
inductive RpA (B : Hp) : List V → List D → Prop where
  | nil : RpA B [] []
  | cons {v : V} {vs : List V} {d : D} {ds : List D} : Rp B v d → RpA B vs ds → RpA B (v :: vs) (d :: ds)
end
mutual
theorem Rp.mono {B B' : Hp} (e : Ex B B') : ∀ {v : V} {d : D}, Rp B v d → Rp B' v d
  | _, _, .non => .non
  | _, _, .bl b => .bl b
  | _, _, .int i => .int i
  | _, _, .str x => .str x
  | _, _, .lst h a => .lst (e _ _ h) (RpA.mono e a)
  | _, _, .tup h a => .tup (e _ _ h) (RpA.mono e a)
theorem RpA.mono {B B' : Hp} (e : Ex B B') : ∀ {vs : List V} {ds : List D}, RpA B vs ds → RpA B' vs ds
  | _, _, .nil => .nil
  | _, _, .cons h a => .cons (Rp.mono e h) (RpA.mono e a)
end
theorem RpA.length {B : Hp} : ∀ {vs : List V} {ds : List D}, RpA B vs ds → vs.length = ds.length
  | _, _, .nil => rfl
  | _, _, .cons _ a => congrArg (· + 1) a.length
theorem RpA.get {B : Hp} : ∀ {vs : List V} {ds : List D} {i : Nat} {d : D}, RpA B vs ds → ds[i]? = some d → ∃ v, vs[i]? = some v ∧ Rp B v d
  | _, _, _, _, .nil, e => by simp at e
  | _, _, 0, _, .cons r _, e => by
    simp at e
    subst e
    exact ⟨_, rfl, r⟩
  | _, _, i + 1, d, .cons _ t, e => by
    obtain ⟨u, h1, h2⟩ := RpA.get (i := i) (d := d) t (by simpa using e)
    exact ⟨u, by simpa using h1, h2⟩
theorem RpA.append {B : Hp} : ∀ {vs ws : List V} {ds es : List D}, RpA B vs ds → RpA B ws es → RpA B (vs ++ ws) (ds ++ es)
  | _, _, _, _, .nil, s => s
  | _, _, _, _, .cons r t, s => .cons r (RpA.append t s)
theorem RpA.take {B : Hp} : ∀ {vs : List V} {ds : List D} (n : Nat), RpA B vs ds → RpA B (vs.take n) (ds.take n)
  | _, _, 0, _ => .nil
  | _, _, _ + 1, .nil => .nil
  | _, _, n + 1, .cons r t => .cons r (RpA.take n t)
theorem RpA.drop {B : Hp} : ∀ {vs : List V} {ds : List D} (n : Nat), RpA B vs ds → RpA B (vs.drop n) (ds.drop n)
  | _, _, 0, r => r
  | _, _, _ + 1, .nil => .nil
  | _, _, n + 1, .cons _ t => RpA.drop n t
theorem RpA.one {B : Hp} {v : V} {d : D} (h : Rp B v d) : RpA B [v] [d] := .cons h .nil
theorem Rp.int_inv {B : Hp} {v : V} {i : Int} (h : Rp B v (.int i)) : v = .int i := by cases h; rfl
theorem Rp.bl_inv {B : Hp} {v : V} {b : Bool} (h : Rp B v (.bool b)) : v = .bl b := by cases h; rfl
theorem Rp.non_inv {B : Hp} {v : V} (h : Rp B v .none) : v = .non := by cases h; rfl
theorem Rp.tup_inv {B : Hp} {v : V} {ds : List D} (h : Rp B v (.tuple ds)) : ∃ a xs, v = .ref a ∧ B a = some (.tup xs) ∧ RpA B xs ds := by
  cases h with
  | tup h a => exact ⟨_, _, rfl, h, a⟩
theorem Rp.lst_inv {B : Hp} {v : V} {ds : List D} (h : Rp B v (.list ds)) : ∃ a xs, v = .ref a ∧ B a = some (.lst xs) ∧ RpA B xs ds := by
  cases h with
  | lst h a => exact ⟨_, _, rfl, h, a⟩
/-- ints -/
theorem RpA.ints {B : Hp} : ∀ {vs : List V} {ns : List Int}, RpA B vs (ns.map PyData.int) → vs = ns.map V.int
  | _, [], h => by cases h; rfl
  | _, n :: ns, h => by
    cases h with
    | cons h a => rw [h.int_inv, a.ints]; rfl
theorem RpA.of_ints {B : Hp} : ∀ (ns : List Int), RpA B (ns.map V.int) (ns.map PyData.int)
  | [] => .nil
  | n :: ns => .cons (.int n) (RpA.of_ints ns)
theorem RpA.bools {B : Hp} : ∀ {vs : List V} {ns : List Bool}, RpA B vs (ns.map PyData.bool) → vs = ns.map V.bl
  | _, [], h => by cases h; rfl
  | _, n :: ns, h => by
    cases h with
    | cons h a => rw [h.bl_inv, a.bools]; rfl
/-- a tuple of ints, as data -/
abbrev tI (ns : List Int) : D := .tuple (ns.map PyData.int)
abbrev lI (ns : List Int) : D := .list (ns.map PyData.int)
theorem Rp.tI_inv {B : Hp} {v : V} {ns : List Int} (h : Rp B v (tI ns)) : ∃ a, v = .ref a ∧ B a = some (.tup (ns.map V.int)) := by
  obtain ⟨a, xs, e, hb, r⟩ := h.tup_inv
  rw [r.ints] at hb
  exact ⟨a, e, hb⟩
theorem Rp.lI_inv {B : Hp} {v : V} {ns : List Int} (h : Rp B v (lI ns)) : ∃ a, v = .ref a ∧ B a = some (.lst (ns.map V.int)) := by
  obtain ⟨a, xs, e, hb, r⟩ := h.lst_inv
  rw [r.ints] at hb
  exact ⟨a, e, hb⟩
theorem Rp.tI_mk {B : Hp} {a : Addr} {ns : List Int} (h : B a = some (.tup (ns.map V.int))) : Rp B (.ref a) (tI ns) := .tup h (RpA.of_ints ns)
theorem Rp.lI_mk {B : Hp} {a : Addr} {ns : List Int} (h : B a = some (.lst (ns.map V.int))) : Rp B (.ref a) (lI ns) := .lst h (RpA.of_ints ns)
mutual
theorem Rp.dp {K : PySem.W.Frag} {B : Hp} : ∀ {v : V} {d : D}, Rp B v d → Dp K B v d
  | _, _, .non => .non
  | _, _, .bl b => .bl b
  | _, _, .int i => .int i
  | _, _, .str x => .str x
  | _, _, .lst h a => .lst (sq_of h) (RpA.dp a)
  | _, _, .tup h a => .tup (st_of h) (RpA.dp a)
theorem RpA.dp {K : PySem.W.Frag} {B : Hp} : ∀ {vs : List V} {ds : List D}, RpA B vs ds → DpAll K B vs ds
  | _, _, .nil => .nil
  | _, _, .cons h a => .cons (Rp.dp h) (RpA.dp a)
end

/-! ### heaps without some addresses -/
open Classical in
/-- H without F -/
noncomputable def cut (F : Addr → Prop) (H : Hp) : Hp := fun b => if F b then none else H b
theorem cut_some {F : Addr → Prop} {H : Hp} {b : Addr} {o : HO} : cut F H b = some o ↔ ¬ F b ∧ H b = some o := by
  unfold cut
  by_cases h : F b
  · rw [if_pos h]
    exact ⟨fun z => (by cases z), fun z => absurd h z.1⟩
  · rw [if_neg h]
    exact ⟨fun z => ⟨h, z⟩, fun z => z.2⟩
theorem cut_at {F : Addr → Prop} {H : Hp} {b : Addr} {o : HO} (h : ¬ F b) (e : H b = some o) : cut F H b = some o := cut_some.mpr ⟨h, e⟩
theorem cut_ex {F : Addr → Prop} {H : Hp} : Ex (cut F H) H := fun b o h => (cut_some.mp h).2
theorem cut_mono {F : Addr → Prop} {H H' : Hp} (e : Ex H H') : Ex (cut F H) (cut F H') := fun b o h => cut_at (cut_some.mp h).1 (e b o (cut_some.mp h).2)
def isTup : HO → Bool
  | .tup _ => true
  | _ => false
/-- B lies in H, off F; F is tracked in H, no tuple among it -/
structure Off (F : Addr → Prop) (B H : Hp) : Prop where
  ex : ∀ b o, B b = some o → H b = some o
  off : ∀ b o, B b = some o → ¬ F b
  dom : ∀ b, F b → ∃ u, H b = some u ∧ isTup u = false
theorem Off.cut {F : Addr → Prop} {B H : Hp} (o : Off F B H) : Ex B (cut F H) := fun b u h => cut_at (o.off b u h) (o.ex b u h)
theorem Off.go {F : Addr → Prop} {B H H' : Hp} (o : Off F B H) (e : Ex H H') : Off F B H' :=
  ⟨fun b u h => e b u (o.ex b u h), o.off, fun b h => by
    obtain ⟨u, q, t⟩ := o.dom b h
    exact ⟨u, e b u q, t⟩⟩
theorem Off.self {F : Addr → Prop} {B H : Hp} (o : Off F B H) : Off F (G.cut F H) H := ⟨fun b u h => (cut_some.mp h).2, fun b u h => (cut_some.mp h).1, o.dom⟩
theorem Off.next {F : Addr → Prop} {B H H' : Hp} (o : Off F B H) (e : Ex H H') : Off F (G.cut F H') H' := (o.go e).self
theorem Off.free {F : Addr → Prop} {B H : Hp} (o : Off F B H) {p : Addr} (h : H p = none) : ¬ F p := fun z => by
  obtain ⟨u, q, t⟩ := o.dom p z
  rw [h] at q
  cases q
theorem Off.tupOff {F : Addr → Prop} {B H : Hp} (o : Off F B H) {p : Addr} {xs : List V} (h : H p = some (.tup xs)) : ¬ F p := fun z => by
  obtain ⟨u, q, t⟩ := o.dom p z
  rw [h] at q
  cases q
  cases t
theorem Off.nil (H : Hp) : Off (fun _ => False) H H := ⟨fun _ _ h => h, fun _ _ _ z => z, fun _ z => False.elim z⟩
theorem cut_nil (H : Hp) : cut (fun _ => False) H = H := by
  funext b
  unfold cut
  rw [if_neg id]
/-- one more address that B does not know -/
theorem Off.add {F : Addr → Prop} {B H : Hp} {p : Addr} {u : HO} (o : Off F B H) (hB : B p = none) (h : H p = some u) (hu : isTup u = false := by rfl) : Off (fun b => F b ∨ b = p) B H :=
  ⟨o.ex, fun b w e z => Or.elim z (o.off b w e) fun z => (by rw [z, hB] at e; cases e), fun b z => Or.elim z (o.dom b) fun z => ⟨u, by rw [z, h], hu⟩⟩
theorem Off.new {F : Addr → Prop} {B H : Hp} {p : Addr} {u : HO} (o : Off F B H) (h : H p = none) (hu : isTup u = false := by rfl) : Off (fun b => F b ∨ b = p) B (upd H p u) := by
  have hB : B p = none := by
    cases q : B p with
    | none => rfl
    | some w => rw [o.ex p w q] at h; cases h
  exact (o.go (Ex.new h)).add hB upd_same hu
theorem cut_upd {F : Addr → Prop} {H : Hp} {p : Addr} {u : HO} (h : F p) : cut F (upd H p u) = cut F H := by
  funext b
  unfold cut
  by_cases hb : F b
  · rw [if_pos hb, if_pos hb]
  · rw [if_neg hb, if_neg hb, upd_ne (fun e => hb (by rw [e]; exact h))]
theorem Off.upd {F : Addr → Prop} {B H : Hp} {p : Addr} {u : HO} (o : Off F B H) (h : F p) (hu : isTup u = false := by rfl) : Off F B (upd H p u) :=
  ⟨fun b w e => by rw [upd_ne (fun z => o.off b w e (by rw [z]; exact h))]; exact o.ex b w e, o.off, fun b hb => by
    by_cases z : b = p
    · exact ⟨u, by rw [z, upd_same], hu⟩
    · rw [upd_ne z]; exact o.dom b hb⟩
theorem cut_more {F : Addr → Prop} {H : Hp} {p : Addr} : Ex (cut (fun b => F b ∨ b = p) H) (cut F H) := fun b o h => cut_at (fun z => (cut_some.mp h).1 (.inl z)) (cut_some.mp h).2
theorem cut_less {F : Addr → Prop} {H H' : Hp} {p : Addr} (hp : H p = none) (e : Ex H H') : Ex (cut F H) (cut (fun b => F b ∨ b = p) H') := fun b o h => by
  obtain ⟨h1, h2⟩ := cut_some.mp h
  exact cut_at (fun z => Or.elim z h1 fun z => by rw [z, hp] at h2; cases h2) (e b o h2)

/-! ### expressions that come to something -/
abbrev RelH := Hp → V → Prop
def Mono (R : RelH) : Prop := ∀ {B B' : Hp} {v : V}, Ex B B' → R B v → R B' v
abbrev rp (d : D) : RelH := fun B v => Rp B v d
theorem mono_rp (d : D) : Mono (rp d) := fun e h => h.mono e
/-- te comes to a value of which R is true, in every heap over B -/
def EvR (te : TE) (σ : L2.St) (B : Hp) (R : RelH) : Prop := ∀ F H, Off F B H → ∀ Q : VK, (∀ v H', Ex H H' → R (cut F H') v → Q v H') → te σ H Q
abbrev EvD (te : TE) (σ : L2.St) (B : Hp) (d : D) : Prop := EvR te σ B (rp d)
def EvB (tt : TT) (σ : L2.St) (B : Hp) (b : Bool) : Prop := ∀ F H, Off F B H → ∀ Q : Bool → Hp → Prop, (∀ H', Ex H H' → Q b H') → tt σ H Q
abbrev RelA := Hp → List V → Prop
def EvAs (ta : TA) (σ : L2.St) (B : Hp) (R : RelA) : Prop := ∀ F H, Off F B H → ∀ Q : List V → Hp → Prop, (∀ vs H', Ex H H' → R (cut F H') vs → Q vs H') → ta σ H Q
def MonoA (R : RelA) : Prop := ∀ {B B' : Hp} {vs : List V}, Ex B B' → R B vs → R B' vs
abbrev EvDs (ta : TA) (σ : L2.St) (B : Hp) (ds : List D) : Prop := EvAs ta σ B (fun B vs => RpA B vs ds)
section
variable {σ : L2.St} {B B' : Hp} {ta : TA} {te tb tx : TE} {t u : TT} {v : V} {d d1 d2 : D} {R R1 R2 : RelH} {RA : RelA} {ds : List D}
theorem EvR.mono (e : Ex B B') (h : EvR te σ B R) : EvR te σ B' R := fun F H o Q q => h F H ⟨fun b w z => o.ex b w (e b w z), fun b w z => o.off b w (e b w z), o.dom⟩ Q q
theorem EvB.mono {b : Bool} (e : Ex B B') (h : EvB t σ B b) : EvB t σ B' b := fun F H o Q q => h F H ⟨fun b w z => o.ex b w (e b w z), fun b w z => o.off b w (e b w z), o.dom⟩ Q q
theorem EvAs.mono (e : Ex B B') (h : EvAs ta σ B RA) : EvAs ta σ B' RA := fun F H o Q q => h F H ⟨fun b w z => o.ex b w (e b w z), fun b w z => o.off b w (e b w z), o.dom⟩ Q q
theorem EvR.imp (h : EvR te σ B R1) (hi : ∀ B' v, Ex B B' → R1 B' v → R2 B' v) : EvR te σ B R2 := fun F H o Q q => h F H o Q fun v H' e r => q v H' e (hi _ _ (o.go e).cut r)
theorem d_var {i : Nat} (hm : Mono R) (h : σ[i]? = some (some v)) (r : R B v) : EvR (tVar i) σ B R := fun F H o _ q => ⟨v, h, q v H (Ex.refl H) (hm o.cut r)⟩
theorem d_v {i : Nat} (r : Rp B v d) (h : σ[i]? = some (some v) := by rfl) : EvD (tVar i) σ B d := d_var (mono_rp d) h r
theorem d_int {i : Int} : EvD (tC (.int i)) σ B (.int i) := fun F H _ _ q => q _ H (Ex.refl H) (.int i)
theorem d_bl {i : Bool} : EvD (tC (.bl i)) σ B (.bool i) := fun F H _ _ q => q _ H (Ex.refl H) (.bl i)
theorem d_non : EvD (tC .non) σ B .none := fun F H _ _ q => q _ H (Ex.refl H) .non
theorem d_str {x : Str} : EvD (tC (.str x)) σ B (.str x) := fun F H _ _ q => q _ H (Ex.refl H) (.str x)
theorem d_nil : EvDs tNil σ B [] := fun F H _ _ q => q [] H (Ex.refl H) .nil
theorem d_cons (h : EvD te σ B d) (hs : EvDs ta σ B ds) : EvDs (tCons te ta) σ B (d :: ds) := fun F H o Q q =>
  h F H o _ fun v H1 e1 r1 => hs F H1 (o.go e1) _ fun vs H2 e2 r2 => q _ H2 (e1.trans e2) (.cons (r1.mono (cut_mono e2)) r2)
theorem a_nil : EvAs tNil σ B (fun _ vs => vs = []) := fun F H _ _ q => q [] H (Ex.refl H) rfl
theorem a_cons (hm : Mono R) (h : EvR te σ B R) (hs : EvAs ta σ B RA) : EvAs (tCons te ta) σ B (fun B vs => ∃ v ws, vs = v :: ws ∧ R B v ∧ RA B ws) := fun F H o Q q =>
  h F H o _ fun v H1 e1 r1 => hs F H1 (o.go e1) _ fun vs H2 e2 r2 => q _ H2 (e1.trans e2) ⟨v, vs, rfl, hm (cut_mono e2) r1, r2⟩
theorem new_at {F : Addr → Prop} {H : Hp} {p : Addr} {u : HO} (o : Off F B H) (hp : H p = none) : cut F (upd H p u) p = some u := cut_at (o.free hp) upd_same
theorem d_tup (h : EvDs ta σ B ds) (hz : ds.length ≤ 100000) : EvD (tTup ta) σ B (.tuple ds) := fun F H o Q q =>
  h F H o _ fun vs H1 e1 r1 => ⟨sz_of (by rw [r1.length]; exact hz), fun p hp => q _ _ (e1.trans (Ex.new hp)) (.tup (new_at (o.go e1) hp) (r1.mono (cut_mono (Ex.new hp))))⟩
theorem d_lst (h : EvDs ta σ B ds) (hz : ds.length ≤ 100000) : EvD (tLst ta) σ B (.list ds) := fun F H o Q q =>
  h F H o _ fun vs H1 e1 r1 => ⟨sz_of (by rw [r1.length]; exact hz), fun p hp => q _ _ (e1.trans (Ex.new hp)) (.lst (new_at (o.go e1) hp) (r1.mono (cut_mono (Ex.new hp))))⟩

/-! two-place operations, one-place ones, calls: by data -/
def OpD (r : L2.R2) (R1 R2 R : RelH) : Prop := ∀ {B : Hp} {x y : V}, R1 B x → R2 B y → ∀ F H, Off F B H → ∀ Q : VK, (∀ v H', Ex H H' → R (cut F H') v → Q v H') → r x y H Q
def UnD (r : V → Hp → VK → Prop) (R1 R : RelH) : Prop := ∀ {B : Hp} {x : V}, R1 B x → ∀ F H, Off F B H → ∀ Q : VK, (∀ v H', Ex H H' → R (cut F H') v → Q v H') → r x H Q
def CallD (r : List V → Hp → VK → Prop) (RA : RelA) (R : RelH) : Prop := ∀ {B : Hp} {xs : List V}, RA B xs → ∀ F H, Off F B H → ∀ Q : VK, (∀ v H', Ex H H' → R (cut F H') v → Q v H') → r xs H Q
theorem d_op {r : L2.R2} (hm : Mono R1) (ha : EvR te σ B R1) (hb : EvR tb σ B R2) (hr : OpD r R1 R2 R) : EvR (tOp r te tb) σ B R := fun F H o Q q =>
  ha F H o _ fun x H1 e1 r1 => hb F H1 (o.go e1) _ fun y H2 e2 r2 => hr (hm (cut_mono e2) r1) r2 F H2 (o.next (e1.trans e2)) Q fun v H3 e3 r3 => q v H3 ((e1.trans e2).trans e3) r3
theorem d_un {r : V → Hp → VK → Prop} (ha : EvR te σ B R1) (hr : UnD r R1 R) : EvR (tUn r te) σ B R := fun F H o Q q =>
  ha F H o _ fun x H1 e1 r1 => hr r1 F H1 (o.next e1) Q fun v H3 e3 r3 => q v H3 (e1.trans e3) r3
theorem d_cb {r : List V → Hp → VK → Prop} (ha : EvAs ta σ B RA) (hr : CallD r RA R) : EvR (tCB r ta) σ B R := fun F H o Q q =>
  ha F H o _ fun xs H1 e1 r1 => hr r1 F H1 (o.next e1) Q fun v H3 e3 r3 => q v H3 (e1.trans e3) r3
/-- a def's promise -/
def SpD (sp : Sp) (RA : RelA) (R : RelH) : Prop := ∀ {B : Hp} {xs : List V}, RA B xs → ∀ F H, Off F B H → ∀ Q : VK, (∀ v H', Ex H H' → R (cut F H') v → Q v H') → ∀ E, sp xs H Q E
theorem d_call {sp : Sp} {E : XK} (ha : EvAs ta σ B RA) (hr : SpD sp RA R) : EvR (tCall sp [] E ta) σ B R := fun F H o Q q =>
  ha F H o _ fun xs H1 e1 r1 => by
    rw [List.append_nil]
    exact hr r1 F H1 (o.next e1) Q (fun v H3 e3 r3 => q v H3 (e1.trans e3) r3) E
/-- the promise itself, by data: the shape that I give to the pure defs -/
def spD (pre : Hp → List V → (RelH) → Prop) : Sp := fun vs H Q _ => ∃ (F : Addr → Prop) (B : Hp) (R : RelH), Off F B H ∧ pre B vs R ∧ ∀ v H', Ex H H' → R (cut F H') v → Q v H'
theorem spD_ok {pre : Hp → List V → RelH → Prop} (h : ∀ B vs, RA B vs → pre B vs R) : SpD (spD pre) RA R := fun ra F H o Q q E => ⟨F, _, R, o, h _ _ ra, q⟩

/-! tests -/
theorem b_cmp (h : EvD te σ B (.bool b)) : EvB (tTest te) σ B b := fun F H o Q q => h F H o _ fun v H1 e1 r1 => ⟨b, r1.bl_inv, q H1 e1⟩
theorem b_val (h : EvD te σ B (.bool b)) : EvB (tB te) σ B b := fun F H o Q q => h F H o _ fun v H1 e1 r1 => ⟨b, r1.bl_inv, q H1 e1⟩
theorem b_not {b : Bool} (h : EvB t σ B b) : EvB (tNot t) σ B (!b) := fun F H o Q q => h F H o _ q
theorem b_and {a b : Bool} (h : EvB t σ B a) (h2 : a = true → EvB u σ B b) : EvB (tAnd t u) σ B (a && b) := fun F H o Q q => h F H o _ fun H1 e1 => by
  cases a with
  | false => exact q H1 e1
  | true => exact h2 rfl F H1 (o.go e1) _ fun H2 e2 => q H2 (e1.trans e2)
theorem b_or {a b : Bool} (h : EvB t σ B a) (h2 : a = false → EvB u σ B b) : EvB (tOr t u) σ B (a || b) := fun F H o Q q => h F H o _ fun H1 e1 => by
  cases a with
  | true => exact q H1 e1
  | false => exact h2 rfl F H1 (o.go e1) _ fun H2 e2 => q H2 (e1.trans e2)
theorem d_andV {a b : Bool} (h : EvD te σ B (.bool a)) (h2 : a = true → EvD tb σ B (.bool b)) : EvD (tAndV te tb) σ B (.bool (a && b)) := fun F H o Q q => h F H o _ fun v H1 e1 r1 => ⟨a, r1.bl_inv, by
  cases a with
  | false => exact q _ H1 e1 (.bl _)
  | true => exact h2 rfl F H1 (o.go e1) _ fun v H2 e2 r2 => q v H2 (e1.trans e2) r2⟩
theorem d_orV {a b : Bool} (h : EvD te σ B (.bool a)) (h2 : a = false → EvD tb σ B (.bool b)) : EvD (tOrV te tb) σ B (.bool (a || b)) := fun F H o Q q => h F H o _ fun v H1 e1 r1 => ⟨a, r1.bl_inv, by
  cases a with
  | true => exact q _ H1 e1 (.bl _)
  | false => exact h2 rfl F H1 (o.go e1) _ fun v H2 e2 r2 => q v H2 (e1.trans e2) r2⟩
theorem d_notV {a : Bool} (h : EvD te σ B (.bool a)) : EvD (tNotV te) σ B (.bool (!a)) := fun F H o Q q => h F H o _ fun v H1 e1 r1 => ⟨a, r1.bl_inv, q _ H1 e1 (.bl _)⟩
theorem d_if {b : Bool} (h : EvB t σ B b) (h1 : b = true → EvR te σ B R) (h2 : b = false → EvR tb σ B R) : EvR (tIf t te tb) σ B R := fun F H o Q q => h F H o _ fun H1 e1 => by
  cases b with
  | true => exact h1 rfl F H1 (o.go e1) _ fun v H2 e2 r2 => q v H2 (e1.trans e2) r2
  | false => exact h2 rfl F H1 (o.go e1) _ fun v H2 e2 r2 => q v H2 (e1.trans e2) r2
theorem d_isN {b : Bool} (h : EvD te σ B d) (hb : b = (match d with | .none => true | _ => false)) : EvD (tIsN te) σ B (.bool b) := fun F H o Q q => h F H o _ fun v H1 e1 r1 => by
  refine q _ H1 e1 ?_
  subst hb
  cases r1 <;> exact .bl _
theorem d_notN {b : Bool} (h : EvD te σ B d) (hb : b = (match d with | .none => false | _ => true)) : EvD (tNotN te) σ B (.bool b) := fun F H o Q q => h F H o _ fun v H1 e1 r1 => by
  refine q _ H1 e1 ?_
  subst hb
  cases r1 <;> exact .bl _
end

/-! ### the operators -/
theorem o_I0 {g : Int → Int → V} {i j : Int} {d : D} (h : ∀ B, Rp B (g i j) d) : OpD (rI0 g) (rp (.int i)) (rp (.int j)) (rp d) := fun r1 r2 F H o Q q =>
  ⟨i, j, r1.int_inv, r2.int_inv, q _ H (Ex.refl H) (h _)⟩
theorem o_I {C : Int → Int → Prop} {g : Int → Int → V} {i j : Int} {d : D} (hc : C i j) (h : ∀ B, Rp B (g i j) d) : OpD (rI C g) (rp (.int i)) (rp (.int j)) (rp d) := fun r1 r2 F H o Q q =>
  ⟨i, j, r1.int_inv, r2.int_inv, hc, q _ H (Ex.refl H) (h _)⟩
theorem o_add {i j : Int} : OpD (rI0 fun i j => .int (i + j)) (rp (.int i)) (rp (.int j)) (rp (.int (i + j))) := o_I0 fun _ => .int _
theorem o_sub {i j : Int} : OpD (rI0 fun i j => .int (i - j)) (rp (.int i)) (rp (.int j)) (rp (.int (i - j))) := o_I0 fun _ => .int _
theorem o_lt {i j : Int} : OpD (rI0 fun i j => .bl (decide (i < j))) (rp (.int i)) (rp (.int j)) (rp (.bool (decide (i < j)))) := o_I0 fun _ => .bl _
theorem o_le {i j : Int} : OpD (rI0 fun i j => .bl (decide (i ≤ j))) (rp (.int i)) (rp (.int j)) (rp (.bool (decide (i ≤ j)))) := o_I0 fun _ => .bl _
theorem o_gt {i j : Int} : OpD (rI0 fun i j => .bl (decide (j < i))) (rp (.int i)) (rp (.int j)) (rp (.bool (decide (j < i)))) := o_I0 fun _ => .bl _
theorem o_ge {i j : Int} : OpD (rI0 fun i j => .bl (decide (j ≤ i))) (rp (.int i)) (rp (.int j)) (rp (.bool (decide (j ≤ i)))) := o_I0 fun _ => .bl _
theorem o_eqI {i j : Int} : OpD rEq (rp (.int i)) (rp (.int j)) (rp (.bool (decide (i = j)))) := fun r1 r2 F H o Q q => by
  rw [r1.int_inv, r2.int_inv]
  refine ⟨rfl, ?_⟩
  have e : decide (V.int i = V.int j) = decide (i = j) := by
    by_cases h : i = j
    · rw [decide_eq_true h, decide_eq_true (congrArg V.int h)]
    · rw [decide_eq_false h, decide_eq_false fun z => h (V.int.inj z)]
  rw [e]
  exact q _ H (Ex.refl H) (.bl _)
theorem o_neI {i j : Int} : OpD rNe (rp (.int i)) (rp (.int j)) (rp (.bool (!decide (i = j)))) := fun r1 r2 F H o Q q => by
  rw [r1.int_inv, r2.int_inv]
  refine ⟨rfl, ?_⟩
  have e : decide (V.int i = V.int j) = decide (i = j) := by
    by_cases h : i = j
    · rw [decide_eq_true h, decide_eq_true (congrArg V.int h)]
    · rw [decide_eq_false h, decide_eq_false fun z => h (V.int.inj z)]
  rw [e]
  exact q _ H (Ex.refl H) (.bl _)
theorem o_eqD {K : PySem.W.Frag} {d e : D} (hd : SeqAt.shaped d = true) (he : SeqAt.shaped e = true) : OpD (rEqD K) (rp d) (rp e) (rp (.bool (PyData.eqv d e))) := fun r1 r2 F H o Q q =>
  ⟨d, e, (r1.mono o.ex).dp, (r2.mono o.ex).dp, hd, he, q _ H (Ex.refl H) (.bl _)⟩
theorem o_neD {K : PySem.W.Frag} {d e : D} (hd : SeqAt.shaped d = true) (he : SeqAt.shaped e = true) : OpD (rNeD K) (rp d) (rp e) (rp (.bool (!PyData.eqv d e))) := fun r1 r2 F H o Q q =>
  ⟨d, e, (r1.mono o.ex).dp, (r2.mono o.ex).dp, hd, he, q _ H (Ex.refl H) (.bl _)⟩
theorem atI_rp {B : Hp} {vs : List V} {ds : List D} {i : Int} {d : D} (r : RpA B vs ds) (h : atI ds i = some d) : ∃ v, atI vs i = some v ∧ Rp B v d := by
  unfold atI at h ⊢
  rw [r.length]
  cases e : ixN ds.length i with
  | none => rw [e] at h; cases h
  | some j =>
    rw [e] at h
    exact r.get (i := j) h
theorem o_ixL {K : PySem.W.Frag} {ds : List D} {i : Int} {d : D} (h : atI ds i = some d) : OpD (rIxL K) (rp (.list ds)) (rp (.int i)) (rp d) := fun r1 r2 F H o Q q => by
  obtain ⟨a, xs, e, hb, r⟩ := r1.lst_inv
  obtain ⟨v, hv, rv⟩ := atI_rp r h
  exact ⟨a, xs, i, v, e, r2.int_inv, sq_of (o.ex _ _ hb), hv, q _ H (Ex.refl H) (rv.mono o.cut)⟩
theorem o_ixT {K : PySem.W.Frag} {ds : List D} {i : Int} {d : D} (h : atI ds i = some d) : OpD (rIxT K) (rp (.tuple ds)) (rp (.int i)) (rp d) := fun r1 r2 F H o Q q => by
  obtain ⟨a, xs, e, hb, r⟩ := r1.tup_inv
  obtain ⟨v, hv, rv⟩ := atI_rp r h
  exact ⟨a, xs, i, v, e, r2.int_inv, st_of (o.ex _ _ hb), hv, q _ H (Ex.refl H) (rv.mono o.cut)⟩
end G
/-! G1: what loops and comprehensions walk, as data; comprehensions; for. -/
namespace G
open PySem PySem.Spec PyProof.Rows L2 Evl

/-- the walk J yields the data ds, over B -/
structure ItOk (J : It) (B : Hp) (ds : List D) : Prop where
  go : ∀ F H i d, Off F B H → ds[i]? = some d → J.go i H ∧ ∀ x H', J.yld i H x H' → Ex H H' ∧ Rp (cut F H') x d
  stop : ∀ F H i, Off F B H → ds.length ≤ i → J.stop i H
def EvI (wi : TI) (σ : L2.St) (B : Hp) (ds : List D) : Prop := ∀ F H, Off F B H → ∀ R : It → Hp → Prop, (∀ J H', Ex H H' → ItOk J (cut F H') ds → R J H') → wi σ H R
section
variable {K : PySem.W.Frag} {σ : L2.St} {B : Hp} {ta : TA} {te tl : TE} {ds es : List D}
theorem i_list (h : EvD tl σ B (.list ds)) : EvI (iList K tl) σ B ds := fun F H o R q => h F H o _ fun v H1 e1 r1 => by
  obtain ⟨a, xs, rfl, hb, ra⟩ := r1.lst_inv
  refine ⟨a, rfl, ⟨xs, sq_of (cut_ex _ _ hb)⟩, q _ H1 e1 ⟨fun F' H' i d o' hd => ?_, fun F' H' i o' hi => ⟨xs, sq_of (o'.ex _ _ hb), by rw [ra.length]; exact hi⟩⟩⟩
  obtain ⟨x, hx, rx⟩ := ra.get hd
  refine ⟨⟨xs, x, sq_of (o'.ex _ _ hb), hx⟩, fun x' H'' y => ?_⟩
  obtain ⟨rfl, y⟩ := y
  have := y xs (sq_of (o'.ex _ _ hb))
  rw [hx] at this
  cases this
  exact ⟨Ex.refl _, rx.mono o'.cut⟩
theorem i_tup (h : EvD tl σ B (.tuple ds)) : EvI (iTup K tl) σ B ds := fun F H o R q => h F H o _ fun v H1 e1 r1 => by
  obtain ⟨a, xs, rfl, hb, ra⟩ := r1.tup_inv
  refine ⟨a, rfl, ⟨xs, st_of (cut_ex _ _ hb)⟩, q _ H1 e1 ⟨fun F' H' i d o' hd => ?_, fun F' H' i o' hi => ⟨xs, st_of (o'.ex _ _ hb), by rw [ra.length]; exact hi⟩⟩⟩
  obtain ⟨x, hx, rx⟩ := ra.get hd
  refine ⟨⟨xs, x, st_of (o'.ex _ _ hb), hx⟩, fun x' H'' y => ?_⟩
  obtain ⟨rfl, y⟩ := y
  have := y xs (st_of (o'.ex _ _ hb))
  rw [hx] at this
  cases this
  exact ⟨Ex.refl _, rx.mono o'.cut⟩
theorem it_rng (lo : Int) (n : Nat) : ItOk (Itr lo n) B ((List.range n).map fun i => PyData.int (lo + (i : Nat))) := by
  refine ⟨fun F H i d o hd => ?_, fun F H i o hi => (show n ≤ i by simpa using hi)⟩
  rw [List.getElem?_map] at hd
  by_cases hi : i < n
  · rw [List.getElem?_range hi] at hd
    cases hd
    refine ⟨hi, fun x H' y => ?_⟩
    obtain ⟨rfl, rfl⟩ := y
    exact ⟨Ex.refl _, .int _⟩
  · rw [List.getElem?_eq_none (by simpa using Nat.le_of_not_lt hi)] at hd
    cases hd
theorem i_rng1 {n : Int} (h : EvDs ta σ B [.int n]) (h1 : -(2 ^ 62) ≤ n) (h2 : n < 2 ^ 62) : EvI (iRng1 ta) σ B ((List.range n.toNat).map fun i => PyData.int ((i : Nat) : Int)) := fun F H o R q => h F H o _ fun vs H1 e1 r1 => by
  cases r1 with
  | cons r r' =>
    cases r'
    refine ⟨n, by rw [r.int_inv], h1, h2, q _ H1 e1 ?_⟩
    have := it_rng (B := cut F H1) 0 n.toNat
    simpa only [Int.zero_add] using this
theorem i_rng2 {m n : Int} (h : EvDs ta σ B [.int m, .int n]) (h1 : -(2 ^ 62) ≤ m ∧ m < 2 ^ 62 ∧ -(2 ^ 62) ≤ n ∧ n < 2 ^ 62) : EvI (iRng2 ta) σ B ((List.range (n - m).toNat).map fun i => PyData.int (m + ((i : Nat) : Int))) := fun F H o R q => h F H o _ fun vs H1 e1 r1 => by
  cases r1 with
  | cons r r' =>
    cases r' with
    | cons r2 r3 =>
      cases r3
      refine ⟨m, n, by rw [r.int_inv, r2.int_inv], h1, q _ H1 e1 (it_rng m _)⟩
theorem pair_new {F : Addr → Prop} {H : Hp} {T : Addr} {x y : V} {d e : D} (o : Off F B H) (hT : H T = none) (h1 : Rp (cut F H) x d) (h2 : Rp (cut F H) y e) :
    Ex H (upd H T (.tup [x, y])) ∧ Rp (cut F (upd H T (.tup [x, y]))) (.ref T) (.tuple [d, e]) :=
  ⟨Ex.new hT, .tup (new_at o hT) (.cons (h1.mono (cut_mono (Ex.new hT))) (.cons (h2.mono (cut_mono (Ex.new hT))) .nil))⟩
theorem i_enum (h : EvDs ta σ B [.list ds]) : EvI (iEnum K ta) σ B (ds.zipIdx.map fun p => PyData.tuple [.int (p.2 : Nat), p.1]) := fun F H o R q => h F H o _ fun vs H1 e1 r1 => by
  cases r1 with
  | cons r r' =>
    cases r'
    obtain ⟨a, xs, rfl, hb, ra⟩ := r.lst_inv
    refine ⟨a, xs, rfl, sq_of (cut_ex _ _ hb), q _ H1 e1 ⟨fun F' H' i d o' hd => ?_, fun F' H' i o' hi => ⟨xs, sq_of (o'.ex _ _ hb), by rw [ra.length]; simpa using hi⟩⟩⟩
    rw [List.getElem?_map, List.getElem?_zipIdx] at hd
    cases he : ds[i]? with
    | none => rw [he] at hd; cases hd
    | some d0 =>
      rw [he] at hd
      cases hd
      obtain ⟨x, hx, rx⟩ := ra.get he
      refine ⟨⟨xs, x, sq_of (o'.ex _ _ hb), hx⟩, fun x' H'' y => ?_⟩
      obtain ⟨T, x1, rfl, hT, rfl, hy⟩ := y
      have := hy xs (sq_of (o'.ex _ _ hb))
      rw [hx] at this
      cases this
      have z := pair_new o' hT (.int (i : Nat)) (rx.mono o'.cut)
      simpa using z
theorem zip_get {ds es : List D} {i : Nat} {d : D} (hd : ((ds.zip es).map fun p => PyData.tuple [p.1, p.2])[i]? = some d) : ∃ a b, ds[i]? = some a ∧ es[i]? = some b ∧ d = .tuple [a, b] := by
  rw [List.getElem?_map] at hd
  cases he : (ds.zip es)[i]? with
  | none => rw [he] at hd; cases hd
  | some p =>
    rw [he] at hd
    cases hd
    obtain ⟨h1, h2⟩ := List.getElem?_zip_eq_some.mp he
    exact ⟨p.1, p.2, h1, h2, rfl⟩
theorem i_zipL (h : EvDs ta σ B [.list ds, .list es]) : EvI (RZ.iZipA K ta) σ B ((ds.zip es).map fun p => PyData.tuple [p.1, p.2]) := fun F H o R q => h F H o _ fun vs H1 e1 r1 => by
  cases r1 with
  | cons r r' =>
    cases r' with
    | cons r2 r3 =>
      cases r3
      obtain ⟨a, xs, rfl, hb, ra⟩ := r.lst_inv
      obtain ⟨b, ys, rfl, hb2, ra2⟩ := r2.lst_inv
      refine ⟨a, b, xs, ys, rfl, .inl ⟨sq_of (cut_ex _ _ hb), sq_of (cut_ex _ _ hb2), q _ H1 e1 ⟨fun F' H' i d o' hd => ?_, fun F' H' i o' hi => ⟨xs, ys, sq_of (o'.ex _ _ hb), sq_of (o'.ex _ _ hb2), by rw [ra.length, ra2.length]; simp only [List.length_map, List.length_zip] at hi; omega⟩⟩⟩⟩
      obtain ⟨d1, d2, he1, he2, rfl⟩ := zip_get hd
      obtain ⟨x, hx, rx⟩ := ra.get he1
      obtain ⟨y, hy, ry⟩ := ra2.get he2
      refine ⟨⟨xs, ys, x, y, sq_of (o'.ex _ _ hb), sq_of (o'.ex _ _ hb2), hx, hy⟩, fun x' H'' z => ?_⟩
      obtain ⟨T, x1, y1, rfl, hT, rfl, z1, z2⟩ := z
      have := z1 xs (sq_of (o'.ex _ _ hb))
      rw [hx] at this
      cases this
      have := z2 ys (sq_of (o'.ex _ _ hb2))
      rw [hy] at this
      cases this
      exact pair_new o' hT (rx.mono o'.cut) (ry.mono o'.cut)
theorem i_zipT (h : EvDs ta σ B [.tuple ds, .tuple es]) : EvI (RZ.iZipA K ta) σ B ((ds.zip es).map fun p => PyData.tuple [p.1, p.2]) := fun F H o R q => h F H o _ fun vs H1 e1 r1 => by
  cases r1 with
  | cons r r' =>
    cases r' with
    | cons r2 r3 =>
      cases r3
      obtain ⟨a, xs, rfl, hb, ra⟩ := r.tup_inv
      obtain ⟨b, ys, rfl, hb2, ra2⟩ := r2.tup_inv
      refine ⟨a, b, xs, ys, rfl, .inr ⟨st_of (cut_ex _ _ hb), st_of (cut_ex _ _ hb2), q _ H1 e1 ⟨fun F' H' i d o' hd => ?_, fun F' H' i o' hi => ⟨xs, ys, st_of (o'.ex _ _ hb), st_of (o'.ex _ _ hb2), by rw [ra.length, ra2.length]; simp only [List.length_map, List.length_zip] at hi; omega⟩⟩⟩⟩
      obtain ⟨d1, d2, he1, he2, rfl⟩ := zip_get hd
      obtain ⟨x, hx, rx⟩ := ra.get he1
      obtain ⟨y, hy, ry⟩ := ra2.get he2
      refine ⟨⟨xs, ys, x, y, st_of (o'.ex _ _ hb), st_of (o'.ex _ _ hb2), hx, hy⟩, fun x' H'' z => ?_⟩
      obtain ⟨T, x1, y1, rfl, hT, rfl, z1, z2⟩ := z
      have := z1 xs (st_of (o'.ex _ _ hb))
      rw [hx] at this
      cases this
      have := z2 ys (st_of (o'.ex _ _ hb2))
      rw [hy] at this
      cases this
      exact pair_new o' hT (rx.mono o'.cut) (ry.mono o'.cut)
end

/-! ### targets -/
def TgOk (g : TG) (v : V) (σ σ2 : L2.St) (B : Hp) : Prop := ∀ F H, Off F B H → ∀ Q : L2.St → Hp → Prop, Q σ2 H → g v σ H Q
theorem tg_name {i : Nat} {v : V} {σ : L2.St} {B : Hp} : TgOk (gName i) v σ (σ.set i (some v)) B := fun _ _ _ _ q => q
theorem tg_pair {K : PySem.W.Frag} {i j : Nat} {v : V} {d e : D} {σ : L2.St} {B : Hp} (h : Rp B v (.tuple [d, e])) :
    ∃ x y, Rp B x d ∧ Rp B y e ∧ TgOk (gTup K 2 (gCons (gName i) (gCons (gName j) gNil))) v σ ((σ.set i (some x)).set j (some y)) B := by
  obtain ⟨a, xs, rfl, hb, r⟩ := h.tup_inv
  cases r with
  | cons r1 r2 =>
    cases r2 with
    | cons r3 r4 =>
      cases r4
      exact ⟨_, _, r1, r3, fun F H o Q q => ⟨a, _, rfl, st_of (o.ex _ _ hb), rfl, _, _, rfl, _, _, rfl, rfl, q⟩⟩

/-! ### comprehensions -/
theorem take_filter {α β : Type} {p : α → Bool} {f : α → β} {xs : List α} {i : Nat} (hi : i < xs.length) :
    ((xs.take (i + 1)).filter p).map f = ((xs.take i).filter p).map f ++ (if p xs[i] = true then [f xs[i]] else []) := by
  rw [List.take_succ_eq_append_getElem hi, List.filter_append, List.map_append]
  congr 1
  by_cases h : p xs[i] = true
  · rw [List.filter_cons, if_pos h, if_pos h]
    rfl
  · rw [List.filter_cons, if_neg h, if_neg h]
    rfl
section
variable {σ : L2.St} {B : Hp} {wi : TI} {g : TG} {tt : TT} {te : TE} {vs : List Nat}
theorem d_lcF {α : Type} (xs : List α) (ea : α → D) (p : α → Bool) (eb : α → D) (hz : xs.length ≤ 100000) (hi : EvI wi σ B (xs.map ea))
    (ht : ∀ a ∈ xs, ∀ v B', Ex B B' → Rp B' v (ea a) → ∃ σ2, TgOk g v (wipe σ vs) σ2 B' ∧ wipe σ2 vs = wipe σ vs ∧ EvB tt σ2 B' (p a) ∧ (p a = true → EvD te σ2 B' (eb a))) :
    EvD (tLc wi g tt te vs) σ B (.list ((xs.filter p).map eb)) := by
  intro F H0 o Q q
  refine hi F H0 o _ fun J H1 e1 ok Dl hD => ?_
  have o1 : Off F (cut F H1) H1 := o.next e1
  have hB1 : cut F H1 Dl = none := by
    cases z : cut F H1 Dl with
    | none => rfl
    | some u => rw [cut_ex _ _ z] at hD; cases hD
  have nF : ¬ F Dl := o1.free hD
  refine ⟨fun i m H => m = xs.length - i ∧ i ≤ xs.length ∧ Ex H1 H ∧ ∃ acc, H Dl = some (.lst acc) ∧ RpA (cut (fun b => F b ∨ b = Dl) H) acc (((xs.take i).filter p).map eb), ⟨_, rfl, Nat.zero_le _, Ex.new hD, [], upd_same, by simpa using RpA.nil⟩, ?_⟩
  rintro i m H ⟨rfl, hle, eH, acc, hacc, ra⟩
  have oH : Off (fun b => F b ∨ b = Dl) (cut F H1) H := (o1.go eH).add hB1 hacc
  by_cases hlt : i < xs.length
  · have hg := ok.go _ H i (ea xs[i]) oH (by rw [List.getElem?_map, List.getElem?_eq_getElem hlt]; rfl)
    refine .inr ⟨hg.1, fun H' => i + 1 ≤ xs.length ∧ Ex H1 H' ∧ ∃ acc, H' Dl = some (.lst acc) ∧ RpA (cut (fun b => F b ∨ b = Dl) H') acc (((xs.take (i + 1)).filter p).map eb), fun H' n => ⟨xs.length - (i + 1), by omega, rfl, n⟩, fun x H' y => ?_⟩
    obtain ⟨eH', rx⟩ := hg.2 x H' y
    have oH' := oH.next eH'
    obtain ⟨σ2, htg, hw, htt, hte⟩ := ht xs[i] (List.getElem_mem hlt) x _ (o1.go (eH.trans eH') |>.cut.trans (cut_mono (Ex.refl _)) |> fun _ => (o.cut.trans (cut_less (F := F) hD (eH.trans eH') |> fun z => (cut_mono e1).trans z))) rx
    refine htg _ H' oH' _ ⟨hw, htt _ H' oH' _ fun H2 e2 => ?_⟩
    have hacc2 : H2 Dl = some (.lst acc) := e2 _ _ (eH' _ _ hacc)
    have ex2 : Ex H1 H2 := (eH.trans eH').trans e2
    rw [take_filter hlt]
    cases hp : p xs[i] with
    | true =>
      refine hte hp _ H2 (oH'.go e2) _ fun v H3 e3 rv => ?_
      have hacc3 : H3 Dl = some (.lst acc) := e3 _ _ hacc2
      refine ⟨acc, hacc3, sz_lt ?_, hlt, Ex.mut (ex2.trans e3) hD, acc ++ [v], upd_same, ?_⟩
      · rw [ra.length, List.length_map]
        exact Nat.lt_of_le_of_lt (List.length_filter_le _ _) (Nat.lt_of_lt_of_le (by rw [List.length_take]; omega) hz)
      · rw [cut_upd (Or.inr rfl), if_pos rfl]
        exact (ra.mono (cut_mono ((eH'.trans e2).trans e3))).append (.one rv)
    | false =>
      refine ⟨hlt, ex2, acc, hacc2, ?_⟩
      rw [if_neg (by decide), List.append_nil]
      exact ra.mono (cut_mono (eH'.trans e2))
  · have hi' : i = xs.length := by omega
    subst hi'
    rw [List.take_length] at ra
    exact .inl ⟨ok.stop _ H _ oH (by rw [List.length_map]; exact Nat.le_refl _), q _ H (e1.trans eH) (.lst (cut_at nF hacc) (ra.mono cut_more))⟩
theorem d_lc {α : Type} (xs : List α) (ea : α → D) (eb : α → D) (hz : xs.length ≤ 100000) (hi : EvI wi σ B (xs.map ea))
    (ht : ∀ a ∈ xs, ∀ v B', Ex B B' → Rp B' v (ea a) → ∃ σ2, TgOk g v (wipe σ vs) σ2 B' ∧ wipe σ2 vs = wipe σ vs ∧ EvD te σ2 B' (eb a)) :
    EvD (tLc wi g tYes te vs) σ B (.list (xs.map eb)) := by
  have := d_lcF (tt := tYes) xs ea (fun _ => true) eb hz hi fun a ha v B' e r => by
    obtain ⟨σ2, h1, h2, h3⟩ := ht a ha v B' e r
    exact ⟨σ2, h1, h2, fun F H o Q q => q H (Ex.refl H), fun _ => h3⟩
  rw [List.filter_eq_self.mpr (fun _ _ => rfl)] at this
  exact this
/-- for -/
theorem s_for {α : Type} {F : Addr → Prop} {H : Hp} {tb : TS} {D' : Ends} (xs : List α) (ea : α → D) (hi : EvI wi σ B (xs.map ea)) (o : Off F B H) (Pv : Hp → Nat → L2.St → Hp → Prop)
    (h0 : ∀ H1, Ex H H1 → Pv (cut F H1) 0 σ H1) (hP : ∀ B1 i σ' H', Ex B B1 → Pv B1 i σ' H' → Off F B1 H')
    (hs : ∀ B1 i a v σ' H' H'', Ex B B1 → xs[i]? = some a → Pv B1 i σ' H' → Ex H' H'' → Rp (cut F H'') v (ea a) → g v σ' H'' fun σ2 H2 => tb { D' with nx := Pv B1 (i + 1), ct := Pv B1 (i + 1), bk := D'.nx } σ2 H2)
    (hd : ∀ B1 σ' H', Ex B B1 → Pv B1 xs.length σ' H' → D'.nx σ' H') : tFor wi g tb D' σ H := by
  refine hi F H o _ fun J H1 e1 ok => ?_
  have eB : Ex B (cut F H1) := o.cut.trans (cut_mono e1)
  refine ⟨fun i m σ' H' => m = xs.length - i ∧ i ≤ xs.length ∧ Pv (cut F H1) i σ' H', ⟨_, rfl, Nat.zero_le _, h0 H1 e1⟩, ?_⟩
  rintro i m σ' H' ⟨rfl, hle, pv⟩
  have oH := hP _ _ _ _ eB pv
  by_cases hlt : i < xs.length
  · have hg := ok.go _ H' i (ea xs[i]) oH (by rw [List.getElem?_map, List.getElem?_eq_getElem hlt]; rfl)
    refine .inr ⟨hg.1, Pv (cut F H1) (i + 1), fun σ2 H2 n => ⟨xs.length - (i + 1), by omega, rfl, hlt, n⟩, fun x H'' y => ?_⟩
    obtain ⟨eH', rx⟩ := hg.2 x H'' y
    exact hs _ i xs[i] x σ' H' H'' eB (List.getElem?_eq_getElem hlt) pv eH' rx
  · have hi' : i = xs.length := by omega
    subst hi'
    exact .inl ⟨ok.stop _ H' _ oH (by rw [List.length_map]; exact Nat.le_refl _), hd _ σ' H' eB pv⟩
end
end G
/-! G2: sum, min, sorted, enumerate of tuples. -/
namespace G
open PySem PySem.Spec PyProof.Rows L2 Evl
section
variable {prog : Program} {w : World} {A : Around} {E : Value → Shared → Prop} {s : Shared} {l : Addr} {its : List Value} {ns : List Int} {Q : Value → Shared → Prop}
theorem oldT {h' : Heap} (hk : ∀ b o, b ∉ [s.heap.objs.size] → (s.heap.push { cls := .type "tuple_iterator", data := .fields #[.ref l, .int 0 0] }).get? b = some o → h'.get? b = some o) :
    ∀ b o, s.heap.get? b = some o → h'.get? b = some o := fun b o e => by
  refine hk b o (fun hm => ?_) (Heap.get?_push_of_some _ e)
  rcases List.mem_cons.mp hm with e1 | hm
  · exact absurd (e1 ▸ Heap.lt_size e) (Nat.lt_irrefl _)
  · cases hm
theorem sumT_raw (hh : A.handled = none) (hl : IsTup s.heap l its.toArray) (hi : IntsAre its ns)
    (h : ∀ h' tk t', (∀ b o, s.heap.get? b = some o → h'.get? b = some o) → Q (.int ns.sum t') { s with heap := h', toks := tk }) : wpAny (model prog w) A (call (.builtin "sum") [.ref l]) Q E s := by
  obtain ⟨xs, e⟩ := hi.allInts.items
  have hn : numsOf (intItems xs).toList = ns := by rw [← e]; exact hi.numsOf
  rw [nums_intItems] at hn
  rw [e] at hl
  have hlt := hl.lt
  refine call_sum_walkG (wpAny_pyIter_tuple (show s.heap.IsTuple l (intItems xs) from hl) ?_)
  refine ⟨_, _, _, _, _, _, numAt xs, rfl, Walks.tuple (A := A.in1) hh s.heap.objs.size l (Nat.ne_of_lt hlt) (intItems xs), ⟨⟨_, Heap.get?_push_size _ rfl, rfl, rfl⟩, hl.push _⟩, fun b hb => ?_, (fun _ _ => intItems_at), fun h' tk t' hk => ?_⟩
  · show b < (s.heap.push _).objs.size
    rw [Heap.size_push]
    rcases List.mem_cons.mp hb with rfl | hb
    · exact Nat.lt_succ_self _
    · rcases List.mem_cons.mp hb with rfl | hb
      · exact Nat.lt_succ_of_lt hlt
      · cases hb
  · have := h h' tk t' (oldT hk)
    have e2 : preSum (numAt xs) (intItems xs).size = ns.sum := by
      rw [show (intItems xs).size = xs.size by simp [intItems], preSum_eq, List.take_of_length_le (by simp), hn]
    rw [e2]
    exact this
theorem minT_raw (hh : A.handled = none) (hl : IsTup s.heap l its.toArray) (hi : IntsAre its ns) (hne : 0 < ns.length)
    (h : ∀ h' tk M t', (∀ b o, s.heap.get? b = some o → h'.get? b = some o) → M ∈ ns → (∀ a, a ∈ ns → M ≤ a) → Q (.int M t') { s with heap := h', toks := tk }) : wpAny (model prog w) A (call (.builtin "min") [.ref l]) Q E s := by
  obtain ⟨xs, e⟩ := hi.allInts.items
  have hn : numsOf (intItems xs).toList = ns := by rw [← e]; exact hi.numsOf
  rw [nums_intItems] at hn
  subst hn
  rw [e] at hl
  have hsz : 0 < xs.size := by simpa using hne
  have hlt := hl.lt
  have hz : (intItems xs).size = xs.size := by simp [intItems]
  refine call_min_walk (wpAny_pyIter_tuple (show s.heap.IsTuple l (intItems xs) from hl) ?_)
  refine ⟨_, _, _, _, _, _, _, rfl, Walks.tuple (A := A.in1) hh s.heap.objs.size l (Nat.ne_of_lt hlt) (intItems xs), ⟨⟨_, Heap.get?_push_size _ rfl, rfl, rfl⟩, hl.push _⟩, fun b hb => ?_, by rw [hz]; exact hsz, CmpOf.ints_lt (numAt xs) (fun _ _ => intItems_at), fun v h' tk hP hk => ?_⟩
  · show b < (s.heap.push _).objs.size
    rw [Heap.size_push]
    rcases List.mem_cons.mp hb with rfl | hb
    · exact Nat.lt_succ_self _
    · rcases List.mem_cons.mp hb with rfl | hb
      · exact Nat.lt_succ_of_lt hlt
      · cases hb
  · rw [hz] at hP
    obtain ⟨t, rfl⟩ := intItems_at hP
    obtain ⟨h1, h2⟩ := argBest_lt (numAt xs) (xs.size - 1)
    refine h h' tk _ t (oldT hk) ?_ fun a ha => ?_
    · rw [numAt_eq]; exact PySem.getD_mem (by rw [List.length_map, Array.length_toList]; omega)
    · obtain ⟨j, hj, rfl⟩ := mem_getD ha
      rw [List.length_map, Array.length_toList] at hj
      rw [← numAt_eq]; exact h2 j (by omega)
theorem sortedT_raw (hl : IsTup s.heap l its.toArray) (hi : IntsAre its ns) (h64 : its.length < 64)
    (h : ∀ (h1 h' : Heap) (out : Array Value) (c : Nat) (ns' : List Int), (∀ b o, s.heap.get? b = some o → h1.get? b = some o) → (∀ b o, h1.get? b = some o → h'.get? b = some o) → h'.get? h1.objs.size = some (seqObj "list" out c) → IntsAre out.toList ns' → ns'.Perm ns → ns'.Pairwise (· ≤ ·) →
      Q (.ref h1.objs.size) { s with heap := h' }) : wpAny (model prog w) A (call (.builtin "sorted") [.ref l]) Q E s := by
  refine Calls.call_function_entry kind_sorted plain_sorted entry_sorted (args_sorted1 _) ?_
  unfold Builtin.«sorted»
  refine wpAny_bind (m := checkCount "sorted" 1 1 _) (wpAny_pure ?_)
  obtain ⟨o, ho, hc, n, hd⟩ := hl
  have hz : its.toArray.size ≤ sizeLine := by
    rw [List.size_toArray, sizeLine_eq]
    omega
  refine wpAny_bind (wpAny_collect_seq l (.inr rfl) ho hc hd (fun h1 k1 => ?_) hz)
  refine wpAny_bind (wpAny_newList ?_ (by rw [sizeLine_eq]; simp; omega))
  have hoL : (h1.push (seqObj "list" its.toArray 0)).get? h1.objs.size = some (seqObj "list" its.toArray 0) := Heap.get?_push_size _ rfl
  refine wpAny_bind (wpAny_holding (wpAny_call_entry slot_list_sort ⟨_, hoL, rfl⟩ entry_list_sort (list_sort_tree hoL hi h64 fun out ns' a1 a2 a3 => ⟨_, rfl, ?_⟩) (args_list_sort _)))
  obtain ⟨c, hc'⟩ := sortedHeap_at (vs := its) (out := out) hoL
  refine wpAny_pure ⟨_, rfl, h h1 _ out c ns' k1 (fun b u q => ?_) hc' a1 a2 a3⟩
  have hlt := Heap.lt_size q
  show (sortedHeap (h1.push (seqObj "list" its.toArray 0)) h1.objs.size its out).get? b = some u
  rw [sortedHeap_old (Nat.ne_of_lt hlt) (by rw [size_push']; exact Nat.lt_succ_of_lt hlt)]
  exact Heap.get?_push_of_some _ q
/-! enumerate of a tuple -/
theorem meets_enumerate_newB1 {v : Value} {o : Obj} {H : Heap → Prop} (B : Begins v o H) :
    Meets (Builtin.«enumerate.__new__» ⟨[.type "enumerate", v], []⟩) (fun _ R s => H s.heap ∧
      R (.ok (.ret (.ref (s.heap.push o).objs.size))) { s with heap := (s.heap.push o).push { cls := .type "enumerate", data := .fields #[.none, .bool false, .ref s.heap.objs.size, rawInt 0, .none, .none] } }) :=
  .of_wp fun prog w A R s h => by
    obtain ⟨hp, g, d, tk, os⟩ := s; obtain ⟨h1, h⟩ := h
    have hsub := sub_enumerate
    have q1 : ∀ {A' : Around} {E : Value → Shared → Prop} {Q : Value → Shared → Prop}, Q (.ref hp.objs.size) ⟨hp.push o, g, d, tk, os⟩ → wpAny (model prog w) A' (pyIter v) Q E ⟨hp, g, d, tk, os⟩ :=
      fun q => B.iter prog w _ _ ⟨hp, g, d, tk, os⟩ _ h1 q
    wp_walk using q1
    refine wpAny_stack_any fun st => wpAny_pure ?_
    split
    · rename_i c _ _ _ _ _
      cases (c == Value.type "enumerate")
      · wp_walk using q1
        exact ⟨_, rfl, h⟩
      · wp_walk using q1
        exact ⟨_, rfl, h⟩
    · wp_walk using q1
      exact ⟨_, rfl, h⟩
theorem enum_begins1 {v : Value} {o : Obj} {H : Heap → Prop} (B : Begins v o H) (h1 : H s.heap)
    (h : ∀ h', IsEnum h' (s.heap.objs.size + 1) s.heap.objs.size 0 .none → h'.get? s.heap.objs.size = some o → h'.objs.size = s.heap.objs.size + 2 →
      (∀ b o, s.heap.get? b = some o → h'.get? b = some o) → Q (.ref (s.heap.objs.size + 1)) { s with heap := h' }) :
    wpAny (model prog w) A (call (.type "enumerate") [v]) Q E s := by
  refine callType_new F.called_enumerate (by decide) (F.typeCall_enumerate_1 _) (F.newCall_enumerate_1 _) (fun obj => F.args_object_init_2 obj _) F.entry_enumerate_new
    (meets_enumerate_newB1 B) ⟨h1, ?_⟩
  have hz : (s.heap.push o).objs.size = s.heap.objs.size + 1 := Heap.size_push ..
  show _ ∧ _
  rw [hz]
  have he : IsEnum ((s.heap.push o).push { cls := .type "enumerate", data := .fields #[.none, .bool false, .ref s.heap.objs.size, rawInt 0, .none, .none] }) (s.heap.objs.size + 1) s.heap.objs.size 0 .none := by
    have := Heap.get?_push_size (s.heap.push o) (o := { cls := .type "enumerate", data := .fields #[.none, .bool false, .ref s.heap.objs.size, rawInt 0, .none, .none] }) rfl
    rw [hz] at this; exact this
  refine ⟨⟨_, he, rfl⟩, h _ he (Heap.get?_push_of_some _ (Heap.get?_push_size _ B.free)) (by rw [Heap.size_push, hz]) fun b o x => Heap.get?_push_of_some _ (Heap.get?_push_of_some _ x)⟩
end
end G
/-! G3: the rules of these over the layer. -/
namespace G
open PySem PySem.Spec PyProof.Rows L2 Evl
section
variable {X : Cx}
def rSumT (K : PySem.W.Frag) : List V → Hp → VK → Prop := fun vs H Q => ∃ (a : Addr) (ns : List Int), vs = [V.ref a] ∧ SqT K H a (ns.map V.int) ∧ Q (.int ns.sum) H
def rMinT (K : PySem.W.Frag) : List V → Hp → VK → Prop := fun vs H Q => ∃ (a : Addr) (ns : List Int), vs = [V.ref a] ∧ SqT K H a (ns.map V.int) ∧ 0 < ns.length ∧ ∀ m, m ∈ ns → (∀ y, y ∈ ns → m ≤ y) → Q (.int m) H
def rSortTI (K : PySem.W.Frag) : List V → Hp → VK → Prop := fun vs H Q => ∃ (a : Addr) (ns : List Int), vs = [V.ref a] ∧ SqT K H a (ns.map V.int) ∧ ns.length < 64 ∧
  ∀ (ns' : List Int) (p : Addr), ns'.Perm ns → ns'.Pairwise (· ≤ ·) → H p = none → Q (.ref p) (upd H p (.lst (ns'.map V.int)))
theorem cr_sumT (hc : X.calm = true) : CallR X (.builtin "sum") (rSumT X.K) := by
  intro pins s σ H vs us Q I r h
  obtain ⟨a, ns, rfl, hs, q⟩ := h
  obtain ⟨its, rv, hl, _⟩ := I.tuple hs
  rw [Vals.ref1 r]
  exact sumT_raw (I.ok.hd hc) hl rv.ints fun h' tk t' hk => ⟨.int _, H, I.kept hk, ⟨_, rfl⟩, q⟩
theorem cr_minT (hc : X.calm = true) : CallR X (.builtin "min") (rMinT X.K) := by
  intro pins s σ H vs us Q I r h
  obtain ⟨a, ns, rfl, hs, hne, q⟩ := h
  obtain ⟨its, rv, hl, _⟩ := I.tuple hs
  rw [Vals.ref1 r]
  exact minT_raw (I.ok.hd hc) hl rv.ints hne fun h' tk m t' hk h1 h2 => ⟨.int _, H, I.kept hk, ⟨_, rfl⟩, q m h1 h2⟩
theorem cr_sortTI : CallR X (.builtin "sorted") (rSortTI X.K) := by
  intro pins s σ H vs us Q I r h
  obtain ⟨a, ns, rfl, hs, h64, q⟩ := h
  obtain ⟨its, rv, hl, _⟩ := I.tuple hs
  rw [Vals.ref1 r]
  have hi := rv.ints
  refine sortedT_raw hl hi (by rw [hi.length]; exact h64) fun h1 h' out c ns' k1 k2 hp a1 a2 a3 => ?_
  have I1 : Inv X pins σ H { s with heap := h1 } := I.kept (t' := s.toks) k1
  have hlen : (ns'.map V.int).length ≤ sizeLine := by rw [List.length_map, a2.length_eq]; exact small64 h64
  exact ⟨.ref _, upd H h1.objs.size (.lst (ns'.map V.int)), I1.laid (t' := s.toks) k2 (Nat.le_refl _) ⟨hlen, out.toList, c, vals_of_ints a1, hp⟩, rfl, q ns' _ a2 a3 (I1.hok.fresh (Nat.le_refl _))⟩
/-- (a,) * k for k at most 1 -/
def rRepT1 (K : PySem.W.Frag) : R2 := fun x y H Q => ∃ l k xs, x = .ref l ∧ y = .int k ∧ SqT K H l xs ∧ xs ≠ [] ∧ -1000 ≤ k ∧ k ≤ 1 ∧ xs.length ≤ 1000 ∧ (k = 1 → Q (.ref l) H) ∧ (k ≤ 0 → ∀ p, H p = none → Q (.ref p) (upd H p (.tup [])))
end

/-! enumerate of a tuple -/
def IteT (K : PySem.W.Frag) (a : Addr) : It :=
  ⟨fun i H => ∃ (xs : List V) (x : V), SqT K H a xs ∧ xs[i]? = some x, fun i H v H' => ∃ T x, v = .ref T ∧ H T = none ∧ H' = upd H T (.tup [.int (i : Nat), x]) ∧ ∀ xs, SqT K H a xs → xs[i]? = some x, fun i H => ∃ xs : List V, SqT K H a xs ∧ xs.length ≤ i⟩
theorem turn_enumT {P : Program} {w : World} {K : PySem.W.Frag} {elts : List Expr} {kk : Nat} {tpos : Pos} (a e it : Addr) :
    Turn P w K (.Tuple elts kk tpos) (IteT K a) [e, it] e (fun i h => (∃ old, IsEnum h e it ((i : Nat) : Int) old) ∧ h.IsTupleIter it a i ∧ e ≠ it ∧ a ≠ it ∧ a ≠ e) where
  mem := by simp
  obj := fun i h st b hb => by
    obtain ⟨⟨old, he⟩, ⟨o, ho, hc, hd⟩, _⟩ := st
    have e' : b = e ∨ b = it := by simpa using hb
    rcases e' with z | z
    · rw [z]; exact ⟨_, he, fun v q => nomatch q⟩
    · rw [z]; exact ⟨o, ho, fun v q => by rw [hd] at q; cases q⟩
  keep := fun i h h' st k => let ⟨⟨old, he⟩, hi, hne⟩ := st; ⟨⟨old, k e (by simp) _ he⟩, hi.at fun o q => k it (by simp) o q, hne⟩
  item := by
    intro X hP hw hK hc i pins s σ H E I hf st hg
    subst hP hw hK
    obtain ⟨⟨old, he⟩, hit, hne, hai, hae⟩ := st
    obtain ⟨xs, x, hq, hx⟩ := hg
    obtain ⟨its, rv, p, hz⟩ := I.tuple hq
    obtain ⟨u, hu, ru⟩ := rv.get hx
    have hel : e < s.heap.objs.size := Heap.lt_size he
    have hil : it < s.heap.objs.size := by obtain ⟨_, q, _⟩ := hit; exact Heap.lt_size q
    have hlt : i < its.toArray.size := by
      have := (List.getElem?_eq_some_iff.mp hu).1
      simpa using this
    have D := Draws.tuple (prog := X.prog) (w := X.w) (A := X.A.in1) (I.ok.hd hc) it a hai its.toArray
    refine wpAny_pyNext_enum_itemD D he ⟨hit, (show s.heap.IsTuple a its.toArray from p)⟩ hlt hne (by simp; exact ⟨hne, fun z => hae z.symm⟩) fun x' h' tk hPx ho hst' hT hsz hk => ?_
    have ex : x' = u := by
      have q : its.toArray[i]? = some x' := hPx
      rw [show its.toArray[i]? = some u by simpa using hu] at q
      exact (Option.some.inj q).symm
    subst ex
    refine ⟨_, rfl, wpAny_letOwnedTupleGo_enum (s := { s with heap := h', toks := tk + 1 }) ho fun h'' he' sb => ?_⟩
    have hT2 : h''.get? s.heap.objs.size = some { cls := .type "tuple", data := .seq #[.int i tk, x'] } := (sb.2 _ (Nat.ne_of_gt hel)).trans hT
    have new : ObjOk X.prog X.w (upd H s.heap.objs.size (.tup [.int (i : Nat), x])) h'' s.heap.objs.size (.tup [.int (i : Nat), x]) :=
      ⟨by show 2 ≤ sizeLine; decide, [.int i tk, x'], .cons ⟨_, rfl⟩ (.cons ru .nil), ⟨_, hT2, rfl, _, rfl⟩⟩
    have I1 : Inv X pins σ (upd H s.heap.objs.size (.tup [.int (i : Nat), x])) { s with heap := h'', toks := tk + 1 } :=
      I.turnedNew (ch := [e, it]) (fun b ob hb q => (sb.2 b (fun z => hb (by simp [z]))).trans (hk b ob (fun z => hb (by simp [z])) (fun z => hb (by simp [z])) q)) hf (Nat.le_refl _) new
    refine ⟨.ref s.heap.objs.size, _, I1, rfl, ⟨_, x, rfl, I.hok.fresh (Nat.le_refl _), rfl, fun ys hy => by rw [I.tuple_inj hy hq]; exact hx⟩, ⟨⟨x', ?_⟩, hst'.1.at fun o q => (sb.2 it (Ne.symm hne)).trans q, hne, hai, hae⟩, fun b hb => ?_⟩
    · have e1 : ((i + 1 : Nat) : Int) = (i : Int) + 1 := by omega
      rw [e1]; exact he'
    · have hb' : b < s.heap.objs.size := by
        have e' : b = e ∨ b = it := by simpa using hb
        rcases e' with z | z
        · rw [z]; exact hel
        · rw [z]; exact hil
      rw [upd_ne (Nat.ne_of_lt hb')]
      exact (hf b hb).1
  done := by
    intro X hP hw hK hc i pins s σ H E I hf st hg
    subst hP hw hK
    obtain ⟨⟨old, he⟩, hit, hne, hai, hae⟩ := st
    obtain ⟨xs, hq, hx⟩ := hg
    obtain ⟨its, rv, p, hz⟩ := I.tuple hq
    obtain ⟨f0, f1, f2, f3, f4, f5⟩ := hf it (by simp)
    have hl := rv.length
    have D := Draws.tuple (prog := X.prog) (w := X.w) (A := X.A.in1) (I.ok.hd hc) it a hai its.toArray
    have hT : s.TypeIs (.ref e) "enumerate" := ⟨_, he, rfl⟩
    unfold pyNext
    refine wpAny_bind (wpAny_attempt (wpAny_callSpecial?_slot (name := Str.ofString "__next__") hT F.slot_enumerate_next
      (wpAny_call_entry F.slot_enumerate_next hT F.entry_enumerate_next ?_ (F.args_enumerate_next_1 _))))
    show wpAny _ _ (field (.ref e) 2 >>= _) _ _ _
    refine wpAny_bind (wpAny_field he rfl (x := .ref it) rfl ?_)
    refine wpAny_bind (wpAny_nextOf_tuple_end (I.ok.hd hc) hit (show s.heap.IsTuple a its.toArray from p) (by simp; omega) fun h' x he' hx' => ?_)
    obtain ⟨o, ho, hc'⟩ := hx'
    refine wpAny_bind (wpAny_isInstance (T := "StopIteration") (b := true) ⟨o, ho, hc'⟩ isSubtype_stop ?_)
    exact wpAny_pure ⟨rfl, I.turned (t' := s.toks) (fun b o hb q => he' b o hb q) f0 f1 f3 f4 f5⟩
  self := fun A i s Q E st h => let ⟨⟨_, he⟩, _⟩ := st; wpAny_pyIter_enum he h
def iEnumT (K : PySem.W.Frag) (ta : TA) : TI := fun σ H R => ta σ H fun vs H1 => ∃ a xs, vs = [.ref a] ∧ SqT K H1 a xs ∧ R (IteT K a) H1
theorem pi_enumT {X : Cx} {e : Expr} {ta : TA} {p pos tpos : Pos} {elts : List Expr} {kk : Nat} (hg : Gl X "enumerate") (hm : X.mg "enumerate" = none) (ha : PA X [e] ta) (hs : starEach [e] X.env = [(false, eval e X.env)] := by rfl) :
    PI X (.Tuple elts kk tpos) (.Call (.Name "enumerate" p) [e] [] pos) (iEnumT X.K ta) := by
  refine ⟨fun pins s σ H R I h => ?_⟩
  refine Call_ (ld_blt I hg hm boot_enumerate (PyProof.Rows.callWith_type1 (thn (ha.run pos pins s σ H _ I h) fun us s1 ⟨vs, H1, I1, r1, q1⟩ => ?_) hs rfl))
  obtain ⟨a, xs, ex, hq, q⟩ := q1
  subst ex
  cases r1 with
  | cons r rr =>
    cases rr
    cases r
    obtain ⟨its, rv, p', hz⟩ := I1.tuple hq
    have hlt := p'.lt
    refine enum_begins1 (begins_tuple a its.toArray) (show s1.heap.IsTuple a its.toArray from p') fun h' he hit hsz hk => wpAny_pyIter_enum he ?_
    have I2 : Inv X pins σ H1 { s1 with heap := h' } := I1.kept (t' := s1.toks) hk
    refine ⟨s1.heap.objs.size + 1, [s1.heap.objs.size + 1, s1.heap.objs.size], _, _, H1, rfl, I2, turn_enumT a (s1.heap.objs.size + 1) s1.heap.objs.size, ⟨⟨.none, he⟩, ⟨_, hit, rfl, rfl⟩, Nat.succ_ne_self _, Nat.ne_of_lt hlt, Nat.ne_of_lt (Nat.lt_succ_of_lt hlt)⟩, fun b hb => ?_, q⟩
    have e' : b = s1.heap.objs.size + 1 ∨ b = s1.heap.objs.size := by simpa using hb
    have hle : s1.heap.objs.size ≤ b := by
      rcases e' with z | z
      · rw [z]; exact Nat.le_add_right _ _
      · rw [z]; exact Nat.le_refl _
    exact I1.fpOk hle (I1.hok.fresh hle)
section
variable {K : PySem.W.Frag} {σ : L2.St} {B : Hp} {ta : TA} {ds : List D}
theorem i_enumT (h : EvDs ta σ B [.tuple ds]) : EvI (iEnumT K ta) σ B (ds.zipIdx.map fun p => PyData.tuple [.int (p.2 : Nat), p.1]) := fun F H o R q => h F H o _ fun vs H1 e1 r1 => by
  cases r1 with
  | cons r r' =>
    cases r'
    obtain ⟨a, xs, rfl, hb, ra⟩ := r.tup_inv
    refine ⟨a, xs, rfl, st_of (cut_ex _ _ hb), q _ H1 e1 ⟨fun F' H' i d o' hd => ?_, fun F' H' i o' hi => ⟨xs, st_of (o'.ex _ _ hb), by rw [ra.length]; simpa using hi⟩⟩⟩
    rw [List.getElem?_map, List.getElem?_zipIdx] at hd
    cases he : ds[i]? with
    | none => rw [he] at hd; cases hd
    | some d0 =>
      rw [he] at hd
      cases hd
      obtain ⟨x, hx, rx⟩ := ra.get he
      refine ⟨⟨xs, x, st_of (o'.ex _ _ hb), hx⟩, fun x' H'' y => ?_⟩
      obtain ⟨T, x1, rfl, hT, rfl, hy⟩ := y
      have := hy xs (st_of (o'.ex _ _ hb))
      rw [hx] at this
      cases this
      have z := pair_new o' hT (.int (i : Nat)) (rx.mono o'.cut)
      simpa using z
end
end G
/-! G4: dicts with tuple keys: comprehensions, items(), pop. -/
namespace G
open PySem PySem.Spec PyProof.Rows L2 Evl
/-- d[k] = v by a comprehension, the key a tuple -/
theorem d_dictSetT {X : Cx} {pins : List (Addr × Obj)} {σ : L2.St} {H : Hp} {s : Shared} {E : Value → Shared → Prop} {D b : Addr} {kvs : List (List Key × V)} {k : List Key} {v : V} {r : Value} {Q : Unit → Shared → Prop} (hu : X.A.units + 1 < cLine) (I : Inv X pins σ H s) (hD : H D = some (.dT kvs)) (hb : H b = some (.tup (k.map kV))) (hz : kvs.length < sizeLine)
    (rv : RelV v r) (h : ∀ s', Inv X pins σ (upd H D (.dT (putK kvs k v))) s' → Q () s') : wpAny (model X.prog X.w) X.A (dictSet D (.ref b) r) Q E s := by
  obtain ⟨z, hd, xs, rel, dd⟩ := dt_of I.hok hD
  have hz2 : xs.length ≤ sizeLine := by rw [← Paired.length rel]; exact z
  have hl : (putK kvs k v).length ≤ sizeLine := by have := length_putK kvs k v; omega
  refine wpAny_dictSet_heap (hsz := hz2) (show X.A.units < cLine by omega) (key_of I.hok hb) dd fun h' dd' hs => h _ ?_
  obtain ⟨q, es, ep, hq, h2, h3, h4, _, h5⟩ := dd'
  refine d_write I (by rw [hD]; exact True.intro) hs ⟨q, hq⟩ ⟨hl, hd, _, (rel.put k hb rv).keeps fun c ys ec => ?_, q, es, ep, hq, h2, h3, h4, h5⟩
  rw [upd_ne (ne_of ec hD (fun z => nomatch z))]
  exact ec
section
variable {X : Cx}
/-- {k: v for target in iter if ..}, keys tuples: D the new dict -/
def tDcT (wi : TI) (g : TG) (tt : TT) (tk tv : TE) (vs : List Nat) : TE := fun σ H Q => wi σ H fun J H1 => ∀ D, H1 D = none → ∃ W : Nat → Nat → Hp → Prop, (∃ m, W 0 m (upd H1 D (.dT []))) ∧ ∀ i m H, W i m H →
  (J.stop i H ∧ Q (.ref D) H) ∨ (J.go i H ∧ ∃ Nx : Hp → Prop, (∀ H', Nx H' → ∃ m', m' < m ∧ W (i + 1) m' H') ∧ ∀ x H', J.yld i H x H' → g x (wipe σ vs) H' fun σ2 H2 => wipe σ2 vs = wipe σ vs ∧ tt σ2 H2 fun b H3 =>
    if b = true then tk σ2 H3 fun y H4 => tv σ2 H4 fun z H5 => ∃ kvs k b, y = .ref b ∧ H5 b = some (.tup (k.map kV)) ∧ H5 D = some (.dT kvs) ∧ kvs.length < sizeLine ∧ Nx (upd H5 D (.dT (putK kvs k z))) else Nx H3)
theorem dcT_core {pins : List (Addr × Obj)} {s : Shared} {σ : L2.St} {H : Hp} {Q : VK} {kx vx tg iter : Expr} {ifs : List Expr} {scope : Scope} {own : List (Str × Nat)} {pos pos' : Pos} {wi : TI} {g : TG} {tt : TT} {tk tv : TE} {use : Option (Value → Sem Unit)} {Qf : Value → Shared → Prop}
    (hu : X.A.units + 1 < cLine) (hc : X.calm = true) (hN : X.N.Nodup) (I : Inv X pins σ H s) (hi : PI X tg iter wi) (ok : BlkOk X.N X.env.scope scope own)
    (hg : ∀ (s : Shared) (H : Hp) (C : Addr) (cl : List (Str × Addr)) (fp : List Addr), PG (X.blk s H scope (compEnvC scope cl C X.env) fp) tg g) (ht : ∀ (s : Shared) (H : Hp) (C : Addr) (cl : List (Str × Addr)) (fp : List Addr), PTs (X.blk s H scope (compEnvC scope cl C X.env) fp) ifs tt)
    (hk : ∀ (s : Shared) (H : Hp) (C : Addr) (cl : List (Str × Addr)) (fp : List Addr), PE (X.blk s H scope (compEnvC scope cl C X.env) fp) kx tk)
    (he : ∀ (s : Shared) (H : Hp) (C : Addr) (cl : List (Str × Addr)) (fp : List Addr), PE (X.blk s H scope (compEnvC scope cl C X.env) fp) vx tv) (hs : ∀ x, foldedSetIterable iter X.env x = pure x)
    (h : tDcT wi g tt tk tv (own.map (·.2)) σ H Q)
    (hRR : ∀ D C s' m H', Inv X pins σ H' s' → Q (.ref D) H' → s'.heap.Ns C m → FpOk X pins H' C → compPost (model X.prog X.w) X.A X.xe use Qf (.ref D) C (.ok .next) s') :
    wpAny (model X.prog X.w) X.A (comprehension (.DictComp kx vx [⟨tg, iter, ifs, 0⟩] scope pos) scope X.env pos' newDict false (eval iter X.env) use) Qf X.xe s := by
  have hfree : ∀ y ∈ scope.names, y.2 = .free → ∃ c, X.env.cells.lookup y.1 = some c := fun y hy e => by
    rcases ok.free y hy e with k | k
    · exact I.ok.has _ (.inl k)
    · exact I.ok.has _ (.inr k)
  refine wpAny_comprehension_free (use := use) rfl hs (closure_ok hfree) ok.kind (fun y hy e => by rw [ok.uniq y hy, e])
    (thn (hi.run pins s σ H _ I h) fun xv s1 hx => thn hx fun itv s2 h2 => ?_)
  obtain ⟨it, fp, tn, J, H2, e, I2, T, st2, f2, q⟩ := h2
  subst e
  refine wpAny_newObj_type (newEnv_comp ?_)
  generalize hD : s2.heap.objs.size = D
  have hDn : H2 D = none := I2.hok.fresh (Nat.le_of_eq hD)
  obtain ⟨W, ⟨m0, w0⟩, turn⟩ := q D hDn
  -- the new list
  generalize hs3 : ({ s2 with heap := s2.heap.push { cls := .type "dict", data := .dict #[] } } : Shared) = s3
  have I3 : Inv X pins σ (upd H2 D (.dT [])) s3 := by
    rw [← hs3]
    refine I2.laid (t' := s2.toks) (fun b o e => Heap.get?_push_of_some _ e) (Nat.le_of_eq hD) ?_
    rw [← hD]
    exact dt_empty s2.heap I2.big
  have h3 : s3.heap = s2.heap.push { cls := .type "dict", data := .dict #[] } := by rw [← hs3]
  have sz : ∀ b ∈ fp, b < s2.heap.objs.size := fun b hb => by
    obtain ⟨o, e, _⟩ := T.obj _ _ st2 b hb
    exact Heap.lt_size e
  have f3 : ∀ b ∈ fp, FpOk X pins (upd H2 D (.dT [])) b ∧ b < s3.heap.objs.size := fun b hb => by
    have hlt := sz b hb
    refine ⟨⟨?_, (f2 b hb).2⟩, by rw [h3, Heap.size_push]; exact Nat.lt_succ_of_lt hlt⟩
    rw [upd_ne (by rw [← hD]; exact Nat.ne_of_lt hlt)]
    exact (f2 b hb).1
  have st3 : tn 0 s3.heap := T.keep _ _ _ st2 fun b _ o e => by rw [h3]; exact Heap.get?_push_of_some _ e
  have I4 := block_start I3 ok hN f3
  have pg := hg s3 (upd H2 D (.dT [])) s3.heap.objs.size (cellsFrom (s3.heap.objs.size + 1) scope.names (cloFrom X.env.cells scope.names [])) fp
  have pt := ht s3 (upd H2 D (.dT [])) s3.heap.objs.size (cellsFrom (s3.heap.objs.size + 1) scope.names (cloFrom X.env.cells scope.names [])) fp
  have pk := hk s3 (upd H2 D (.dT [])) s3.heap.objs.size (cellsFrom (s3.heap.objs.size + 1) scope.names (cloFrom X.env.cells scope.names [])) fp
  have pe := he s3 (upd H2 D (.dT [])) s3.heap.objs.size (cellsFrom (s3.heap.objs.size + 1) scope.names (cloFrom X.env.cells scope.names [])) fp
  show codeAny _ _ (.compStart (.DictComp kx vx [⟨tg, iter, ifs, 0⟩] scope pos) 0 (.ref it) (.ref D) (compEnvC scope (cellsFrom (s3.heap.objs.size + 1) scope.names (cloFrom X.env.cells scope.names [])) s3.heap.objs.size X.env)) (compPost (model X.prog X.w) X.A X.xe use Qf (.ref D) s3.heap.objs.size) { s3 with heap := pushCells (s3.heap.push { cls := .type "dict", data := .dict #[] }) scope.names }
  have nfp : ∀ b ∈ fp, (upd H2 D (.dT [])) b = none := fun b hb => (f3 b hb).1.1
  generalize hce : compEnvC scope (cellsFrom (s3.heap.objs.size + 1) scope.names (cloFrom X.env.cells scope.names [])) s3.heap.objs.size X.env = ce at I4 pg pt pk pe ⊢
  have cL : ce.locals = s3.heap.objs.size := by subst hce; rfl
  generalize hH3 : upd H2 D (.dT []) = H3 at I3 I4 pg pt pk pe w0 nfp f3
  generalize hs4 : ({ s3 with heap := pushCells (s3.heap.push { cls := .type "dict", data := .dict #[] }) scope.names } : Shared) = s4 at I4 ⊢
  have st4 : tn 0 s4.heap := T.keep _ _ _ st3 fun b _ o e => by rw [← hs4]; exact pushCells_keeps _ _ _ _ (Heap.get?_push_of_some _ e)
  have stat : ∀ {σ' : L2.St} {H' : Hp} {s' : Shared}, Inv (X.blk s3 H3 scope ce fp) [] σ' H' s' → (∀ b ∈ fp, H' b = none) → ∀ b ∈ fp, FpOk (X.blk s3 H3 scope ce fp) [] H' b := fun {σ' H' s'} I' hn b hb =>
    ⟨hn b hb, (I'.ok.exf b hb).1, I'.ok.exfs b hb, .inl hb, fun x c e => (I'.ok.exf b hb).2 x c e, fun p hp => absurd (show p ∈ ([] : List (Addr × Obj)) ++ [] from hp) (by simp)⟩
  have loop : codeAny (model X.prog X.w) X.A (.compLoop (.DictComp kx vx [⟨tg, iter, ifs, 0⟩] scope pos) 0 (.ref it) (.ref D) ce) (compPost (model X.prog X.w) X.A X.xe use Qf (.ref D) s3.heap.objs.size) s4 := by
    refine compLoop_anyD (fun n s' => ∃ i H', Inv (X.blk s3 H3 scope ce fp) [] (wipe σ (own.map (·.2))) H' s' ∧ tn i s'.heap ∧ (∀ b ∈ fp, H' b = none) ∧ W i n H') ?_ m0 ⟨0, H3, I4, st4, nfp, w0⟩
    rintro n s5 ⟨i, H5, I5, st5, n5, w5⟩
    rcases turn i n H5 w5 with ⟨stop, qq⟩ | ⟨go, Nx, hNx, step⟩
    · have td := T.done (X.blk s3 H3 scope ce fp) rfl rfl rfl hc i [] s5 _ H5 (fun _ _ => False) I5 (stat I5 n5) st5 stop
      refine thnF td fun r s6 ⟨hr, I6⟩ => ?_
      subst hr
      -- back in the def's context
      have I7 : Inv X pins σ H5 s6 := I3.call' (ch := fp) I6.os I6.base I6.hok I6.bare fun b hb => ⟨(f3 b hb).1.2.2.2.1, (f3 b hb).1.2.1, (f3 b hb).1.2.2.2.2.1, (f3 b hb).1.2.2.2.2.2⟩
      have nC : H5 s3.heap.objs.size = none := by
        have z : H5 ce.locals = none := I6.free
        rw [cL] at z
        exact z
      obtain ⟨m, hn, _⟩ := I6.loc
      have hn : s6.heap.Ns ce.locals m := hn
      rw [cL] at hn
      exact hRR D s3.heap.objs.size s6 m H5 I7 qq hn (I3.fpOk (Nat.le_refl _) nC)
    · have ti := T.item (X.blk s3 H3 scope ce fp) rfl rfl rfl hc i [] s5 _ H5 (fun _ _ => False) I5 (stat I5 n5) st5 go
      refine thnF ti fun r s6 ⟨u, hr, h6⟩ => ?_
      subst hr
      refine thnF h6 fun _ s7 ⟨x, H7, I7, r7, y7, st7, n7⟩ => ?_
      have I7' := I7.pinned (stat I7 n7) (T.obj _ _ st7)
      refine thnF (pg.run _ s7 _ H7 x u _ I7' r7 (step x H7 y7)) fun _ s8 ⟨σ8, H8, I8, hw8, q8⟩ => ?_
      refine thnF (pt.run _ s8 σ8 H8 _ I8 q8) fun b s9 ⟨H9, I9, q9⟩ => ?_
      -- the turn's end
      have fin : ∀ {s' : Shared} {H' : Hp}, Inv (X.blk s3 H3 scope ce fp) ([] ++ pinsAt fp s7.heap) σ8 H' s' → Nx H' → ∃ m, m < n ∧ ∃ i H', Inv (X.blk s3 H3 scope ce fp) [] (wipe σ (own.map (·.2))) H' s' ∧ tn i s'.heap ∧ (∀ b ∈ fp, H' b = none) ∧ W i m H' := fun {s' H'} I' nx => by
        obtain ⟨m', hm, w'⟩ := hNx H' nx
        have pin' : ∀ b ∈ fp, ∀ o, s7.heap.get? b = some o → s'.heap.get? b = some o ∧ H' b = none := fun b hb o e =>
          let z := I'.pin (b, o) (List.mem_append_right _ (List.mem_append_right _ (mem_pinsAt hb e)))
          ⟨z.1, z.2.1⟩
        have hl : (wipe σ (own.map (·.2))).length = σ8.length := by rw [← hw8, wipe_length]
        refine ⟨m', hm, i + 1, H', (I'.unpinned (pins := [])).weak hl (fun j v e => ?_), T.keep _ _ _ st7 fun b hb o e => (pin' b hb o e).1, fun b hb => ?_, w'⟩
        · rw [← hw8] at e
          exact (wipe_some e).1
        · obtain ⟨o, e, _⟩ := T.obj _ _ st7 b hb
          exact (pin' b hb o e).2
      cases b with
      | false =>
        simp only [Bool.false_eq_true, if_false] at q9 ⊢
        exact fin I9 q9
      | true =>
        simp only [if_true] at q9 ⊢
        refine thnF (pk.run _ s9 σ8 H9 _ I9 q9) fun z s10 ⟨yk, H10, I10, r10, q10⟩ => ?_
        refine thnF (pe.run _ s10 σ8 H10 _ I10 q10) fun z2 s11 ⟨yv, H11, I11, r11, kvs, k, b, ek, hb11, hD11, hz11, nx⟩ => ?_
        subst ek
        cases r10
        exact d_dictSetT (X := X.blk s3 H3 scope ce fp) hu I11 hD11 hb11 hz11 r11 fun s12 I12 => fin I12 nx
  exact codeAny_compStart_dict loop (T.self X.A 0 _ _ _ st4 loop)
/-- as a value -/
theorem pe_dcT {kx vx tg iter : Expr} {ifs : List Expr} {scope : Scope} {own : List (Str × Nat)} {pos : Pos} {wi : TI} {g : TG} {tt : TT} {tk tv : TE} (hu : X.A.units + 1 < cLine) (hc : X.calm = true) (hN : X.N.Nodup) (hi : PI X tg iter wi) (ok : BlkOk X.N X.env.scope scope own)
    (hg : ∀ (s : Shared) (H : Hp) (C : Addr) (cl : List (Str × Addr)) (fp : List Addr), PG (X.blk s H scope (compEnvC scope cl C X.env) fp) tg g) (ht : ∀ (s : Shared) (H : Hp) (C : Addr) (cl : List (Str × Addr)) (fp : List Addr), PTs (X.blk s H scope (compEnvC scope cl C X.env) fp) ifs tt)
    (hk : ∀ (s : Shared) (H : Hp) (C : Addr) (cl : List (Str × Addr)) (fp : List Addr), PE (X.blk s H scope (compEnvC scope cl C X.env) fp) kx tk)
    (he : ∀ (s : Shared) (H : Hp) (C : Addr) (cl : List (Str × Addr)) (fp : List Addr), PE (X.blk s H scope (compEnvC scope cl C X.env) fp) vx tv) (hs : ∀ x, foldedSetIterable iter X.env x = pure x := by intro _; rfl) :
    PE X (.DictComp kx vx [⟨tg, iter, ifs, 0⟩] scope pos) (tDcT wi g tt tk tv (own.map (·.2))) := by
  refine ⟨fun pins s σ H Q I h => ?_⟩
  rw [arm_eval_DictComp]
  refine dcT_core hu hc hN I hi ok hg ht hk he hs h fun D C s' m H' I' q hn f => ⟨m, hn, fun h'' sb => ?_⟩
  obtain ⟨f0, f1, f2, f3, f4, f5⟩ := f
  exact ⟨.ref D, H', I'.turned (t' := s'.toks) (fun b o hb e => (sb.2 b hb).trans e) f0 f1 f3 f4 f5, rfl, q⟩
end
end G
/-! G5: d.items() walked, d.pop(k), keys tuples; a tuple times 0 or 1. -/
namespace G
open PySem PySem.Spec PyProof.Rows L2 Evl
section
variable {X : Cx} {pins : List (Addr × Obj)} {σ : L2.St} {H : Hp} {s : Shared} {d : Addr} {o : Obj}
/-- a locked dict with tuple keys: its entries -/
theorem frzT2 {kvs : List (List Key × V)} (I : Inv X pins σ H s) (h : H d = some (.frz o (.dT kvs))) :
    (d == sysModules) = false ∧ s.heap.get? d = some o ∧ o.ExactDict ∧ ∃ (es : Array DictEntry) (ep : Nat), o.data = .dict es ep ∧ es.size = kvs.length ∧
      ∀ (i : Nat) (k : List Key) (v : V), kvs[i]? = some (k, v) → ∃ (en : DictEntry) (q : Addr), es[i]? = some en ∧ en.key = .ref q ∧ H q = some (.tup (k.map kV)) ∧ RelV v en.val := by
  obtain ⟨hd, z, hs, xs, pr, o', es, ep, ho, hx, hdt, he, _⟩ := I.hok d _ h
  rw [hd] at ho
  cases ho
  refine ⟨hs, hd, hx, es, ep, hdt, ?_, fun i k v e => ?_⟩
  · have l1 : es.size = xs.length := size_of_entries he
    have l2 : kvs.length = xs.length := Paired.length pr
    omega
  · obtain ⟨b, hb, e1, e2, e3⟩ := paired_get pr e
    have q := entry_at he i
    rw [hb] at q
    exact ⟨_, b.2.1, q, rfl, e2, e3⟩
end
def ItiT (d : Addr) (o : Obj) (kvs : List (List Key × V)) : It :=
  ⟨fun i H => H d = some (.frz o (.dT kvs)) ∧ i < kvs.length, fun i H x H' => ∃ T k v q, kvs[i]? = some (k, v) ∧ x = .ref T ∧ H T = none ∧ H q = some (.tup (k.map kV)) ∧ H' = upd H T (.tup [.ref q, v]), fun i H => H d = some (.frz o (.dT kvs)) ∧ kvs.length ≤ i⟩
section
variable {P : Program} {w : World} {K : PySem.W.Frag} {d : Addr} {o : Obj} {es : Array DictEntry} {ep : Nat}
theorem turn_itemsT {kvs : List (List Key × V)} {elts : List Expr} {kk : Nat} {tpos : Pos} (it : Addr) (hod : o.data = .dict es ep) :
    Turn P w K (.Tuple elts kk tpos) (ItiT d o kvs) [it] it (fun i h => ∃ ok ov, IsItemIter h it d i kvs.length ep ok ov) where
  mem := by simp
  obj := fun i h st b hb => by
    have e : b = it := by simpa using hb
    subst e
    obtain ⟨ok, ov, e⟩ := st
    exact ⟨_, e, fun v z => nomatch z⟩
  keep := fun i h h' st k => let ⟨ok, ov, e⟩ := st; ⟨ok, ov, k it (by simp) _ e⟩
  item := by
    intro X hP hw hK hc i pins s σ H E I hf st hg
    subst hP hw hK
    obtain ⟨hd, hi⟩ := hg
    obtain ⟨hs, hgd, hx, es', ep', hdt, hsz, ent⟩ := frzT2 I hd
    obtain ⟨rfl, rfl⟩ := dict_ep hod hdt
    obtain ⟨⟨k, v⟩, hkv⟩ : ∃ p, kvs[i]? = some p := ⟨kvs[i], List.getElem?_eq_getElem hi⟩
    obtain ⟨en, q, hen, hkey, hq, hval⟩ := ent i k v hkv
    obtain ⟨ok, ov, he⟩ := st
    rw [← hsz] at he
    have hlt : it < s.heap.objs.size := Heap.lt_size he
    have hi' : i < es'.size := by rw [hsz]; exact hi
    have een : es'[i] = en := by
      rw [Array.getElem?_eq_getElem hi'] at hen
      exact Option.some.inj hen
    refine DT.nextI he ⟨o, hgd, hx, hdt⟩ hi' fun h' ho hT hz hk => ?_
    rw [een] at ho hT
    refine ⟨_, rfl, wpAny_letOwnedTupleGo_items (s := { s with heap := h' }) ho fun h'' he' sb => ?_⟩
    have hT2 : h''.get? s.heap.objs.size = some { cls := .type "tuple", data := .seq #[en.key, en.val] } := (sb.2 _ (Nat.ne_of_gt hlt)).trans hT
    have new : ObjOk X.prog X.w (upd H s.heap.objs.size (.tup [.ref q, v])) h'' s.heap.objs.size (.tup [.ref q, v]) :=
      ⟨by show 2 ≤ sizeLine; decide, [en.key, en.val], .cons hkey (.cons hval .nil), ⟨_, hT2, rfl, _, rfl⟩⟩
    have I1 : Inv X pins σ (upd H s.heap.objs.size (.tup [.ref q, v])) { s with heap := h'' } :=
      I.turnedNew (t' := s.toks) (ch := [it]) (fun b ob hb e => (sb.2 b (by simpa using hb)).trans (hk b ob (by simpa using hb) e)) hf (Nat.le_refl _) new
    refine ⟨.ref s.heap.objs.size, _, I1, rfl, ⟨_, k, v, q, hkv, rfl, I.hok.fresh (Nat.le_refl _), hq, rfl⟩, ⟨en.key, en.val, ?_⟩, fun b hb => ?_⟩
    · rw [← hsz]; exact he'
    · have e : b = it := by simpa using hb
      rw [e, upd_ne (Nat.ne_of_lt hlt)]
      exact (hf it (by simp)).1
  done := by
    intro X hP hw hK hc i pins s σ H E I hf st hg
    subst hP hw hK
    obtain ⟨hd, hi⟩ := hg
    obtain ⟨f0, f1, f2, f3, f4, f5⟩ := hf it (by simp)
    obtain ⟨hs, hgd, hx, es', ep', hdt, hsz, ent⟩ := frzT2 I hd
    obtain ⟨rfl, rfl⟩ := dict_ep hod hdt
    obtain ⟨ok, ov, he⟩ := st
    rw [← hsz] at he
    exact DT.endI (I.ok.hd hc) he ⟨o, hgd, hx, hdt⟩ (by omega) fun h' eb => ⟨rfl, I.turned (t' := s.toks) (fun b ob hb e => eb b ob hb e) f0 f1 f3 f4 f5⟩
  self := fun A i s Q E st h => let ⟨_, _, e⟩ := st; PySem.W.kcp_self e h
end
def iItemsT (td : TE) : TI := fun σ H R => td σ H fun x H1 => ∃ d o kvs, x = .ref d ∧ H1 d = some (.frz o (.dT kvs)) ∧ R (ItiT d o kvs) H1
theorem pi_itemsT {X : Cx} {e : Expr} {td : TE} {apos cpos tpos : Pos} {elts : List Expr} {kk : Nat} (he : PE X e td) (hbase : attributeBase e "items" X.env (eval e X.env) = eval e X.env := by rfl) (hline : (apos.endLine == cpos.line) = true := by rfl) :
    PI X (.Tuple elts kk tpos) (.Call (.Attribute e "items" apos) [] [] cpos) (iItemsT td) := by
  refine ⟨fun pins s σ H R I h => ?_⟩
  refine wpAny_Call_method (T := "dict") (id := "dict.items") hbase rfl hline F.plainAttrs_dict F.slot_dict_items F.type_dict_items (thn (he.run pins s σ H _ I h) fun u s1 ⟨x, H1, I1, rx, d, o, kvs, ex, hd, q⟩ => ?_)
  subst ex
  obtain rfl : u = Value.ref d := rx
  obtain ⟨hs, hgd, hx, es, ep, hdt, hsz, ent⟩ := frzT2 I1 hd
  have hraw : DT.Raw s1.heap d es ep := ⟨o, hgd, hx, hdt⟩
  refine ⟨hraw.typeIs, fun b e => by cases e; exact ⟨o, hgd, hx.2.1⟩, ?_⟩
  have I2 : Inv X pins σ H1 { s1 with heap := s1.heap.push { cls := .type "dict_items", data := .fields #[.ref d] } } := I1.kept (t' := s1.toks) fun b ob q => Heap.get?_push_of_some _ q
  have fin : wpAny (model X.prog X.w) X.A (pyIter (.ref s1.heap.objs.size)) (PIE X pins σ (.Tuple elts kk tpos) R) X.xe { s1 with heap := s1.heap.push { cls := .type "dict_items", data := .fields #[.ref d] } } := by
    refine DT.iterI (d := d) (es := es) (ep := ep) ⟨_, Heap.get?_push_size _ rfl, rfl, rfl⟩ (hraw.push _) (pi_one (tk := s1.toks) I2 _ (turn_itemsT _ hdt) ⟨.none, .none, ?_⟩ q)
    rw [← hsz]
    exact Heap.get?_push_size _ rfl
  show wpAny _ _ (callWith cpos (.builtin "dict.items") [.ref d] [] []) _ X.xe s1
  exact method_meetsIn F.slot_dict_items F.entry_dict_items rfl (PySem.evalArgs_none ⟨rfl, hraw.typeIs, F.args_dict_items_1 _, _, DT.meetsItems (es := es) (ep := ep) hs, hraw, fin⟩)

/-! d.pop(k), there -/
section
variable {K : Type} [DecidableEq K] {prog : Program} {w : World} {knd : HeapKind prog w K}
theorem meetsPop1 {d b : Addr} {k : K} (hd : (d == sysModules) = false) :
    MeetsIn prog w (Builtin.«dict.pop» ⟨[.ref d, .ref b], []⟩) (fun A R s => ∃ xs, knd.room A.in1 ∧ knd.is s.heap k b ∧ s.heap.DictOfH knd d xs ∧ xs.length ≤ sizeLine ∧
      ∃ p, atKey xs k = some p ∧ ∀ h' tk, h'.DictOfH knd d (DT.dropH xs k) → Heap.SameBut d s.heap h' → R (.ok (.ret p.2)) { s with heap := h', toks := tk }) :=
  .of_wp fun A R s ⟨xs, hu, hkey, hm, hsz, p0, hp0, hsome⟩ => by
    obtain ⟨o, es, ep, ho, hc, hdat, he, his, hn⟩ := id hm
    have hes : es.size = xs.length := size_of_entries he
    have hpart : (keyPart (Value.ref b)).isSome = false := rfl
    unfold Builtin.«dict.pop»
    refine wpAny_bind ?_
    unfold Builtin.Dict.keyAndDefault
    refine wpAny_bind (wpAny_notOrdered_dict hm.typeIs ?_)
    show wpAny _ _ (pure (d, Value.ref b, none)) _ _ s
    refine wpAny_pure ?_
    simp only [hpart, Bool.false_eq_true, if_false]
    refine wpAny_bind (wpAny_dictEntries ho hdat (wpAny_bind (wpAny_pure ?_)))
    have hem : es.isEmpty = false := by
      cases hem : es.isEmpty with
      | false => rfl
      | true =>
        have h0 : xs = [] := by
          have z : es.size = 0 := by simpa using hem
          exact List.length_eq_zero_iff.mp (by omega)
        rw [h0] at hp0
        cases hp0
    simp only [hem, Bool.false_eq_true, if_false]
    refine wpAny_bind (DT.takeH hu hkey hm hsz (fun hno => by rw [hp0] at hno; cases hno) fun p e hp hev h' hm' hs' => ?_)
    simp only [Option.isNone_some, Bool.false_eq_true, if_false]
    rw [hp0] at hp
    cases hp
    exact wpAny_bind (wpAny_letGo (wpAny_pure ⟨e.val, rfl, by rw [hev]; exact hsome h' _ hm' hs'⟩))
end
section
variable {X : Cx}
def rPopT1 : V → List V → Hp → VK → Prop := fun x xs H Q => ∃ (a : Addr) (kvs : List (List L2.Key × V)) (k : List L2.Key) (b : Addr) (v : V), x = .ref a ∧ xs = [.ref b] ∧ H a = some (.dT kvs) ∧ H b = some (.tup (k.map kV)) ∧
  valV kvs k = some v ∧ Q v (upd H a (.dT (dropK kvs k)))
theorem mt_popT1 (hu : X.A.units + 1 < cLine) : MtR X "dict.pop" rPopT1 := by
  intro pins s σ H x xs v us Q I rx rxs h
  obtain ⟨a, kvs, k, b, v0, rfl, rfl, ha, hb, hv, q1⟩ := h
  cases rx
  rw [Vals.ref1 rxs]
  obtain ⟨z, hd, xs', rel, dd⟩ := dt_of I.hok ha
  have hz : xs'.length ≤ sizeLine := by rw [← Paired.length rel]; exact z
  have r := rel.val k
  rw [hv] at r
  obtain ⟨p, hp⟩ : ∃ p, atKey xs' k = some p := by
    cases e : atKey xs' k with
    | none => rw [e] at r; exact (show False from r).elim
    | some p => exact ⟨p, rfl⟩
  rw [hp] at r
  refine call_meetsIn PySem.F.slot_dict_pop dd.typeIs PySem.F.entry_dict_pop (PySem.F.args_dict_pop_2 _ _) (meetsPop1 (knd := tupleKind (mixKind X.prog X.w)) (k := k) hd)
    ⟨xs', tupleKind_room_in1 hu, key_of I.hok hb, dd, hz, p, hp, fun h' tk dd' hs => ?_⟩
  obtain ⟨o, es, ep, hq, h2, h3, h4, _, h5⟩ := dd'
  have I2 : Inv X pins σ (upd H a (.dT (dropK kvs k))) { s with heap := h', toks := tk } :=
    d_write I (by rw [ha]; exact True.intro) hs ⟨o, hq⟩ ⟨Nat.le_trans (dropK_le kvs k) z, hd, _, (DX.KT_drop k rel).keeps (fun c ys ec => (by rw [upd_ne (ne_of ec ha (fun z => nomatch z))]; exact ec)), o, es, ep, hq, h2, h3, h4, h5⟩
  exact ⟨v0, _, I2, r, q1⟩
end
end G
/-! G6: a tuple times 0 or 1. -/
namespace G
open PySem PySem.Spec PyProof.Rows L2 Evl
theorem tuple_mul1 (l : Addr) (items : Array Value) (n : Nat) (dd : Option Addr) (sl : Array (Option Value)) (x : Int) (u : Tok) (c0 : (decide (x < -(2 ^ 63)) || decide (x ≥ 2 ^ 63)) = false) (c1 : (items.isEmpty || x == 1) = true) :
    Meets (Builtin.«tuple.__mul__» ⟨[.ref l, .int x u], []⟩) (fun _ R s => s.heap.get? l = some { cls := .type "tuple", dict := dd, data := .seq items n, slots := sl } ∧ R (.ok (.ret (Value.ref l))) s) :=
  .of_wp fun prog w A R s h => by
    obtain ⟨hp, g, d, tk, os⟩ := s
    obtain ⟨hl, h⟩ := h
    have f1 := AutoSeq1.idx_int
    wp_walk using wpAny_loadPart' hl
    repeat (first
      | (refine wpAny_ite_false (decide_eq_false (by rw [c0]; exact Bool.false_ne_true)) ?_; wp_walk using wpAny_loadPart' hl)
      | (refine wpAny_ite_true (decide_eq_true c1) ?_; wp_walk using wpAny_loadPart' hl))
    exact ⟨_, rfl, h⟩
theorem tuple_mul0 (l : Addr) (items : Array Value) (n : Nat) (dd : Option Addr) (sl : Array (Option Value)) (x : Int) (u : Tok) (c0 : (decide (x < -(2 ^ 63)) || decide (x ≥ 2 ^ 63)) = false) (c1 : (items.isEmpty || x == 1) = false) (c2 : (decide (x ≤ 0) || items.isEmpty) = true) :
    Meets (Builtin.«tuple.__mul__» ⟨[.ref l, .int x u], []⟩) (fun _ R s => s.heap.get? l = some { cls := .type "tuple", dict := dd, data := .seq items n, slots := sl } ∧ R (.ok (.ret (Value.ref s.heap.objs.size))) { s with heap := s.heap.push { cls := Value.type "tuple", data := Data.seq #[] }, toks := s.toks }) :=
  .of_wp fun prog w A R s h => by
    obtain ⟨hp, g, d, tk, os⟩ := s
    obtain ⟨hl, h⟩ := h
    have f1 := AutoSeq1.idx_int
    wp_walk using wpAny_loadPart' hl
    repeat (first
      | (refine wpAny_ite_false (decide_eq_false (by rw [c0]; exact Bool.false_ne_true)) ?_; wp_walk using wpAny_loadPart' hl)
      | (refine wpAny_ite_false (decide_eq_false (by rw [c1]; exact Bool.false_ne_true)) ?_; wp_walk using wpAny_loadPart' hl)
      | (refine wpAny_ite_true (decide_eq_true c2) ?_; wp_walk using wpAny_loadPart' hl))
    exact ⟨_, rfl, h⟩
theorem op_repT1 {X : Cx} : OpR X (binaryOp .Mult) (rRepT1 X.K) := by
  intro pins s σ H x y v u Q I rx ry h
  obtain ⟨l, k, xs, rfl, rfl, hT, hne, h1, h2, hz, q1, q0⟩ := h
  cases rx
  obtain ⟨t, rfl⟩ := ry
  obtain ⟨its, r, ⟨⟨cls, dd, data, sl⟩, ho, hc, n, hd⟩, hs⟩ := I.tuple hT
  simp only at hc hd
  subst hc hd
  have hle : its.length = xs.length := r.length.symm
  have hn : its ≠ [] := fun e => hne (by
    rw [e] at hle
    exact List.eq_nil_of_length_eq_zero hle.symm)
  have hi : its.toArray.isEmpty = false := by
    cases its with
    | nil => exact absurd rfl hn
    | cons a b => rfl
  have c0 : (decide (k < -(2 ^ 63)) || decide (k ≥ 2 ^ 63)) = false := by
    rw [decide_eq_false (by omega), decide_eq_false (by omega)] <;> rfl
  by_cases hk : k = 1
  · have c1 : (its.toArray.isEmpty || k == 1) = true := by rw [hi, hk]; rfl
    refine wpAny_binaryOp_repeat_ref (T := "tuple") (U := "int") (by decide) ⟨_, ho, rfl⟩ (fun s' => typeIs_int s' k t) noFill_tuple_mul F.fills_int_mul F.slot_int_rmul repeat_tuple F.slot_int_index.lookup
      (call_meets F.slot_int_rmul (typeIs_int s k t) F.entry_int_rmul (F.args_int_rmul_2 _ _) (int_rmul_tuple k t l its.toArray n dd sl)
        ⟨ho, rfl, ⟨_, ho, rfl⟩, call_meets F.slot_tuple_mul ⟨_, ho, rfl⟩ F.entry_tuple_mul (F.args_tuple_mul_2 _ _) (tuple_mul1 l its.toArray n dd sl k t c0 c1) ⟨ho, ?_⟩⟩)
    exact ⟨.ref l, H, I, rfl, q1 hk⟩
  · have c1 : (its.toArray.isEmpty || k == 1) = false := by
      rw [hi, Bool.false_or]
      exact beq_eq_false_iff_ne.mpr hk
    have c2 : (decide (k ≤ 0) || its.toArray.isEmpty) = true := by
      rw [decide_eq_true (by omega)]
      rfl
    refine wpAny_binaryOp_repeat_ref (T := "tuple") (U := "int") (by decide) ⟨_, ho, rfl⟩ (fun s' => typeIs_int s' k t) noFill_tuple_mul F.fills_int_mul F.slot_int_rmul repeat_tuple F.slot_int_index.lookup
      (call_meets F.slot_int_rmul (typeIs_int s k t) F.entry_int_rmul (F.args_int_rmul_2 _ _) (int_rmul_tuple k t l its.toArray n dd sl)
        ⟨ho, rfl, ⟨_, ho, rfl⟩, call_meets F.slot_tuple_mul ⟨_, ho, rfl⟩ F.entry_tuple_mul (F.args_tuple_mul_2 _ _) (tuple_mul0 l its.toArray n dd sl k t c0 c1 c2) ⟨ho, ?_⟩⟩)
    refine ⟨.ref s.heap.objs.size, _, I.laid (t' := s.toks) (o := .tup []) (fun b ob q => Heap.get?_push_of_some _ q) (Nat.le_refl _) ?_, rfl, q0 (by omega) _ (I.hok.fresh (Nat.le_refl _))⟩
    exact ⟨Nat.zero_le _, [], .nil, IsTup.new _ _⟩
/-- a tuple times any small number -/
def rRepA (K : PySem.W.Frag) : R2 := fun x y H Q => rRepT1 K x y H Q ∨ rRepT K x y H Q
theorem op_repA {X : Cx} : OpR X (binaryOp .Mult) (rRepA X.K) := by
  intro pins s σ H x y v u Q I rx ry h
  rcases h with h | h
  · exact op_repT1 pins s σ H x y v u Q I rx ry h
  · exact op_repT pins s σ H x y v u Q I rx ry h
end G
/-! G7: sorted lists as functions; built-ins by data. -/
namespace G
open PySem PySem.Spec PyProof.Rows L2 Evl

/-! ### insertion sort of ints -/
def ins (x : Int) : List Int → List Int
  | [] => [x]
  | y :: r => if x ≤ y then x :: y :: r else y :: ins x r
def isort : List Int → List Int
  | [] => []
  | x :: r => ins x (isort r)
theorem ins_perm (x : Int) : ∀ l, (ins x l).Perm (x :: l)
  | [] => .refl _
  | y :: r => by
    unfold ins
    split
    · exact .refl _
    · exact ((ins_perm x r).cons y).trans (.swap x y r)
theorem isort_perm : ∀ l, (isort l).Perm l
  | [] => .refl _
  | x :: r => (ins_perm x (isort r)).trans ((isort_perm r).cons x)
theorem ins_sorted (x : Int) : ∀ l : List Int, l.Pairwise (· ≤ ·) → (ins x l).Pairwise (· ≤ ·)
  | [], _ => List.pairwise_singleton _ _
  | y :: r, h => by
    unfold ins
    obtain ⟨h1, h2⟩ := List.pairwise_cons.mp h
    split
    · rename_i hx
      refine List.pairwise_cons.mpr ⟨fun z hz => ?_, h⟩
      rcases List.mem_cons.mp hz with e | hz
      · rw [e]; exact hx
      · have := h1 z hz; omega
    · rename_i hx
      refine List.pairwise_cons.mpr ⟨fun z hz => ?_, ins_sorted x r h2⟩
      rcases List.mem_cons.mp ((ins_perm x r).mem_iff.mp hz) with e | hz
      · rw [e]; omega
      · exact h1 z hz
theorem isort_sorted : ∀ l, (isort l).Pairwise (· ≤ ·)
  | [] => .nil
  | x :: r => ins_sorted x _ (isort_sorted r)
theorem sorted_unique : ∀ {a b : List Int}, a.Perm b → a.Pairwise (· ≤ ·) → b.Pairwise (· ≤ ·) → a = b := fun {a b} p h1 h2 =>
  p.eq_of_pairwise (fun x y _ _ h h' => Int.le_antisymm h h') h1 h2
theorem isort_eq {a b : List Int} (p : b.Perm a) (h : b.Pairwise (· ≤ ·)) : b = isort a := sorted_unique (p.trans (isort_perm a).symm) h (isort_sorted a)
theorem isort_length (l : List Int) : (isort l).length = l.length := (isort_perm l).length_eq

/-! ### sets of tuples, sorted -/
abbrev cd (l : List Int) : Int := TS.code 64 l
def insU (x : List Int) : List (List Int) → List (List Int)
  | [] => [x]
  | y :: r => if cd x < cd y then x :: y :: r else if cd x = cd y then y :: r else y :: insU x r
def ssort : List (List Int) → List (List Int)
  | [] => []
  | x :: r => insU x (ssort r)
theorem code_inj : ∀ {a b : List Int}, a.length = b.length → TS.Bd 64 a → TS.Bd 64 b → cd a = cd b → a = b
  | [], [], _, _, _, _ => rfl
  | x :: a, y :: b, hl, ha, hb, e => by
    have hl' : a.length = b.length := by simpa using hl
    have ha' : TS.Bd 64 a := fun m hm => ha m (List.mem_cons_of_mem _ hm)
    have hb' : TS.Bd 64 b := fun m hm => hb m (List.mem_cons_of_mem _ hm)
    rcases Int.lt_trichotomy x y with h | h | h
    · have := TS.code_lt hl' ha' hb' h
      rw [show TS.code 64 (x :: a) = TS.code 64 (y :: b) from e] at this
      omega
    · subst h
      have z : cd a = cd b := by
        rcases Int.lt_trichotomy (cd a) (cd b) with h | h | h
        · have := (TS.code_same (d := x) hl').mpr h
          rw [show TS.code 64 (x :: a) = TS.code 64 (x :: b) from e] at this
          omega
        · exact h
        · have := (TS.code_same (d := x) hl'.symm).mpr h
          rw [show TS.code 64 (x :: a) = TS.code 64 (x :: b) from e] at this
          omega
      rw [code_inj hl' ha' hb' z]
    · have := TS.code_lt hl'.symm hb' ha' h
      rw [show TS.code 64 (x :: a) = TS.code 64 (y :: b) from e] at this
      omega
theorem insU_mem {d : Nat} {x : List Int} (hx : x.length = d ∧ TS.Bd 64 x) : ∀ {l : List (List Int)}, (∀ y ∈ l, y.length = d ∧ TS.Bd 64 y) → ∀ z, z ∈ insU x l ↔ z = x ∨ z ∈ l
  | [], _, z => by simp [insU]
  | y :: r, h, z => by
    unfold insU
    split
    · simp
    · split
      · rename_i _ e
        have hy := h y List.mem_cons_self
        have : x = y := code_inj (hx.1.trans hy.1.symm) hx.2 hy.2 e
        subst this
        simp
      · rw [List.mem_cons, insU_mem hx (fun y hy => h y (List.mem_cons_of_mem _ hy)), List.mem_cons]
        constructor
        · rintro (a | a | a)
          · exact .inr (.inl a)
          · exact .inl a
          · exact .inr (.inr a)
        · rintro (a | a | a)
          · exact .inr (.inl a)
          · exact .inl a
          · exact .inr (.inr a)
theorem ssort_mem {d : Nat} : ∀ {l : List (List Int)}, (∀ y ∈ l, y.length = d ∧ TS.Bd 64 y) → ∀ z, z ∈ ssort l ↔ z ∈ l
  | [], _, z => by simp [ssort]
  | x :: r, h, z => by
    have h' : ∀ y ∈ r, y.length = d ∧ TS.Bd 64 y := fun y hy => h y (List.mem_cons_of_mem _ hy)
    unfold ssort
    rw [insU_mem (h x List.mem_cons_self) (fun y hy => h' y ((ssort_mem h' y).mp hy)), ssort_mem h', List.mem_cons]
theorem insU_sorted (x : List Int) : ∀ {l : List (List Int)}, l.Pairwise (fun a b => cd a < cd b) → (insU x l).Pairwise (fun a b => cd a < cd b) ∧ ∀ z ∈ insU x l, z = x ∨ z ∈ l
  | [], _ => ⟨List.pairwise_singleton _ _, fun z hz => by simpa [insU] using hz⟩
  | y :: r, h => by
    unfold insU
    obtain ⟨h1, h2⟩ := List.pairwise_cons.mp h
    split
    · rename_i hx
      refine ⟨List.pairwise_cons.mpr ⟨fun z hz => ?_, h⟩, fun z hz => by simpa using hz⟩
      rcases List.mem_cons.mp hz with e | hz
      · rw [e]; exact hx
      · have := h1 z hz; omega
    · split
      · exact ⟨h, fun z hz => .inr hz⟩
      · rename_i hx hx2
        obtain ⟨k1, k2⟩ := insU_sorted x h2
        refine ⟨List.pairwise_cons.mpr ⟨fun z hz => ?_, k1⟩, fun z hz => ?_⟩
        · rcases k2 z hz with e | hz
          · rw [e]; omega
          · exact h1 z hz
        · rcases List.mem_cons.mp hz with e | hz
          · exact .inr (by rw [e]; exact List.mem_cons_self)
          · rcases k2 z hz with e | hz
            · exact .inl e
            · exact .inr (List.mem_cons_of_mem _ hz)
theorem ssort_sorted : ∀ l : List (List Int), (ssort l).Pairwise (fun a b => cd a < cd b)
  | [] => .nil
  | x :: r => (insU_sorted x (ssort_sorted r)).1
theorem strict_unique : ∀ {a b : List (List Int)}, a.Pairwise (fun x y => cd x < cd y) → b.Pairwise (fun x y => cd x < cd y) → (∀ z, z ∈ a ↔ z ∈ b) → a = b := fun {a b} h1 h2 hm => by
  have n1 : a.Nodup := h1.imp fun h e => by rw [e] at h; omega
  have n2 : b.Nodup := h2.imp fun h e => by rw [e] at h; omega
  exact ((List.perm_ext_iff_of_nodup n1 n2).mpr hm).eq_of_pairwise (fun x y _ _ h h' => by omega) h1 h2
end G
/-! G8: operators and built-ins, by data. -/
namespace G
open PySem PySem.Spec PyProof.Rows L2 Evl
section
variable {K : PySem.W.Frag} {σ : L2.St} {B : Hp} {ta : TA} {te tb : TE} {ds es : List D} {P : Program} {w : World}
/-- lists of data as argument lists -/
abbrev rps (ds : List D) : RelA := fun B vs => RpA B vs ds
theorem rpa1 {v : List V} {d : D} (h : RpA B v [d]) : ∃ x, v = [x] ∧ Rp B x d := by
  cases h with
  | cons r a => cases a; exact ⟨_, rfl, r⟩
theorem rpa2 {v : List V} {d e : D} (h : RpA B v [d, e]) : ∃ x y, v = [x, y] ∧ Rp B x d ∧ Rp B y e := by
  cases h with
  | cons r a =>
    obtain ⟨y, rfl, ry⟩ := rpa1 a
    exact ⟨_, _, rfl, r, ry⟩
theorem rpa3 {v : List V} {d e f : D} (h : RpA B v [d, e, f]) : ∃ x y z, v = [x, y, z] ∧ Rp B x d ∧ Rp B y e ∧ Rp B z f := by
  cases h with
  | cons r a =>
    obtain ⟨y, z, rfl, ry⟩ := rpa2 a
    exact ⟨_, _, _, rfl, r, ry⟩
/-- t + u -/
theorem o_catT (hz : ds.length + es.length ≤ 100000) : OpD (rCatA K) (rp (.tuple ds)) (rp (.tuple es)) (rp (.tuple (ds ++ es))) := fun {B x y} r1 r2 F H o Q q => by
  obtain ⟨a, xs, rfl, ha, ra⟩ := r1.tup_inv
  obtain ⟨b, ys, rfl, hb, rb⟩ := r2.tup_inv
  refine ⟨a, b, xs, ys, rfl, rfl, st_of (o.ex _ _ ha), st_of (o.ex _ _ hb), sz_of (by rw [ra.length, rb.length]; exact hz), fun e => ?_, fun e e2 => ?_, fun e e2 p hp => ?_⟩
  · subst e
    cases ra
    exact q _ H (Ex.refl H) (r2.mono o.cut)
  · subst e2
    cases rb
    rw [List.append_nil] at q
    exact q _ H (Ex.refl H) (r1.mono o.cut)
  · exact q _ _ (Ex.new hp) (.tup (new_at o hp) ((ra.append rb).mono (o.cut.trans (cut_mono (Ex.new hp)))))
/-- slices of a tuple -/
def EvP (to : TO) (σ : L2.St) (B : Hp) (k : Option Int) : Prop := ∀ F H, Off F B H → ∀ Q : Option Int → Hp → Prop, (∀ H', Ex H H' → Q k H') → to σ H Q
theorem p_none : EvP tNoPart σ B none := fun F H o Q q => q H (Ex.refl H)
theorem p_some {i : Int} (h : EvD te σ B (.int i)) : EvP (tPart te) σ B (some i) := fun F H o Q q => h F H o _ fun v H1 e r => ⟨i, r.int_inv, q H1 e⟩
theorem d_slT {tl th : TO} {lo hi : Option Int} (h : EvD te σ B (.tuple ds)) (hl : EvP tl σ B lo) (hh : EvP th σ B hi) (r : List D)
    (hr : (ds.drop (HT.sIx ds.length 0 lo)).take (HT.sIx ds.length ds.length hi - HT.sIx ds.length 0 lo) = r) : EvD (tSl (rSlA K) te tl th) σ B (.tuple r) := fun F H o Q q =>
  h F H o _ fun v H1 e1 r1 => hl F H1 (o.go e1) _ fun H2 e2 => hh F H2 (o.go (e1.trans e2)) _ fun H3 e3 => by
    have o3 := o.next ((e1.trans e2).trans e3)
    obtain ⟨a, xs, rfl, ha, ra⟩ := (r1.mono (cut_mono (e2.trans e3))).tup_inv
    refine ⟨a, xs, rfl, st_of (cut_ex _ _ ha), fun e => ?_, fun e p hp => ?_⟩
    · rw [ra.length] at e
      rw [e.1, e.2] at hr
      simp at hr
      subst hr
      exact q _ _ ((e1.trans e2).trans e3) (.tup ha ra)
    · refine q _ _ (((e1.trans e2).trans e3).trans (Ex.new hp)) (.tup (new_at (o.go ((e1.trans e2).trans e3)) hp) ?_)
      unfold cutV
      rw [ra.length, ← hr]
      exact ((ra.drop _).take _).mono (cut_mono (Ex.new hp))
theorem sl_pre {n : Nat} {ds : List D} (h : n ≤ ds.length) : (ds.drop (HT.sIx ds.length 0 none)).take (HT.sIx ds.length ds.length (some (n : Int)) - HT.sIx ds.length 0 none) = ds.take n := by
  rw [HT.sIx_none, HT.sIx_nat, Nat.min_eq_left h]
  simp
theorem sl_post {n : Nat} {ds : List D} : (ds.drop (HT.sIx ds.length 0 (some (n : Int)))).take (HT.sIx ds.length ds.length none - HT.sIx ds.length 0 (some (n : Int))) = ds.drop n := by
  rw [HT.sIx_none, HT.sIx_nat]
  by_cases h : n ≤ ds.length
  · rw [Nat.min_eq_left h, List.take_of_length_le (by rw [List.length_drop]; exact Nat.le_refl _)]
  · rw [Nat.min_eq_right (by omega), List.drop_of_length_le (Nat.le_refl _), List.drop_of_length_le (by omega)]
    simp
/-- (d,) * k -/
theorem o_repT {d : D} {k : Int} (h1 : -1000 ≤ k) (h2 : k ≤ 1000) : OpD (rRepA K) (rp (.tuple [d])) (rp (.int k)) (rp (.tuple (List.replicate k.toNat d))) := fun {B x y} r1 r2 F H o Q q => by
  obtain ⟨a, xs, rfl, ha, ra⟩ := r1.tup_inv
  cases r2.int_inv
  obtain ⟨x, rfl, rx⟩ := rpa1 ra
  by_cases hk : k ≤ 1
  · refine .inl ⟨a, k, [x], rfl, rfl, st_of (o.ex _ _ ha), List.cons_ne_nil _ _, h1, hk, by show 1 ≤ 1000; decide, fun e => ?_, fun e p hp => ?_⟩
    · subst e
      exact q _ H (Ex.refl H) (r1.mono o.cut)
    · rw [show k.toNat = 0 by omega] at q
      exact q _ _ (Ex.new hp) (.tup (new_at o hp) .nil)
  · refine .inr ⟨a, k, [x], rfl, rfl, st_of (o.ex _ _ ha), List.cons_ne_nil _ _, by omega, h2, by show 1 ≤ 1000; decide, fun p hp => ?_⟩
    refine q _ _ (Ex.new hp) (.tup (new_at o hp) ?_)
    have z : ∀ n : Nat, RpA (cut F (upd H p (.tup (List.replicate k.toNat [x]).flatten))) (List.replicate n [x]).flatten (List.replicate n d) := fun n => by
      induction n with
      | zero => exact .nil
      | succ n ih =>
        rw [List.replicate_succ, List.replicate_succ]
        exact .cons (rx.mono (o.cut.trans (cut_mono (Ex.new hp)))) ih
    exact z _
/-- sum -/
theorem c_sumL {ns : List Int} : CallD (rSum K) (rps [lI ns]) (rp (.int ns.sum)) := fun {B xs} r F H o Q q => by
  obtain ⟨x, rfl, rx⟩ := rpa1 r
  obtain ⟨a, rfl, ha⟩ := rx.lI_inv
  exact ⟨a, ns, rfl, sq_of (o.ex _ _ ha), q _ H (Ex.refl H) (.int _)⟩
theorem c_sumT {ns : List Int} : CallD (rSumT K) (rps [tI ns]) (rp (.int ns.sum)) := fun {B xs} r F H o Q q => by
  obtain ⟨x, rfl, rx⟩ := rpa1 r
  obtain ⟨a, rfl, ha⟩ := rx.tI_inv
  exact ⟨a, ns, rfl, st_of (o.ex _ _ ha), q _ H (Ex.refl H) (.int _)⟩
/-- the least -/
def minI : List Int → Int
  | [] => 0
  | x :: r => r.foldl min x
theorem foldl_min : ∀ (r : List Int) (x : Int), (r.foldl min x = x ∨ r.foldl min x ∈ r) ∧ r.foldl min x ≤ x ∧ ∀ y ∈ r, r.foldl min x ≤ y
  | [], x => ⟨.inl rfl, Int.le_refl _, fun y hy => nomatch hy⟩
  | z :: r, x => by
    obtain ⟨h1, h2, h3⟩ := foldl_min r (min x z)
    have m1 : min x z ≤ x := Int.min_le_left _ _
    have m2 : min x z ≤ z := Int.min_le_right _ _
    refine ⟨?_, Int.le_trans h2 m1, fun y hy => ?_⟩
    · show r.foldl min (min x z) = x ∨ r.foldl min (min x z) ∈ z :: r
      rcases h1 with h1 | h1
      · rcases Int.le_total x z with q | q
        · exact .inl (by rw [h1, Int.min_eq_left q])
        · exact .inr (by rw [h1, Int.min_eq_right q]; exact List.mem_cons_self)
      · exact .inr (List.mem_cons_of_mem _ h1)
    · rcases List.mem_cons.mp hy with e | hy
      · rw [e]; exact Int.le_trans h2 m2
      · exact h3 y hy
theorem minI_eq {ns : List Int} {m : Int} (h : m ∈ ns) (hl : ∀ y ∈ ns, m ≤ y) : m = minI ns := by
  cases ns with
  | nil => cases h
  | cons x r =>
    obtain ⟨h1, h2, h3⟩ := foldl_min r x
    have a : minI (x :: r) ∈ x :: r := by
      rcases h1 with h1 | h1
      · rw [show minI (x :: r) = x from h1]; exact List.mem_cons_self
      · exact List.mem_cons_of_mem _ h1
    have b : minI (x :: r) ≤ m := by
      rcases List.mem_cons.mp h with e | h
      · rw [e]; exact h2
      · exact h3 m h
    exact Int.le_antisymm (hl _ a) b
theorem c_minT {ns : List Int} (hn : ns ≠ []) : CallD (rMinT K) (rps [tI ns]) (rp (.int (minI ns))) := fun {B xs} r F H o Q q => by
  obtain ⟨x, rfl, rx⟩ := rpa1 r
  obtain ⟨a, rfl, ha⟩ := rx.tI_inv
  refine ⟨a, ns, rfl, st_of (o.ex _ _ ha), List.length_pos_iff.mpr hn, fun m h1 h2 => ?_⟩
  rw [minI_eq h1 h2]
  exact q _ H (Ex.refl H) (.int _)
theorem c_minL {ns : List Int} (hn : ns ≠ []) : CallD (rMin K) (rps [lI ns]) (rp (.int (minI ns))) := fun {B xs} r F H o Q q => by
  obtain ⟨x, rfl, rx⟩ := rpa1 r
  obtain ⟨a, rfl, ha⟩ := rx.lI_inv
  refine ⟨a, ns, rfl, sq_of (o.ex _ _ ha), List.length_pos_iff.mpr hn, fun m h1 h2 => ?_⟩
  rw [minI_eq h1 h2]
  exact q _ H (Ex.refl H) (.int _)
/-- sorted -/
theorem c_sortL {ns : List Int} : CallD (rSortedI K) (rps [lI ns]) (rp (lI (isort ns))) := fun {B xs} r F H o Q q => by
  obtain ⟨x, rfl, rx⟩ := rpa1 r
  obtain ⟨a, rfl, ha⟩ := rx.lI_inv
  refine ⟨a, ns, rfl, sq_of (o.ex _ _ ha), fun ns' p h1 h2 hp => ?_⟩
  rw [isort_eq h1 h2]
  exact q _ _ (Ex.new hp) (.lI_mk (new_at o hp))
theorem c_sortT {ns : List Int} (h64 : ns.length < 64) : CallD (rSortTI K) (rps [tI ns]) (rp (lI (isort ns))) := fun {B xs} r F H o Q q => by
  obtain ⟨x, rfl, rx⟩ := rpa1 r
  obtain ⟨a, rfl, ha⟩ := rx.tI_inv
  refine ⟨a, ns, rfl, st_of (o.ex _ _ ha), h64, fun ns' p h1 h2 hp => ?_⟩
  rw [isort_eq h1 h2]
  exact q _ _ (Ex.new hp) (.lI_mk (new_at o hp))
/-- tuple(list), tuple(tuple) -/
def rTupleOf (K : PySem.W.Frag) : List V → Hp → VK → Prop := fun xs H Q => ∃ p ys, xs = [.ref p] ∧ ((SqL K H p ys ∧ ∀ l, H l = none → Q (.ref l) (upd H l (.tup ys))) ∨ (SqT K H p ys ∧ Q (.ref p) H))
theorem c_tupL : CallD (rTupleOf K) (rps [.list ds]) (rp (.tuple ds)) := fun {B xs} r F H o Q q => by
  obtain ⟨x, rfl, rx⟩ := rpa1 r
  obtain ⟨a, xs, rfl, ha, ra⟩ := rx.lst_inv
  exact ⟨a, xs, rfl, .inl ⟨sq_of (o.ex _ _ ha), fun l hl => q _ _ (Ex.new hl) (.tup (new_at o hl) (ra.mono (o.cut.trans (cut_mono (Ex.new hl)))))⟩⟩
theorem c_tupT : CallD (rTupleOf K) (rps [.tuple ds]) (rp (.tuple ds)) := fun {B xs} r F H o Q q => by
  obtain ⟨x, rfl, rx⟩ := rpa1 r
  obtain ⟨a, xs, rfl, ha, ra⟩ := rx.tup_inv
  exact ⟨a, xs, rfl, .inr ⟨st_of (o.ex _ _ ha), q _ H (Ex.refl H) (rx.mono o.cut)⟩⟩
/-- list(..) -/
def rListOf (K : PySem.W.Frag) : List V → Hp → VK → Prop := fun xs H Q => ∃ p ys, xs = [.ref p] ∧ (SqL K H p ys ∨ SqT K H p ys) ∧ ∀ l, H l = none → Q (.ref l) (upd H l (.lst ys))
theorem c_lstL : CallD (rListOf K) (rps [.list ds]) (rp (.list ds)) := fun {B xs} r F H o Q q => by
  obtain ⟨x, rfl, rx⟩ := rpa1 r
  obtain ⟨a, xs, rfl, ha, ra⟩ := rx.lst_inv
  exact ⟨a, xs, rfl, .inl (sq_of (o.ex _ _ ha)), fun l hl => q _ _ (Ex.new hl) (.lst (new_at o hl) (ra.mono (o.cut.trans (cut_mono (Ex.new hl)))))⟩
theorem c_lstT : CallD (rListOf K) (rps [.tuple ds]) (rp (.list ds)) := fun {B xs} r F H o Q q => by
  obtain ⟨x, rfl, rx⟩ := rpa1 r
  obtain ⟨a, xs, rfl, ha, ra⟩ := rx.tup_inv
  exact ⟨a, xs, rfl, .inr (st_of (o.ex _ _ ha)), fun l hl => q _ _ (Ex.new hl) (.lst (new_at o hl) (ra.mono (o.cut.trans (cut_mono (Ex.new hl)))))⟩
/-- len -/
def rLenS (K : PySem.W.Frag) : List V → Hp → VK → Prop := fun xs H Q => ∃ p ys, xs = [.ref p] ∧ (SqL K H p ys ∨ SqT K H p ys) ∧ Q (.int ys.length) H
theorem c_lenL : CallD (rLenS K) (rps [.list ds]) (rp (.int (ds.length : Nat))) := fun {B xs} r F H o Q q => by
  obtain ⟨x, rfl, rx⟩ := rpa1 r
  obtain ⟨a, xs, rfl, ha, ra⟩ := rx.lst_inv
  refine ⟨a, xs, rfl, .inl (sq_of (o.ex _ _ ha)), q _ H (Ex.refl H) ?_⟩
  rw [ra.length]
  exact .int _
theorem c_lenT : CallD (rLenS K) (rps [.tuple ds]) (rp (.int (ds.length : Nat))) := fun {B xs} r F H o Q q => by
  obtain ⟨x, rfl, rx⟩ := rpa1 r
  obtain ⟨a, xs, rfl, ha, ra⟩ := rx.tup_inv
  refine ⟨a, xs, rfl, .inr (st_of (o.ex _ _ ha)), q _ H (Ex.refl H) ?_⟩
  rw [ra.length]
  exact .int _
/-- all, any -/
theorem c_all {bs : List Bool} : CallD (rAll K) (rps [.list (bs.map PyData.bool)]) (rp (.bool (bs.all id))) := fun {B xs} r F H o Q q => by
  obtain ⟨x, rfl, rx⟩ := rpa1 r
  obtain ⟨a, xs, rfl, ha, ra⟩ := rx.lst_inv
  exact ⟨a, bs, rfl, sq_of (by rw [← ra.bools]; exact o.ex _ _ ha), q _ H (Ex.refl H) (.bl _)⟩
theorem c_any {bs : List Bool} : CallD (rAny K) (rps [.list (bs.map PyData.bool)]) (rp (.bool (bs.any id))) := fun {B xs} r F H o Q q => by
  obtain ⟨x, rfl, rx⟩ := rpa1 r
  obtain ⟨a, xs, rfl, ha, ra⟩ := rx.lst_inv
  exact ⟨a, bs, rfl, sq_of (by rw [← ra.bools]; exact o.ex _ _ ha), q _ H (Ex.refl H) (.bl _)⟩
/-- sorted(set(list of tuples)) -/
theorem rpa_tI : ∀ {xs : List V} {kss : List (List Int)}, RpA B xs (kss.map tI) → ∃ as : List Addr, xs = as.map V.ref ∧ as.length = kss.length ∧ ∀ (i : Nat) (a : Addr) (ks : List Int), as[i]? = some a → kss[i]? = some ks → B a = some (.tup (ks.map V.int))
  | _, [], h => by
    cases h
    exact ⟨[], rfl, rfl, fun i a ks e => by simp at e⟩
  | _, ks :: kss, h => by
    cases h with
    | cons r a =>
      obtain ⟨p, rfl, hp⟩ := r.tI_inv
      obtain ⟨as, rfl, hl, hh⟩ := rpa_tI a
      refine ⟨p :: as, rfl, by simp [hl], fun i b ks' e1 e2 => ?_⟩
      cases i with
      | zero =>
        simp at e1 e2
        subst e1 e2
        exact hp
      | succ i => exact hh i b ks' (by simpa using e1) (by simpa using e2)
theorem rpa_refs : ∀ {L : List (Addr × List Int)}, (∀ p ∈ L, B p.1 = some (.tup (p.2.map V.int))) → RpA B (L.map fun q => V.ref q.1) ((L.map (·.2)).map tI)
  | [], _ => .nil
  | p :: L, h => .cons (.tI_mk (h p List.mem_cons_self)) (rpa_refs fun q hq => h q (List.mem_cons_of_mem _ hq))
theorem d_sortSet {kss : List (List Int)} {n : Nat} (h : EvD te σ B (.list (kss.map tI))) (hn : 1 ≤ n) (hk : ∀ ks ∈ kss, ks.length = n ∧ TS.Bd 64 ks) (h64 : kss.length < 64) :
    EvD (tCB (rSortedT K P w) (tCons (tCB (rSetOfT K P w) (tCons te tNil)) tNil)) σ B (.list ((ssort kss).map tI)) := fun F H o Q q => h F H o _ fun v H1 e1 r1 => by
  obtain ⟨l, xs, rfl, hl, ra⟩ := r1.lst_inv
  obtain ⟨as, rfl, hlen, hh⟩ := rpa_tI ra
  have hz : (as.zip kss).map (fun p => V.ref p.1) = as.map V.ref := by
    rw [show (fun p : Addr × List Int => V.ref p.1) = V.ref ∘ Prod.fst from rfl, ← List.map_map, List.map_fst_zip (by omega)]
  have hz2 : (as.zip kss).map (·.2) = kss := by rw [List.map_snd_zip (by omega)]
  have hmem : ∀ p ∈ as.zip kss, cut F H1 p.1 = some (.tup (p.2.map V.int)) := fun p hp => by
    obtain ⟨i, hi⟩ := List.mem_iff_getElem?.mp hp
    obtain ⟨a1, a2⟩ := List.getElem?_zip_eq_some.mp hi
    exact hh i p.1 p.2 a1 a2
  refine ⟨l, as.zip kss, rfl, sq_of (by rw [hz]; exact cut_ex _ _ hl), fun p hp => st_of (cut_ex _ _ (hmem p hp)), by rw [List.length_zip]; omega, fun a L ha hsub hall => ?_⟩
  have eA : Ex H1 (upd H1 a (SetTO P w a L)) := Ex.new ha
  have hkL : ∀ p ∈ L, p.2 ∈ kss := fun p hp => by rw [← hz2]; exact List.mem_map.mpr ⟨p, hsub p hp, rfl⟩
  refine ⟨a, L, n, 64, rfl, upd_same, fun p hp => st_of (eA _ _ (cut_ex _ _ (hmem p (hsub p hp)))), hn, fun p hp => hk _ (hkL p hp), fun L' p hperm hnd hfew hpw hp => ?_⟩
  have hss : (L'.map (·.2)) = ssort kss := by
    refine strict_unique ?_ (ssort_sorted kss) fun z => ?_
    · refine List.pairwise_map.mpr ?_
      have hnd' : L'.Pairwise (fun q r => q.2 ≠ r.2) := List.pairwise_map.mp hnd
      refine (List.Pairwise.and hpw hnd').imp_of_mem fun {q r} hq hr ⟨h1, h2⟩ => ?_
      have k1 := hk _ (hkL q (hperm.mem_iff.mp hq))
      have k2 := hk _ (hkL r (hperm.mem_iff.mp hr))
      rcases Int.lt_or_eq_of_le h1 with h | h
      · exact h
      · exact absurd (code_inj (k1.1.trans k2.1.symm) k1.2 k2.2 h) h2
    · rw [ssort_mem hk]
      constructor
      · intro hz'
        obtain ⟨q, hq, e⟩ := List.mem_map.mp hz'
        rw [← e]
        exact hkL q (hperm.mem_iff.mp hq)
      · intro hz'
        rw [← hz2] at hz'
        obtain ⟨q, hq, e⟩ := List.mem_map.mp hz'
        obtain ⟨r, hr, e2⟩ := List.mem_map.mp (hall q hq)
        exact List.mem_map.mpr ⟨r, hperm.mem_iff.mpr hr, e2.trans e⟩
  rw [← hss] at q
  have eP := eA.trans (Ex.new (o := .lst (L'.map fun q => V.ref q.1)) hp)
  refine q _ _ (e1.trans eP) (.lst (new_at (o.go (e1.trans eA)) hp) (rpa_refs fun r hr => ?_))
  exact cut_mono eP _ _ (hmem r (hsub r (hperm.mem_iff.mp hr)))
end
end G
/-! G9: statements that come to a returned value. -/
namespace G
open PySem PySem.Spec PyProof.Rows L2 Evl
/-- the block returns a value of which R is true -/
def EvS (t : TS) (σ : L2.St) (B : Hp) (R : RelH) : Prop := ∀ F H, Off F B H → ∀ D : Ends, (∀ v H', Ex H H' → R (cut F H') v → D.rt v H') → t D σ H
section
variable {K : PySem.W.Frag} {σ : L2.St} {B : Hp} {te : TE} {tt : TT} {tu tw tz : TS} {R R1 : RelH} {d : D} {b : Bool}
theorem EvS.mono {B' : Hp} {t : TS} (e : Ex B B') (h : EvS t σ B R) : EvS t σ B' R := fun F H o D q => h F H ⟨fun b w z => o.ex b w (e b w z), fun b w z => o.off b w (e b w z), o.dom⟩ D q
theorem e_ret (h : EvR te σ B R) : EvS (tRet te) σ B R := fun F H o D q => h F H o _ q
theorem e_asg {i : Nat} (h : EvR te σ B R1) (k : ∀ v B', Ex B B' → R1 B' v → EvS tz (σ.set i (some v)) B' R) : EvS (tSeq (tAsg te (gName i)) tz) σ B R := fun F H o D q =>
  h F H o _ fun v H1 e1 r1 => k v _ (o.go e1).cut r1 F H1 (o.next e1) D fun u H2 e2 r2 => q u H2 (e1.trans e2) r2
theorem e_asgD {i : Nat} (h : EvD te σ B d) (k : ∀ v B', Ex B B' → Rp B' v d → EvS tz (σ.set i (some v)) B' R) : EvS (tSeq (tAsg te (gName i)) tz) σ B R := e_asg h k
theorem e_if (h : EvB tt σ B b) (h1 : b = true → EvS tu σ B R) (h2 : b = false → EvS tz σ B R) : EvS (tSeq (tIfS tt tu tNext) tz) σ B R := fun F H o D q =>
  h F H o _ fun H1 e1 => by
    cases b with
    | true => exact h1 rfl F H1 (o.go e1) _ fun u H2 e2 r2 => q u H2 (e1.trans e2) r2
    | false => exact h2 rfl F H1 (o.go e1) _ fun u H2 e2 r2 => q u H2 (e1.trans e2) r2
theorem e_ifE (h : EvB tt σ B b) (h1 : b = true → EvS tu σ B R) (h2 : b = false → EvS tw σ B R) : EvS (tIfS tt tu tw) σ B R := fun F H o D q =>
  h F H o _ fun H1 e1 => by
    cases b with
    | true => exact h1 rfl F H1 (o.go e1) _ fun u H2 e2 r2 => q u H2 (e1.trans e2) r2
    | false => exact h2 rfl F H1 (o.go e1) _ fun u H2 e2 r2 => q u H2 (e1.trans e2) r2
theorem as_eq {d d' : D} (h : EvD te σ B d) (e : d = d') : EvD te σ B d' := by rw [← e]; exact h
theorem dop {r : L2.R2} {ta tb : TE} {d1 d2 d : D} (ha : EvD ta σ B d1) (hb : EvD tb σ B d2) (hr : OpD r (rp d1) (rp d2) (rp d)) : EvD (tOp r ta tb) σ B d := d_op (R1 := rp d1) (R2 := rp d2) (R := rp d) (mono_rp d1) ha hb hr
theorem dcb {r : List V → Hp → VK → Prop} {ta : TA} {ds : List D} {d : D} (ha : EvDs ta σ B ds) (hr : CallD r (rps ds) (rp d)) : EvD (tCB r ta) σ B d := d_cb (R := rp d) (RA := rps ds) ha hr
theorem dcall {ta : TA} {pre : Hp → List V → RelH → Prop} {ds : List D} {E : XK} {d : D} (ha : EvDs ta σ B ds) (hp : ∀ B' vs, Ex B B' → RpA B' vs ds → pre B' vs (rp d)) : EvD (tCall (spD pre) [] E ta) σ B d := fun F H o Q q =>
  ha F H o _ fun xs H1 e1 r1 => by
    rw [List.append_nil]
    exact ⟨F, _, _, o.next e1, hp _ _ (o.go e1).cut r1, fun v H2 e2 r2 => q v H2 (e1.trans e2) r2⟩
/-- the body of a pure def -/
theorem fn_run {t : TS} {F : Addr → Prop} {H : Hp} {Q : VK} (h : EvS t σ B R) (o : Off F B H) (q : ∀ v H', Ex H H' → R (cut F H') v → Q v H') : t { nx := fun _ H' => Q .non H', rt := Q } σ H := h F H o _ q
/-- a call of a pure def -/
theorem d_callP {ta : TA} {pre : Hp → List V → RelH → Prop} {RA : RelA} {E : XK} (ha : EvAs ta σ B RA) (hp : ∀ B' vs, Ex B B' → RA B' vs → pre B' vs R) : EvR (tCall (spD pre) [] E ta) σ B R := fun F H o Q q =>
  ha F H o _ fun xs H1 e1 r1 => by
    rw [List.append_nil]
    exact ⟨F, _, R, o.next e1, hp _ _ (o.go e1).cut r1, fun v H2 e2 r2 => q v H2 (e1.trans e2) r2⟩
end
end G
/-! G10: walks over mapped data; a list that a loop extends. -/
namespace G
open PySem PySem.Spec PyProof.Rows L2 Evl
section
variable {K : PySem.W.Frag} {σ : L2.St} {B : Hp} {ta : TA} {te : TE} {α β : Type}
theorem i_enumT' {xs : List α} {e : α → D} (h : EvDs ta σ B [.tuple (xs.map e)]) : EvI (iEnumT K ta) σ B (xs.zipIdx.map fun p => PyData.tuple [.int (p.2 : Nat), e p.1]) := by
  have := i_enumT (K := K) h
  rw [List.zipIdx_map, List.map_map] at this
  exact this
theorem i_enum' {xs : List α} {e : α → D} (h : EvDs ta σ B [.list (xs.map e)]) : EvI (iEnum K ta) σ B (xs.zipIdx.map fun p => PyData.tuple [.int (p.2 : Nat), e p.1]) := by
  have := i_enum (K := K) h
  rw [List.zipIdx_map, List.map_map] at this
  exact this
theorem i_zipT' {xs : List α} {ys : List β} {e : α → D} {f : β → D} (h : EvDs ta σ B [.tuple (xs.map e), .tuple (ys.map f)]) : EvI (RZ.iZipA K ta) σ B ((xs.zip ys).map fun p => PyData.tuple [e p.1, f p.2]) := by
  have := i_zipT (K := K) h
  rw [List.zip_map, List.map_map] at this
  exact this
theorem i_zipL' {xs : List α} {ys : List β} {e : α → D} {f : β → D} (h : EvDs ta σ B [.list (xs.map e), .list (ys.map f)]) : EvI (RZ.iZipA K ta) σ B ((xs.zip ys).map fun p => PyData.tuple [e p.1, f p.2]) := by
  have := i_zipL (K := K) h
  rw [List.zip_map, List.map_map] at this
  exact this
theorem tyV_l {H : Hp} {p : Addr} {xs : List V} (h : H p = some (.lst xs)) : tyV K "list" (.ref p) H := .inl ⟨rfl, _, sq_of h⟩
theorem flatMap_take {xs : List α} {g : α → List D} {i : Nat} (hi : i < xs.length) : (xs.take (i + 1)).flatMap g = (xs.take i).flatMap g ++ g xs[i] := by
  rw [List.take_succ_eq_append_getElem hi, List.flatMap_append, List.flatMap_singleton]
theorem flatMap_le (xs : List α) (g : α → List D) (i : Nat) : ((xs.take i).flatMap g).length ≤ (xs.flatMap g).length := by
  conv => rhs; rw [← List.take_append_drop i xs, List.flatMap_append, List.length_append]
  omega
/-- found = []; for x in ..: found.extend(e); return found -/
theorem e_extend {wi : TI} {i j : Nat} (hij : i ≠ j) (hi : i < σ.length) (xs : List α) (ea : α → D) (g : α → List D) (hz : (xs.flatMap g).length ≤ 100000) (hw : ∀ p, EvI wi (σ.set i (some (.ref p))) B (xs.map ea))
    (ht : ∀ x ∈ xs, ∀ p v B', Ex B B' → Rp B' v (ea x) → EvD te ((σ.set i (some (.ref p))).set j (some v)) B' (.list (g x))) :
    EvS (tSeq (tAsg (tLst tNil) (gName i)) (tSeq (tFor wi (gName j) (tDrop (tBM K "list" rExtend (tVar i) (tCons te tNil)))) (tRet (tVar i)))) σ B (rp (.list (xs.flatMap g))) := by
  intro F H o D' q
  refine ⟨Nat.zero_le _, fun p hp => ?_⟩
  have o1 := o.new (u := .lst []) hp
  show tFor wi (gName j) _ _ _ _
  refine s_for xs ea (hw p) o1 (fun B1 k σ' H' => Off (fun b => F b ∨ b = p) B1 H' ∧ Ex H H' ∧ (σ' = σ.set i (some (.ref p)) ∨ ∃ y, σ' = (σ.set i (some (.ref p))).set j y) ∧ ∃ acc, H' p = some (.lst acc) ∧ RpA (cut (fun b => F b ∨ b = p) H') acc ((xs.take k).flatMap g))
    (fun H1 e1 => ⟨o1.next e1, (Ex.new hp).trans e1, .inl rfl, [], e1 _ _ upd_same, .nil⟩) (fun B1 k σ' H' _ h => h.1) (fun B1 k a v σ' H' H'' eB ha hP eH rv => ?_) (fun B1 σ' H' eB hP => ?_)
  · obtain ⟨oH, eH0, hσ, acc, hacc, ra⟩ := hP
    obtain ⟨hk, rfl⟩ := List.getElem?_eq_some_iff.mp ha
    have hσ' : σ'.set j (some v) = (σ.set i (some (.ref p))).set j (some v) := by
      rcases hσ with rfl | ⟨y, rfl⟩
      · rfl
      · rw [List.set_set]
    show (tBM K "list" rExtend (tVar i) (tCons te tNil)) (σ'.set j (some v)) H'' _
    rw [hσ']
    have o2 := oH.go eH
    have hacc2 := eH _ _ hacc
    refine ⟨.ref p, by rw [List.getElem?_set_ne hij.symm, List.getElem?_set_self hi], tyV_l hacc2, ?_⟩
    have hev := ht xs[k] (List.getElem_mem hk) p v _ ((eB.trans oH.cut).trans (cut_mono eH)) rv
    refine hev _ H'' (oH.next eH) _ fun u H3 e3 ru => ?_
    obtain ⟨b, zs, rfl, hb, rz⟩ := ru.lst_inv
    have hacc3 := e3 _ _ hacc2
    have hlen := flatMap_le xs g (k + 1)
    rw [flatMap_take hk, List.length_append] at hlen
    refine ⟨p, b, acc, zs, rfl, rfl, hacc3, cut_ex _ _ hb, sz_of (by rw [ra.length, rz.length]; omega), ?_⟩
    have eF : Ex H (upd H3 p (.lst (acc ++ zs))) := Ex.mut ((eH0.trans eH).trans e3) hp
    refine ⟨(o2.go e3).upd (Or.inr rfl), eF, .inr ⟨_, rfl⟩, acc ++ zs, upd_same, ?_⟩
    rw [cut_upd (Or.inr rfl), flatMap_take hk]
    exact (ra.mono (cut_mono (eH.trans e3))).append rz
  · obtain ⟨oH, eH0, hσ, acc, hacc, ra⟩ := hP
    rw [List.take_length] at ra
    refine ⟨.ref p, ?_, q _ H' eH0 (.lst (cut_at (o.free hp) hacc) (ra.mono cut_more))⟩
    rcases hσ with rfl | ⟨y, rfl⟩
    · rw [List.getElem?_set_self hi]
    · rw [List.getElem?_set_ne hij.symm, List.getElem?_set_self hi]
end
end G
/-! GA: what stands behind the top; defs by name. -/
namespace G
open PySem PySem.Spec PyProof.Rows L2 Evl
/-- the built-in names stand -/
structure Zs (mg : Str → Option Value) : Prop where
  z_len : mg "len" = none
  z_tuple : mg "tuple" = none
  z_sorted : mg "sorted" = none
  z_set : mg "set" = none
  z_range : mg "range" = none
  z_enumerate : mg "enumerate" = none
  z_zip : mg "zip" = none
  z_sum : mg "sum" = none
  z_all : mg "all" = none
  z_any : mg "any" = none
  z_min : mg "min" = none
  z_max : mg "max" = none
  z_int : mg "int" = none
  z_bool : mg "bool" = none
  z_abs : mg "abs" = none
  z_list : mg "list" = none
  z_dict : mg "dict" = none
  z_repr : mg "repr" = none
  z_isinstance : mg "isinstance" = none
/-- a def that keeps a promise, by its name -/
structure Cal (P : Program) (w : World) (K : PySem.W.Frag) (mg : Str → Option Value) (base : Heap) (k : Nat) (x : Str) (ps : List Str) (dvs : List V) (sp : Sp) where
  f : Addr
  fd : FuncData
  ds : List Value
  ok : FnOk P w K mg base CX0 k f fd ps sp
  m : mg x = some (.ref f)
  kp : PySem.W.keepIn K (.ref f) = true
  b : Binds K fd ps ds
  hv : Vals dvs ds
def Cal.mono {P : Program} {w : World} {K : PySem.W.Frag} {mg : Str → Option Value} {base : Heap} {j k : Nat} {x : Str} {ps : List Str} {dvs : List V} {sp : Sp} (c : Cal P w K mg base j x ps dvs sp) (h : j ≤ k) : Cal P w K mg base k x ps dvs sp := ⟨c.f, c.fd, c.ds, c.ok.mono h, c.m, c.kp, c.b, c.hv⟩
section
variable {σ : L2.St} {B : Hp}
/-- a call with the default 0 -/
theorem dcall0 {ta : TA} {pre : Hp → List V → RelH → Prop} {ds : List D} {E : XK} {d : D} (ha : EvDs ta σ B ds) (hp : ∀ B' vs, Ex B B' → RpA B' vs (ds ++ [.int 0]) → pre B' vs (rp d)) : EvD (tCall (spD pre) [.int 0] E ta) σ B d := fun F H o Q q =>
  ha F H o _ fun xs H1 e1 r1 => ⟨F, _, _, o.next e1, hp _ _ (o.go e1).cut (r1.append (.one (.int 0))), fun v H2 e2 r2 => q v H2 (e1.trans e2) r2⟩
theorem i_rng1' {ta : TA} {n : Int} {m : Nat} (h : EvDs ta σ B [.int n]) (hn : n = (m : Int)) (h2 : m < 1000000) : EvI (iRng1 ta) σ B ((List.range m).map fun i => PyData.int ((i : Nat) : Int)) := by
  have := i_rng1 h (by omega) (by omega)
  rw [hn, Int.toNat_natCast] at this
  exact this
theorem i_rng2' {ta : TA} {a n : Int} {m : Nat} (h : EvDs ta σ B [.int a, .int n]) (hn : n - a = (m : Int)) (h1 : -1000000 < a ∧ a < 1000000) (h2 : m < 1000000) : EvI (iRng2 ta) σ B ((List.range m).map fun i => PyData.int (a + ((i : Nat) : Int))) := by
  have := i_rng2 h (by omega)
  rw [hn, Int.toNat_natCast] at this
  exact this
theorem i_rng2n {ta : TA} {a n : Int} {m : Nat} (h : EvDs ta σ B [.int a, .int n]) (hm : (n - a).toNat = m) (h1 : -1000000 < a ∧ a < 1000000 ∧ -1000000 < n ∧ n < 1000000) : EvI (iRng2 ta) σ B ((List.range m).map fun i => PyData.int (a + ((i : Nat) : Int))) := by
  have := i_rng2 h (by omega)
  rw [hm] at this
  exact this
/-- an empty range -/
theorem i_rng2e {ta : TA} {a n : Int} (h : EvDs ta σ B [.int a, .int n]) (hn : n ≤ a) (h1 : -1000000 < a ∧ a < 1000000) (h2 : -1000000 < n) : EvI (iRng2 ta) σ B ((List.range 0).map fun i => PyData.int (a + ((i : Nat) : Int))) := by
  have := i_rng2 h (by omega)
  rw [show (n - a).toNat = 0 by omega] at this
  exact this
end
end G
/-! GB: the rules with the written part named, so that their readings speak of no context. -/
namespace G
open PySem PySem.Spec PyProof.Rows L2 Evl
section
variable {X : Cx} (K : PySem.W.Frag)
theorem k_ixL (h : X.K = K := by rfl) : IxR X (rIxL K) := h ▸ ix_list
theorem k_ixT (h : X.K = K := by rfl) : IxR X (rIxT K) := h ▸ ix_tup
theorem k_catT (h : X.K = K := by rfl) : OpR X (binaryOp .Add) (rCatA K) := h ▸ op_catA
theorem k_rep (h : X.K = K := by rfl) : OpR X (binaryOp .Mult) (rRepA K) := h ▸ op_repA
theorem k_slT (h : X.K = K := by rfl) : SlR X (rSlA K) := h ▸ sl_tupA
theorem k_slL (h : X.K = K := by rfl) : SlR X (rSlL K) := h ▸ sl_list
theorem k_in (h : X.K = K := by rfl) : OpR X (compareOp .In) (rIn K false) := h ▸ op_in_seq
theorem k_notIn (h : X.K = K := by rfl) : OpR X (compareOp .NotIn) (rIn K true) := h ▸ op_notIn_seq
theorem k_eqD (h : X.K = K := by rfl) (hu : X.A.units + 64 < cLine) : OpR X (compareOp .Eq) (rEqD K) := h ▸ op_eqD hu
theorem k_neD (h : X.K = K := by rfl) (hu : X.A.units + 64 < cLine) : OpR X (compareOp .NotEq) (rNeD K) := h ▸ op_neD hu
theorem k_tuple (h : X.K = K := by rfl) : CallR X (.type "tuple") (rTupleOf K) := h ▸ call_tuple_of
theorem k_list (h : X.K = K := by rfl) : CallR X (.type "list") (rListOf K) := h ▸ call_list_of
theorem k_len (h : X.K = K := by rfl) : CallR X (.builtin "len") (rLenS K) := h ▸ call_len_seq
theorem k_sum (h : X.K = K := by rfl) (hc : X.calm = true) : CallR X (.builtin "sum") (rSum K) := h ▸ cr_sum hc
theorem k_sumT (h : X.K = K := by rfl) (hc : X.calm = true) : CallR X (.builtin "sum") (rSumT K) := h ▸ cr_sumT hc
theorem k_min (h : X.K = K := by rfl) (hc : X.calm = true) : CallR X (.builtin "min") (rMin K) := h ▸ cr_min hc
theorem k_minT (h : X.K = K := by rfl) (hc : X.calm = true) : CallR X (.builtin "min") (rMinT K) := h ▸ cr_minT hc
theorem k_max (h : X.K = K := by rfl) (hc : X.calm = true) : CallR X (.builtin "max") (rMax K) := h ▸ cr_max hc
theorem k_all (h : X.K = K := by rfl) (hc : X.calm = true) : CallR X (.builtin "all") (rAll K) := h ▸ cr_all hc
theorem k_any (h : X.K = K := by rfl) (hc : X.calm = true) : CallR X (.builtin "any") (rAny K) := h ▸ cr_any hc
theorem k_sort (h : X.K = K := by rfl) : CallR X (.builtin "sorted") (rSortedI K) := h ▸ cr_sortedI
theorem k_sortT (h : X.K = K := by rfl) : CallR X (.builtin "sorted") (rSortTI K) := h ▸ cr_sortTI
theorem k_isi (h : X.K = K := by rfl) : CallR X (.builtin "isinstance") (rIsi K) := h ▸ call_isi
theorem k_iList (h : X.K = K := by rfl) {tg l : Expr} {tl : TE} (hl : PE X l tl) : PI X tg l (iList K tl) := h ▸ pi_list hl
theorem k_iTup (h : X.K = K := by rfl) {tg l : Expr} {tl : TE} (hl : PE X l tl) : PI X tg l (iTup K tl) := h ▸ pi_tup hl
theorem k_pg (h : X.K = K := by rfl) {es : List Expr} {k : Nat} {t : TGs} {n : Nat} {pos : Pos} (hc : X.calm = true) (hs : PGs X es t)
    (hn : (assignEach es X.env).length = n := by rfl) (hst : (assignEach es X.env).findIdx? (·.1) = none := by rfl) : PG X (.Tuple es k pos) (gTup K n t) := h ▸ pg_tup hc hs hn hst
end
section
variable {X : Cx} (K : PySem.W.Frag) {e : Expr} {ta : TA} {p pos tpos : Pos} {elts : List Expr} {kk : Nat}
theorem k_enum (hg : Gl X "enumerate") (hm : X.mg "enumerate" = none) (ha : PA X [e] ta) (h : X.K = K := by rfl) (hs : starEach [e] X.env = [(false, eval e X.env)] := by rfl) :
    PI X (.Tuple elts kk tpos) (.Call (.Name "enumerate" p) [e] [] pos) (iEnum K ta) := h ▸ pi_enum hg hm ha hs
theorem k_enumT (hg : Gl X "enumerate") (hm : X.mg "enumerate" = none) (ha : PA X [e] ta) (h : X.K = K := by rfl) (hs : starEach [e] X.env = [(false, eval e X.env)] := by rfl) :
    PI X (.Tuple elts kk tpos) (.Call (.Name "enumerate" p) [e] [] pos) (iEnumT K ta) := h ▸ pi_enumT hg hm ha hs
theorem k_zip {e2 : Expr} (hg : Gl X "zip") (hm : X.mg "zip" = none) (ha : PA X [e, e2] ta) (h : X.K = K := by rfl)
    (hs : starEach [e, e2] X.env = (false, eval e X.env) :: starEach [e2] X.env := by rfl) (hpl : (backTo pos (starEach [e2] X.env)).any (·.1) = false := by rfl) :
    PI X (.Tuple elts kk tpos) (.Call (.Name "zip" p) [e, e2] [] pos) (RZ.iZipA K ta) := h ▸ RZ.pi_zipA hg hm ha hs hpl
end
section
variable {X : Cx} (K : PySem.W.Frag) (P : Program) (w : World)
theorem k_set (h : X.K = K := by rfl) (h2 : X.prog = P := by rfl) (h3 : X.w = w := by rfl) (hc : X.calm = true) (hu : X.A.units + 64 < cLine) : CallR X (.type "set") (rSetOfT K P w) := by
  subst h h2 h3
  exact cr_setOfT hc hu
theorem k_sortS (h : X.K = K := by rfl) (h2 : X.prog = P := by rfl) (h3 : X.w = w := by rfl) (hc : X.calm = true) : CallR X (.builtin "sorted") (rSortedT K P w) := by
  subst h h2 h3
  exact cr_sortedT hc
end
section
variable {X : Cx} (K : PySem.W.Frag) {T name id : String} {r : V → List V → Hp → VK → Prop} {o e : Expr} {es : List Expr} {to : TE} {t : TA} {apos cpos : Pos}
theorem k_bm (pa : PlainAttrs T) (slot : Slot T name id) (hty : typeOf (.builtin id) = pure (.type "method_descriptor")) (hm : MtR X id r) (ho : PE X o to) (ha : PA X (e :: es) t) (h : X.K = K := by rfl)
    (hbase : attributeBase o name X.env (eval o X.env) = eval o X.env := by rfl)
    (hfew : ((backTo cpos (starEach (e :: es) X.env)).all (fun x => !x.1) && (backToKw cpos (keywordEach [] X.env)).all (fun x => x.1.isSome)
      && decide ((e :: es).length + ([] : List Keyword).length + (if ([] : List Keyword).isEmpty then 0 else 1) < 30)) = true := by rfl)
    (hline : (apos.endLine == cpos.line) = true := by rfl) (hs : starEach (e :: es) X.env = (false, eval e X.env) :: starEach es X.env := by rfl) (hplain : (backTo cpos (starEach es X.env)).any (·.1) = false := by rfl) :
    PE X (.Call (.Attribute o name apos) (e :: es) [] cpos) (tBM K T r to t) := h ▸ pe_bm pa slot hty hm ho ha hbase hfew hline hs hplain
end
end G
/-! GC: dicts whose keys are tuples of ints, their values data. -/
namespace G
open PySem PySem.Spec PyProof.Rows L2 Evl
def isSeq : HO → Bool
  | .lst _ => true
  | .tup _ => true
  | _ => false
mutual
theorem Rp.avoid {F : Addr → Prop} {B : Hp} (hF : ∀ b, F b → ∀ u, B b = some u → isSeq u = false) : ∀ {v : V} {d : D}, Rp B v d → Rp (cut F B) v d
  | _, _, .non => .non
  | _, _, .bl b => .bl b
  | _, _, .int i => .int i
  | _, _, .str x => .str x
  | _, _, .lst h a => .lst (cut_at (fun z => by cases hF _ z _ h) h) (RpA.avoid hF a)
  | _, _, .tup h a => .tup (cut_at (fun z => by cases hF _ z _ h) h) (RpA.avoid hF a)
theorem RpA.avoid {F : Addr → Prop} {B : Hp} (hF : ∀ b, F b → ∀ u, B b = some u → isSeq u = false) : ∀ {vs : List V} {ds : List D}, RpA B vs ds → RpA (cut F B) vs ds
  | _, _, .nil => .nil
  | _, _, .cons h a => .cons (Rp.avoid hF h) (RpA.avoid hF a)
end
theorem cut_cut {F : Addr → Prop} {H : Hp} {p : Addr} : cut (fun b => b = p) (cut F H) = cut (fun b => F b ∨ b = p) H := by
  funext b
  unfold cut
  by_cases h1 : b = p
  · rw [if_pos h1, if_pos (Or.inr h1)]
  · rw [if_neg h1]
    by_cases h2 : F b
    · rw [if_pos h2, if_pos (Or.inl h2)]
    · rw [if_neg h2, if_neg (fun z => Or.elim z h2 h1)]
/-- data does not stand at a thing that is no list and no tuple -/
theorem Rp.addF {F : Addr → Prop} {H : Hp} {p : Addr} {u : HO} {v : V} {d : D} (h : H p = some u) (hu : isSeq u = false) (r : Rp (cut F H) v d) : Rp (cut (fun b => F b ∨ b = p) H) v d := by
  rw [← cut_cut]
  exact r.avoid fun b e w hw => by
    rw [e] at hw
    rw [cut_ex _ _ hw] at h
    cases h
    exact hu
theorem RpA.addF {F : Addr → Prop} {H : Hp} {p : Addr} {u : HO} {v : List V} {d : List D} (h : H p = some u) (hu : isSeq u = false) (r : RpA (cut F H) v d) : RpA (cut (fun b => F b ∨ b = p) H) v d := by
  rw [← cut_cut]
  exact r.avoid fun b e w hw => by
    rw [e] at hw
    rw [cut_ex _ _ hw] at h
    cases h
    exact hu

/-! ### tables -/
abbrev kI (ks : List Int) : List Key := ks.map Sum.inl
theorem kI_inj {a b : List Int} (h : kI a = kI b) : a = b := by
  induction a generalizing b with
  | nil => cases b with
    | nil => rfl
    | cons y b => cases h
  | cons x a ih => cases b with
    | nil => cases h
    | cons y b =>
      have h' : Sum.inl x :: kI a = Sum.inl y :: kI b := h
      injection h' with h1 h2
      rw [Sum.inl.inj h1, ih h2]
theorem kV_kI (ks : List Int) : (kI ks).map kV = ks.map V.int := by
  rw [List.map_map]
  rfl
/-- what a dict holds, as data -/
abbrev RpT (B : Hp) : List (List Key × V) → List (List Int × D) → Prop := Paired fun kv r => kv.1 = kI r.1 ∧ Rp B kv.2 r.2
theorem RpT.mono {B B' : Hp} {kvs : List (List Key × V)} {l : List (List Int × D)} (e : Ex B B') (h : RpT B kvs l) : RpT B' kvs l := Paired.mapP h fun _ _ z => ⟨z.1, z.2.mono e⟩
theorem RpT.addF {F : Addr → Prop} {H : Hp} {p : Addr} {u : HO} {kvs : List (List Key × V)} {l : List (List Int × D)} (h : H p = some u) (hu : isSeq u = false) (r : RpT (cut F H) kvs l) : RpT (cut (fun b => F b ∨ b = p) H) kvs l :=
  Paired.mapP r fun _ _ z => ⟨z.1, z.2.addF h hu⟩
def look {α : Type} (l : List (List Int × α)) (ks : List Int) : Option α := (l.find? fun r => decide (r.1 = ks)).map (·.2)
theorem RpT.val {B : Hp} {kvs : List (List Key × V)} {l : List (List Int × D)} (r : RpT B kvs l) (ks : List Int) : (∀ d, look l ks = some d → ∃ v, valV kvs (kI ks) = some v ∧ Rp B v d) ∧ (look l ks = none → valV kvs (kI ks) = none) := by
  induction r with
  | nil => exact ⟨fun d h => (by cases h), fun _ => rfl⟩
  | @cons p q ps qs h t ih =>
    by_cases e : q.1 = ks
    · have e1 : p.1 = kI ks := by rw [h.1, e]
      have e2 : look (q :: qs) ks = some q.2 := by simp [look, List.find?_cons, e]
      rw [valV_pos e1, e2]
      exact ⟨fun d z => by cases z; exact ⟨_, rfl, h.2⟩, fun z => (by cases z)⟩
    · have e1 : ¬ p.1 = kI ks := fun z => e (kI_inj (h.1.symm.trans z))
      have e2 : look (q :: qs) ks = look qs ks := by simp [look, List.find?_cons, e]
      rw [valV_neg e1, e2]
      exact ih
theorem RpT.some' {B : Hp} {kvs : List (List Key × V)} {l : List (List Int × D)} (r : RpT B kvs l) (ks : List Int) : (valV kvs (kI ks)).isSome = (look l ks).isSome := by
  cases e : look l ks with
  | none => rw [(r.val ks).2 e] <;> rfl
  | some d =>
    obtain ⟨v, h, _⟩ := (r.val ks).1 d e
    rw [h]
    rfl
theorem RpT.snoc {B : Hp} {kvs : List (List Key × V)} {l : List (List Int × D)} (r : RpT B kvs l) {ks : List Int} {v : V} {d : D} (h : Rp B v d) : RpT B (kvs ++ [(kI ks, v)]) (l ++ [(ks, d)]) := Paired.snoc r ⟨rfl, h⟩
theorem RpT.length {B : Hp} {kvs : List (List Key × V)} {l : List (List Int × D)} (r : RpT B kvs l) : kvs.length = l.length := Paired.length r
theorem RpT.drop {B : Hp} {kvs : List (List Key × V)} {l : List (List Int × D)} (r : RpT B kvs l) (ks : List Int) : RpT B (dropK kvs (kI ks)) (l.filter fun q => decide (q.1 ≠ ks)) := by
  induction r with
  | nil => exact .nil
  | @cons p q ps qs h t ih =>
    by_cases e : q.1 = ks
    · have e1 : p.1 = kI ks := by rw [h.1, e]
      rw [dropK_pos e1, List.filter_cons, if_neg (by simp [e])]
      exact ih
    · have e1 : ¬ p.1 = kI ks := fun z => e (kI_inj (h.1.symm.trans z))
      rw [dropK_neg e1, List.filter_cons, if_pos (by simp [e])]
      exact .cons h ih
/-- v is a dict of this -/
def rd (l : List (List Int × D)) : RelH := fun B v => ∃ p kvs, v = .ref p ∧ B p = some (.dT kvs) ∧ RpT B kvs l
theorem mono_rd (l : List (List Int × D)) : Mono (rd l) := fun e ⟨p, kvs, h1, h2, h3⟩ => ⟨p, kvs, h1, e _ _ h2, h3.mono e⟩
section
variable {K : PySem.W.Frag} {σ : L2.St} {B : Hp} {te td tx tv tk : TE} {ks : List Int} {l : List (List Int × D)} {d : D} {R : RelH}
theorem dget_t {H : Hp} {p q : Addr} {kvs : List (List Key × V)} (h : H p = some (.dT kvs)) (hq : H q = some (.tup (ks.map V.int))) : DGet H p (.ref q) (valV kvs (kI ks)) := DGet.t h (by rw [kV_kI]; exact hq)
/-- k in d, k not in d -/
theorem d_din (hk : EvD te σ B (tI ks)) (hd : EvR td σ B (rd l)) : EvD (tDIn te td) σ B (.bool (look l ks).isSome) := fun F H o Q q =>
  hk F H o _ fun v H1 e1 r1 => hd F H1 (o.go e1) _ fun x H2 e2 r2 => by
    obtain ⟨p, kvs, rfl, hp, rt⟩ := r2
    obtain ⟨a, rfl, ha⟩ := r1.tI_inv
    refine ⟨p, _, rfl, dget_t (cut_ex _ _ hp) (e2 _ _ (cut_ex _ _ ha)), ?_⟩
    rw [rt.some']
    exact q _ H2 (e1.trans e2) (.bl _)
theorem d_dnotin (hk : EvD te σ B (tI ks)) (hd : EvR td σ B (rd l)) : EvD (tDNotIn te td) σ B (.bool (!(look l ks).isSome)) := fun F H o Q q =>
  hk F H o _ fun v H1 e1 r1 => hd F H1 (o.go e1) _ fun x H2 e2 r2 => by
    obtain ⟨p, kvs, rfl, hp, rt⟩ := r2
    obtain ⟨a, rfl, ha⟩ := r1.tI_inv
    refine ⟨p, _, rfl, dget_t (cut_ex _ _ hp) (e2 _ _ (cut_ex _ _ ha)), ?_⟩
    rw [rt.some']
    exact q _ H2 (e1.trans e2) (.bl _)
/-- d.get(k), d.get(k, x), d[k] -/
theorem d_dget1 (hd : EvR td σ B (rd l)) (hk : EvD te σ B (tI ks)) : EvD (tDGet1 td te) σ B ((look l ks).getD .none) := fun F H o Q q =>
  hd F H o _ fun x H1 e1 r1 => by
    obtain ⟨p, kvs, rfl, hp, rt⟩ := r1
    refine ⟨p, rfl, .inr ⟨kvs, .inl (cut_ex _ _ hp)⟩, hk F H1 (o.go e1) _ fun v H2 e2 r2 => ?_⟩
    obtain ⟨a, rfl, ha⟩ := r2.tI_inv
    refine ⟨_, dget_t (e2 _ _ (cut_ex _ _ hp)) (cut_ex _ _ ha), ?_⟩
    cases e : look l ks with
    | none =>
      rw [e] at q
      rw [(rt.val ks).2 e]
      exact q _ H2 (e1.trans e2) .non
    | some d =>
      rw [e] at q
      obtain ⟨v, hv, rv⟩ := (rt.val ks).1 d e
      rw [hv]
      exact q _ H2 (e1.trans e2) (rv.mono (cut_mono e2))
theorem d_dget2 (hd : EvR td σ B (rd l)) (hk : EvD te σ B (tI ks)) (hx : EvD tx σ B d) : EvD (tDGet2 td te tx) σ B ((look l ks).getD d) := fun F H o Q q =>
  hd F H o _ fun x H1 e1 r1 => by
    obtain ⟨p, kvs, rfl, hp, rt⟩ := r1
    refine ⟨p, rfl, .inr ⟨kvs, .inl (cut_ex _ _ hp)⟩, hk F H1 (o.go e1) _ fun v H2 e2 r2 => hx F H2 (o.go (e1.trans e2)) _ fun z H3 e3 r3 => ?_⟩
    obtain ⟨a, rfl, ha⟩ := r2.tI_inv
    refine ⟨_, dget_t (e3 _ _ (e2 _ _ (cut_ex _ _ hp))) (e3 _ _ (cut_ex _ _ ha)), ?_⟩
    cases e : look l ks with
    | none =>
      rw [e] at q
      rw [(rt.val ks).2 e]
      exact q _ H3 ((e1.trans e2).trans e3) r3
    | some d =>
      rw [e] at q
      obtain ⟨v, hv, rv⟩ := (rt.val ks).1 d e
      rw [hv]
      exact q _ H3 ((e1.trans e2).trans e3) (rv.mono (cut_mono (e2.trans e3)))
theorem d_dget (hd : EvR td σ B (rd l)) (hk : EvD te σ B (tI ks)) (h : look l ks = some d) : EvD (tDGet td te) σ B d := fun F H o Q q =>
  hd F H o _ fun x H1 e1 r1 => by
    obtain ⟨p, kvs, rfl, hp, rt⟩ := r1
    refine hk F H1 (o.go e1) _ fun v H2 e2 r2 => ?_
    obtain ⟨a, rfl, ha⟩ := r2.tI_inv
    obtain ⟨v, hv, rv⟩ := (rt.val ks).1 d h
    exact ⟨p, v, rfl, by rw [← hv]; exact dget_t (e2 _ _ (cut_ex _ _ hp)) (cut_ex _ _ ha), q _ H2 (e1.trans e2) (rv.mono (cut_mono e2))⟩
/-- a new object -/
def EvN (te : TE) (σ : L2.St) (B : Hp) (R : RelH) : Prop := ∀ F H, Off F B H → ∀ Q : VK, (∀ p H', H p = none → Ex H H' → R (cut F H') (.ref p) → Q (.ref p) H') → te σ H Q
theorem EvN.ev (h : EvN te σ B R) : EvR te σ B R := fun F H o Q q => h F H o Q fun p H' _ e r => q _ H' e r
/-- {k: v for ..}: each key once -/
theorem d_dcT {α : Type} {wi : TI} {g : TG} {tt : TT} {vs : List Nat} (xs : List α) (ea : α → D) (p : α → Bool) (key : α → List Int) (val : α → D) (hz : xs.length ≤ 100000) (hi : EvI wi σ B (xs.map ea)) (hnd : (xs.map key).Nodup)
    (ht : ∀ a ∈ xs, ∀ v B', Ex B B' → Rp B' v (ea a) → ∃ σ2, TgOk g v (wipe σ vs) σ2 B' ∧ wipe σ2 vs = wipe σ vs ∧ EvB tt σ2 B' (p a) ∧ (p a = true → EvD tk σ2 B' (tI (key a)) ∧ EvD tv σ2 B' (val a))) :
    EvN (tDcT wi g tt tk tv vs) σ B (rd ((xs.filter p).map fun a => (key a, val a))) := by
  intro F H0 o Q q
  refine hi F H0 o _ fun J H1 e1 ok Dl hD => ?_
  have o1 : Off F (cut F H1) H1 := o.next e1
  have hB1 : cut F H1 Dl = none := by
    cases z : cut F H1 Dl with
    | none => rfl
    | some u => rw [cut_ex _ _ z] at hD; cases hD
  have nF : ¬ F Dl := o1.free hD
  refine ⟨fun i m H => m = xs.length - i ∧ i ≤ xs.length ∧ Ex H1 H ∧ ∃ acc, H Dl = some (.dT acc) ∧ RpT (cut (fun b => F b ∨ b = Dl) H) acc (((xs.take i).filter p).map fun a => (key a, val a)), ⟨_, rfl, Nat.zero_le _, Ex.new hD, [], upd_same, by simpa using Paired.nil⟩, ?_⟩
  rintro i m H ⟨rfl, hle, eH, acc, hacc, ra⟩
  have oH : Off (fun b => F b ∨ b = Dl) (cut F H1) H := (o1.go eH).add hB1 hacc
  by_cases hlt : i < xs.length
  · have hg := ok.go _ H i (ea xs[i]) oH (by rw [List.getElem?_map, List.getElem?_eq_getElem hlt]; rfl)
    refine .inr ⟨hg.1, fun H' => i + 1 ≤ xs.length ∧ Ex H1 H' ∧ ∃ acc, H' Dl = some (.dT acc) ∧ RpT (cut (fun b => F b ∨ b = Dl) H') acc (((xs.take (i + 1)).filter p).map fun a => (key a, val a)), fun H' n => ⟨xs.length - (i + 1), by omega, rfl, n⟩, fun x H' y => ?_⟩
    obtain ⟨eH', rx⟩ := hg.2 x H' y
    have oH' := oH.next eH'
    obtain ⟨σ2, htg, hw, htt, hte⟩ := ht xs[i] (List.getElem_mem hlt) x _ (o.cut.trans ((cut_mono e1).trans (cut_less (F := F) hD (eH.trans eH')))) rx
    refine htg _ H' oH' _ ⟨hw, htt _ H' oH' _ fun H2 e2 => ?_⟩
    have hacc2 : H2 Dl = some (.dT acc) := e2 _ _ (eH' _ _ hacc)
    have ex2 : Ex H1 H2 := (eH.trans eH').trans e2
    rw [take_filter hlt]
    cases hp : p xs[i] with
    | true =>
      obtain ⟨hk, hv⟩ := hte hp
      refine hk _ H2 (oH'.go e2) _ fun kk H3 e3 rk => hv _ H3 (oH'.go (e2.trans e3)) _ fun vv H4 e4 rv => ?_
      obtain ⟨b, rfl, hb⟩ := rk.tI_inv
      have hacc4 : H4 Dl = some (.dT acc) := e4 _ _ (e3 _ _ hacc2)
      have hlen : acc.length < sizeLine := by
        refine sz_lt ?_
        rw [ra.length, List.length_map]
        exact Nat.lt_of_le_of_lt (List.length_filter_le _ _) (Nat.lt_of_lt_of_le (by rw [List.length_take]; omega) hz)
      have hno : valV acc (kI (key xs[i])) = none := by
        refine (ra.val _).2 ?_
        cases hc : look (((xs.take i).filter p).map fun a => (key a, val a)) (key xs[i]) with
        | none => rfl
        | some d0 =>
          exfalso
          unfold look at hc
          obtain ⟨r, hr, _⟩ := Option.map_eq_some_iff.mp hc
          have hr1 := List.mem_of_find?_eq_some hr
          have hr2 : r.1 = key xs[i] := by simpa using List.find?_some hr
          obtain ⟨a, ha, rfl⟩ := List.mem_map.mp hr1
          have ha' := (List.mem_filter.mp ha).1
          obtain ⟨j, hj⟩ := List.mem_iff_getElem?.mp ha'
          have hji : j < i := by
            have := (List.getElem?_eq_some_iff.mp hj).1
            rw [List.length_take] at this
            omega
          rw [List.getElem?_take_of_lt hji] at hj
          have h1 : (xs.map key)[j]? = some (key a) := by rw [List.getElem?_map, hj]; rfl
          have h2 : (xs.map key)[i]? = some (key xs[i]) := by rw [List.getElem?_map, List.getElem?_eq_getElem hlt]; rfl
          have := (List.getElem?_inj (i := j) (j := i) (by rw [List.length_map]; omega) hnd).mp (by rw [h1, h2, show key a = key xs[i] from hr2])
          omega
      refine ⟨acc, kI (key xs[i]), b, rfl, by rw [kV_kI]; exact e4 _ _ (cut_ex _ _ hb), hacc4, hlen, hlt, Ex.mut ((ex2.trans e3).trans e4) hD, _, upd_same, ?_⟩
      rw [cut_upd (Or.inr rfl), if_pos rfl, putK_new _ hno]
      exact (ra.mono (cut_mono (((eH'.trans e2).trans e3).trans e4))).snoc rv
    | false =>
      refine ⟨hlt, ex2, acc, hacc2, ?_⟩
      rw [if_neg (by decide), List.append_nil]
      exact ra.mono (cut_mono (eH'.trans e2))
  · have hi' : i = xs.length := by omega
    subst hi'
    rw [List.take_length] at ra
    exact .inl ⟨ok.stop _ H _ oH (by rw [List.length_map]; exact Nat.le_refl _), q _ H (fresh_back e1 hD) (e1.trans eH) ⟨Dl, acc, rfl, cut_at nF hacc, ra.mono cut_more⟩⟩
/-- the items of a locked dict -/
def rfz (l : List (List Int × D)) : RelH := fun B v => ∃ p o kvs, v = .ref p ∧ B p = some (.frz o (.dT kvs)) ∧ RpT B kvs l
theorem i_items (hd : EvR td σ B (rfz l)) : EvI (iItemsT td) σ B (l.map fun r => PyData.tuple [tI r.1, r.2]) := fun F H o R q => hd F H o _ fun x H1 e1 r1 => by
  obtain ⟨p, ob, kvs, rfl, hp, rt⟩ := r1
  refine ⟨p, ob, kvs, rfl, cut_ex _ _ hp, q _ H1 e1 ⟨fun F' H' i d o' hd => ?_, fun F' H' i o' hi => ⟨o'.ex _ _ hp, by rw [rt.length]; simpa using hi⟩⟩⟩
  rw [List.getElem?_map] at hd
  cases he : l[i]? with
  | none => rw [he] at hd; cases hd
  | some r0 =>
    rw [he] at hd
    cases hd
    have hi : i < l.length := (List.getElem?_eq_some_iff.mp he).1
    refine ⟨⟨o'.ex _ _ hp, by rw [rt.length]; exact hi⟩, fun x' H'' y => ?_⟩
    obtain ⟨T, k, v, a, hk, rfl, hT, ha, rfl⟩ := y
    have z : k = kI r0.1 ∧ Rp (cut F H1) v r0.2 := by
      obtain ⟨b, hb, e1, e2⟩ := paired_get rt hk
      rw [he] at hb
      cases hb
      exact ⟨e1, e2⟩
    obtain ⟨rfl, rv⟩ := z
    rw [kV_kI] at ha
    exact pair_new o' hT (.tI_mk (cut_at (o'.tupOff ha) ha)) (rv.mono o'.cut)
end
end G
/-! GD: further words. -/
namespace G
open PySem PySem.Spec PyProof.Rows L2 Evl
theorem Off.sub {F : Addr → Prop} {B H : Hp} {p : Addr} (o : Off (fun b => F b ∨ b = p) B H) : Off F B H := ⟨o.ex, fun b u h z => o.off b u h (Or.inl z), fun b z => o.dom b (Or.inl z)⟩
theorem Off.of {F : Addr → Prop} {H : Hp} (d : ∀ b, F b → ∃ u, H b = some u ∧ isTup u = false) : Off F (G.cut F H) H := ⟨fun b u h => cut_ex _ _ h, fun b u h => (cut_some.mp h).1, d⟩
theorem lay_ints : ∀ ns : List Int, PyData.canLayAll0 (ns.map PyData.int) = true ∧ PyData.depthAll (ns.map PyData.int) = 0
  | [] => ⟨rfl, rfl⟩
  | n :: ns => by
    obtain ⟨h1, h2⟩ := lay_ints ns
    exact ⟨by rw [List.map_cons, PyData.canLayAll0, h1]; rfl, by rw [List.map_cons, PyData.depthAll, h2]; rfl⟩
theorem lay_tIs : ∀ l : List (List Int), PyData.canLayAll0 (l.map tI) = true ∧ PyData.depthAll (l.map tI) ≤ 1
  | [] => ⟨rfl, Nat.zero_le _⟩
  | x :: l => by
    obtain ⟨h1, h2⟩ := lay_tIs l
    obtain ⟨a, b⟩ := lay_ints x
    have c : (tI x).canLay0 = true := by show PyData.canLay0 (.tuple _) = true; rw [PyData.canLay0]; exact a
    have e : (tI x).depth = 1 := by show PyData.depth (.tuple _) = 1; rw [PyData.depth, b]
    exact ⟨by rw [List.map_cons, PyData.canLayAll0, h1, c]; rfl, by rw [List.map_cons, PyData.depthAll, e]; omega⟩
theorem shaped_tI (l : List (List Int)) : SeqAt.shaped (.list (l.map tI)) = true := by
  obtain ⟨h1, h2⟩ := lay_tIs l
  unfold SeqAt.shaped
  rw [PyData.canLay0, PyData.depth, h1]
  simp
  omega
theorem shaped_tup (ns : List Int) : SeqAt.shaped (tI ns) = true := by
  obtain ⟨h1, h2⟩ := lay_ints ns
  show SeqAt.shaped (.tuple _) = true
  unfold SeqAt.shaped
  rw [PyData.canLay0, PyData.depth, h1, h2]
  rfl
section
variable {σ : L2.St} {B : Hp} {ta : TA} {tz : TS} {R : RelH} {d1 d2 : D}
theorem e_par {i j : Nat} (h : EvDs ta σ B [d1, d2]) (k : ∀ v w B', Ex B B' → Rp B' v d1 → Rp B' w d2 → EvS tz ((σ.set i (some v)).set j (some w)) B' R) : EvS (tSeq (tPar i j ta) tz) σ B R := fun F H o D q =>
  h F H o _ fun vs H1 e1 r1 => by
    obtain ⟨x, y, rfl, rx, ry⟩ := rpa2 r1
    exact ⟨x, y, rfl, k x y _ (o.go e1).cut rx ry F H1 (o.next e1) D fun u H2 e2 r2 => q u H2 (e1.trans e2) r2⟩
end
end G
/-! GE: the rounds of numbers_of. -/
namespace G
open PySem PySem.Spec PyProof.Rows L2 Evl
abbrev lT (l : List (List Int)) : D := .list (l.map tI)
abbrev Tab := List (List Int × Int)
abbrev Lef := List (List Int × List (List (List Int)))
abbrev knD (kn : Tab) : List (List Int × D) := kn.map fun r => (r.1, PyData.int r.2)
abbrev lfD (lf : Lef) : List (List Int × D) := lf.map fun r => (r.1, PyData.list (r.2.map lT))
theorem look_map {α β : Type} (f : α → β) : ∀ (l : List (List Int × α)) (ks : List Int), look (l.map fun r => (r.1, f r.2)) ks = (look l ks).map f
  | [], ks => rfl
  | r :: l, ks => by
    have ih := look_map f l ks
    by_cases e : r.1 = ks
    · simp [look, List.find?_cons, e]
    · simp only [look, List.map_cons, List.find?_cons, e, decide_false] at ih ⊢
      exact ih
theorem look_append {α : Type} (l m : List (List Int × α)) (ks : List Int) (h : look l ks = none) : look (l ++ m) ks = look m ks := by
  induction l with
  | nil => rfl
  | cons r l ih =>
    by_cases e : r.1 = ks
    · simp [look, List.find?_cons, e] at h
    · simp only [look, List.cons_append, List.find?_cons, e, decide_false] at h ih ⊢
      exact ih h
theorem look_none {α : Type} {l : List (List Int × α)} {ks : List Int} : look l ks = none ↔ ks ∉ l.map (·.1) := by
  unfold look
  rw [Option.map_eq_none_iff, List.find?_eq_none]
  simp only [decide_eq_true_eq, List.mem_map, not_exists, not_and]
def lostB (kn : Tab) (r : List Int × List (List (List Int))) : Bool := r.2.any fun lot => lot.all fun one => (look kn one).isSome
def lostM (kn : Tab) (lf : Lef) : List (List Int) := (lf.filter (lostB kn)).map (·.1)
def loopM : Nat → Tab → Lef → Int → Tab
  | 0, kn, _, _ => kn
  | f + 1, kn, lf, tk => if lostM kn lf = [] then kn else loopM f (kn ++ (lostM kn lf).map (·, tk + 1)) (lf.filter fun r => decide (r.1 ∉ lostM kn lf)) (tk + 1)
theorem lost_nodup {kn : Tab} {lf : Lef} (h : (lf.map (·.1)).Nodup) : (lostM kn lf).Nodup := h.sublist (List.Sublist.map _ List.filter_sublist)
theorem lost_mem {kn : Tab} {lf : Lef} {k : List Int} (h : k ∈ lostM kn lf) : k ∈ lf.map (·.1) := by
  obtain ⟨r, hr, rfl⟩ := List.mem_map.mp h
  exact List.mem_map.mpr ⟨r, (List.mem_filter.mp hr).1, rfl⟩
theorem count_le {kn : Tab} {lf : Lef} : (lf.filter fun r => decide (r.1 ∉ lostM kn lf)).length + (lostM kn lf).length ≤ lf.length := by
  have h1 : (lf.filter fun r => decide (r.1 ∉ lostM kn lf)).length ≤ (lf.filter fun r => !lostB kn r).length := by
    rw [← List.countP_eq_length_filter, ← List.countP_eq_length_filter]
    refine List.countP_mono_left fun r hr h => ?_
    cases e : lostB kn r with
    | false => rfl
    | true => exact absurd (List.mem_map.mpr ⟨r, List.mem_filter.mpr ⟨hr, e⟩, rfl⟩) (of_decide_eq_true h)
  have h2 : (lf.filter (lostB kn)).length + (lf.filter fun r => !lostB kn r).length = lf.length := by
    rw [← List.countP_eq_length_filter, ← List.countP_eq_length_filter]
    have := List.length_eq_countP_add_countP (lostB kn) (l := lf)
    simp only [decide_not, Bool.decide_eq_true] at this
    exact this.symm
  have h3 : (lostM kn lf).length = (lf.filter (lostB kn)).length := List.length_map _
  omega
theorem eqv_nil (l : List D) : PyData.eqv (.list l) (.list []) = l.isEmpty := by
  cases l <;> rfl
theorem Ex.two {H0 H1 H2 H' : Hp} {p q : Addr} (e1 : Ex H0 H1) (e2 : Ex H1 H2) (hp : H0 p = none) (hq : H1 q = none) (a : ∀ b u, b ≠ p → b ≠ q → H2 b = some u → H' b = some u) : Ex H0 H' := fun b u h =>
  a b u (fun z => by rw [z, hp] at h; cases h) (fun z => by rw [z] at h; rw [e1 _ _ h] at hq; cases hq) (e2 _ _ (e1 _ _ h))
/-- the test of one row -/
theorem ev_lost {K : PySem.W.Frag} {a0 a1 a2 a3 a5 a6 a7 a8 a9 a10 a12 a13 : Option V} {B : Hp} {kn : Tab} {r : List Int × List (List (List Int))} {p4 : Addr} {v : V} (rk : rd (knD kn) B (.ref p4)) (rv : Rp B v (.list (r.2.map lT)))
    (hb : r.2.length ≤ 100000) (hb2 : ∀ lot ∈ r.2, lot.length ≤ 100000) :
    EvB (tB (tCB (rAny K) (tCons (tLc (iList K (tVar 11)) (gName 12) tYes (tCB (rAll K) (tCons (tLc (iList K (tVar 12)) (gName 13) tYes (tDIn (tVar 13) (tVar 4)) [13]) tNil)) [12]) tNil))) [a0, a1, a2, a3, some (.ref p4), a5, a6, a7, a8, a9, a10, some v, a12, a13] B (lostB kn r) := by
  refine b_val (as_eq (dcb (d_cons (as_eq (d_lc r.2 lT (fun lot => .bool (lot.all fun one => (look kn one).isSome)) hb (i_list (d_v rv)) fun lot hlot v12 B1 e1 r12 => ?_) (d' := .list ((r.2.map fun lot => lot.all fun one => (look kn one).isSome).map PyData.bool)) (by rw [List.map_map]; rfl)) d_nil) c_any) ?_)
  · refine ⟨_, tg_name, rfl, ?_⟩
    refine as_eq (dcb (d_cons (as_eq (d_lc lot tI (fun one => .bool (look kn one).isSome) (hb2 lot hlot) (i_list (d_v r12)) fun one hone v13 B2 e2 r13 => ?_) (d' := .list ((lot.map fun one => (look kn one).isSome).map PyData.bool)) (by rw [List.map_map]; rfl)) d_nil) c_all) ?_
    · refine ⟨_, tg_name, rfl, ?_⟩
      refine as_eq (d_din (ks := one) (l := knD kn) (d_v r13) (d_var (mono_rd _) (v := .ref p4) rfl (mono_rd _ (e1.trans e2) rk))) ?_
      rw [look_map]
      simp
    · rw [List.all_map]
      rfl
  · rw [List.any_map]
    rfl

def F3 (F : Addr → Prop) (p4 p5 : Addr) : Addr → Prop := fun b => (F b ∨ b = p4) ∨ b = p5
structure Hd (F : Addr → Prop) (H2 : Hp) (p4 p5 : Addr) (H' : Hp) (kn : Tab) (lf : Lef) : Prop where
  a : ∀ b u, b ≠ p4 → b ≠ p5 → H2 b = some u → H' b = some u
  t4 : ∃ kvs, H' p4 = some (.dT kvs) ∧ RpT (cut (F3 F p4 p5) H') kvs (knD kn)
  t5 : ∃ kvs, H' p5 = some (.dT kvs) ∧ RpT (cut (F3 F p4 p5) H') kvs (lfD lf)
theorem Hd.go {F : Addr → Prop} {H2 : Hp} {p4 p5 : Addr} {H' H'' : Hp} {kn : Tab} {lf : Lef} (h : Hd F H2 p4 p5 H' kn lf) (e : Ex H' H'') : Hd F H2 p4 p5 H'' kn lf := by
  obtain ⟨k4, h4, r4⟩ := h.t4
  obtain ⟨k5, h5, r5⟩ := h.t5
  exact ⟨fun b u n1 n2 z => e _ _ (h.a b u n1 n2 z), ⟨k4, e _ _ h4, r4.mono (cut_mono e)⟩, ⟨k5, e _ _ h5, r5.mono (cut_mono e)⟩⟩
theorem Hd.off {F : Addr → Prop} {H2 : Hp} {p4 p5 : Addr} {H' : Hp} {kn : Tab} {lf : Lef} (h : Hd F H2 p4 p5 H' kn lf) (n4 : ¬ F p4) (n5 : ¬ F p5) (dF : ∀ b, F b → ∃ u, H2 b = some u ∧ isTup u = false) :
    Off (F3 F p4 p5) (cut (F3 F p4 p5) H') H' := Off.of fun b hb => by
  rcases hb with (hb | rfl) | rfl
  · obtain ⟨u, hu, ht⟩ := dF b hb
    exact ⟨u, h.a b u (fun z => n4 (z ▸ hb)) (fun z => n5 (z ▸ hb)) hu, ht⟩
  · obtain ⟨k, hk, _⟩ := h.t4
    exact ⟨_, hk, rfl⟩
  · obtain ⟨k, hk, _⟩ := h.t5
    exact ⟨_, hk, rfl⟩
abbrev stL (v0 v1 v2 v3 : Option V) (p4 p5 : Addr) (tk : Int) (hn : Bool) (x8 x9 : Option V) : L2.St := [v0, v1, v2, v3, some (.ref p4), some (.ref p5), some (.int tk), some (.bl hn), x8, x9, none, none, none, none]
def Okr (lf : Lef) : Prop := ∀ r ∈ lf, r.2.length ≤ 100000 ∧ ∀ lot ∈ r.2, lot.length ≤ 100000
structure LfOk (kn : Tab) (lf : Lef) : Prop where
  nd : (lf.map (·.1)).Nodup
  dj : ∀ r ∈ lf, look kn r.1 = none
  sz : kn.length + lf.length ≤ 50000
  ok : Okr lf
def WInv (F : Addr → Prop) (H2 : Hp) (v0 v1 v2 v3 : Option V) (p4 p5 : Addr) (fin : Tab) (m : Nat) (σ' : L2.St) (H' : Hp) : Prop :=
  ∃ tk hn x8 x9 kn lf, σ' = stL v0 v1 v2 v3 p4 p5 tk hn x8 x9 ∧ m = (if hn = true then lf.length + 1 else 0) ∧ Hd F H2 p4 p5 H' kn lf ∧ LfOk kn lf ∧ (if hn = true then ∃ f, lf.length < f ∧ loopM f kn lf tk = fin else kn = fin)
theorem lf_step {lf : Lef} {l : List (List Int)} {k : List Int} : (lf.filter fun r => decide (r.1 ∉ l ++ [k])) = (lf.filter fun r => decide (r.1 ∉ l)).filter fun r => decide (r.1 ≠ k) := by
  rw [List.filter_filter]
  refine List.filter_congr fun r _ => ?_
  by_cases h1 : r.1 ∈ l <;> by_cases h2 : r.1 = k <;> simp [h1, h2]
theorem LfOk.step {kn : Tab} {lf : Lef} {tk : Int} (h : LfOk kn lf) : LfOk (kn ++ (lostM kn lf).map (·, tk)) (lf.filter fun r => decide (r.1 ∉ lostM kn lf)) := by
  refine ⟨h.nd.sublist (List.Sublist.map _ List.filter_sublist), fun r hr => ?_, ?_, fun r hr => h.ok r (List.mem_filter.mp hr).1⟩
  · obtain ⟨h1, h2⟩ := List.mem_filter.mp hr
    have h2 := of_decide_eq_true h2
    refine look_none.mpr fun z => ?_
    rw [List.map_append, List.mem_append, List.map_map] at z
    rcases z with z | z
    · exact look_none.mp (h.dj r h1) z
    · obtain ⟨k, hk, e⟩ := List.mem_map.mp z
      exact h2 (by rw [← e]; exact hk)
  · have := count_le (kn := kn) (lf := lf)
    have := h.sz
    rw [List.length_append, List.length_map]
    omega
theorem knD_app (kn : Tab) (l : List (List Int)) (k : List Int) (tk : Int) : knD (kn ++ (l ++ [k]).map (·, tk)) = knD (kn ++ l.map (·, tk)) ++ [(k, PyData.int tk)] := by
  simp [knD]
theorem lfD_filter (lf : Lef) (k : List Int) : lfD (lf.filter fun r => decide (r.1 ≠ k)) = (lfD lf).filter fun r => decide (r.1 ≠ k) := by
  rw [lfD, lfD, List.filter_map]
  rfl
theorem rounds {K : PySem.W.Frag} {v0 v1 v2 v3 : Option V} {F : Addr → Prop} {H2 H' : Hp} {p4 p5 : Addr} {x8 x9 : Option V} {kn0 : Tab} {lf0 : Lef} {fin : Tab} {D' : Ends} (hne : p4 ≠ p5) (n4 : ¬ F p4) (n5 : ¬ F p5) (dF : ∀ b, F b → ∃ u, H2 b = some u ∧ isTup u = false)
    (h0 : Hd F H2 p4 p5 H' kn0 lf0) (ok0 : LfOk kn0 lf0) (hfin : loopM (lf0.length + 1) kn0 lf0 1 = fin) (q : ∀ H' lf, Hd F H2 p4 p5 H' fin lf → D'.rt (.ref p4) H') :
    tSeq (tWhile (tB (tVar 7)) (tSeq (tAug 6 (tC (.int 1)) (ipI fun i j => i + j)) (tSeq (tLock (tAsg (tLc (iItemsT (tVar 5)) (gTup K 2 (gCons (gName 9) (gCons (gName 11) gNil)))
      (tB (tCB (rAny K) (tCons (tLc (iList K (tVar 11)) (gName 12) tYes (tCB (rAll K) (tCons (tLc (iList K (tVar 12)) (gName 13) tYes (tDIn (tVar 13) (tVar 4)) [13]) tNil)) [12]) tNil))) (tVar 9) [9, 11]) (gName 8)))
      (tSeq (tFor (iList K (tVar 8)) (gName 9) (tSeq (sDPut (tVar 4) (tVar 9) (tVar 6)) (tDrop (tBM K "dict" rPopT1 (tVar 5) (tCons (tVar 9) tNil)))))
        (tAsg (tOp (rNeD K) (tVar 8) (tLst tNil)) (gName 7)))))) (tRet (tVar 4)) D' (stL v0 v1 v2 v3 p4 p5 1 true x8 x9) H' := by
  refine ⟨WInv F H2 v0 v1 v2 v3 p4 p5 fin, ⟨_, 1, true, x8, x9, kn0, lf0, rfl, rfl, h0, ok0, _, Nat.lt_succ_self _, hfin⟩, ?_⟩
  rintro m σ' H' ⟨tk, hn, x8, x9, kn, lf, rfl, rfl, hd, ok, hf⟩
  refine ⟨.bl hn, rfl, hn, rfl, ?_⟩
  cases hn with
  | false =>
    rw [if_neg (by decide)]
    rw [if_neg (by decide)] at hf
    subst hf
    exact ⟨.ref p4, rfl, q _ _ hd⟩
  | true =>
    rw [if_pos rfl]
    rw [if_pos rfl] at hf
    obtain ⟨f, hlt, hf⟩ := hf
    refine ⟨_, fun _ _ h => h, ?_⟩
    refine ⟨.int tk, rfl, tk, 1, rfl, rfl, ?_⟩
    show tLock _ _ (stL v0 v1 v2 v3 p4 p5 (tk + 1) true x8 x9) H'
    obtain ⟨kvs4, h4, r4⟩ := hd.t4
    obtain ⟨kvs5, h5, r5⟩ := hd.t5
    refine ⟨p5, .dT kvs5, h5, True.intro, fun od => ?_⟩
    obtain ⟨Hl, hHl⟩ : ∃ Hl, upd H' p5 (.frz od (.dT kvs5)) = Hl := ⟨_, rfl⟩
    rw [hHl]
    have l5 : Hl p5 = some (.frz od (.dT kvs5)) := by rw [← hHl]; exact upd_same
    have l4 : Hl p4 = some (.dT kvs4) := by rw [← hHl, upd_ne hne]; exact h4
    have lne : ∀ b, b ≠ p5 → Hl b = H' b := fun b hb => by rw [← hHl, upd_ne hb]
    have c3 : cut (F3 F p4 p5) Hl = cut (F3 F p4 p5) H' := by rw [← hHl]; exact cut_upd (Or.inr rfl)
    have ol : Off F (cut F Hl) Hl := Off.of fun b hb => by
      obtain ⟨u, hu, ht⟩ := dF b hb
      exact ⟨u, by rw [lne b (fun z => n5 (z ▸ hb))]; exact hd.a b u (fun z => n4 (z ▸ hb)) (fun z => n5 (z ▸ hb)) hu, ht⟩
    have x3 : Ex (cut (F3 F p4 p5) H') (cut F Hl) := fun b u z => by
      rw [← c3] at z
      obtain ⟨z1, z2⟩ := cut_some.mp z
      exact cut_at (fun y => z1 (.inl (.inl y))) z2
    have ev : EvD (tLc (iItemsT (tVar 5)) (gTup K 2 (gCons (gName 9) (gCons (gName 11) gNil))) (tB (tCB (rAny K) (tCons (tLc (iList K (tVar 11)) (gName 12) tYes (tCB (rAll K) (tCons (tLc (iList K (tVar 12)) (gName 13) tYes (tDIn (tVar 13) (tVar 4)) [13]) tNil)) [12]) tNil))) (tVar 9) [9, 11])
        (stL v0 v1 v2 v3 p4 p5 (tk + 1) true x8 x9) (cut F Hl) (.list ((lostM kn lf).map tI)) := by
      refine as_eq (d_lcF lf (fun r => PyData.tuple [tI r.1, PyData.list (r.2.map lT)]) (lostB kn) (fun r => tI r.1) (by have := ok.sz; omega) ?_ fun r hr v B' e rv => ?_) ?_
      · have := i_items (td := tVar 5) (σ := stL v0 v1 v2 v3 p4 p5 (tk + 1) true x8 x9) (B := cut F Hl) (l := lfD lf) fun F' H'' o' Q q => ⟨.ref p5, rfl, q _ _ (Ex.refl _) ⟨p5, od, kvs5, rfl, o'.cut _ _ (cut_at n5 l5), r5.mono (x3.trans o'.cut)⟩⟩
        rw [List.map_map] at this
        exact this
      · obtain ⟨y9, y11, t9, t11, tg⟩ := tg_pair (K := K) (i := 9) (j := 11) (σ := wipe (stL v0 v1 v2 v3 p4 p5 (tk + 1) true x8 x9) [9, 11]) rv
        refine ⟨_, tg, rfl, ev_lost (v := y11) ⟨p4, kvs4, rfl, e _ _ (cut_at n4 l4), r4.mono (x3.trans e)⟩ t11 (ok.ok r hr).1 (ok.ok r hr).2, fun _ => d_v t9⟩
      · unfold lostM
        rw [List.map_map]
        rfl
    refine ev F Hl ol _ fun v8 H3 e3 r8 => ?_
    refine ⟨e3 _ _ l5, ?_⟩
    obtain ⟨H4, hH4⟩ : ∃ H4, upd H3 p5 (.dT kvs5) = H4 := ⟨_, rfl⟩
    rw [hH4]
    have c4 : cut (F3 F p4 p5) H4 = cut (F3 F p4 p5) H3 := by rw [← hH4]; exact cut_upd (Or.inr rfl)
    have x4 : Ex (cut (F3 F p4 p5) H') (cut (F3 F p4 p5) H4) := by rw [c4, ← c3]; exact cut_mono e3
    have r8' : Rp (cut (F3 F p4 p5) H4) v8 (.list ((lostM kn lf).map tI)) := by
      rw [c4]
      exact (r8.addF (e3 _ _ l4) rfl).addF (e3 _ _ l5) rfl
    have hd4 : Hd F H2 p4 p5 H4 (kn ++ ((lostM kn lf).take 0).map (·, tk + 1)) (lf.filter fun r => decide (r.1 ∉ (lostM kn lf).take 0)) := by
      have e1 : (kn ++ ((lostM kn lf).take 0).map (·, tk + 1)) = kn := by simp
      have e2 : (lf.filter fun r => decide (r.1 ∉ (lostM kn lf).take 0)) = lf := by simp
      rw [e1, e2]
      refine ⟨fun b u z1 z2 z => ?_, ⟨kvs4, ?_, r4.mono x4⟩, ⟨kvs5, by rw [← hH4]; exact upd_same, r5.mono x4⟩⟩
      · rw [← hH4, upd_ne z2]
        exact e3 _ _ (by rw [lne b z2]; exact hd.a b u z1 z2 z)
      · rw [← hH4, upd_ne hne]
        exact e3 _ _ l4
    have o4 := hd4.off n4 n5 dF
    refine s_for (σ := stL v0 v1 v2 v3 p4 p5 (tk + 1) true (some v8) x9) (lostM kn lf) tI (i_list (d_v r8')) o4 (fun B1 k σ' Hk => Off (F3 F p4 p5) B1 Hk ∧ (∃ y9, σ' = stL v0 v1 v2 v3 p4 p5 (tk + 1) true (some v8) y9) ∧ Hd F H2 p4 p5 Hk (kn ++ ((lostM kn lf).take k).map (·, tk + 1)) (lf.filter fun r => decide (r.1 ∉ (lostM kn lf).take k)))
      (fun H1 e1 => ⟨o4.next e1, ⟨x9, rfl⟩, hd4.go e1⟩) (fun B1 k σ' H' _ h => h.1) (fun B1 k row v σ' Hk Hk' eB ha hP eH rv => ?_) (fun B1 σ' Hk eB hP => ?_)
    · obtain ⟨oH, ⟨y9, rfl⟩, hdk⟩ := hP
      obtain ⟨hk, rfl⟩ := List.getElem?_eq_some_iff.mp ha
      have hdk' := hdk.go eH
      obtain ⟨m4, g4, s4⟩ := hdk'.t4
      obtain ⟨m5, g5, s5⟩ := hdk'.t5
      obtain ⟨b, rfl, hb⟩ := rv.tI_inv
      have hb' := cut_ex _ _ hb
      have htk : (lostM kn lf).take (k + 1) = (lostM kn lf).take k ++ [(lostM kn lf)[k]] := List.take_succ_eq_append_getElem hk
      have nd := lost_nodup (kn := kn) ok.nd
      have hnot : (lostM kn lf)[k] ∉ (lostM kn lf).take k := fun z => by
        have := List.nodup_append.mp (show ((lostM kn lf).take k ++ (lostM kn lf).drop k).Nodup by rw [List.take_append_drop]; exact nd)
        exact this.2.2 _ z _ (by rw [List.drop_eq_getElem_cons hk]; exact List.mem_cons_self) rfl
      have hin := lost_mem (List.getElem_mem hk)
      obtain ⟨r, hr, hre⟩ := List.mem_map.mp hin
      have hno : look (knD (kn ++ ((lostM kn lf).take k).map (·, tk + 1))) (lostM kn lf)[k] = none := by
        refine look_none.mpr fun z => ?_
        rw [List.map_map, List.map_append, List.mem_append, List.map_map] at z
        rcases z with z | z
        · exact look_none.mp (ok.dj r hr) (by rw [hre]; exact z)
        · obtain ⟨c, hc, e⟩ := List.mem_map.mp z
          exact hnot (by rw [← e]; exact hc)
      have hyes : (look (lfD (lf.filter fun r => decide (r.1 ∉ (lostM kn lf).take k))) (lostM kn lf)[k]).isSome = true := by
        cases e : look (lfD (lf.filter fun r => decide (r.1 ∉ (lostM kn lf).take k))) (lostM kn lf)[k] with
        | some _ => rfl
        | none =>
          refine absurd (List.mem_map.mpr ⟨(r.1, PyData.list (r.2.map lT)), ?_, hre⟩) (look_none.mp e)
          exact List.mem_map.mpr ⟨r, List.mem_filter.mpr ⟨hr, decide_eq_true (by rw [hre]; exact hnot)⟩, rfl⟩
      have v4 := (s4.val (lostM kn lf)[k]).2 hno
      rw [← s5.some'] at hyes
      obtain ⟨w5, v5⟩ := Option.isSome_iff_exists.mp hyes
      have hz : m4.length < sizeLine := sz_lt (by
        rw [s4.length, List.length_map, List.length_append, List.length_map]
        have h1 := ok.sz
        have h2 := count_le (kn := kn) (lf := lf)
        have h3 : ((lostM kn lf).take k).length ≤ k := List.length_take_le _ _
        omega)
      show sDPut (tVar 4) (tVar 9) (tVar 6) _ (stL v0 v1 v2 v3 p4 p5 (tk + 1) true (some v8) (some (.ref b))) Hk'
      refine ⟨.int (tk + 1), rfl, .ref p4, rfl, .ref b, rfl, p4, _, rfl, DPut.t g4 (k := kI (lostM kn lf)[k]) (by rw [kV_kI]; exact hb') hz, ?_⟩
      have nb4 : b ≠ p4 := fun z => by rw [z, g4] at hb'; cases hb'
      refine ⟨.ref p5, rfl, .inr (.inr (.inl ⟨rfl, .inr ⟨m5, by rw [upd_ne (Ne.symm hne)]; exact g5⟩⟩)), .ref b, rfl, p5, m5, kI (lostM kn lf)[k], b, w5, rfl, rfl, by rw [upd_ne (Ne.symm hne)]; exact g5, by rw [upd_ne nb4, kV_kI]; exact hb', v5, ?_⟩
      refine ⟨((oH.go eH).upd (Or.inl (Or.inr rfl))).upd (Or.inr rfl), ⟨_, rfl⟩, ?_⟩
      have cc : cut (F3 F p4 p5) (upd (upd Hk' p4 (.dT (putK m4 (kI (lostM kn lf)[k]) (.int (tk + 1))))) p5 (.dT (dropK m5 (kI (lostM kn lf)[k])))) = cut (F3 F p4 p5) Hk' := by
        rw [cut_upd (Or.inr rfl), cut_upd (Or.inl (Or.inr rfl))]
      refine ⟨fun c u z1 z2 z => ?_, ⟨_, by rw [upd_ne hne]; exact upd_same, ?_⟩, ⟨_, upd_same, ?_⟩⟩
      · rw [upd_ne z2, upd_ne z1]
        exact hdk'.a c u z1 z2 z
      · rw [cc, htk, knD_app, putK_new _ v4]
        exact s4.snoc (.int _)
      · rw [cc, htk, lf_step, lfD_filter]
        exact s5.drop _
    · obtain ⟨oH, ⟨y9, rfl⟩, hdk⟩ := hP
      rw [List.take_length] at hdk
      have ev : EvD (tOp (rNeD K) (tVar 8) (tLst tNil)) (stL v0 v1 v2 v3 p4 p5 (tk + 1) true (some v8) y9) B1 (.bool (!(lostM kn lf).isEmpty)) := as_eq (dop (d_v (r8'.mono eB)) (d_lst d_nil (Nat.zero_le _)) (o_neD (shaped_tI _) rfl)) (by rw [eqv_nil]; cases lostM kn lf <;> rfl)
      refine ev _ Hk oH _ fun v7 H7 e7 r7 => ?_
      obtain rfl := r7.bl_inv
      show ∃ m', _ ∧ WInv F H2 v0 v1 v2 v3 p4 p5 fin m' (stL v0 v1 v2 v3 p4 p5 (tk + 1) (!(lostM kn lf).isEmpty) (some v8) y9) H7
      have ok' := ok.step (tk := tk + 1)
      refine ⟨_, ?_, tk + 1, _, some v8, y9, _, _, rfl, rfl, hdk.go e7, ok', ?_⟩
      · cases he : lostM kn lf with
        | nil => exact Nat.succ_pos _
        | cons k l =>
          have := count_le (kn := kn) (lf := lf)
          rw [he] at this
          show (lf.filter fun r => decide (r.1 ∉ k :: l)).length + 1 < lf.length + 1
          rw [List.length_cons] at this
          omega
      · cases he : lostM kn lf with
        | nil =>
          cases f with
          | zero => omega
          | succ f =>
            rw [loopM, if_pos he] at hf
            show kn ++ [] = fin
            rw [List.append_nil]
            exact hf
        | cons k l =>
          have := count_le (kn := kn) (lf := lf)
          cases f with
          | zero => omega
          | succ f =>
            rw [loopM, if_neg (by rw [he]; exact List.cons_ne_nil _ _)] at hf
            rw [he] at hf this
            rw [List.length_cons] at this
            exact ⟨f, by omega, hf⟩
end G
/-! GF: name = {k: v for ..} on one line, keys tuples. -/
namespace G
open PySem PySem.Spec PyProof.Rows L2 Evl
section
variable {X : Cx}
theorem sw_trueD {kx vx : Expr} {gs : List Comprehension} {scope : Scope} {pos py : Pos} {y : Str} {l : Nat} {env : Env} (hk : env.scope.kind = .function) (hy : env.scope.names.lookup y = some .local) (hl : (py.line == pos.line) = true)
    (ha : (scope.names.any fun (n, k) => n == y && (k == .local || k == .cell)) = false) : swapsWith (.DictComp kx vx gs scope pos) (some (.Name y py)) l env = pure true := by
  have ky : env.kindOf y = some .local := hy
  have hb : env.blockKind = .function := by unfold Env.blockKind; rw [hk]; rfl
  unfold swapsWith
  simp only [hb, ky, ha, Expr.pos, hl]
  rfl
theorem ps_setDcT {i : Nat} {y : Str} {py : Pos} {kx vx tg iter : Expr} {ifs : List Expr} {scope : Scope} {own : List (Str × Nat)} {pos spos : Pos} {wi : TI} {g : TG} {tt : TT} {tk tv : TE} (hu : X.A.units + 1 < cLine) (hc : X.calm = true) (hN : X.N.Nodup) (hy : X.N[i]? = some y) (hyl : X.env.scope.names.lookup y = some .local)
    (hsw : swapsWith (.DictComp kx vx [⟨tg, iter, ifs, 0⟩] scope pos) (some (.Name y py)) spos.line X.env = pure true) (hi : PI X tg iter wi) (ok : BlkOk X.N X.env.scope scope own)
    (hg : ∀ (s : Shared) (H : Hp) (C : Addr) (cl : List (Str × Addr)) (fp : List Addr), PG (X.blk s H scope (compEnvC scope cl C X.env) fp) tg g) (ht : ∀ (s : Shared) (H : Hp) (C : Addr) (cl : List (Str × Addr)) (fp : List Addr), PTs (X.blk s H scope (compEnvC scope cl C X.env) fp) ifs tt)
    (hk : ∀ (s : Shared) (H : Hp) (C : Addr) (cl : List (Str × Addr)) (fp : List Addr), PE (X.blk s H scope (compEnvC scope cl C X.env) fp) kx tk)
    (he : ∀ (s : Shared) (H : Hp) (C : Addr) (cl : List (Str × Addr)) (fp : List Addr), PE (X.blk s H scope (compEnvC scope cl C X.env) fp) vx tv) (hs : ∀ x, foldedSetIterable iter X.env x = pure x := by intro _; rfl) :
    PS X (.Assign [.Name y py] (.DictComp kx vx [⟨tg, iter, ifs, 0⟩] scope pos) spos) (tAsg (tDcT wi g tt tk tv (own.map (·.2))) (gName i)) := by
  refine ⟨fun pins s σ H D I h => ?_⟩
  rw [exec_Assign_Name_used _ _ _ _ hsw]
  refine wpAny_bind (wpAny_standAt (wpAny_bind ?_))
  show wpAny _ X.A (do let _ ← comprehension (.DictComp kx vx [⟨tg, iter, ifs, 0⟩] scope pos) scope X.env (firstIterPos [⟨tg, iter, ifs, 0⟩] pos) newDict false (eval iter X.env) (some (assign (.Name y py) X.env))) _ _ s
  have h : tDcT wi g tt tk tv (own.map (·.2)) σ H (fun x H1 => gName i x σ H1 D.nx) := h
  refine wpAny_bind (thn (dcT_core (Qf := fun _ s' => SP X pins D .next s') hu hc hN I hi ok hg ht hk he hs h fun L C s' m H' I' q hn f => ?_) fun _ s' hq => wpAny_pure (wpAny_pure hq))
  show wpAny _ _ (assign (.Name y py) X.env (.ref L)) _ _ _
  refine wpAny_assign_Name (store_ok2 (v := V.ref L) I' hN hy (.inl hyl) rfl (fun s2 I2 ⟨a, sb, ha⟩ => ?_) (.inr hyl))
  obtain ⟨f0, f1, f2, f3, f4, f5⟩ := f
  have haC : C ≠ a := by
    rcases ha with z | z
    · rw [z]; exact f1
    · exact fun e => f4 y a z e.symm
  refine ⟨m, hn.sameBut sb haC, fun h3 sb3 => ?_⟩
  exact ⟨_, H', I2.turned (t' := s2.toks) (fun b o hb e => (sb3.2 b hb).trans e) f0 f1 f3 f4 f5, q⟩
end
theorem n_asg {te : TE} {u : TS} {i : Nat} {D : Ends} {σ : L2.St} {F : Addr → Prop} {B H : Hp} {R : RelH} (ev : EvN te σ B R) (o : Off F B H) (k : ∀ p H', H p = none → Ex H H' → R (cut F H') (.ref p) → u D (σ.set i (some (.ref p))) H') : tSeq (tAsg te (gName i)) u D σ H := ev F H o _ k
end G
/-! GX: an own exception class whose __init__ takes nothing and calls its own base's __init__ (HandS.ExcInit, turned to: no field, no argument, an own base). -/
namespace G
open PySem PySem.Spec PyProof.Rows L2 Evl
section
variable {X : Cx} {e : Expr} {es : List Expr} {ta : TA} {p p1 p2 pos : Pos}
/-- Base.__init__(self, ..), Base an own class at CB -/
theorem pe_ceinit {pl : Sem Bool} {b : Str} {CB : Addr} {mc : Value} (hg : Gl X b) (hm : X.mg b = some (.ref CB)) (sC : PySem.W.specialIn X.K (.ref CB) "__getattribute__" = some (some (.builtin "type.__getattribute__"))) (rC : PySem.W.readsIn X.K CB mc = true)
    (vV : PySem.W.findCls X.K (.ref CB) mc "__init__" = some (.val (.builtin "ValueError.__init__"))) (ha : PA X (e :: es) ta) (hdb : (b == ("__debug__" : Str)) = false := by decide)
    (hc : eval (.Call (.Attribute (.Name b p1) "__init__" p2) (e :: es) [] pos) X.env = (do
      let ov ← eval (.Name b p1) X.env
      standAt p2.atName
      let (f, first) ← holding [ov] (getMethod ov "__init__" pl)
      callWith pos f first (backTo pos (starEach (e :: es) X.env)) (backToKw pos (keywordEach [] X.env))) := by rfl)
    (he : starEach (e :: es) X.env = (false, eval e X.env) :: starEach es X.env := by rfl) (hpl : (backTo pos (starEach es X.env)).any (·.1) = false := by rfl) :
    PE X (.Call (.Attribute (.Name b p1) "__init__" p2) (e :: es) [] pos) (tVeI X.K ta) := by
  refine ⟨fun pins s σ H Q I h => ?_⟩
  refine PySem.W.methodCall_KW (ld_glob I hg hm ?_ hdb) hc
  refine PySem.W.method_cls I.kIn sC (PySem.W.cls_value I.kIn rC vV (by decide +kernel) ?_)
  show wpAny _ _ (callWith pos (Value.builtin "ValueError.__init__") [] (backTo pos (starEach (e :: es) X.env)) []) _ _ _
  refine PyProof.Rows.callWith_method1 (thn (ha.run pos pins _ σ H _ (I.tok _) h) fun us s1 ⟨vs, H1, I1, r1, a, C, ws, ev, hl, T, ea, q⟩ => ?_) he hpl
  subst ev
  cases r1 with
  | @cons _ u0 _ ur ra rw' =>
    obtain rfl : u0 = Value.ref a := ra
    have hlen : ur.length ≤ sizeLine := by
      rw [← Paired.length rw', sizeLine_eq]
      omega
    exact oinit_ok T I1 ea hlen fun s' J => ⟨.non, H1, J, rfl, q⟩
theorem mk_endN {pins : List (Addr × Obj)} {σ : L2.St} {H1 H2 : Hp} {hp hp2 h2 : Heap} {g1 g2 : Array GenState} {d1 d2 : Drawn} {t1 t2 : Nat} {os1 os2 : OsState} {a C : Addr} (I1 : Inv X pins σ H1 ⟨hp, g1, d1, t1, os1⟩)
    (ha : hp.objs.size ≤ a) (k : ∀ b o, hp.get? b = some o → hp2.get? b = some o) (un : Un (frs X.stack) [] (upd H1 a (exo a C none)) H2 hp2 h2) (hok : HOk X.prog X.w H2 h2) (ho : os2 = os1) (hb : AllBare g2)
    (ea : H2 a = some (exo a C none)) :
    ∃ (t0 : Addr) (G : Heap), Inv X pins σ (del H2 a) ⟨G, g2, d2, t2, os2⟩ ∧ (∀ b o, G.get? b = some o → h2.get? b = some o) ∧ G.get? a = none ∧
      h2.get? a = some ({ cls := .ref C, dict := none, data := .fields #[.ref t0, .none, .none, .none, .bool false, .none] } : Obj) := by
  obtain ⟨t0, hoe⟩ := exo_at hok ea
  have hn : H1 a = none := I1.hok.fresh ha
  obtain ⟨G, g1', g2'⟩ := restrict h2 fun b => decide (b ≠ a)
  have gk : ∀ b, b ≠ a → G.get? b = h2.get? b := fun b hb => g1' b (decide_eq_true hb)
  have ge : G.get? a = none := g2' a (by simp)
  have nha : ∀ {b : Addr} {o : Obj}, hp.get? b = some o → b ≠ a := fun {b o} z => Nat.ne_of_lt (Nat.lt_of_lt_of_le (Heap.lt_size z) ha)
  have up : ∀ {b : Addr}, b ≠ a → H1 b = none → upd H1 a (exo a C none) b = none := fun {b} hb n => by rw [upd_ne hb]; exact n
  have U : Un (frs X.stack) [] H1 (del H2 a) hp G := {
    keep := fun b o z n hf hx => by
      rw [gk b (nha z)]
      exact un.keep b o (k b o z) (up (nha z) n) hf hx
    slot := fun b o z n hf hx => by
      rw [gk b (nha z)]
      exact un.slot b o (k b o z) (up (nha z) n) hf hx
    free := fun b o z n hx => by
      rw [del_ne (nha z)]
      exact un.free b o (k b o z) (up (nha z) n) hx
    there := fun b o z hx => by
      rw [gk b (nha z)]
      exact un.there b o (k b o z) hx
    tups := fun b xs z => by
      rw [del_ne (ne_of_none z hn)]
      exact un.tups b xs (by rw [upd_ne (ne_of_none z hn)]; exact z)
    frzs := fun b o v z => by
      rw [del_ne (ne_of_none z hn)]
      exact un.frzs b o v (by rw [upd_ne (ne_of_none z hn)]; exact z)
    tbls := fun b ps z => by
      rw [del_ne (ne_of_none z hn)]
      exact un.tbls b ps (by rw [upd_ne (ne_of_none z hn)]; exact z) }
  have hok3 : HOk X.prog X.w (del H2 a) G := fun b o z => by
    have hba : b ≠ a := fun e => by
      rw [e, del_same] at z
      cases z
    rw [del_ne hba] at z
    have noa : ∀ {c : Addr}, H2 c = some (.own b) → c ≠ a := fun {c} hc => at_ne ea hc exo_own
    exact (hok b o z).stay (fun c v hc y => by
        have hca : c ≠ a := by
          rcases hc with hc | hc
          · rw [hc]
            exact hba
          · exact noa hc
        rw [gk c hca]
        exact y)
      (fun c hc => by rw [del_ne (noa hc)]; exact hc) (fun c xs hc => by rw [del_ne (at_ne ea hc exo_tup)]; exact hc)
  have J : Inv X pins σ (del H2 a) ⟨G, g2, d2, t2, os2⟩ := I1.call' (ch := []) ho U hok3 hb (fun b z => absurd z (by simp))
  refine ⟨t0, G, J, fun b o z => ?_, ge, hoe⟩
  by_cases hba : b = a
  · rw [hba, ge] at z
    cases z
  · exact (gk b hba).symm.trans z
/-- what that __init__ keeps -/
def spInit (K : PySem.W.Frag) : Sp := fun vs H Q E => ∃ a C : Addr, vs = [.ref a] ∧ OexC K C ∧ H a = some (exo a C none) ∧ Q .non H
/-- C(), C's own __init__ as above -/
theorem pmk_oex0 {CX : CXT} {x : Str} {C fI : Addr} {k : Nat} {fd : FuncData} (T : OexC X.K C) (iC : PySem.W.findIn X.K (.ref C) "__init__" = some (some (.ref fI))) (tI : PySem.W.typeIn X.K (.ref fI) = some (.type "function"))
    (F1 : FnOk X.prog X.w X.K X.mg X.base CX k fI fd ["self"] (spInit X.K)) (hr : Room (k + 1) X.A) (hb : Binds X.K fd ["self"] []) (hx : Passes CX X (fun _ _ _ => False)) (hg : Gl X x) (hm : X.mg x = some (.ref C))
    (hdb : (x == ("__debug__" : Str)) = false := by decide) :
    PMk X (.Call (.Name x p) [] [] pos) (fun σ H Q => Q (.ref C) none H) := by
  intro pins s σ H Q I h
  obtain ⟨nm, q, N, bs, bm, sn, sub, ab, col, dd, k0, k1, k2, k3, k5, hC, hbm⟩ := T.cls
  refine wpAny_Call_Name_kw (ld_glob I hg hm ?_ hdb)
  refine PySem.W.callWith_K0 I.kIn T.kC ?_
  show wpAny _ _ (call (.ref C) []) _ _ _
  obtain ⟨hp, g, dr, tk, os⟩ := s
  have hsz : hp.objs.size ≤ hp.objs.size + 1 := Nat.le_succ _
  have hn : H (hp.objs.size + 1) = none := I.hok.fresh hsz
  have kk : ∀ b o, hp.get? b = some o → ((hp.push (PySem.W.kdv_tup [])).push (PySem.HandSPX.excO C hp.objs.size)).get? b = some o := fun b o e => Heap.get?_push_of_some _ (Heap.get?_push_of_some _ e)
  have hget : ((hp.push (PySem.W.kdv_tup [])).push (PySem.HandSPX.excO C hp.objs.size)).get? (hp.objs.size + 1) = some (PySem.HandSPX.excO C hp.objs.size) := by heap_get
  have I2 : Inv X pins σ (upd H (hp.objs.size + 1) (exo (hp.objs.size + 1) C none)) ⟨(hp.push (PySem.W.kdv_tup [])).push (PySem.HandSPX.excO C hp.objs.size), g, dr, tk, os⟩ :=
    I.laid (t' := tk) (a := hp.objs.size + 1) (o := exo (hp.objs.size + 1) C none) (h' := (hp.push (PySem.W.kdv_tup [])).push (PySem.HandSPX.excO C hp.objs.size)) kk hsz (exo_ok hget)
  have r2 : Vals [V.ref (hp.objs.size + 1)] [Value.ref (hp.objs.size + 1)] := .cons rfl .nil
  have hq : spInit X.K [V.ref (hp.objs.size + 1)] (upd H (hp.objs.size + 1) (exo (hp.objs.size + 1) C none)) (fun v H2 => v = .non ∧ H2 = upd H (hp.objs.size + 1) (exo (hp.objs.size + 1) C none)) (fun _ _ _ => False) := ⟨_, C, rfl, T, upd_same, rfl, rfl⟩
  refine wpAny_call (PySem.HandSPX.call_own F.excBase_ValueError (fun Y => PySem.HandSPX.refsVE_contains Y bm hbm) (I.kIn _ _ hC) (PySem.W.looks_findIn I.kIn iC) (fun self => PySem.W.bind_fn I.kIn self tI) (Nat.zero_le _)
    (codeAny_mono (F1.run _ X.stack _ _ ⟨[Value.ref (hp.objs.size + 1)], []⟩ [Value.ref (hp.objs.size + 1)] _ _ (fun _ _ _ => False) (hr.make C [] []) (I2.env0.make C [] []) (hb _ [Value.ref (hp.objs.size + 1)] I2.kIn rfl) r2 hq) fun r s' hq' => ?_))
  cases r with
  | error er => exact hx pins σ _ _ er s' I2 hq'
  | ok fl =>
    cases fl with
    | ret u =>
      obtain ⟨v, H2, os2, bare2, un2, hok2, rv, ev, eH⟩ := hq'
      subst ev
      subst eH
      obtain ⟨h2, g2, d2, t2, os'⟩ := s'
      obtain ⟨t0, G, J, kG, ge, hoe⟩ := mk_endN (d2 := d2) (t2 := t2) I hsz kk un2 hok2 os2 bare2 upd_same
      have ed : del (upd H (hp.objs.size + 1) (exo (hp.objs.size + 1) C none)) (hp.objs.size + 1) = H := by
        funext b
        by_cases hb : b = hp.objs.size + 1
        · rw [hb, del_same, hn]
        · rw [del_ne hb, upd_ne hb]
      rw [ed] at J
      exact ⟨rv, _, _, _, ⟨G, g2, d2, t2, os'⟩, H, .ref C, none, rfl, J, kG, ge, hoe, ⟨rfl, rfl⟩, rfl, rfl, hn, rfl, bare2, raises_own T.exC T.tyC, h⟩
    | next => exact False.elim hq'
    | brk => exact False.elim hq'
    | cont => exact False.elim hq'
end
end G
/-! GY: a for loop that may return. -/
namespace G
open PySem PySem.Spec PyProof.Rows L2 Evl
section
variable {K : PySem.W.Frag} {σ : L2.St} {B : Hp} {R : RelH} {wi : TI} {g : TG} {tt : TT} {te : TE} {tz : TS} {α : Type}
/-- for x in ..: if test: return e -/
theorem e_forRet (xs : List α) (ea : α → D) (p : α → Bool) (S : L2.St → Prop) (hi : EvI wi σ B (xs.map ea)) (h0 : S σ)
    (ht : ∀ x ∈ xs, ∀ v σ' B', S σ' → Ex B B' → Rp B' v (ea x) → ∃ σ2, TgOk g v σ' σ2 B' ∧ S σ2 ∧ EvB tt σ2 B' (p x) ∧ (xs.find? p = some x → EvR te σ2 B' R))
    (hz : xs.find? p = none → ∀ σ' B', S σ' → Ex B B' → EvS tz σ' B' R) : EvS (tSeq (tFor wi g (tIfS tt (tRet te) tNext)) tz) σ B R := by
  intro F H o D' q
  refine s_for xs ea hi o (fun B1 k σ' H' => Off F B1 H' ∧ Ex H H' ∧ S σ' ∧ ∀ j (hj : j < xs.length), j < k → p xs[j] = false) (fun H1 e1 => ⟨o.next e1, e1, h0, fun _ _ h => absurd h (Nat.not_lt_zero _)⟩) (fun B1 k σ' H' _ h => h.1)
    (fun B1 k x v σ' H' H'' eB hx hP eH rv => ?_) (fun B1 σ' H' eB hP => ?_)
  · obtain ⟨oH, eH0, hS, hp⟩ := hP
    obtain ⟨hk, rfl⟩ := List.getElem?_eq_some_iff.mp hx
    obtain ⟨σ2, tg, hS2, hb, hr⟩ := ht xs[k] (List.getElem_mem hk) v σ' _ hS (eB.trans ((oH.go eH).cut)) rv
    have o2 := oH.next eH
    refine tg F H'' o2 _ (hb F H'' o2 _ fun H3 e3 => ?_)
    cases hpk : p xs[k] with
    | true =>
      have hf : xs.find? p = some xs[k] := List.find?_eq_some_iff_getElem.mpr ⟨hpk, k, hk, rfl, fun j hj => by rw [hp j (by omega) hj]; rfl⟩
      exact hr hf F H3 (o2.go e3) _ fun u H4 e4 r4 => q u H4 (((eH0.trans eH).trans e3).trans e4) r4
    | false =>
      refine ⟨(oH.go eH).go e3, (eH0.trans eH).trans e3, hS2, fun j hj hjk => ?_⟩
      by_cases h : j = k
      · subst h; exact hpk
      · exact hp j hj (by omega)
  · obtain ⟨oH, eH0, hS, hp⟩ := hP
    have hn : xs.find? p = none := List.find?_eq_none.mpr fun x hx => by
      obtain ⟨j, hj, rfl⟩ := List.mem_iff_getElem.mp hx
      rw [hp j hj hj]
      exact Bool.false_ne_true
    exact hz hn σ' _ hS eB F H' oH D' fun u H2 e2 r2 => q u H2 (eH0.trans e2) r2
theorem e_pair {te : TE} {i : Nat} {d : D} (h : EvD te σ B d) (k : ∀ v B', Ex B B' → Rp B' v d → EvS tz (σ.set i (some v)) B' R) : EvS (tSeq (tAsg te (gName i)) tz) σ B R := e_asg h k
end
/-- what a look-up comes to -/
def oD : Option Int → D
  | none => .none
  | some i => .int i
theorem look_oD (kn : Tab) (ks : List Int) : (look (knD kn) ks).getD .none = oD (look kn ks) := by
  rw [look_map]
  cases look kn ks <;> rfl
theorem look_oD2 (kn : Tab) (ks : List Int) (i : Int) : (look (knD kn) ks).getD (.int i) = .int ((look kn ks).getD i) := by
  rw [look_map]
  cases look kn ks <;> rfl
end G
namespace G
open PySem PySem.Spec PyProof.Rows L2 Evl
section
variable {σ : L2.St} {F : Addr → Prop} {B H : Hp} {R : RelH} {te : TE} {tt : TT} {tu tw tz : TS} {D' : Ends} {b : Bool} {d : D}
theorem h_asg {i : Nat} (h : EvR te σ B R) (o : Off F B H) (k : ∀ v H1, Ex H H1 → Off F (cut F H1) H1 → Ex B (cut F H1) → R (cut F H1) v → tz D' (σ.set i (some v)) H1) : tSeq (tAsg te (gName i)) tz D' σ H :=
  h F H o _ fun v H1 e1 r1 => k v H1 e1 (o.next e1) (o.go e1).cut r1
theorem h_asgD {i : Nat} (h : EvD te σ B d) (o : Off F B H) (k : ∀ v H1, Ex H H1 → Off F (cut F H1) H1 → Ex B (cut F H1) → Rp (cut F H1) v d → tz D' (σ.set i (some v)) H1) : tSeq (tAsg te (gName i)) tz D' σ H := h_asg h o k
theorem h_if (h : EvB tt σ B b) (o : Off F B H) (k1 : b = true → ∀ H1, Ex H H1 → Off F B H1 → tu { D' with nx := tz D' } σ H1) (k2 : b = false → ∀ H1, Ex H H1 → Off F B H1 → tw { D' with nx := tz D' } σ H1) : tSeq (tIfS tt tu tw) tz D' σ H :=
  h F H o _ fun H1 e1 => by
    cases b with
    | true => exact k1 rfl H1 e1 (o.go e1)
    | false => exact k2 rfl H1 e1 (o.go e1)
end
theorem EvS.run {t : TS} {σ : L2.St} {F : Addr → Prop} {B H : Hp} {R : RelH} {D' : Ends} (h : EvS t σ B R) (o : Off F B H) (q : ∀ v H', Ex H H' → R (cut F H') v → D'.rt v H') : t D' σ H := h F H o D' q
theorem d_isNO {te : TE} {σ : L2.St} {B : Hp} : ∀ {x : Option Int}, EvD te σ B (oD x) → EvD (tIsN te) σ B (.bool x.isNone)
  | none, h => d_isN h rfl
  | some _, h => d_isN h rfl
theorem d_notNO {te : TE} {σ : L2.St} {B : Hp} : ∀ {x : Option Int}, EvD te σ B (oD x) → EvD (tNotN te) σ B (.bool (!x.isNone))
  | none, h => d_notN h rfl
  | some _, h => d_notN h rfl
end G
/-! GZ: words for the law's own draws. -/
namespace G
open PySem PySem.Spec PyProof.Rows L2 Evl
theorem c_abs {i : Int} : CallD (fun xs H Q => ∃ i, xs = [.int i] ∧ Q (.int (if i < 0 then -i else i)) H) (rps [.int i]) (rp (.int (if i < 0 then -i else i))) := fun {B xs} r F H o Q q => by
  obtain ⟨x, rfl, rx⟩ := rpa1 r
  obtain rfl := rx.int_inv
  exact ⟨i, rfl, q _ H (Ex.refl H) (.int _)⟩
theorem c_intb {b : Bool} : CallD (fun xs H Q => (∃ i, xs = [.int i] ∧ Q (.int i) H) ∨ ∃ k, xs = [.bl k] ∧ Q (.int (if k then 1 else 0)) H) (rps [.bool b]) (rp (.int (if b then 1 else 0))) := fun {B xs} r F H o Q q => by
  obtain ⟨x, rfl, rx⟩ := rpa1 r
  obtain rfl := rx.bl_inv
  exact .inr ⟨b, rfl, q _ H (Ex.refl H) (.int _)⟩
theorem c_min2 {i j : Int} : CallD (fun xs H Q => ∃ i j, xs = [.int i, .int j] ∧ Q (.int (if j < i then j else i)) H) (rps [.int i, .int j]) (rp (.int (if j < i then j else i))) := fun {B xs} r F H o Q q => by
  obtain ⟨x, y, rfl, rx, ry⟩ := rpa2 r
  obtain rfl := rx.int_inv
  obtain rfl := ry.int_inv
  exact ⟨i, j, rfl, q _ H (Ex.refl H) (.int _)⟩
theorem c_max2 {i j : Int} : CallD (fun xs H Q => ∃ i j, xs = [.int i, .int j] ∧ Q (.int (if j > i then j else i)) H) (rps [.int i, .int j]) (rp (.int (if j > i then j else i))) := fun {B xs} r F H o Q q => by
  obtain ⟨x, y, rfl, rx, ry⟩ := rpa2 r
  obtain rfl := rx.int_inv
  obtain rfl := ry.int_inv
  exact ⟨i, j, rfl, q _ H (Ex.refl H) (.int _)⟩
theorem o_modN {i j : Int} (h : j ≠ 0) : OpD (rI (fun _ j => j ≠ 0) fun i j => .int (i.fmod j)) (rp (.int i)) (rp (.int j)) (rp (.int (i.fmod j))) := o_I (C := fun _ j => j ≠ 0) h fun _ => .int _
theorem o_fdivN {i j : Int} (h : CDivN i j) : OpD (rI CDivN fun i j => .int (i.fdiv j)) (rp (.int i)) (rp (.int j)) (rp (.int (i.fdiv j))) := o_I h fun _ => .int _
theorem o_mul {i j : Int} (h : CMul i j) : OpD (rI CMul fun i j => .int (i * j)) (rp (.int i)) (rp (.int j)) (rp (.int (i * j))) := o_I h fun _ => .int _
theorem o_mulW {i j : Int} (h : CMulW i j) : OpD (rI CMulW fun i j => .int (i * j)) (rp (.int i)) (rp (.int j)) (rp (.int (i * j))) := o_I h fun _ => .int _
theorem o_pow {i j : Int} (h : CPow i j) : OpD (rI CPow fun i j => .int (i ^ j.toNat)) (rp (.int i)) (rp (.int j)) (rp (.int (i ^ j.toNat))) := o_I h fun _ => .int _
theorem fmod_lo {i j : Int} (h : 0 < j) : 0 ≤ i.fmod j ∧ i.fmod j < j := ⟨Int.fmod_nonneg_of_pos i h, Int.fmod_lt_of_pos i h⟩
/-- what is known of a hand -/
structure HandAt (H : Hp) (p : Addr) (m : Nat) : Prop where
  at_ : ∃ g h1 h2 : Int, H p = some (.lst [.int g, .int h1, .int h2]) ∧ 0 ≤ h1 ∧ h1 < 2147483647 ∧ 0 ≤ h2 ∧ h2 ≤ (m : Int)
/-- nothing but the thing at p has changed -/
def But (p : Addr) (H H' : Hp) : Prop := ∀ b u, b ≠ p → H b = some u → H' b = some u
theorem But.refl {p : Addr} {H : Hp} : But p H H := fun _ _ _ h => h
theorem But.trans {p : Addr} {H H' H'' : Hp} (a : But p H H') (b : But p H' H'') : But p H H'' := fun c u n h => b c u n (a c u n h)
theorem But.ex {p : Addr} {H H' : Hp} (e : Ex H H') : But p H H' := fun _ _ _ h => e _ _ h
theorem But.upd {p : Addr} {H : Hp} {u : HO} : But p H (upd H p u) := fun b w n h => by rw [upd_ne n]; exact h
theorem But.fresh {p q : Addr} {H H' : Hp} (h : But p H H') (n : H' q = none) (hp : H' p ≠ none) : H q = none := by
  cases e : H q with
  | none => rfl
  | some u =>
    by_cases z : q = p
    · exact absurd (by rw [← z]; exact n) hp
    · rw [h q u z e] at n; cases n
theorem HandAt.mono {H H' : Hp} {p : Addr} {m : Nat} (h : HandAt H p m) (e : Ex H H') : HandAt H' p m := by
  obtain ⟨g, h1, h2, z, a⟩ := h.at_
  exact ⟨g, h1, h2, e _ _ z, a⟩
theorem HandAt.le {H : Hp} {p : Addr} {m m' : Nat} (h : HandAt H p m) (e : m ≤ m') : HandAt H p m' := by
  obtain ⟨g, h1, h2, z, a, b, c, d⟩ := h.at_
  exact ⟨g, h1, h2, z, a, b, c, by omega⟩
/-- what lies off F stays, F holds -/
theorem Off.but {F : Addr → Prop} {B H H' : Hp} {p : Addr} (o : Off F B H) (hp : F p) (h : But p H H') (hH : ∃ u, H' p = some u ∧ isTup u = false) : Off F B H' := ⟨fun b u z => h b u (fun e => o.off b u z (e ▸ hp)) (o.ex b u z), o.off, fun b z => by
  by_cases e : b = p
  · rw [e]; exact hH
  · obtain ⟨u, hu, ht⟩ := o.dom b z
    exact ⟨u, h b u e hu, ht⟩⟩
theorem HandAt.dom {H : Hp} {p : Addr} {m : Nat} (h : HandAt H p m) : ∃ u, H p = some u ∧ isTup u = false := by
  obtain ⟨g, h1, h2, z, _⟩ := h.at_
  exact ⟨_, z, rfl⟩
theorem h_retL {ta : TA} {σ : L2.St} {F : Addr → Prop} {B H : Hp} {ds : List D} {D' : Ends} (h : EvDs ta σ B ds) (o : Off F B H) (hz : ds.length ≤ 100000)
    (q : ∀ p vs H1, H p = none → Ex H H1 → H1 p = none → RpA (cut F H1) vs ds → D'.rt (.ref p) (upd H1 p (.lst vs))) : tRet (tLst ta) D' σ H :=
  h F H o _ fun vs H1 e1 r1 => ⟨sz_of (by rw [r1.length]; exact hz), fun p hp => q p vs H1 (fresh_back e1 hp) e1 hp r1⟩
section
variable {σ : L2.St} {B : Hp} {wi : TI} {g : TG} {tt : TT} {te : TE} {vs : List Nat}
/-- the new list of a comprehension -/
theorem d_lcN {α : Type} (xs : List α) (ea : α → D) (p : α → Bool) (eb : α → D) (hz : xs.length ≤ 100000) (hi : EvI wi σ B (xs.map ea))
    (ht : ∀ a ∈ xs, ∀ v B', Ex B B' → Rp B' v (ea a) → ∃ σ2, TgOk g v (wipe σ vs) σ2 B' ∧ wipe σ2 vs = wipe σ vs ∧ EvB tt σ2 B' (p a) ∧ (p a = true → EvD te σ2 B' (eb a))) :
    EvN (tLc wi g tt te vs) σ B (rp (.list ((xs.filter p).map eb))) := by
  intro F H0 o Q q
  refine hi F H0 o _ fun J H1 e1 ok Dl hD => ?_
  have o1 : Off F (cut F H1) H1 := o.next e1
  have hB1 : cut F H1 Dl = none := by
    cases z : cut F H1 Dl with
    | none => rfl
    | some u => rw [cut_ex _ _ z] at hD; cases hD
  have nF : ¬ F Dl := o1.free hD
  refine ⟨fun i m H => m = xs.length - i ∧ i ≤ xs.length ∧ Ex H1 H ∧ ∃ acc, H Dl = some (.lst acc) ∧ RpA (cut (fun b => F b ∨ b = Dl) H) acc (((xs.take i).filter p).map eb), ⟨_, rfl, Nat.zero_le _, Ex.new hD, [], upd_same, by simpa using RpA.nil⟩, ?_⟩
  rintro i m H ⟨rfl, hle, eH, acc, hacc, ra⟩
  have oH : Off (fun b => F b ∨ b = Dl) (cut F H1) H := (o1.go eH).add hB1 hacc
  by_cases hlt : i < xs.length
  · have hg := ok.go _ H i (ea xs[i]) oH (by rw [List.getElem?_map, List.getElem?_eq_getElem hlt]; rfl)
    refine .inr ⟨hg.1, fun H' => i + 1 ≤ xs.length ∧ Ex H1 H' ∧ ∃ acc, H' Dl = some (.lst acc) ∧ RpA (cut (fun b => F b ∨ b = Dl) H') acc (((xs.take (i + 1)).filter p).map eb), fun H' n => ⟨xs.length - (i + 1), by omega, rfl, n⟩, fun x H' y => ?_⟩
    obtain ⟨eH', rx⟩ := hg.2 x H' y
    have oH' := oH.next eH'
    obtain ⟨σ2, htg, hw, htt, hte⟩ := ht xs[i] (List.getElem_mem hlt) x _ (o1.go (eH.trans eH') |>.cut.trans (cut_mono (Ex.refl _)) |> fun _ => (o.cut.trans (cut_less (F := F) hD (eH.trans eH') |> fun z => (cut_mono e1).trans z))) rx
    refine htg _ H' oH' _ ⟨hw, htt _ H' oH' _ fun H2 e2 => ?_⟩
    have hacc2 : H2 Dl = some (.lst acc) := e2 _ _ (eH' _ _ hacc)
    have ex2 : Ex H1 H2 := (eH.trans eH').trans e2
    rw [take_filter hlt]
    cases hp : p xs[i] with
    | true =>
      refine hte hp _ H2 (oH'.go e2) _ fun v H3 e3 rv => ?_
      have hacc3 : H3 Dl = some (.lst acc) := e3 _ _ hacc2
      refine ⟨acc, hacc3, sz_lt ?_, hlt, Ex.mut (ex2.trans e3) hD, acc ++ [v], upd_same, ?_⟩
      · rw [ra.length, List.length_map]
        exact Nat.lt_of_le_of_lt (List.length_filter_le _ _) (Nat.lt_of_lt_of_le (by rw [List.length_take]; omega) hz)
      · rw [cut_upd (Or.inr rfl), if_pos rfl]
        exact (ra.mono (cut_mono ((eH'.trans e2).trans e3))).append (.one rv)
    | false =>
      refine ⟨hlt, ex2, acc, hacc2, ?_⟩
      rw [if_neg (by decide), List.append_nil]
      exact ra.mono (cut_mono (eH'.trans e2))
  · have hi' : i = xs.length := by omega
    subst hi'
    rw [List.take_length] at ra
    exact .inl ⟨ok.stop _ H _ oH (by rw [List.length_map]; exact Nat.le_refl _), q _ H (fresh_back e1 hD) (e1.trans eH) (.lst (cut_at nF hacc) (ra.mono cut_more))⟩
theorem d_lcNY {α : Type} (xs : List α) (ea : α → D) (eb : α → D) (hz : xs.length ≤ 100000) (hi : EvI wi σ B (xs.map ea))
    (ht : ∀ a ∈ xs, ∀ v B', Ex B B' → Rp B' v (ea a) → ∃ σ2, TgOk g v (wipe σ vs) σ2 B' ∧ wipe σ2 vs = wipe σ vs ∧ EvD te σ2 B' (eb a)) :
    EvN (tLc wi g tYes te vs) σ B (rp (.list (xs.map eb))) := by
  have := d_lcN (tt := tYes) xs ea (fun _ => true) eb hz hi fun a ha v B' e r => by
    obtain ⟨σ2, h1, h2, h3⟩ := ht a ha v B' e r
    exact ⟨σ2, h1, h2, fun F H o Q q => q H (Ex.refl H), fun _ => h3⟩
  rw [List.filter_eq_self.mpr (fun _ _ => rfl)] at this
  exact this
end
theorem Off.mutN {F : Addr → Prop} {B H H1 : Hp} {p : Addr} {u : HO} (o : Off F B H) (n : H p = none) (e : Ex H H1) : Off F B (L2.upd H1 p u) := o.go (Ex.mut e n)
section
variable {K : PySem.W.Frag} {σ : L2.St} {B : Hp} {te : TE}
theorem d_isiI {i : Int} {b : String} {r : Bool} (h : EvD te σ B (.int i)) (hb : kitB "int" b = some r) : EvD (tCB (rIsi K) (tCons te (tCons (tC (.ty b)) tNil))) σ B (.bool r) := fun F H o Q q =>
  h F H o _ fun v H1 e1 r1 => by
    obtain rfl := r1.int_inv
    exact ⟨_, _, _, _, r, rfl, .ty _, .base (.int i), kit_ty hb, q _ H1 e1 (.bl _)⟩
theorem d_isiT {ds : List D} {b : String} {r : Bool} (h : EvD te σ B (.tuple ds)) (hb : kitB "tuple" b = some r) : EvD (tCB (rIsi K) (tCons te (tCons (tC (.ty b)) tNil))) σ B (.bool r) := fun F H o Q q =>
  h F H o _ fun v H1 e1 r1 => by
    obtain ⟨a, xs, rfl, ha, _⟩ := r1.tup_inv
    exact ⟨_, _, _, _, r, rfl, .ty _, .base (.tup (cut_ex _ _ ha)), kit_ty hb, q _ H1 e1 (.bl _)⟩
end
theorem b_eq {t : TT} {σ : L2.St} {B : Hp} {b b' : Bool} (h : EvB t σ B b) (e : b = b') : EvB t σ B b' := by rw [← e]; exact h
theorem minI_mem {ns : List Int} (h : ns ≠ []) : minI ns ∈ ns := by
  cases ns with
  | nil => exact absurd rfl h
  | cons x r =>
    rcases (foldl_min r x).1 with e | e
    · show r.foldl min x ∈ _
      rw [e]
      exact List.mem_cons_self
    · exact List.mem_cons_of_mem _ e
theorem mem_le_sum : ∀ {ns : List Int}, (∀ x ∈ ns, 0 ≤ x) → 0 ≤ ns.sum ∧ ∀ x ∈ ns, x ≤ ns.sum
  | [], _ => ⟨Int.le_refl _, fun _ h => by cases h⟩
  | y :: ns, h => by
    obtain ⟨h1, h2⟩ := mem_le_sum (ns := ns) fun x hx => h x (List.mem_cons_of_mem _ hx)
    have h3 := h y List.mem_cons_self
    rw [List.sum_cons]
    refine ⟨by omega, fun x hx => ?_⟩
    rcases List.mem_cons.mp hx with rfl | hx
    · omega
    · have := h2 x hx
      omega
theorem yes_of {σ : L2.St} {H : Hp} {A N : Hp → Prop} (h : A H) : tYes σ H fun b H3 => if b = true then A H3 else N H3 := by
  show if true = true then A H else N H
  rw [if_pos rfl]
  exact h
theorem no_of {A N : Prop} (h : N) : if (!true) = true then A else N := by
  rw [if_neg (by decide)]
  exact h
section
variable {K : PySem.W.Frag} {σ : L2.St} {B : Hp} {te : TE} {a : Addr} {i : Nat}
theorem off_l {F : Addr → Prop} {B H : Hp} {xs : List V} (o : Off F B H) (h : SqL K B a xs) : SqL K H a xs := ex_l (fun b u z => o.ex b u z) h
theorem d_lenS {xs : List V} (hs : SqL K B a xs) (h : σ[i]? = some (some (.ref a)) := by rfl) : EvD (tCB (G.rLenS K) (tCons (tVar i) tNil)) σ B (.int (xs.length : Nat)) := fun F H o Q q =>
  ⟨.ref a, h, a, xs, rfl, .inl (off_l o hs), q _ H (Ex.refl H) (.int _)⟩
theorem d_ixS {xs : List V} {n m : Int} (hs : SqL K B a xs) (ht : EvD te σ B (.int n)) (hn : atI xs n = some (.int m)) (h : σ[i]? = some (some (.ref a)) := by rfl) : EvD (tOp (rIxL K) (tVar i) te) σ B (.int m) := fun F H o Q q =>
  ⟨.ref a, h, ht F H o _ fun v H1 e1 r1 => by
    obtain rfl := r1.int_inv
    exact ⟨a, xs, n, _, rfl, rfl, ex_l e1 (off_l o hs), hn, q _ H1 e1 (.int _)⟩⟩
end
end G
namespace K79
open PySem PySem.Spec PyProof.Rows L2 Evl G
def topS (i : Nat) : Stmt := PySem.Challenge.pw_creditfloor_k79_demands_that_force_are_w.main.body.getD i (.Pass ⟨0, 0, 0, 0⟩)
section
variable {P : Program} {w : World} {K : PySem.W.Frag} {mg : Str → Option Value} {base : Heap}
/-! ### changed -/
abbrev s_changed : Stmt := topS 7
theorem sc_changed : FnScope ["balances", "sender", "amount"] ["balances", "sender", "amount"] (defScope s_changed) := ⟨rfl, rfl, rfl, by decide +kernel, rfl, by decide +kernel, by decide +kernel⟩
-- slots: 0 balances, 1 sender, 2 amount; cells: 
def changedM (ns : List Int) (i : Nat) (k : Int) : List Int := ns.take i ++ (ns.getD i 0 + k) :: ns.drop (i + 1)
theorem changed_len {ns : List Int} {i : Nat} {k : Int} (h : i < ns.length) : (changedM ns i k).length = ns.length := by
  unfold changedM
  rw [List.length_append, List.length_cons, List.length_take, List.length_drop]
  omega
def preChanged (B : Hp) (vs : List V) (R : RelH) : Prop := ∃ (ns : List Int) (i : Nat) (k : Int), RpA B vs [tI ns, .int (i : Nat), .int k] ∧ i < ns.length ∧ ns.length ≤ 1000 ∧ R = rp (tI (changedM ns i k))
theorem ok_changed {f : Addr} {fd : FuncData} (F : Fun K "changed" "changed" s_changed f fd) : FnOk P w K mg base CX0 1 f fd ["balances", "sender", "amount"] (spD preChanged) := by
  refine F.ok sc_changed (fun vs H Q E h => ?_) (fun cdv A outer s H vs Q E hr h => ?_)
  · obtain ⟨F, B, R, o, ⟨ns, i, k, r, _⟩, _⟩ := h
    exact r.length
  · obtain ⟨F, B, R, o, ⟨ns, i, k, r, hi, hn, rfl⟩, q⟩ := h
    obtain ⟨v0, v1, v2, rfl, r0, r1, r2⟩ := rpa3 r
    refine ⟨_, (pss_one (ps_ret (pe_op (k_catT K) (pe_op (k_catT K) (pe_slice (k_slT K) (pv 0) po_none (po_some (pv 1))) (pe_tup (pa_cons (pe_op op_add (pe_ix (k_ixT K) (pv 0) (pv 1) (fun _ _ => rfl)) (pv 2)) pa_nil))) (pe_slice (k_slT K) (pv 0) (po_some (pe_op op_add (pv 1) (pe_int))) po_none)))), ?_⟩
    refine fn_run (B := B) (e_ret ?_) o q
    have hg : atI (ns.map PyData.int) ((i : Nat) : Int) = some (.int (ns.getD i 0)) := atI_nat (by rw [List.getElem?_map, List.getD_eq_getElem?_getD, List.getElem?_eq_getElem hi]; rfl)
    refine as_eq (dop (dop (d_slT (d_v r0) p_none (p_some (d_v r1)) _ (sl_pre (by rw [List.length_map]; omega))) (d_tup (d_cons (dop (dop (d_v r0) (d_v r1) (o_ixT hg)) (d_v r2) o_add) d_nil) (by show 1 ≤ 100000; decide)) (o_catT (by simp; omega)))
      (d_slT (d_v r0) (p_some (dop (d_v r1) d_int o_add)) p_none _ sl_post) (o_catT (by simp; omega))) ?_
    simp [changedM, tI, List.map_take, List.map_drop]
/-! ### stalled, where nobody stalls -/
abbrev s_stalled : Stmt := topS 5
theorem sc_stalled : FnScope ["balances", "demand", "at", "balance"] ["balances", "demand"] (defScope s_stalled) := ⟨rfl, rfl, rfl, by decide +kernel, rfl, by decide +kernel, by decide +kernel⟩
-- slots: 0 balances, 1 demand, 2 at, 3 balance; cells: demand
def preStalled (B : Hp) (vs : List V) (R : RelH) : Prop := ∃ bs ds : List Int, RpA B vs [tI bs, tI ds] ∧ bs.length = ds.length ∧ bs.length ≤ 1000 ∧ (∀ i, i < bs.length → ds.getD i 0 ≤ bs.getD i 0) ∧ R = rp (.tuple [])
theorem ok_stalled (T : Zs mg) {f : Addr} {fd : FuncData} (F : Fun K "stalled" "stalled" s_stalled f fd) : FnOk P w K mg base CX0 1 f fd ["balances", "demand"] (spD preStalled) := by
  refine F.ok sc_stalled (fun vs H Q E h => ?_) (fun cdv A outer s H vs Q E hr h => ?_)
  · obtain ⟨F, B, R, o, ⟨bs, ds, r, _⟩, _⟩ := h
    exact r.length
  · obtain ⟨F, B, R, o, ⟨bs, ds, r, hl, hn, hs, rfl⟩, q⟩ := h
    obtain ⟨v0, v1, rfl, r0, r1⟩ := rpa2 r
    refine ⟨_, (pss_one (ps_ret (pe_callTy (k_tuple K) (by rfl) T.z_tuple (by decide +kernel) (pa_cons (pe_lc (own := [("at", 2), ("balance", 3)]) rfl sc_stalled.nd (k_enumT K (by rfl) T.z_enumerate (pa_cons (pv 0) pa_nil)) (blkOk_by (by kernel_rfl)) (fun _ _ _ _ _ => (k_pg K (n := 2) (hc := rfl) (hs := (pgs_cons (pg_name (i := 2) sc_stalled.nd rfl (Or.inl rfl)) (pgs_cons (pg_name (i := 3) sc_stalled.nd rfl (Or.inl rfl)) pgs_nil))))) (fun _ _ _ _ _ => (pts_one (pt_cmpR op_gt (pe_ix (k_ixT K) (pv 1) (pv 2) (fun _ _ => rfl)) (pv 3) (nomark _)))) (fun _ _ _ _ _ => (pv 2))) pa_nil)))), ?_⟩
    refine fn_run (B := B) (e_ret ?_) o q
    refine as_eq (dcb (d_cons (d_lcF bs.zipIdx (fun p => .tuple [.int (p.2 : Nat), .int p.1]) (fun p => decide (p.1 < ds.getD p.2 0)) (fun p => .int (p.2 : Nat)) (by rw [List.length_zipIdx]; omega) (i_enumT' (d_cons (d_v r0) d_nil)) fun p hp v B' e rv => ?_) d_nil) c_tupL) ?_
    · obtain ⟨x, y, rx, ry, ht⟩ := tg_pair (K := K) (i := 2) (j := 3) rv
      have hm := List.mem_zipIdx' hp
      refine ⟨_, ht, rfl, b_cmp (dop (dop (d_v (r1.mono e)) (d_v rx) (o_ixT (d := .int (ds.getD p.2 0)) ?_)) (d_v ry) o_gt), fun _ => d_v rx⟩
      exact atI_nat (by rw [List.getElem?_map, List.getD_eq_getElem?_getD, List.getElem?_eq_getElem (by omega)]; rfl)
    · rw [List.filter_eq_nil_iff.mpr]
      · rfl
      · intro p hp
        have hm := List.mem_zipIdx' hp
        have := hs p.2 hm.1
        rw [List.getD_eq_getElem?_getD (l := bs), List.getElem?_eq_getElem hm.1] at this
        simp only [Option.getD_some] at this
        rw [decide_eq_true_eq, hm.2]
        omega
/-! ### less_demand -/
abbrev s_less_demand : Stmt := topS 6
theorem sc_less_demand : FnScope ["balances", "demand", "senders", "balance", "amount"] ["balances", "demand"] (defScope s_less_demand) := ⟨rfl, rfl, rfl, by decide +kernel, rfl, by decide +kernel, by decide +kernel⟩
-- slots: 0 balances, 1 demand, 2 senders, 3 balance, 4 amount; cells: 
def lessM (bs ds : List Int) : List Int := (bs.zip ds).map fun p => p.1 - p.2
theorem less_len {bs ds : List Int} (h : bs.length = ds.length) : (lessM bs ds).length = bs.length := by
  unfold lessM
  rw [List.length_map, List.length_zip]
  omega
def preLess (B : Hp) (vs : List V) (R : RelH) : Prop := ∃ bs ds : List Int, RpA B vs [tI bs, tI ds] ∧ bs.length = ds.length ∧ bs.length ≤ 1000 ∧ (∀ i, i < bs.length → ds.getD i 0 ≤ bs.getD i 0) ∧ R = rp (tI (lessM bs ds))
theorem ok_less (T : Zs mg) (c_stalled : Cal P w K mg base 1 "stalled" ["balances", "demand"] [] (spD preStalled)) {f : Addr} {fd : FuncData} (F : Fun K "less_demand" "less_demand" s_less_demand f fd) : FnOk P w K mg base CX0 2 f fd ["balances", "demand"] (spD preLess) := by
  refine F.ok sc_less_demand (fun vs H Q E h => ?_) (fun cdv A outer s H vs Q E hr h => ?_)
  · obtain ⟨F, B, R, o, ⟨bs, ds, r, _⟩, _⟩ := h
    exact r.length
  · obtain ⟨F, B, R, o, ⟨bs, ds, r, hl, hn, hs, rfl⟩, q⟩ := h
    obtain ⟨v0, v1, rfl, r0, r1⟩ := rpa2 r
    refine ⟨_, (pss_cons (ps_set (i := 2) sc_less_demand.nd rfl (Or.inl rfl) (pe_call c_stalled.ok (hr.mono (by first | decide | omega)) (by rfl) c_stalled.m c_stalled.kp c_stalled.b c_stalled.hv pass0 (pa_cons (pv 0) (pa_cons (pv 1) pa_nil))))
    (pss_cons (ps_if (pt_cmpR (k_neD K (hu := hr.units)) (pv 2) (pe_tup pa_nil) (nomark _)) (pss_one (ps_never)) pss_nil)
    (pss_one (ps_ret (pe_callTy (k_tuple K) (by rfl) T.z_tuple (by decide +kernel) (pa_cons (pe_lc (own := [("balance", 3), ("amount", 4)]) rfl sc_less_demand.nd (k_zip K (by rfl) T.z_zip (pa_cons (pv 0) (pa_cons (pv 1) pa_nil))) (blkOk_by (by kernel_rfl)) (fun _ _ _ _ _ => (k_pg K (n := 2) (hc := rfl) (hs := (pgs_cons (pg_name (i := 3) sc_less_demand.nd rfl (Or.inl rfl)) (pgs_cons (pg_name (i := 4) sc_less_demand.nd rfl (Or.inl rfl)) pgs_nil))))) (fun _ _ _ _ _ => pts_nil) (fun _ _ _ _ _ => (pe_op op_sub (pv 3) (pv 4)))) pa_nil)))))), ?_⟩
    refine fn_run (B := B) ?_ o q
    refine e_asgD (dcall (d_cons (d_v r0) (d_cons (d_v r1) d_nil)) fun B' vs e ra => ⟨bs, ds, ra, hl, hn, hs, rfl⟩) fun v B1 e1 rv => ?_
    refine e_if (b := false) (b_cmp (as_eq (dop (d_v rv) (d_tup d_nil (Nat.zero_le _)) (o_neD rfl rfl)) rfl)) (fun h => nomatch h) fun _ => e_ret ?_
    refine as_eq (dcb (d_cons (d_lc (bs.zip ds) (fun p => .tuple [.int p.1, .int p.2]) (fun p => .int (p.1 - p.2)) (by rw [List.length_zip]; omega) (i_zipT' (d_cons (d_v (r0.mono e1)) (d_cons (d_v (r1.mono e1)) d_nil))) fun p hp v B' e rv => ?_) d_nil) c_tupL) ?_
    · obtain ⟨x, y, rx, ry, ht⟩ := tg_pair (K := K) (i := 3) (j := 4) rv
      exact ⟨_, ht, rfl, dop (d_v rx) (d_v ry) o_sub⟩
    · unfold lessM tI
      rw [List.map_map]
      rfl
end
end K79
namespace K79
open PySem PySem.Spec PyProof.Rows L2 Evl G
section
variable {P : Program} {w : World} {K : PySem.W.Frag} {mg : Str → Option Value} {base : Heap}
/-! ### results -/
abbrev s_results : Stmt := topS 11
theorem sc_results : FnScope ["balances", "demand", "budget", "left", "sender"] ["balances", "demand", "budget"] (defScope s_results) := ⟨rfl, rfl, rfl, by decide +kernel, rfl, by decide +kernel, by decide +kernel⟩
-- slots: 0 balances, 1 demand, 2 budget, 3 left, 4 sender; cells: budget, left
def resultsM (bs ds : List Int) (b : Int) : List (List Int) := ssort ((List.range bs.length).map fun i => isort (changedM (lessM bs ds) i b))
structure Fits (bs ds : List Int) (b : Int) : Prop where
  len : bs.length = ds.length
  one : 1 ≤ bs.length
  few : bs.length ≤ 60
  no : ∀ i, i < bs.length → ds.getD i 0 ≤ bs.getD i 0
  bd : ∀ x ∈ lessM bs ds, 0 ≤ x ∧ x + b < 64
  b0 : 0 ≤ b
theorem mem_changed {ns : List Int} {i : Nat} {k x : Int} (h : i < ns.length) (hx : x ∈ changedM ns i k) : x ∈ ns ∨ ∃ y ∈ ns, x = y + k := by
  unfold changedM at hx
  rcases List.mem_append.mp hx with hx | hx
  · exact .inl (List.mem_of_mem_take hx)
  · rcases List.mem_cons.mp hx with hx | hx
    · refine .inr ⟨ns[i], List.getElem_mem h, ?_⟩
      rw [hx, List.getD_eq_getElem?_getD, List.getElem?_eq_getElem h]
      rfl
    · exact .inl (List.mem_of_mem_drop hx)
theorem Fits.ok {bs ds : List Int} {b : Int} (F : Fits bs ds b) : ∀ ks ∈ (List.range bs.length).map (fun i => isort (changedM (lessM bs ds) i b)), ks.length = bs.length ∧ TS.Bd 64 ks := by
  intro ks hk
  obtain ⟨i, hi, rfl⟩ := List.mem_map.mp hk
  have hi' : i < (lessM bs ds).length := by rw [less_len F.len]; exact List.mem_range.mp hi
  refine ⟨by rw [isort_length, changed_len hi', less_len F.len], fun m hm => ?_⟩
  have := (isort_perm _).mem_iff.mp hm
  rcases mem_changed hi' this with h | ⟨y, hy, rfl⟩
  · have := F.bd m h
    have := F.b0
    omega
  · have := F.bd y hy
    have := F.b0
    omega
def preResults (B : Hp) (vs : List V) (R : RelH) : Prop := ∃ (bs ds : List Int) (b : Int), RpA B vs [tI bs, tI ds, .int b] ∧ Fits bs ds b ∧ R = rp (lT (resultsM bs ds b))
theorem ok_results (T : Zs mg) (c_less_demand : Cal P w K mg base 2 "less_demand" ["balances", "demand"] [] (spD preLess)) (c_changed : Cal P w K mg base 1 "changed" ["balances", "sender", "amount"] [] (spD preChanged))
    {f : Addr} {fd : FuncData} (F : Fun K "results" "results" s_results f fd) : FnOk P w K mg base CX0 3 f fd ["balances", "demand", "budget"] (spD preResults) := by
  refine F.ok sc_results (fun vs H Q E h => ?_) (fun cdv A outer s H vs Q E hr h => ?_)
  · obtain ⟨F, B, R, o, ⟨bs, ds, b, r, _⟩, _⟩ := h
    exact r.length
  · obtain ⟨F, B, R, o, ⟨bs, ds, b, r, hF, rfl⟩, q⟩ := h
    obtain ⟨v0, v1, v2, rfl, r0, r1, r2⟩ := rpa3 r
    refine ⟨_, (pss_cons (ps_set (i := 3) sc_results.nd rfl (Or.inr rfl) (pe_call c_less_demand.ok (hr.mono (by first | decide | omega)) (by rfl) c_less_demand.m c_less_demand.kp c_less_demand.b c_less_demand.hv pass0 (pa_cons (pv 0) (pa_cons (pv 1) pa_nil))))
    (pss_one (ps_ret (pe_callB (k_sortS K P w (hc := rfl)) (by rfl) T.z_sorted (by decide +kernel) (pa_cons (pe_callTy (k_set K P w (hc := rfl) (hu := hr.units)) (by rfl) T.z_set (by decide +kernel) (pa_cons (pe_lc (own := [("sender", 4)]) rfl sc_results.nd (pi_range1 (by rfl) T.z_range (pa_cons (pe_callB (k_len K) (by rfl) T.z_len (by decide +kernel) (pa_cons (pv 0) pa_nil)) pa_nil)) (blkOk_by (by kernel_rfl)) (fun _ _ _ _ _ => (pg_name (i := 4) sc_results.nd rfl (Or.inl rfl))) (fun _ _ _ _ _ => pts_nil) (fun _ _ _ _ _ => (pe_callTy (k_tuple K) (by rfl) T.z_tuple (by decide +kernel) (pa_cons (pe_callB (k_sortT K) (by rfl) T.z_sorted (by decide +kernel) (pa_cons (pe_call c_changed.ok (hr.mono (by first | decide | omega)) (by rfl) c_changed.m c_changed.kp c_changed.b c_changed.hv pass0 (pa_cons (pv 3) (pa_cons (pv 4) (pa_cons (pv 2) pa_nil)))) pa_nil)) pa_nil)))) pa_nil)) pa_nil))))), ?_⟩
    refine fn_run (B := B) ?_ o q
    have hlen := hF.len
    have hone := hF.one
    have hfew := hF.few
    refine e_asgD (dcall (d_cons (d_v r0) (d_cons (d_v r1) d_nil)) fun B' vs e ra => ⟨bs, ds, ra, hF.len, by omega, hF.no, rfl⟩) fun v B1 e1 rv => ?_
    refine e_ret (d_sortSet (kss := (List.range bs.length).map fun i => isort (changedM (lessM bs ds) i b)) (n := bs.length) (as_eq (d_lc (List.range bs.length) (fun i => .int ((i : Nat) : Int)) (fun i => tI (isort (changedM (lessM bs ds) i b))) (by rw [List.length_range]; omega) ?_ fun i hi v B' e rv' => ?_) ?_) hF.one hF.ok (by rw [List.length_map, List.length_range]; omega))
    · exact i_rng1' (d_cons (dcb (d_cons (d_v (r0.mono e1)) d_nil) c_lenT) d_nil) (by rw [List.length_map]) (by omega)
    · have hi' := List.mem_range.mp hi
      have hl := less_len hF.len
      refine ⟨_, tg_name, rfl, ?_⟩
      refine dcb (d_cons (dcb (d_cons (dcall (d_cons (d_v (rv.mono e)) (d_cons (d_v rv') (d_cons (d_v (r2.mono (e1.trans e))) d_nil))) fun B' vs e' ra => ⟨lessM bs ds, i, b, ra, by omega, by omega, rfl⟩) d_nil) (c_sortT (by rw [changed_len (by omega)]; omega))) d_nil) c_tupL
    · rw [List.map_map]
      rfl
/-! ### demands_of -/
abbrev s_demands_of : Stmt := topS 9
theorem sc_demands_of : FnScope ["count", "budget", "found", "first", "others"] ["count", "budget"] (defScope s_demands_of) := ⟨rfl, rfl, rfl, by decide +kernel, rfl, by decide +kernel, by decide +kernel⟩
-- slots: 0 count, 1 budget, 2 found, 3 first, 4 others; cells: first
/-- all demands of the whole budget of n + 1 senders -/
def demandsM : Nat → Nat → List (List Int)
  | 0, b => [[(b : Int)]]
  | n + 1, b => (List.range (b + 1)).flatMap fun f => (demandsM n (b - f)).map fun o => (f : Int) :: o
theorem demands_len : ∀ (n b : Nat), ∀ d ∈ demandsM n b, d.length = n + 1
  | 0, b, d, h => by
    rw [List.mem_singleton.mp h]
    rfl
  | n + 1, b, d, h => by
    obtain ⟨f, hf, hd⟩ := List.mem_flatMap.mp h
    obtain ⟨o, ho, rfl⟩ := List.mem_map.mp hd
    rw [List.length_cons, demands_len n _ o ho]
theorem demands_few : ∀ n, n ≤ 3 → ∀ b, b ≤ 4 → (demandsM n b).length ≤ 1000 := by decide +kernel
def preDemands (m : Nat) (B : Hp) (vs : List V) (R : RelH) : Prop := ∃ n b : Nat, RpA B vs [.int ((n + 1 : Nat) : Int), .int (b : Nat)] ∧ n < m ∧ n ≤ 3 ∧ b ≤ 4 ∧ R = rp (lT (demandsM n b))
theorem demands_step (T : Zs mg) {m : Nat} {f : Addr} {fd : FuncData} (F : Fun K "demands_of" "demands_of" s_demands_of f fd) (c_demands_of : Cal P w K mg base m "demands_of" ["count", "budget"] [] (spD (preDemands m))) :
    FnOk P w K mg base CX0 (m + 1) f fd ["count", "budget"] (spD (preDemands (m + 1))) := by
  refine F.ok sc_demands_of (fun vs H Q E h => ?_) (fun cdv A outer s H vs Q E hr h => ?_)
  · obtain ⟨F, B, R, o, ⟨n, b, r, _⟩, _⟩ := h
    exact r.length
  · obtain ⟨F, B, R, o, ⟨n, b, r, hm, hn, hb, rfl⟩, q⟩ := h
    obtain ⟨v0, v1, rfl, r0, r1⟩ := rpa2 r
    refine ⟨_, (pss_cons (ps_if (pt_cmpR op_eq (pv 0) (pe_int) (nomark _)) (pss_one (ps_ret (pe_lst (pa_cons (pe_tup (pa_cons (pv 1) pa_nil)) pa_nil)))) pss_nil)
    (pss_cons (ps_set (i := 2) sc_demands_of.nd rfl (Or.inl rfl) (pe_lst pa_nil))
    (pss_cons (ps_for PassesOwn.never rfl (pi_range1 (by rfl) T.z_range (pa_cons (pe_op op_add (pv 1) (pe_int)) pa_nil)) (pg_name (i := 3) sc_demands_of.nd rfl (Or.inr rfl))
    (pss_one (ps_expr (k_bm K PySem.F.plainAttrs_list PySem.F.slot_list_extend PySem.F.type_list_extend mt_extend (pv 2) (pa_cons (pe_lc (own := [("others", 4)]) rfl sc_demands_of.nd (k_iList K (hl := (pe_call c_demands_of.ok (hr.mono (by first | decide | omega)) (by rfl) c_demands_of.m c_demands_of.kp c_demands_of.b c_demands_of.hv pass0 (pa_cons (pe_op op_sub (pv 0) (pe_int)) (pa_cons (pe_op op_sub (pv 1) (pv 3)) pa_nil))))) (blkOk_by (by kernel_rfl)) (fun _ _ _ _ _ => (pg_name (i := 4) sc_demands_of.nd rfl (Or.inl rfl))) (fun _ _ _ _ _ => pts_nil) (fun _ _ _ _ _ => (pe_op (k_catT K) (pe_tup (pa_cons (pv 3) pa_nil)) (pv 4)))) pa_nil)))))
    (pss_one (ps_ret (pv 2)))))), ?_⟩
    refine fn_run (B := B) ?_ o q
    refine e_if (b := decide (((n + 1 : Nat) : Int) = 1)) (b_cmp (dop (d_v r0) d_int o_eqI)) (fun h => ?_) (fun h => ?_)
    · have hn0 : n = 0 := by have := of_decide_eq_true h; omega
      subst hn0
      exact e_ret (d_lst (d_cons (d_tup (d_cons (d_v r1) d_nil) (by show 1 ≤ 100000; decide)) d_nil) (by show 1 ≤ 100000; decide))
    · obtain ⟨n, rfl⟩ : ∃ k, n = k + 1 := ⟨n - 1, by have := of_decide_eq_false h; omega⟩
      have hlen := demands_few (n + 1) hn b hb
      have ee : (List.range (b + 1)).flatMap (fun f => ((demandsM n (b - f)).map fun o => (f : Int) :: o).map tI) = (demandsM (n + 1) b).map tI := by
        show _ = ((List.range (b + 1)).flatMap fun f => (demandsM n (b - f)).map fun o => (f : Int) :: o).map tI
        rw [List.map_flatMap]
      have := e_extend (K := K) (σ := L2.start ["count", "budget", "found", "first", "others"] [v0, v1]) (B := B) (i := 2) (j := 3) (by decide) (by show 2 < 5; decide) (List.range (b + 1)) (fun i => .int ((i : Nat) : Int)) (fun f => ((demandsM n (b - f)).map fun o => (f : Int) :: o).map tI)
        (wi := iRng1 (tCons (tOp (rI0 fun i j => .int (i + j)) (tVar 1) (tC (.int 1))) tNil))
        (te := tLc (iList K (tCall (spD (preDemands m)) [] E0 (tCons (tOp (rI0 fun i j => .int (i - j)) (tVar 0) (tC (.int 1))) (tCons (tOp (rI0 fun i j => .int (i - j)) (tVar 1) (tVar 3)) tNil)))) (gName 4) tYes (tOp (rCatA K) (tTup (tCons (tVar 3) tNil)) (tVar 4)) [4])
        (by rw [ee, List.length_map]; omega) (fun p => ?_) (fun f hf p v B' e rv => ?_)
      · rw [ee] at this
        exact this
      · exact i_rng1' (d_cons (dop (d_v r1) d_int o_add) d_nil) (by omega) (by omega)
      · have hf' := List.mem_range.mp hf
        refine as_eq (d_lc (demandsM n (b - f)) tI (fun o => tI ((f : Int) :: o)) (Nat.le_trans (demands_few n (by omega) (b - f) (by omega)) (by decide)) (i_list (dcall (d_cons (dop (d_v (r0.mono e)) d_int o_sub) (d_cons (dop (d_v (r1.mono e)) (d_v rv) o_sub) d_nil)) fun B' vs e' ra => ⟨n, b - f, ?_, by omega, by omega, by omega, rfl⟩)) fun d hd v B'' e' rv' => ?_) ?_
        · rw [show (((n + 1 + 1 : Nat) : Int) - 1) = ((n + 1 : Nat) : Int) by omega, show ((b : Int) - (f : Int)) = ((b - f : Nat) : Int) by omega] at ra
          exact ra
        · refine ⟨_, tg_name, rfl, ?_⟩
          exact dop (d_tup (d_cons (d_v (rv.mono e')) d_nil) (by show 1 ≤ 100000; decide)) (d_v rv') (o_catT (by have := demands_len n _ d hd; simp; omega))
        · rw [List.map_map]
          rfl
/-! ### choices -/
abbrev s_choices : Stmt := topS 12
theorem sc_choices : FnScope ["balances", "budget", "demand"] ["balances", "budget"] (defScope s_choices) := ⟨rfl, rfl, rfl, by decide +kernel, rfl, by decide +kernel, by decide +kernel⟩
-- slots: 0 balances, 1 budget, 2 demand; cells: balances, budget
def choicesM (n : Nat) (bs : List Int) (b : Nat) : List (List (List Int)) := (demandsM n b).map fun d => resultsM bs d b
def preChoices (B : Hp) (vs : List V) (R : RelH) : Prop := ∃ (n : Nat) (bs : List Int) (b : Nat), RpA B vs [tI bs, .int (b : Nat)] ∧ bs.length = n + 1 ∧ n ≤ 3 ∧ b ≤ 4 ∧ (∀ d ∈ demandsM n b, Fits bs d b) ∧ R = rp (.list ((choicesM n bs b).map lT))
theorem ok_choices (T : Zs mg) (c_demands_of : Cal P w K mg base 4 "demands_of" ["count", "budget"] [] (spD (preDemands 4))) (c_results : Cal P w K mg base 3 "results" ["balances", "demand", "budget"] [] (spD preResults))
    {f : Addr} {fd : FuncData} (F : Fun K "choices" "choices" s_choices f fd) : FnOk P w K mg base CX0 5 f fd ["balances", "budget"] (spD preChoices) := by
  refine F.ok sc_choices (fun vs H Q E h => ?_) (fun cdv A outer s H vs Q E hr h => ?_)
  · obtain ⟨F, B, R, o, ⟨n, bs, b, r, _⟩, _⟩ := h
    exact r.length
  · obtain ⟨F, B, R, o, ⟨n, bs, b, r, hl, hn, hb, hF, rfl⟩, q⟩ := h
    obtain ⟨v0, v1, rfl, r0, r1⟩ := rpa2 r
    refine ⟨_, (pss_one (ps_ret (pe_lc (own := [("demand", 2)]) rfl sc_choices.nd (k_iList K (hl := (pe_call c_demands_of.ok (hr.mono (by first | decide | omega)) (by rfl) c_demands_of.m c_demands_of.kp c_demands_of.b c_demands_of.hv pass0 (pa_cons (pe_callB (k_len K) (by rfl) T.z_len (by decide +kernel) (pa_cons (pv 0) pa_nil)) (pa_cons (pv 1) pa_nil))))) (blkOk_by (by kernel_rfl)) (fun _ _ _ _ _ => (pg_name (i := 2) sc_choices.nd rfl (Or.inl rfl))) (fun _ _ _ _ _ => pts_nil) (fun _ _ _ _ _ => (pe_call c_results.ok (hr.mono (by first | decide | omega)) (by rfl) c_results.m c_results.kp c_results.b c_results.hv pass0 (pa_cons (pv 0) (pa_cons (pv 2) (pa_cons (pv 1) pa_nil)))))))), ?_⟩
    refine fn_run (B := B) (e_ret ?_) o q
    refine as_eq (d_lc (demandsM n b) tI (fun d => lT (resultsM bs d b)) (Nat.le_trans (demands_few n hn b hb) (by decide)) (i_list (dcall (d_cons (dcb (d_cons (d_v r0) d_nil) c_lenT) (d_cons (d_v r1) d_nil)) fun B' vs e ra => ⟨n, b, ?_, by omega, hn, hb, rfl⟩)) fun d hd v B' e rv => ?_) ?_
    · rw [List.length_map, hl] at ra
      exact ra
    · refine ⟨_, tg_name, rfl, dcall (d_cons (d_v (r0.mono e)) (d_cons (d_v rv) (d_cons (d_v (r1.mono e)) d_nil))) fun B' vs e' ra => ⟨bs, d, b, ra, hF d hd, rfl⟩⟩
    · unfold choicesM
      rw [List.map_map]
      rfl
end
end K79
namespace K79
open PySem PySem.Spec PyProof.Rows L2 Evl G
section
variable {P : Program} {w : World} {K : PySem.W.Frag} {mg : Str → Option Value} {base : Heap}
/-! ### sorted_balances -/
abbrev s_sorted_balances : Stmt := topS 10
theorem sc_sorted_balances : FnScope ["count", "total", "least", "found", "first", "others"] ["count", "total", "least"] (defScope s_sorted_balances) := ⟨rfl, rfl, rfl, by decide +kernel, rfl, by decide +kernel, by decide +kernel⟩
-- slots: 0 count, 1 total, 2 least, 3 found, 4 first, 5 others; cells: first
/-- all rows of n + 1 numbers from l on that do not fall, with the sum t -/
def sortedM : Nat → Nat → Nat → List (List Int)
  | 0, t, l => if l ≤ t then [[(t : Int)]] else []
  | n + 1, t, l => (List.range (t / (n + 2) + 1 - l)).flatMap fun i => (sortedM n (t - (l + i)) (l + i)).map fun o => ((l + i : Nat) : Int) :: o
theorem sorted_len : ∀ (n t l : Nat), ∀ d ∈ sortedM n t l, d.length = n + 1
  | 0, t, l, d, h => by
    unfold sortedM at h
    split at h
    · rw [List.mem_singleton.mp h]
      rfl
    · cases h
  | n + 1, t, l, d, h => by
    obtain ⟨i, hi, hd⟩ := List.mem_flatMap.mp h
    obtain ⟨o, ho, rfl⟩ := List.mem_map.mp hd
    rw [List.length_cons, sorted_len n _ _ o ho]
theorem sorted_nodup : ∀ (n t l : Nat), (sortedM n t l).Nodup
  | 0, t, l => by
    unfold sortedM
    split
    · exact List.pairwise_singleton _ _
    · exact List.nodup_nil
  | n + 1, t, l => by
    show List.Pairwise _ (List.flatMap _ _)
    refine List.pairwise_flatMap.mpr ⟨fun i hi => ?_, ?_⟩
    · refine List.pairwise_map.mpr ((sorted_nodup n _ _).imp fun h e => h ?_)
      exact (List.cons.inj e).2
    · refine List.pairwise_lt_range.imp fun {i j} h x hx y hy e => ?_
      obtain ⟨a, _, rfl⟩ := List.mem_map.mp hx
      obtain ⟨b, _, rfl⟩ := List.mem_map.mp hy
      have := (List.cons.inj e).1
      omega
theorem sorted_few : ∀ n, n ≤ 3 → ∀ t, t ≤ 24 → ∀ l, l ≤ 24 → (sortedM n t l).length ≤ 1000 := by decide +kernel
def preSorted (m : Nat) (B : Hp) (vs : List V) (R : RelH) : Prop := ∃ n t l : Nat, RpA B vs [.int ((n + 1 : Nat) : Int), .int (t : Nat), .int (l : Nat)] ∧ n < m ∧ n ≤ 3 ∧ t ≤ 24 ∧ l ≤ 24 ∧ R = rp (lT (sortedM n t l))
theorem sorted_step (T : Zs mg) {m : Nat} {dvs : List V} {f : Addr} {fd : FuncData} (F : FunD K "sorted_balances" "sorted_balances" (defArgs s_sorted_balances) (defBody s_sorted_balances) (defScope s_sorted_balances) dvs [] f fd) (c_sorted_balances3 : Cal P w K mg base m "sorted_balances" ["count", "total", "least"] [] (spD (preSorted m))) :
    FnOk P w K mg base CX0 (m + 1) f fd ["count", "total", "least"] (spD (preSorted (m + 1))) := by
  refine F.ok sc_sorted_balances (fun vs H Q E h => ?_) (fun cdv A outer s H vs Q E hr h => ?_)
  · obtain ⟨F, B, R, o, ⟨n, t, l, r, _⟩, _⟩ := h
    exact r.length
  · obtain ⟨F, B, R, o, ⟨n, t, l, r, hm, hn, ht, hl, rfl⟩, q⟩ := h
    obtain ⟨v0, v1, v2, rfl, r0, r1, r2⟩ := rpa3 r
    refine ⟨_, L2.PSs.nox (pss_cons (ps_if (pt_cmpR op_eq (pv 0) (pe_int) (nomark _)) (pss_one (ps_ret (pe_ifExp (pt_cmpR op_ge (pv 1) (pv 2) (nomark _)) (pe_lst (pa_cons (pe_tup (pa_cons (pv 1) pa_nil)) pa_nil)) (pe_lst pa_nil)))) pss_nil)
    (pss_cons (ps_set (i := 3) sc_sorted_balances.nd rfl (Or.inl rfl) (pe_lst pa_nil))
    (pss_cons (ps_for PassesOwn.never rfl (pi_range2 (by rfl) T.z_range (pa_cons (pv 2) (pa_cons (pe_op op_add (pe_op op_fdivN (pv 1) (pv 0)) (pe_int)) pa_nil))) (pg_name (i := 4) sc_sorted_balances.nd rfl (Or.inr rfl))
    (pss_one (ps_expr (k_bm K PySem.F.plainAttrs_list PySem.F.slot_list_extend PySem.F.type_list_extend mt_extend (pv 3) (pa_cons (pe_lc (own := [("others", 5)]) rfl sc_sorted_balances.nd (k_iList K (hl := (pe_call c_sorted_balances3.ok (hr.mono (by first | decide | omega)) (by rfl) c_sorted_balances3.m c_sorted_balances3.kp c_sorted_balances3.b c_sorted_balances3.hv pass0 (pa_cons (pe_op op_sub (pv 0) (pe_int)) (pa_cons (pe_op op_sub (pv 1) (pv 4)) (pa_cons (pv 4) pa_nil)))))) (blkOk_by (by kernel_rfl)) (fun _ _ _ _ _ => (pg_name (i := 5) sc_sorted_balances.nd rfl (Or.inl rfl))) (fun _ _ _ _ _ => pts_nil) (fun _ _ _ _ _ => (pe_op (k_catT K) (pe_tup (pa_cons (pv 4) pa_nil)) (pv 5)))) pa_nil)))))
    (pss_one (ps_ret (pv 3)))))), ?_⟩
    refine fn_run (B := B) ?_ o q
    refine e_if (b := decide (((n + 1 : Nat) : Int) = 1)) (b_cmp (dop (d_v r0) d_int o_eqI)) (fun h => ?_) (fun h => ?_)
    · have hn0 : n = 0 := by have := of_decide_eq_true h; omega
      subst hn0
      refine e_ret (d_if (b := decide ((l : Int) ≤ (t : Int))) (b_cmp (dop (d_v r1) (d_v r2) o_ge)) (fun h => ?_) (fun h => ?_))
      · have h' : l ≤ t := by have := of_decide_eq_true h; omega
        unfold sortedM
        rw [if_pos h']
        exact d_lst (d_cons (d_tup (d_cons (d_v r1) d_nil) (by show 1 ≤ 100000; decide)) d_nil) (by show 1 ≤ 100000; decide)
      · have h' : ¬ l ≤ t := by have := of_decide_eq_false h; omega
        unfold sortedM
        rw [if_neg h']
        exact d_lst d_nil (Nat.zero_le _)
    · obtain ⟨n, rfl⟩ : ∃ k, n = k + 1 := ⟨n - 1, by have := of_decide_eq_false h; omega⟩
      have hlen := sorted_few (n + 1) hn t ht l hl
      have hdiv : t / (n + 2) ≤ t := Nat.div_le_self _ _
      have hfd : ((t : Nat) : Int).fdiv ((n + 1 + 1 : Nat) : Int) = ((t / (n + 2) : Nat) : Int) := by
        rw [Int.fdiv_eq_ediv_of_nonneg _ (by omega)]
        exact (Int.natCast_ediv t (n + 2)).symm
      have ee : (List.range (t / (n + 2) + 1 - l)).flatMap (fun i => ((sortedM n (t - (l + i)) (l + i)).map fun o => ((l + i : Nat) : Int) :: o).map tI) = (sortedM (n + 1) t l).map tI := by
        show _ = ((List.range (t / (n + 2) + 1 - l)).flatMap fun i => (sortedM n (t - (l + i)) (l + i)).map fun o => ((l + i : Nat) : Int) :: o).map tI
        rw [List.map_flatMap]
      obtain ⟨z, hz⟩ : ∃ z, t / (n + 2) = z := ⟨_, rfl⟩
      rw [hz] at hdiv hfd ee
      have := e_extend (K := K) (σ := L2.start ["count", "total", "least", "found", "first", "others"] [v0, v1, v2]) (B := B) (i := 3) (j := 4) (by decide) (by show 3 < 6; decide) (List.range (z + 1 - l)) (fun i => .int ((l : Int) + ((i : Nat) : Int))) (fun i => ((sortedM n (t - (l + i)) (l + i)).map fun o => ((l + i : Nat) : Int) :: o).map tI)
        (wi := iRng2 (tCons (tVar 2) (tCons (tOp (rI0 fun i j => .int (i + j)) (tOp (rI CDivN fun i j => .int (i.fdiv j)) (tVar 1) (tVar 0)) (tC (.int 1))) tNil)))
        (te := tLc (iList K (tCall (spD (preSorted m)) [] E0 (tCons (tOp (rI0 fun i j => .int (i - j)) (tVar 0) (tC (.int 1))) (tCons (tOp (rI0 fun i j => .int (i - j)) (tVar 1) (tVar 4)) (tCons (tVar 4) tNil))))) (gName 5) tYes (tOp (rCatA K) (tTup (tCons (tVar 4) tNil)) (tVar 5)) [5])
        (by rw [ee, List.length_map]; omega) (fun p => ?_) (fun i hi p v B' e rv => ?_)
      · rw [ee] at this
        exact this
      · have hfd' : EvD (tOp (rI CDivN fun i j => .int (i.fdiv j)) (tVar 1) (tVar 0)) ((L2.start ["count", "total", "least", "found", "first", "others"] [v0, v1, v2]).set 3 (some (.ref p))) B (.int (z : Int)) := as_eq (dop (d_v r1) (d_v r0) (o_I ⟨by omega, by omega⟩ fun _ => .int _)) (by rw [hfd])
        exact i_rng2n (d_cons (d_v r2) (d_cons (dop hfd' d_int o_add) d_nil)) (by omega) (by omega)
      · have hi' := List.mem_range.mp hi
        have rv' : Rp B' v (.int ((l + i : Nat) : Int)) := by rw [Int.natCast_add]; exact rv
        refine as_eq (d_lc (sortedM n (t - (l + i)) (l + i)) tI (fun o => tI (((l + i : Nat) : Int) :: o)) (Nat.le_trans (sorted_few n (by omega) (t - (l + i)) (by omega) (l + i) (by omega)) (by decide)) (i_list (dcall (d_cons (dop (d_v (r0.mono e)) d_int o_sub) (d_cons (dop (d_v (r1.mono e)) (d_v rv') o_sub) (d_cons (d_v rv') d_nil))) fun B' vs e' ra => ⟨n, t - (l + i), l + i, ?_, by omega, by omega, by omega, by omega, rfl⟩)) fun d hd v B'' e' rv2 => ?_) ?_
        · rw [show (((n + 1 + 1 : Nat) : Int) - 1) = ((n + 1 : Nat) : Int) by omega, show ((t : Int) - ((l + i : Nat) : Int)) = ((t - (l + i) : Nat) : Int) by omega] at ra
          exact ra
        · refine ⟨_, tg_name, rfl, ?_⟩
          exact dop (d_tup (d_cons (d_v (rv'.mono e')) d_nil) (by show 1 ≤ 100000; decide)) (d_v rv2) (o_catT (by have := sorted_len n _ _ d hd; simp; omega))
        · rw [List.map_map]
          rfl
end
end K79
namespace K79
open PySem PySem.Spec PyProof.Rows L2 Evl G
theorem sorted_bd : ∀ (n t l : Nat), ∀ r ∈ sortedM n t l, ∀ x ∈ r, (l : Int) ≤ x ∧ x ≤ (t : Int)
  | 0, t, l, r, h, x, hx => by
    unfold sortedM at h
    split at h
    · rw [List.mem_singleton.mp h] at hx
      rw [List.mem_singleton.mp hx]
      exact ⟨by omega, Int.le_refl _⟩
    · cases h
  | n + 1, t, l, r, h, x, hx => by
    obtain ⟨i, hi, hd⟩ := List.mem_flatMap.mp h
    obtain ⟨o, ho, rfl⟩ := List.mem_map.mp hd
    have hi := List.mem_range.mp hi
    have hdiv : t / (n + 2) ≤ t := Nat.div_le_self _ _
    rcases List.mem_cons.mp hx with rfl | hx
    · exact ⟨by omega, by omega⟩
    · have := sorted_bd n _ _ o ho x hx
      exact ⟨by omega, by omega⟩
theorem sorted_head : ∀ (n t l : Nat), ∀ r ∈ sortedM n t l, ∀ x ∈ r, r.getD 0 0 ≤ x
  | 0, t, l, r, h, x, hx => by
    unfold sortedM at h
    split at h
    · rw [List.mem_singleton.mp h] at hx ⊢
      rw [List.mem_singleton.mp hx]
      exact Int.le_refl _
    · cases h
  | n + 1, t, l, r, h, x, hx => by
    obtain ⟨i, hi, hd⟩ := List.mem_flatMap.mp h
    obtain ⟨o, ho, rfl⟩ := List.mem_map.mp hd
    show ((l + i : Nat) : Int) ≤ x
    rcases List.mem_cons.mp hx with rfl | hx
    · exact Int.le_refl _
    · exact (sorted_bd n _ _ o ho x hx).1
theorem demands_bd : ∀ (n b : Nat), ∀ d ∈ demandsM n b, ∀ x ∈ d, 0 ≤ x ∧ x ≤ (b : Int)
  | 0, b, d, h, x, hx => by
    rw [List.mem_singleton.mp h] at hx
    rw [List.mem_singleton.mp hx]
    exact ⟨by omega, Int.le_refl _⟩
  | n + 1, b, d, h, x, hx => by
    obtain ⟨f, hf, hd⟩ := List.mem_flatMap.mp h
    obtain ⟨o, ho, rfl⟩ := List.mem_map.mp hd
    have hf := List.mem_range.mp hf
    rcases List.mem_cons.mp hx with rfl | hx
    · exact ⟨by omega, by omega⟩
    · have := demands_bd n _ o ho x hx
      exact ⟨by omega, by omega⟩
theorem getD_mem {l : List Int} {i : Nat} (h : i < l.length) : l.getD i 0 ∈ l := by
  rw [List.getD_eq_getElem?_getD, List.getElem?_eq_getElem h]
  exact List.getElem_mem h
theorem less_mem {bs ds : List Int} {x : Int} (h : x ∈ lessM bs ds) : ∃ y ∈ bs, ∃ z ∈ ds, x = y - z := by
  obtain ⟨p, hp, rfl⟩ := List.mem_map.mp h
  exact ⟨p.1, (List.of_mem_zip hp).1, p.2, (List.of_mem_zip hp).2, rfl⟩
theorem fits_of {n t b : Nat} {r d : List Int} (hn : n ≤ 3) (ht : t ≤ 24) (hb : b ≤ 4) (hr : r ∈ sortedM n t 0) (hge : (b : Int) ≤ r.getD 0 0) (hd : d ∈ demandsM n b) : Fits r d b := by
  have l1 := sorted_len n t 0 r hr
  have l2 := demands_len n b d hd
  refine ⟨by omega, by omega, by omega, fun i hi => ?_, fun x hx => ?_, by omega⟩
  · have h1 := sorted_head n t 0 r hr _ (getD_mem hi)
    have h2 := demands_bd n b d hd _ (getD_mem (l := d) (i := i) (by omega))
    omega
  · obtain ⟨y, hy, z, hz, rfl⟩ := less_mem hx
    have h1 := sorted_head n t 0 r hr _ hy
    have h2 := sorted_bd n t 0 r hr _ hy
    have h3 := demands_bd n b d hd _ hz
    omega
theorem insU_le (x : List Int) : ∀ l : List (List Int), (insU x l).length ≤ l.length + 1
  | [] => Nat.le_refl _
  | y :: l => by
    have := insU_le x l
    unfold insU
    split
    · exact Nat.le_refl _
    · split
      · exact Nat.le_succ _
      · rw [List.length_cons, List.length_cons]; omega
theorem ssort_le : ∀ l : List (List Int), (ssort l).length ≤ l.length
  | [] => Nat.le_refl _
  | x :: l => by
    have h1 := ssort_le l
    have h2 := insU_le x (ssort l)
    show (insU x (ssort l)).length ≤ l.length + 1
    omega
theorem results_le (bs ds : List Int) (b : Int) : (resultsM bs ds b).length ≤ bs.length := by
  have := ssort_le ((List.range bs.length).map fun i => isort (changedM (lessM bs ds) i b))
  rw [List.length_map, List.length_range] at this
  exact this
theorem choices_ok {n : Nat} {r : List Int} {b : Nat} (hn : n ≤ 3) (hb : b ≤ 4) (hl : r.length ≤ 1000) : (choicesM n r b).length ≤ 100000 ∧ ∀ lot ∈ choicesM n r b, lot.length ≤ 100000 := by
  refine ⟨?_, fun lot h => ?_⟩
  · unfold choicesM
    rw [List.length_map]
    exact Nat.le_trans (demands_few n hn b hb) (by decide)
  · obtain ⟨d, _, rfl⟩ := List.mem_map.mp h
    have := results_le r d b
    omega
def known0 (rows : List (List Int)) (b : Nat) : Tab := (rows.filter fun r => decide (r.getD 0 0 < (b : Int))).map fun r => (r, 1)
def left0 (n : Nat) (rows : List (List Int)) (b : Nat) : Lef := (rows.filter fun r => !(look (known0 rows b) r).isSome).map fun r => (r, choicesM n r b)
def numbersM (n b t : Nat) : Tab := loopM ((left0 n (sortedM n t 0) b).length + 1) (known0 (sortedM n t 0) b) (left0 n (sortedM n t 0) b) 1
theorem look_known0 {rows : List (List Int)} {b : Nat} {r : List Int} (hr : r ∈ rows) (h : (look (known0 rows b) r).isSome = false) : (b : Int) ≤ r.getD 0 0 := by
  rw [Option.isSome_eq_false_iff, Option.isNone_iff_eq_none] at h
  have h := look_none.mp h
  rw [known0, List.map_map] at h
  refine Int.not_lt.mp fun z => h ?_
  exact List.mem_map.mpr ⟨r, List.mem_filter.mpr ⟨hr, decide_eq_true z⟩, rfl⟩
theorem start_ok {n b t : Nat} (hn : n ≤ 3) (hb : b ≤ 4) (ht : t ≤ 24) : LfOk (known0 (sortedM n t 0) b) (left0 n (sortedM n t 0) b) := by
  have hfew := sorted_few n hn t ht 0 (by omega)
  refine ⟨?_, fun r hr => ?_, ?_, fun r hr => ?_⟩
  · rw [left0, List.map_map]
    have : (((sortedM n t 0).filter fun r => !(look (known0 (sortedM n t 0) b) r).isSome).map ((fun r => r.1) ∘ fun r => (r, choicesM n r b))) = ((sortedM n t 0).filter fun r => !(look (known0 (sortedM n t 0) b) r).isSome) := by
      exact List.map_id _
    rw [this]
    exact (sorted_nodup n t 0).sublist List.filter_sublist
  · obtain ⟨a, ha, rfl⟩ := List.mem_map.mp hr
    have := (List.mem_filter.mp ha).2
    show look _ a = none
    cases e : look (known0 (sortedM n t 0) b) a with
    | none => rfl
    | some c => rw [e] at this; cases this
  · rw [left0, known0, List.length_map, List.length_map]
    have h1 := List.length_filter_le (fun r => decide (r.getD 0 0 < (b : Int))) (sortedM n t 0)
    have h2 := List.length_filter_le (fun r => !(look (known0 (sortedM n t 0) b) r).isSome) (sortedM n t 0)
    rw [known0] at h2
    omega
  · obtain ⟨a, ha, rfl⟩ := List.mem_map.mp hr
    have hl := sorted_len n t 0 a (List.mem_filter.mp ha).1
    exact choices_ok hn hb (by omega)
section
variable {P : Program} {w : World} {K : PySem.W.Frag} {mg : Str → Option Value} {base : Heap}
/-! ### numbers_of -/
abbrev s_numbers_of : Stmt := topS 13
theorem sc_numbers_of : FnScope ["count", "budget", "total", "rows", "known", "left", "ticks", "has_new", "lost", "row", "balances", "lots", "lot", "one"] ["count", "budget", "total"] (defScope s_numbers_of) := ⟨rfl, rfl, rfl, by decide +kernel, rfl, by decide +kernel, by decide +kernel⟩
-- slots: 0 count, 1 budget, 2 total, 3 rows, 4 known, 5 left, 6 ticks, 7 has_new, 8 lost, 9 row, 10 balances, 11 lots, 12 lot, 13 one; cells: budget, known
def preNumbers (B : Hp) (vs : List V) (R : RelH) : Prop := ∃ n b t : Nat, RpA B vs [.int ((n + 1 : Nat) : Int), .int (b : Nat), .int (t : Nat)] ∧ n ≤ 3 ∧ b ≤ 4 ∧ t ≤ 24 ∧ R = rd (knD (numbersM n b t))
theorem ok_numbers (T : Zs mg) (c_sorted_balances2 : Cal P w K mg base 4 "sorted_balances" ["count", "total", "least"] [.int 0] (spD (preSorted 4))) (c_choices : Cal P w K mg base 5 "choices" ["balances", "budget"] [] (spD preChoices))
    {f : Addr} {fd : FuncData} (F : Fun K "numbers_of" "numbers_of" s_numbers_of f fd) : FnOk P w K mg base CX0 6 f fd ["count", "budget", "total"] (spD preNumbers) := by
  refine F.ok sc_numbers_of (fun vs H Q E h => ?_) (fun cdv A outer s H vs Q E hr h => ?_)
  · obtain ⟨F, B, R, o, ⟨n, b, t, r, _⟩, _⟩ := h
    exact r.length
  · obtain ⟨F, B, R, o, ⟨n, b, t, r, hn, hb, ht, rfl⟩, q⟩ := h
    obtain ⟨v0, v1, v2, rfl, r0, r1, r2⟩ := rpa3 r
    refine ⟨_, (pss_cons (ps_set (i := 3) sc_numbers_of.nd rfl (Or.inl rfl) (pe_call c_sorted_balances2.ok (hr.mono (by first | decide | omega)) (by rfl) c_sorted_balances2.m c_sorted_balances2.kp c_sorted_balances2.b c_sorted_balances2.hv pass0 (pa_cons (pv 0) (pa_cons (pv 2) pa_nil))))
    (pss_cons (ps_set (i := 4) sc_numbers_of.nd rfl (Or.inr rfl) (pe_dcT (hu_of hr) (own := [("balances", 10)]) rfl sc_numbers_of.nd (k_iList K (hl := (pv 3))) (blkOk_by (by kernel_rfl)) (fun _ _ _ _ _ => (pg_name (i := 10) sc_numbers_of.nd rfl (Or.inl rfl))) (fun _ _ _ _ _ => (pts_one (pt_cmpR op_lt (pe_ix (k_ixT K) (pv 10) (pe_int) (fun _ _ => rfl)) (pv 1) (nomark _)))) (fun _ _ _ _ _ => (pv 10)) (fun _ _ _ _ _ => (pe_int))))
    (pss_cons (ps_setDcT (i := 5) (hu_of hr) (own := [("balances", 10)]) rfl sc_numbers_of.nd rfl rfl (sw_trueD rfl rfl rfl (by kernel_rfl)) (k_iList K (hl := (pv 3))) (blkOk_by (by kernel_rfl)) (fun _ _ _ _ _ => (pg_name (i := 10) sc_numbers_of.nd rfl (Or.inl rfl))) (fun _ _ _ _ _ => (pts_one (pt_cmp (pc_dnotin (hu_of hr) (pv 10) (pv 4)) (by rfl)))) (fun _ _ _ _ _ => (pv 10)) (fun _ _ _ _ _ => (pe_call c_choices.ok (hr.mono (by first | decide | omega)) (by rfl) c_choices.m c_choices.kp c_choices.b c_choices.hv pass0 (pa_cons (pv 10) (pa_cons (pv 1) pa_nil)))))
    (pss_cons (ps_asg (pe_tup (pa_cons (pe_int) (pa_cons (pe_bl) pa_nil))) (k_pg K (n := 2) (hc := rfl) (hs := (pgs_cons (pg_name (i := 6) sc_numbers_of.nd rfl (Or.inl rfl)) (pgs_cons (pg_name (i := 7) sc_numbers_of.nd rfl (Or.inl rfl)) pgs_nil)))))
    (pss_cons (ps_while PassesOwn.never (pt_val (pv 7)) (pss_cons (ps_aug (i := 6) sc_numbers_of.nd rfl (Or.inl rfl) (pe_int) ip_add)
    (pss_cons (ps_lock (ps_setLc (i := 8) (own := [("row", 9), ("lots", 11)]) rfl sc_numbers_of.nd rfl rfl (sw_true rfl rfl rfl (by kernel_rfl)) (pi_itemsT (pv 5)) (blkOk_by (by kernel_rfl)) (fun _ _ _ _ _ => (k_pg K (n := 2) (hc := rfl) (hs := (pgs_cons (pg_name (i := 9) sc_numbers_of.nd rfl (Or.inl rfl)) (pgs_cons (pg_name (i := 11) sc_numbers_of.nd rfl (Or.inl rfl)) pgs_nil))))) (fun _ _ _ _ _ => (pts_one (pt_val (pe_callB (k_any K (hc := rfl)) (by rfl) T.z_any (by decide +kernel) (pa_cons (pe_lc (own := [("lot", 12)]) rfl sc_numbers_of.nd (k_iList K (hl := (pv 11))) (blkOk_by (by kernel_rfl)) (fun _ _ _ _ _ => (pg_name (i := 12) sc_numbers_of.nd rfl (Or.inl rfl))) (fun _ _ _ _ _ => pts_nil) (fun _ _ _ _ _ => (pe_callB (k_all K (hc := rfl)) (by rfl) T.z_all (by decide +kernel) (pa_cons (pe_lc (own := [("one", 13)]) rfl sc_numbers_of.nd (k_iList K (hl := (pv 12))) (blkOk_by (by kernel_rfl)) (fun _ _ _ _ _ => (pg_name (i := 13) sc_numbers_of.nd rfl (Or.inl rfl))) (fun _ _ _ _ _ => pts_nil) (fun _ _ _ _ _ => (pe_cmp (pc_din (hu_of hr) (pv 13) (pv 4)) rfl))) pa_nil)))) pa_nil))))) (fun _ _ _ _ _ => (pv 9))))
    (pss_cons (ps_for PassesOwn.never rfl (k_iList K (hl := (pv 8))) (pg_name (i := 9) sc_numbers_of.nd rfl (Or.inl rfl))
    (pss_cons (ps_dput (hu_of hr) (pv 4) (pv 9) (pv 6) (by rfl))
    (pss_one (ps_expr (k_bm K PySem.F.plainAttrs_dict PySem.F.slot_dict_pop PySem.F.type_dict_pop (mt_popT1 (hu_of hr)) (pv 5) (pa_cons (pv 9) pa_nil))))))
    (pss_one (ps_set (i := 7) sc_numbers_of.nd rfl (Or.inl rfl) (pe_cmpR (k_neD K (hu := hr.units)) (pv 8) (pe_lst pa_nil) (nomark _))))))))
    (pss_one (ps_ret (pv 4)))))))), ?_⟩
    refine fn_run (B := B) ?_ o q
    have hfew := sorted_few n hn t ht 0 (by omega)
    refine e_asgD (dcall0 (d_cons (d_v r0) (d_cons (d_v r2) d_nil)) fun B' vs e ra => ⟨n, t, 0, ra, by omega, hn, ht, by omega, rfl⟩) fun v3 B1 e1 r3 => ?_
    intro F H0 o D q
    have k0 : ((sortedM n t 0).filter fun r => decide (r.getD 0 0 < (b : Int))).map (fun a => (id a, PyData.int 1)) = knD (known0 (sortedM n t 0) b) := by
      rw [knD, known0, List.map_map]
      rfl
    have ev4 : EvN (tDcT (iList K (tVar 3)) (gName 10) (tTest (tOp (rI0 fun i j => .bl (decide (i < j))) (tOp (rIxT K) (tVar 10) (tC (.int 0))) (tVar 1))) (tVar 10) (tC (.int 1)) [10])
        [some v0, some v1, some v2, some v3, none, none, none, none, none, none, none, none, none, none] B1 (rd (knD (known0 (sortedM n t 0) b))) := by
      rw [← k0]
      refine d_dcT (sortedM n t 0) tI (fun r => decide (r.getD 0 0 < (b : Int))) id (fun _ => .int 1) (by omega) (i_list (d_v r3)) (by rw [List.map_id]; exact sorted_nodup n t 0) fun r hr v B' e rv => ?_
      refine ⟨_, tg_name, rfl, b_cmp (dop (dop (d_v rv) d_int (o_ixT (d := .int (r.getD 0 0)) ?_)) (d_v (r1.mono (e1.trans e))) o_lt), fun _ => ⟨d_v rv, d_int⟩⟩
      have hl := sorted_len n t 0 r hr
      cases r with
      | nil => cases hl
      | cons x r => exact atI_nat (show ((x :: r).map PyData.int)[0]? = _ from rfl)
    refine n_asg ev4 o fun p4 H1 f4 e2 r4 => ?_
    have o1 : Off F (cut F H1) H1 := o.next e2
    have eB1 := (o.go e2).cut
    have k1 : ((sortedM n t 0).filter fun r => !(look (known0 (sortedM n t 0) b) r).isSome).map (fun a => (id a, PyData.list ((choicesM n a b).map lT))) = lfD (left0 n (sortedM n t 0) b) := by
      rw [lfD, left0, List.map_map]
      rfl
    have ev5 : EvN (tDcT (iList K (tVar 3)) (gName 10) (tB (tDNotIn (tVar 10) (tVar 4))) (tVar 10) (tCall (spD preChoices) [] E0 (tCons (tVar 10) (tCons (tVar 1) tNil))) [10])
        [some v0, some v1, some v2, some v3, some (.ref p4), none, none, none, none, none, none, none, none, none] (cut F H1) (rd (lfD (left0 n (sortedM n t 0) b))) := by
      rw [← k1]
      refine d_dcT (sortedM n t 0) tI (fun r => !(look (known0 (sortedM n t 0) b) r).isSome) id (fun a => PyData.list ((choicesM n a b).map lT)) (by omega) (i_list (d_v (r3.mono eB1))) (by rw [List.map_id]; exact sorted_nodup n t 0) fun r hr v B' e rv => ?_
      refine ⟨_, tg_name, rfl, b_val (as_eq (d_dnotin (ks := r) (d_v rv) (d_var (mono_rd _) (v := .ref p4) rfl (mono_rd _ e r4))) (by rw [look_map]; simp)), fun hp => ⟨d_v rv, ?_⟩⟩
      have hl := sorted_len n t 0 r hr
      have hge := look_known0 (b := b) hr (by simpa using hp)
      exact dcall (d_cons (d_v rv) (d_cons (d_v (r1.mono ((e1.trans eB1).trans e))) d_nil)) fun B'' vs e' ra => ⟨n, r, b, ra, hl, hn, hb, fun d hd => fits_of hn ht hb hr hge hd, rfl⟩
    refine n_asg ev5 o1 fun p5 H2 f5 e3 r5 => ?_
    refine ⟨by decide, fun p6 f6 => ?_⟩
    refine ⟨p6, _, rfl, st_of upd_same, rfl, _, _, rfl, _, _, rfl, rfl, ?_⟩
    have hne : p4 ≠ p5 := fun z => by
      obtain ⟨p, kvs, e1, h1, _⟩ := r4
      cases e1
      rw [z] at h1
      rw [cut_ex _ _ h1] at f5
      cases f5
    have n4 : ¬ F p4 := o.free f4
    have n5 : ¬ F p5 := o1.free f5
    have e6 : Ex H2 (upd H2 p6 (.tup [.int 1, .bl true])) := Ex.new f6
    obtain ⟨H6, hH6⟩ : ∃ H6, upd H2 p6 (.tup [.int 1, .bl true]) = H6 := ⟨_, rfl⟩
    rw [hH6] at e6 ⊢
    have dF : ∀ b, F b → ∃ u, H2 b = some u ∧ isTup u = false := (o1.go e3).dom
    have hd0 : Hd F H2 p4 p5 H6 (known0 (sortedM n t 0) b) (left0 n (sortedM n t 0) b) := by
      obtain ⟨p, kvs4, z1, h4, s4⟩ := r4
      cases z1
      obtain ⟨p, kvs5, z1, h5, s5⟩ := r5
      cases z1
      have g4 : H6 p4 = some (.dT kvs4) := e6 _ _ (e3 _ _ (cut_ex _ _ h4))
      have g5 : H6 p5 = some (.dT kvs5) := e6 _ _ (cut_ex _ _ h5)
      exact ⟨fun b u _ _ z => e6 _ _ z, ⟨kvs4, g4, ((s4.mono (cut_mono (e3.trans e6))).addF g4 rfl).addF g5 rfl⟩, ⟨kvs5, g5, ((s5.mono (cut_mono e6)).addF g4 rfl).addF g5 rfl⟩⟩
    refine rounds (x8 := none) (x9 := none) hne n4 n5 dF hd0 (start_ok hn hb ht) rfl fun H' lf hd => ?_
    obtain ⟨kvs, h4, s4⟩ := hd.t4
    refine q _ H' (Ex.two e2 e3 f4 f5 hd.a) ⟨p4, kvs, rfl, cut_at n4 h4, s4.mono (cut_more.trans cut_more)⟩
end
end K79
namespace K79
open PySem PySem.Spec PyProof.Rows L2 Evl G
structure Posn (bs : List Int) (n b t : Nat) : Prop where
  len : bs.length = n + 1
  n3 : n ≤ 3
  b4 : b ≤ 4
  sum : bs.sum = (t : Int)
  t24 : t ≤ 24
  bd : ∀ x ∈ bs, 0 ≤ x ∧ x ≤ 24
def ticksM (bs : List Int) (b : Nat) : Option Int := look (numbersM (bs.length - 1) b bs.sum.toNat) (isort bs)
def forceM (bs : List Int) (b : Nat) (here : Int) : Option (List Int) :=
  match bs.zipIdx.find? fun p => decide (p.1 < (b : Int)) with
  | some p => some ((List.replicate p.2 0 ++ [p.1 + 1]) ++ List.replicate (bs.length - p.2 - 1) 0)
  | none => (demandsM (bs.length - 1) b).find? fun d => (resultsM bs d b).all fun later => decide ((look (numbersM (bs.length - 1) b bs.sum.toNat) later).getD here < here)
def oT : Option (List Int) → D
  | none => .none
  | some l => tI l
section
variable {P : Program} {w : World} {K : PySem.W.Frag} {mg : Str → Option Value} {base : Heap}
abbrev s_ticks_to_stall : Stmt := topS 14
theorem sc_ticks_to_stall : FnScope ["balances", "budget"] ["balances", "budget"] (defScope s_ticks_to_stall) := ⟨rfl, rfl, rfl, by decide +kernel, rfl, by decide +kernel, by decide +kernel⟩
-- slots: 0 balances, 1 budget; cells: 
def preTicks (B : Hp) (vs : List V) (R : RelH) : Prop := ∃ (bs : List Int) (n b t : Nat), RpA B vs [tI bs, .int (b : Nat)] ∧ Posn bs n b t ∧ R = rp (oD (ticksM bs b))
theorem ev_numbers {σ : L2.St} {B : Hp} {v0 v1 : V} {E : XK} {bs : List Int} {n b t : Nat} (p : Posn bs n b t) (h0 : σ[0]? = some (some v0)) (h1 : σ[1]? = some (some v1)) (r0 : Rp B v0 (tI bs)) (r1 : Rp B v1 (.int (b : Nat))) :
    EvR (tCall (spD preNumbers) [] E (tCons (tCB (G.rLenS K) (tCons (tVar 0) tNil)) (tCons (tVar 1) (tCons (tCB (rSumT K) (tCons (tVar 0) tNil)) tNil)))) σ B (rd (knD (numbersM (bs.length - 1) b bs.sum.toNat))) := by
  refine d_callP (RA := rps [.int ((n + 1 : Nat) : Int), .int (b : Nat), .int (t : Nat)]) (d_cons (as_eq (dcb (d_cons (d_v r0 h0) d_nil) c_lenT) (show PyData.int ((bs.map PyData.int).length : Nat) = _ by rw [List.length_map, p.len])) (d_cons (d_v r1 h1) (d_cons (as_eq (dcb (d_cons (d_v r0 h0) d_nil) c_sumT) (by rw [p.sum])) d_nil))) fun B' vs e ra => ⟨n, b, t, ra, p.n3, p.b4, p.t24, ?_⟩
  rw [p.len, p.sum]
  rfl
theorem ev_sorted {σ : L2.St} {B : Hp} {v0 : V} {bs : List Int} {n b t : Nat} (p : Posn bs n b t) (h0 : σ[0]? = some (some v0)) (r0 : Rp B v0 (tI bs)) :
    EvD (tCB (rTupleOf K) (tCons (tCB (rSortTI K) (tCons (tVar 0) tNil)) tNil)) σ B (tI (isort bs)) :=
  dcb (d_cons (dcb (d_cons (d_v r0 h0) d_nil) (c_sortT (by have := p.len; have := p.n3; omega))) d_nil) c_tupL
theorem ok_ticks (T : Zs mg) (c_numbers_of : Cal P w K mg base 6 "numbers_of" ["count", "budget", "total"] [] (spD preNumbers))
    {f : Addr} {fd : FuncData} (F : Fun K "ticks_to_stall" "ticks_to_stall" s_ticks_to_stall f fd) : FnOk P w K mg base CX0 7 f fd ["balances", "budget"] (spD preTicks) := by
  refine F.ok sc_ticks_to_stall (fun vs H Q E h => ?_) (fun cdv A outer s H vs Q E hr h => ?_)
  · obtain ⟨F, B, R, o, ⟨bs, n, b, t, r, _⟩, _⟩ := h
    exact r.length
  · obtain ⟨F, B, R, o, ⟨bs, n, b, t, r, p, rfl⟩, q⟩ := h
    obtain ⟨v0, v1, rfl, r0, r1⟩ := rpa2 r
    refine ⟨_, (pss_one (ps_ret (pe_dget1 (hu_of hr) (pe_call c_numbers_of.ok (hr.mono (by first | decide | omega)) (by rfl) c_numbers_of.m c_numbers_of.kp c_numbers_of.b c_numbers_of.hv pass0 (pa_cons (pe_callB (k_len K) (by rfl) T.z_len (by decide +kernel) (pa_cons (pv 0) pa_nil)) (pa_cons (pv 1) (pa_cons (pe_callB (k_sumT K (hc := rfl)) (by rfl) T.z_sum (by decide +kernel) (pa_cons (pv 0) pa_nil)) pa_nil)))) (pe_callTy (k_tuple K) (by rfl) T.z_tuple (by decide +kernel) (pa_cons (pe_callB (k_sortT K) (by rfl) T.z_sorted (by decide +kernel) (pa_cons (pv 0) pa_nil)) pa_nil)) ⟨by rfl, by rfl, by rfl, by rfl⟩))), ?_⟩
    refine fn_run (B := B) (e_ret ?_) o q
    exact as_eq (d_dget1 (ev_numbers p rfl rfl r0 r1) (ev_sorted p rfl r0)) (look_oD _ _)
/-! ### forcing_demand -/
/-- the class AlreadySafe -/
structure ASafe (P : Program) (w : World) (K : PySem.W.Frag) (mg : Str → Option Value) (base : Heap) where
  C : Addr
  fI : Addr
  fd : FuncData
  T : OexC K C
  iC : PySem.W.findIn K (.ref C) "__init__" = some (some (.ref fI))
  tI : PySem.W.typeIn K (.ref fI) = some (.type "function")
  F1 : FnOk P w K mg base CX0 1 fI fd ["self"] (spInit K)
  b : Binds K fd ["self"] []
  m : mg "AlreadySafe" = some (.ref C)
  te : PySem.W.exmOne K (.ref C) (.ref C) = some true
abbrev s_forcing_demand : Stmt := topS 15
theorem sc_forcing_demand : FnScope ["balances", "budget", "known", "here", "at", "balance", "demand", "later"] ["balances", "budget"] (defScope s_forcing_demand) := ⟨rfl, rfl, rfl, by decide +kernel, rfl, by decide +kernel, by decide +kernel⟩
-- slots: 0 balances, 1 budget, 2 known, 3 here, 4 at, 5 balance, 6 demand, 7 later; cells: here, known
def spForce (C : Addr) : Sp := fun vs H Q E => ∃ (F : Addr → Prop) (B : Hp) (bs : List Int) (n b t : Nat), Off F B H ∧ RpA B vs [tI bs, .int (b : Nat)] ∧ Posn bs n b t ∧
  (ticksM bs b = none → ∀ H', Ex H H' → E (.ref C) none H') ∧ (∀ here, ticksM bs b = some here → ∀ v H', Ex H H' → Rp (cut F H') v (oT (forceM bs b here)) → Q v H')
theorem fits_ge {bs d : List Int} {n b t : Nat} (p : Posn bs n b t) (hge : ∀ x ∈ bs, (b : Int) ≤ x) (hd : d ∈ demandsM n b) : Fits bs d b := by
  have l1 := p.len
  have l2 := demands_len n b d hd
  have hn := p.n3
  have hb := p.b4
  refine ⟨by omega, by omega, by omega, fun i hi => ?_, fun x hx => ?_, by omega⟩
  · have h1 := hge _ (getD_mem hi)
    have h2 := demands_bd n b d hd _ (getD_mem (l := d) (i := i) (by omega))
    omega
  · obtain ⟨y, hy, z, hz, rfl⟩ := less_mem hx
    have h1 := hge _ hy
    have h2 := p.bd _ hy
    have h3 := demands_bd n b d hd _ hz
    omega
theorem ok_forcing (T : Zs mg) (S : ASafe P w K mg base) (c_numbers_of : Cal P w K mg base 6 "numbers_of" ["count", "budget", "total"] [] (spD preNumbers)) (c_demands_of : Cal P w K mg base 4 "demands_of" ["count", "budget"] [] (spD (preDemands 4)))
    (c_results : Cal P w K mg base 3 "results" ["balances", "demand", "budget"] [] (spD preResults))
    {f : Addr} {fd : FuncData} (F : Fun K "forcing_demand" "forcing_demand" s_forcing_demand f fd) : FnOk P w K mg base (L2.CX P w) 7 f fd ["balances", "budget"] (spForce S.C) := by
  refine F.okX sc_forcing_demand (fun vs H Q E h => ?_) (fun cdv A outer s H vs Q E hr h => ?_)
  · obtain ⟨F, B, bs, n, b, t, o, r, _⟩ := h
    exact r.length
  · obtain ⟨F, B, bs, n, b, t, o, r, p, qE, q⟩ := h
    obtain ⟨v0, v1, rfl, r0, r1⟩ := rpa2 r
    refine ⟨_, (pss_cons (ps_set (i := 2) sc_forcing_demand.nd rfl (Or.inr rfl) (pe_call c_numbers_of.ok (hr.mono (by first | decide | omega)) (by rfl) c_numbers_of.m c_numbers_of.kp c_numbers_of.b c_numbers_of.hv pass0 (pa_cons (pe_callB (k_len K) (by rfl) T.z_len (by decide +kernel) (pa_cons (pv 0) pa_nil)) (pa_cons (pv 1) (pa_cons (pe_callB (k_sumT K (hc := rfl)) (by rfl) T.z_sum (by decide +kernel) (pa_cons (pv 0) pa_nil)) pa_nil)))))
    (pss_cons (ps_set (i := 3) sc_forcing_demand.nd rfl (Or.inr rfl) (pe_dget1 (hu_of hr) (pv 2) (pe_callTy (k_tuple K) (by rfl) T.z_tuple (by decide +kernel) (pa_cons (pe_callB (k_sortT K) (by rfl) T.z_sorted (by decide +kernel) (pa_cons (pv 0) pa_nil)) pa_nil)) ⟨by rfl, by rfl, by rfl, by rfl⟩))
    (pss_cons (ps_if (pt_cmp (pc_isN (pv 3)) (by rfl)) (pss_one (ps_raise rfl (takes_of rfl rfl rfl rfl) (pmk_oex0 S.T S.iC S.tI S.F1 (hr.mono (by first | decide | omega)) S.b pass0 (by rfl) S.m))) pss_nil)
    (L2.PSs.nox (pss_cons (ps_for PassesOwn.never rfl (k_enumT K (by rfl) T.z_enumerate (pa_cons (pv 0) pa_nil)) (k_pg K (n := 2) (hc := rfl) (hs := (pgs_cons (pg_name (i := 4) sc_forcing_demand.nd rfl (Or.inl rfl)) (pgs_cons (pg_name (i := 5) sc_forcing_demand.nd rfl (Or.inl rfl)) pgs_nil))))
    (pss_one (ps_if (pt_cmpR op_lt (pv 5) (pv 1) (nomark _)) (pss_one (ps_ret (pe_op (k_catT K) (pe_op (k_catT K) (pe_op (k_rep K) (pe_tup (pa_cons (pe_int) pa_nil)) (pv 4)) (pe_tup (pa_cons (pe_op op_add (pv 5) (pe_int)) pa_nil))) (pe_op (k_rep K) (pe_tup (pa_cons (pe_int) pa_nil)) (pe_op op_sub (pe_op op_sub (pe_callB (k_len K) (by rfl) T.z_len (by decide +kernel) (pa_cons (pv 0) pa_nil)) (pv 4)) (pe_int)))))) pss_nil)))
    (pss_cons (ps_for PassesOwn.never rfl (k_iList K (hl := (pe_call c_demands_of.ok (hr.mono (by first | decide | omega)) (by rfl) c_demands_of.m c_demands_of.kp c_demands_of.b c_demands_of.hv pass0 (pa_cons (pe_callB (k_len K) (by rfl) T.z_len (by decide +kernel) (pa_cons (pv 0) pa_nil)) (pa_cons (pv 1) pa_nil))))) (pg_name (i := 6) sc_forcing_demand.nd rfl (Or.inl rfl))
    (pss_one (ps_if (pt_val (pe_callB (k_all K (hc := rfl)) (by rfl) T.z_all (by decide +kernel) (pa_cons (pe_lc (own := [("later", 7)]) rfl sc_forcing_demand.nd (k_iList K (hl := (pe_call c_results.ok (hr.mono (by first | decide | omega)) (by rfl) c_results.m c_results.kp c_results.b c_results.hv pass0 (pa_cons (pv 0) (pa_cons (pv 6) (pa_cons (pv 1) pa_nil)))))) (blkOk_by (by kernel_rfl)) (fun _ _ _ _ _ => (pg_name (i := 7) sc_forcing_demand.nd rfl (Or.inl rfl))) (fun _ _ _ _ _ => pts_nil) (fun _ _ _ _ _ => (pe_cmpR op_lt (pe_dget2 (hu_of hr) (pv 2) (pv 7) (pv 3) ⟨by rfl, by rfl, by rfl, by rfl⟩) (pv 3) (nomark _)))) pa_nil))) (pss_one (ps_ret (pv 6))) pss_nil)))
    (pss_one (ps_ret (pe_non))))))))), ?_⟩
    refine h_asg (ev_numbers p rfl rfl r0 r1) o fun vk H1 e1 o1 x1 rk => ?_
    refine h_asgD (as_eq (d_dget1 (d_var (mono_rd _) (v := vk) rfl rk) (ev_sorted p rfl (r0.mono x1))) (look_oD _ _)) o1 fun vh H2 e2 o2 x2 rh => ?_
    have rh : Rp (cut F H2) vh (oD (ticksM bs b)) := rh
    refine h_if (b := (ticksM bs b).isNone) (b_val (d_isNO (d_v rh))) o2 (fun hn H3 e3 o3 => ?_) (fun hn H3 e3 o3 => ?_)
    · exact qE (Option.isNone_iff_eq_none.mp hn) H3 ((e1.trans e2).trans e3)
    · obtain ⟨here, hh⟩ : ∃ here, ticksM bs b = some here := by
        cases e : ticksM bs b with
        | none => rw [e] at hn; cases hn
        | some x => exact ⟨x, rfl⟩
      have rh : Rp (cut F H2) vh (.int here) := by
        rw [hh] at rh
        exact rh
      have x02 : Ex B (cut F H2) := x1.trans x2
      have rk2 := mono_rd _ x2 rk
      show tSeq (tFor (iEnumT K (tCons (tVar 0) tNil)) _ _) _ _ _ H3
      refine EvS.run (R := rp (oT (forceM bs b here))) (B := cut F H2) ?_ o3 fun v H' e' r' => q here hh v H' (((e1.trans e2).trans e3).trans e') r'
      refine e_forRet bs.zipIdx (fun p => .tuple [.int (p.2 : Nat), .int p.1]) (fun p => decide (p.1 < (b : Int))) (fun σ' => ∃ x y, σ' = [some v0, some v1, some vk, some vh, x, y, none, none]) (i_enumT' (d_cons (d_v (r0.mono x02)) d_nil)) ⟨none, none, rfl⟩
        (fun x hx v σ' B' hS e rv => ?_) (fun hz σ' B' hS e => ?_)
      · obtain ⟨x4, x5, rfl⟩ := hS
        obtain ⟨y4, y5, t4, t5, tg⟩ := tg_pair (K := K) (i := 4) (j := 5) (σ := [some v0, some v1, some vk, some vh, x4, x5, none, none]) rv
        have hlt : x.2 < bs.length := by
          have := List.snd_lt_of_mem_zipIdx hx
          omega
        have hl := p.len
        have hn3 := p.n3
        refine ⟨_, tg, ⟨_, _, rfl⟩, b_cmp (dop (d_v t5) (d_v (r1.mono (x02.trans e))) o_lt), fun hf => ?_⟩
        have ev : EvD (tOp (rCatA K) (tOp (rCatA K) (tOp (rRepA K) (tTup (tCons (tC (.int 0)) tNil)) (tVar 4)) (tTup (tCons (tOp (rI0 fun i j => .int (i + j)) (tVar 5) (tC (.int 1))) tNil))) (tOp (rRepA K) (tTup (tCons (tC (.int 0)) tNil)) (tOp (rI0 fun i j => .int (i - j)) (tOp (rI0 fun i j => .int (i - j)) (tCB (G.rLenS K) (tCons (tVar 0) tNil)) (tVar 4)) (tC (.int 1)))))
            [some v0, some v1, some vk, some vh, some y4, some y5, none, none] B' (oT (forceM bs b here)) := by
          refine as_eq (dop (dop (dop (d_tup (d_cons d_int d_nil) (by show 1 ≤ 100000; decide)) (d_v t4) (o_repT (by omega) (by omega))) (d_tup (d_cons (dop (d_v t5) d_int o_add) d_nil) (by show 1 ≤ 100000; decide)) (o_catT (by rw [List.length_replicate]; show _ + 1 ≤ _; omega)))
            (dop (d_tup (d_cons d_int d_nil) (by show 1 ≤ 100000; decide)) (dop (dop (dcb (d_cons (d_v (r0.mono (x02.trans e))) d_nil) c_lenT) (d_v t4) o_sub) d_int o_sub) (o_repT (by rw [List.length_map]; omega) (by rw [List.length_map]; omega))) (o_catT (by rw [List.length_append, List.length_replicate, List.length_replicate, List.length_map]; show _ + 1 + _ ≤ _; omega))) ?_
          unfold forceM
          rw [hf]
          show _ = tI _
          have e1 : (((bs.map PyData.int).length : Int) - (x.2 : Int) - 1).toNat = bs.length - x.2 - 1 := by rw [List.length_map]; omega
          rw [e1]
          simp [tI]
        exact ev
      · obtain ⟨x4, x5, rfl⟩ := hS
        have hge : ∀ x ∈ bs, (b : Int) ≤ x := fun x hx => by
          obtain ⟨i, hi, rfl⟩ := List.mem_iff_getElem.mp hx
          have := List.find?_eq_none.mp hz (bs[i], i) (List.mem_zipIdx_iff_getElem?.mpr (by rw [List.getElem?_eq_getElem hi]))
          simpa using this
        have hfm : forceM bs b here = (demandsM n b).find? fun d => (resultsM bs d b).all fun later => decide ((look (numbersM (bs.length - 1) b bs.sum.toNat) later).getD here < here) := by
          unfold forceM
          rw [hz, p.len]
          rfl
        rw [hfm]
        have x0 := x02.trans e
        refine e_forRet (demandsM n b) tI (fun d => (resultsM bs d b).all fun later => decide ((look (numbersM (bs.length - 1) b bs.sum.toNat) later).getD here < here)) (fun σ' => ∃ z, σ' = [some v0, some v1, some vk, some vh, x4, x5, z, none])
          (i_list (dcall (d_cons (as_eq (dcb (d_cons (d_v (r0.mono x0)) d_nil) c_lenT) (show PyData.int ((bs.map PyData.int).length : Nat) = .int ((n + 1 : Nat) : Int) by rw [List.length_map, p.len])) (d_cons (d_v (r1.mono x0)) d_nil)) fun B'' vs e' ra => ⟨n, b, ra, by have := p.n3; omega, p.n3, p.b4, rfl⟩)) ⟨none, rfl⟩
          (fun d hd v σ' B'' hS e' rv => ?_) (fun hz2 σ' B'' hS e' => ?_)
        · obtain ⟨x6, rfl⟩ := hS
          refine ⟨_, tg_name, ⟨_, rfl⟩, ?_, fun hf => ?_⟩
          · have x00 := x0.trans e'
            have xk := e.trans e'
            refine b_val (as_eq (dcb (d_cons (as_eq (d_lc (resultsM bs d b) tI (fun later => .bool (decide ((look (numbersM (bs.length - 1) b bs.sum.toNat) later).getD here < here))) (by have := results_le bs d b; have := p.len; have := p.n3; omega)
              (i_list (dcall (d_cons (d_v (r0.mono x00)) (d_cons (d_v rv) (d_cons (d_v (r1.mono x00)) d_nil))) fun B3 vs e3 ra => ⟨bs, d, b, ra, fits_ge p hge hd, rfl⟩)) fun later hl v7 B3 e3 r7 => ?_) (d' := .list (((resultsM bs d b).map fun later => decide ((look (numbersM (bs.length - 1) b bs.sum.toNat) later).getD here < here)).map PyData.bool)) (by rw [List.map_map]; rfl)) d_nil) c_all) ?_)
            · refine ⟨_, tg_name, rfl, dop (as_eq (d_dget2 (d_var (mono_rd _) (v := vk) rfl (mono_rd _ (xk.trans e3) rk2)) (d_v r7) (d_v (rh.mono (xk.trans e3)))) (look_oD2 _ _ _)) (d_v (rh.mono (xk.trans e3))) o_lt⟩
            · rw [List.all_map]
              rfl
          · rw [hf]
            exact d_v rv
        · obtain ⟨x6, rfl⟩ := hS
          rw [hz2]
          exact e_ret d_non
end
end K79
namespace K79
open PySem PySem.Spec PyProof.Rows L2 Evl G
theorem b01 (b : Bool) : -(2 ^ 64) < (if b = true then (1 : Int) else 0) ∧ (if b = true then (1 : Int) else 0) < 2 ^ 64 := by cases b <;> decide
section
variable {P : Program} {w : World} {K : PySem.W.Frag} {mg : Str → Option Value} {base : Heap}
/-! ### _law_hand -/
abbrev s__law_hand : Stmt := topS 17
theorem sc__law_hand : FnScope ["script", "k", "cell", "great"] ["script", "k"] (defScope s__law_hand) := ⟨rfl, rfl, rfl, by decide +kernel, rfl, by decide +kernel, by decide +kernel⟩
-- slots: 0 script, 1 k, 2 cell, 3 great; cells: 
def spHand (K : PySem.W.Frag) : Sp := fun vs H Q E => ∃ (F : Addr → Prop) (B : Hp) (a : Addr) (ns : List Int) (k : Nat), Off F B H ∧ vs = [.ref a, .int (k : Nat)] ∧ SqL K B a (ns.map V.int) ∧ k ≤ 1000 ∧
  ∀ p H', H p = none → Ex H H' → HandAt H' p 0 → Q (.ref p) H'
theorem ok_hand (T : Zs mg) {f : Addr} {fd : FuncData} (F : Fun K "_law_hand" "_law_hand" s__law_hand f fd) : FnOk P w K mg base CX0 1 f fd ["script", "k"] (spHand K) := by
  refine F.ok sc__law_hand (fun vs H Q E h => ?_) (fun cdv A outer s H vs Q E hr h => ?_)
  · obtain ⟨F, B, a, ns, k, o, rfl, _⟩ := h
    rfl
  · obtain ⟨F, B, a, ns, k, o, rfl, r0, hk, q⟩ := h
    obtain ⟨v1, r1, hv1⟩ : ∃ v1, Rp B v1 (.int (k : Nat)) ∧ V.int (k : Nat) = v1 := ⟨_, .int _, rfl⟩
    rw [hv1]
    refine ⟨_, (pss_cons (ps_set (i := 2) sc__law_hand.nd rfl (Or.inl rfl) (pe_ifExp (pt_cmpR op_lt (pv 1) (pe_callB (k_len K) (by rfl) T.z_len (by decide +kernel) (pa_cons (pv 0) pa_nil)) (nomark _)) (pe_ix (k_ixL K) (pv 0) (pv 1) (fun _ _ => rfl)) (pe_int)))
    (pss_cons (ps_set (i := 3) sc__law_hand.nd rfl (Or.inl rfl) (pe_op op_mul (pe_op op_modN (pe_callB call_abs (by rfl) T.z_abs (by decide +kernel) (pa_cons (pv 2) pa_nil)) (pe_op op_mulW (pe_op op_mulW (pe_op op_pow (pe_int) (pe_int)) (pe_op op_pow (pe_int) (pe_int))) (pe_op op_pow (pe_int) (pe_int)))) (pe_callTy call_int1 (by rfl) T.z_int (by decide +kernel) (pa_cons (pe_cmpR op_ge (pe_callB call_abs (by rfl) T.z_abs (by decide +kernel) (pa_cons (pv 2) pa_nil)) (pe_op op_pow (pe_int) (pe_int)) (nomark _)) pa_nil))))
    (pss_one (ps_ret (pe_lst (pa_cons (pv 3) (pa_cons (pe_op op_modN (pe_op op_mul (pe_op op_add (pe_op op_add (pe_op op_modN (pv 2) (pe_int)) (pe_op op_mul (pe_int) (pv 1))) (pe_int)) (pe_int)) (pe_int)) (pa_cons (pe_int) pa_nil)))))))), ?_⟩
    refine h_asgD (d := .int (if k < ns.length then ns.getD k 0 else 0)) (d_if (b := decide (((k : Nat) : Int) < ((ns.length : Nat) : Int))) (b_cmp (as_eq (dop (d_v r1) (d_lenS r0) o_lt) (by rw [List.length_map]))) (fun h => ?_) (fun h => ?_)) o fun v2 H1 e1 o1 x1 r2 => ?_
    · have h' : k < ns.length := by have := of_decide_eq_true h; omega
      rw [if_pos h']
      exact d_ixS r0 (d_v r1) (atI_nat (by rw [List.getElem?_map, List.getD_eq_getElem?_getD, List.getElem?_eq_getElem h']; rfl))
    · have h' : ¬ k < ns.length := by have := of_decide_eq_false h; omega
      rw [if_neg h']
      exact d_int
    · generalize (if k < ns.length then ns.getD k 0 else 0) = cell at r2
      have ab : EvD _ _ _ _ := dcb (d_cons (d_v (i := 2) (σ := [some (.ref a), some v1, some v2, none]) r2) d_nil) c_abs
      have r1' := r1.mono x1
      obtain rfl := r1'.int_inv
      clear hv1
      refine h_asgD (dop (dop ab (dop (dop (dop d_int d_int (o_pow (by unfold CPow; decide +kernel))) (dop d_int d_int (o_pow (by unfold CPow; decide +kernel))) (o_mulW (by unfold CMulW; decide +kernel))) (dop d_int d_int (o_pow (by unfold CPow; decide +kernel))) (o_mulW (by unfold CMulW; decide +kernel))) (o_modN (by decide +kernel)))
        (dcb (d_cons (dop ab (dop d_int d_int (o_pow (by unfold CPow; decide +kernel))) o_ge) d_nil) c_intb) (o_mul (Or.inr ?_))) o1 fun v3 H2 e2 o2 x2 r3 => ?_
      · exact b01 _
      · have c1 := fmod_lo (i := cell) (j := 2147483629) (by decide)
        refine h_retL (d_cons (d_v (i := 3) r3) (d_cons (dop (dop (dop (dop (dop (d_v (i := 2) (r2.mono x2)) (d_int (i := 2147483629)) (o_modN (by decide))) (dop (d_int (i := 8077)) (d_v (i := 1) (.int _)) (o_mul (Or.inl (by decide)))) o_add) (d_int (i := 92)) o_add) (d_int (i := 48271)) (o_mul (Or.inr (by decide)))) (d_int (i := 2147483647)) (o_modN (by decide))) (d_cons d_int d_nil))) o2 (by show 3 ≤ 100000; decide) fun p vs H3 hp0 e3 hp rA => ?_
        obtain ⟨a', b, c, rfl, ra, rb, rc⟩ := rpa3 rA
        obtain rfl := rb.int_inv
        obtain rfl := rc.int_inv
        obtain rfl := ra.int_inv
        have e13 := (e1.trans e2).trans e3
        refine q p _ (fresh_back e13 hp) (e13.trans (Ex.new hp)) ⟨_, _, _, upd_same, ?_⟩
        have c2 := fmod_lo (i := (cell.fmod 2147483629 + 8077 * (k : Int) + 92) * 48271) (j := 2147483647) (by decide)
        exact ⟨c2.1, c2.2, Int.le_refl _, Int.le_refl _⟩
/-! ### _law_take -/
abbrev s__law_take : Stmt := topS 18
theorem sc__law_take : FnScope ["hand", "many", "digit", "prime", "drawn"] ["hand", "many"] (defScope s__law_take) := ⟨rfl, rfl, rfl, by decide +kernel, rfl, by decide +kernel, by decide +kernel⟩
-- slots: 0 hand, 1 many, 2 digit, 3 prime, 4 drawn; cells: 
theorem ix_at {K : PySem.W.Frag} {σ : L2.St} {H : Hp} {p : Addr} {xs : List V} {i : Int} {v : V} {Q : VK} {j : Nat} (h0 : σ[j]? = some (some (.ref p))) (h : H p = some (.lst xs)) (e : atI xs i = some v) (q : Q v H) : tOp (rIxL K) (tVar j) (tC (.int i)) σ H Q :=
  ⟨.ref p, h0, p, xs, i, v, rfl, rfl, sq_of h, e, q⟩
theorem primes {r : Int} (h0 : 0 ≤ r) (h5 : r < 5) : ∃ v, atI [V.int 2147483647, V.int 2147483629, V.int 2147483587, V.int 2147483579, V.int 2147483563] r = some (V.int v) ∧ 2147483563 ≤ v ∧ v ≤ 2147483647 := by
  obtain rfl | rfl | rfl | rfl | rfl : r = 0 ∨ r = 1 ∨ r = 2 ∨ r = 3 ∨ r = 4 := by omega
  · exact ⟨_, rfl, by decide, by decide⟩
  · exact ⟨_, rfl, by decide, by decide⟩
  · exact ⟨_, rfl, by decide, by decide⟩
  · exact ⟨_, rfl, by decide, by decide⟩
  · exact ⟨_, rfl, by decide, by decide⟩
def spTake : Sp := fun vs H Q E => ∃ (p : Addr) (m : Nat) (many : Int), vs = [.ref p, .int many] ∧ HandAt H p m ∧ m ≤ 100000 ∧ 1 ≤ many ∧ many ≤ 1000 ∧ ∀ i H', 0 ≤ i → i < many → But p H H' → HandAt H' p (m + 1) → Q (.int i) H'
theorem ok_take (T : Zs mg) {f : Addr} {fd : FuncData} (F : Fun K "_law_take" "_law_take" s__law_take f fd) : FnOk P w K mg base CX0 1 f fd ["hand", "many"] spTake := by
  refine F.ok sc__law_take (fun vs H Q E h => ?_) (fun cdv A outer s H vs Q E hr h => ?_)
  · obtain ⟨p, m, many, rfl, _⟩ := h
    rfl
  · obtain ⟨p, m, many, rfl, hh, hm, h1m, hm2, q⟩ := h
    refine ⟨_, (pss_cons (ps_if (pt_cmpR op_gt (pe_ix (k_ixL K) (pv 0) (pe_int) (fun _ _ => rfl)) (pe_int) (nomark _)) (pss_cons (ps_set (i := 2) sc__law_take.nd rfl (Or.inl rfl) (pe_op op_modN (pe_ix (k_ixL K) (pv 0) (pe_int) (fun _ _ => rfl)) (pv 1)))
    (pss_cons (ps_asg (pe_op op_fdivN (pe_ix (k_ixL K) (pv 0) (pe_int) (fun _ _ => rfl)) (pv 1)) (pg_sub (pv 0) (pe_int) set_list))
    (pss_one (ps_ret (pv 2))))) pss_nil)
    (pss_cons (ps_asg (pe_op op_add (pe_ix (k_ixL K) (pv 0) (pe_int) (fun _ _ => rfl)) (pe_int)) (pg_sub (pv 0) (pe_int) set_list))
    (pss_cons (ps_set (i := 3) sc__law_take.nd rfl (Or.inl rfl) (pe_ix (k_ixL K) (pe_lst (pa_cons (pe_int) (pa_cons (pe_int) (pa_cons (pe_int) (pa_cons (pe_int) (pa_cons (pe_int) pa_nil)))))) (pe_op op_modN (pe_ix (k_ixL K) (pv 0) (pe_int) (fun _ _ => rfl)) (pe_int)) (fun _ _ => rfl)))
    (pss_cons (ps_set (i := 4) sc__law_take.nd rfl (Or.inl rfl) (pe_op op_modN (pe_op op_pow (pe_op op_add (pe_ix (k_ixL K) (pv 0) (pe_int) (fun _ _ => rfl)) (pe_op op_mul (pe_int) (pe_ix (k_ixL K) (pv 0) (pe_int) (fun _ _ => rfl)))) (pe_int)) (pv 3)))
    (pss_one (ps_ret (pe_op op_modN (pe_op op_fdivN (pe_op op_modN (pe_op op_mul (pv 4) (pe_op op_add (pe_op op_modN (pv 4) (pe_int)) (pe_ix (k_ixL K) (pv 0) (pe_int) (fun _ _ => rfl)))) (pv 3)) (pe_int)) (pv 1)))))))), ?_⟩
    obtain ⟨g, h1, h2, hp, b1, b2, b3, b4⟩ := hh.at_
    refine ix_at (p := p) rfl hp rfl ⟨g, 0, rfl, rfl, _, rfl, ?_⟩
    by_cases hg : 0 < g
    · show if decide (0 < g) = true then _ else _
      rw [if_pos (decide_eq_true hg)]
      refine ix_at (p := p) rfl hp rfl ⟨.int many, rfl, g, many, rfl, rfl, by omega, ?_⟩
      refine ix_at (p := p) rfl hp rfl ⟨.int many, rfl, g, many, rfl, rfl, ⟨by omega, by omega⟩, ?_⟩
      refine ⟨.ref p, rfl, p, _, 0, 0, rfl, rfl, hp, rfl, ?_⟩
      have c := fmod_lo (i := g) (j := many) (by omega)
      exact ⟨_, rfl, q _ _ c.1 c.2 But.upd ⟨_, _, _, upd_same, b1, b2, b3, by omega⟩⟩
    · show if decide (0 < g) = true then _ else _
      rw [if_neg (by simpa using hg)]
      refine ix_at (p := p) rfl hp rfl ⟨h2, 1, rfl, rfl, ?_⟩
      refine ⟨.ref p, rfl, p, _, 2, 2, rfl, rfl, hp, rfl, ?_⟩
      obtain ⟨H1, hH1⟩ : ∃ H1, upd H p (.lst [.int g, .int h1, .int (h2 + 1)]) = H1 := ⟨_, rfl⟩
      have hp1 : H1 p = some (.lst [.int g, .int h1, .int (h2 + 1)]) := by rw [← hH1]; exact upd_same
      have bt : But p H H1 := by rw [← hH1]; exact But.upd
      show tSeq _ _ _ _ (upd H p (.lst [.int g, .int h1, .int (h2 + 1)]))
      rw [hH1]
      refine ⟨by show 5 ≤ sizeLine; decide, fun l hl => ?_⟩
      have e1 : Ex H1 (upd H1 l (.lst [.int 2147483647, .int 2147483629, .int 2147483587, .int 2147483579, .int 2147483563])) := Ex.new hl
      have hl2 : (upd H1 l (.lst [V.int 2147483647, V.int 2147483629, V.int 2147483587, V.int 2147483579, V.int 2147483563])) l = some (.lst [V.int 2147483647, V.int 2147483629, V.int 2147483587, V.int 2147483579, V.int 2147483563]) := upd_same
      generalize upd H1 l (.lst [V.int 2147483647, V.int 2147483629, V.int 2147483587, V.int 2147483579, V.int 2147483563]) = H2 at e1 hl2 ⊢
      have hp2 := e1 _ _ hp1
      have c5 := fmod_lo (i := h2 + 1) (j := 5) (by decide)
      obtain ⟨pr, hpr, p1, p2⟩ := primes c5.1 c5.2
      refine ix_at (p := p) rfl hp2 rfl ⟨h2 + 1, 5, rfl, rfl, (by show (5 : Int) ≠ 0; decide), l, _, _, _, rfl, rfl, sq_of hl2, hpr, ?_⟩
      refine ix_at (p := p) rfl hp2 rfl (ix_at (p := p) rfl hp2 rfl ⟨7919, h2 + 1, rfl, rfl, Or.inl (by decide), h1, _, rfl, rfl, _, 3, rfl, rfl, ⟨by decide, by decide, by omega⟩, .int pr, rfl, _, pr, rfl, rfl, by omega, ?_⟩)
      obtain ⟨dr, hdr⟩ : ∃ dr, ((h1 + 7919 * (h2 + 1)) ^ (3 : Int).toNat).fmod pr = dr := ⟨_, rfl⟩
      have cd := fmod_lo (i := (h1 + 7919 * (h2 + 1)) ^ (3 : Int).toNat) (j := pr) (by omega)
      rw [hdr] at cd
      simp only [hdr]
      have c3 := fmod_lo (i := dr) (j := 1009) (by decide)
      refine ⟨.int dr, rfl, .int dr, rfl, dr, 1009, rfl, rfl, (by show (1009 : Int) ≠ 0; decide), ix_at (p := p) rfl hp2 rfl ⟨_, h2 + 1, rfl, rfl, dr, _, rfl, rfl, Or.inl ⟨by omega, by omega⟩, .int pr, rfl, _, pr, rfl, rfl, by omega, _, 11, rfl, rfl, ⟨by decide, by decide⟩, .int many, rfl, _, many, rfl, rfl, by omega, ?_⟩⟩
      have c := fmod_lo (i := (((dr * (dr.fmod 1009 + (h2 + 1))).fmod pr).fdiv 11)) (j := many) (by omega)
      exact q _ _ c.1 c.2 (bt.trans (But.ex e1)) ⟨_, _, _, hp2, b1, b2, by omega, by omega⟩
/-! ### _law_of -/
abbrev s__law_of : Stmt := topS 19
theorem sc__law_of : FnScope ["hand", "some"] ["hand", "some"] (defScope s__law_of) := ⟨rfl, rfl, rfl, by decide +kernel, rfl, by decide +kernel, by decide +kernel⟩
-- slots: 0 hand, 1 some; cells: 
def spOf : Sp := fun vs H Q E => ∃ (p l : Addr) (m : Nat) (ns : List Int), vs = [.ref p, .ref l] ∧ HandAt H p m ∧ m ≤ 100000 ∧ l ≠ p ∧ H l = some (.lst (ns.map V.int)) ∧ 1 ≤ ns.length ∧ ns.length ≤ 1000 ∧ ∀ i H', i ∈ ns → But p H H' → HandAt H' p (m + 1) → Q (.int i) H'
theorem ok_of (T : Zs mg) (c__law_take : Cal P w K mg base 1 "_law_take" ["hand", "many"] [] spTake) {f : Addr} {fd : FuncData} (F : Fun K "_law_of" "_law_of" s__law_of f fd) : FnOk P w K mg base CX0 2 f fd ["hand", "some"] spOf := by
  refine F.ok sc__law_of (fun vs H Q E h => ?_) (fun cdv A outer s H vs Q E hr h => ?_)
  · obtain ⟨p, l, m, ns, rfl, _⟩ := h
    rfl
  · obtain ⟨p, l, m, ns, rfl, hh, hm, hne, hl, h1, h2, q⟩ := h
    refine ⟨_, (pss_one (ps_ret (pe_ix (k_ixL K) (pv 1) (pe_call c__law_take.ok (hr.mono (by first | decide | omega)) (by rfl) c__law_take.m c__law_take.kp c__law_take.b c__law_take.hv pass0 (pa_cons (pv 0) (pa_cons (pe_callB (k_len K) (by rfl) T.z_len (by decide +kernel) (pa_cons (pv 1) pa_nil)) pa_nil))) (fun _ _ => rfl)))), ?_⟩
    refine ⟨.ref l, rfl, .ref p, rfl, .ref l, rfl, l, _, rfl, .inl (sq_of hl), p, m, _, rfl, hh, hm, by rw [List.length_map]; omega, by rw [List.length_map]; omega, fun i H' i0 i1 bt hh' => ?_⟩
    rw [List.length_map] at i1
    obtain ⟨k, rfl⟩ : ∃ k : Nat, i = (k : Int) := ⟨i.toNat, by omega⟩
    have hk : k < ns.length := by omega
    exact ⟨l, _, _, _, rfl, rfl, sq_of (bt l _ hne hl), atI_nat (by rw [List.getElem?_map, List.getElem?_eq_getElem hk]; rfl), q _ H' (List.getElem_mem hk) bt hh'⟩
/-! ### _law_drawn -/
abbrev s__law_drawn : Stmt := topS 20
theorem sc__law_drawn : FnScope ["hand", "budget", "found", "sender", "room"] ["hand"] (defScope s__law_drawn) := ⟨rfl, rfl, rfl, by decide +kernel, rfl, by decide +kernel, by decide +kernel⟩
-- slots: 0 hand, 1 budget, 2 found, 3 sender, 4 room; cells: 
def spDrawn : Sp := fun vs H Q E => ∃ (p : Addr) (m : Nat), vs = [.ref p] ∧ HandAt H p m ∧ m ≤ 90000 ∧
  ∀ v H' (bs : List Int) (b : Nat), 1 ≤ b → b ≤ 4 → 1 ≤ bs.length → bs.length ≤ 4 → 0 ≤ bs.sum → bs.sum ≤ 12 → (∀ x ∈ bs, 0 ≤ x ∧ x ≤ 12) → But p H H' → HandAt H' p (m + 6) → Rp (cut (fun c => c = p) H') v (.tuple [tI bs, .int (b : Nat)]) → Q v H'
theorem ok_drawn (T : Zs mg) (c__law_take : Cal P w K mg base 1 "_law_take" ["hand", "many"] [] spTake) (c__law_of : Cal P w K mg base 2 "_law_of" ["hand", "some"] [] spOf) {f : Addr} {fd : FuncData} (F : Fun K "_law_drawn" "_law_drawn" s__law_drawn f fd) : FnOk P w K mg base CX0 3 f fd ["hand"] spDrawn := by
  refine F.ok sc__law_drawn (fun vs H Q E h => ?_) (fun cdv A outer s H vs Q E hr h => ?_)
  · obtain ⟨p, m, rfl, _⟩ := h
    rfl
  · obtain ⟨p, m, rfl, hh, hm, q⟩ := h
    refine ⟨_, (pss_cons (ps_par (i := 1) (j := 2) (by rfl) sc__law_drawn.nd rfl rfl (by decide) rfl rfl (pa_cons (pe_op op_add (pe_int) (pe_call c__law_take.ok (hr.mono (by first | decide | omega)) (by rfl) c__law_take.m c__law_take.kp c__law_take.b c__law_take.hv pass0 (pa_cons (pv 0) (pa_cons (pe_int) pa_nil)))) (pa_cons (pe_lst pa_nil) pa_nil)) (by rfl))
    (pss_cons (ps_for PassesOwn.never rfl (pi_range1 (by rfl) T.z_range (pa_cons (pe_op op_add (pe_int) (pe_call c__law_take.ok (hr.mono (by first | decide | omega)) (by rfl) c__law_take.m c__law_take.kp c__law_take.b c__law_take.hv pass0 (pa_cons (pv 0) (pa_cons (pe_int) pa_nil)))) pa_nil)) (pg_name (i := 3) sc__law_drawn.nd rfl (Or.inl rfl))
    (pss_cons (ps_set (i := 4) sc__law_drawn.nd rfl (Or.inl rfl) (pe_op op_sub (pe_int) (pe_callB (k_sum K (hc := rfl)) (by rfl) T.z_sum (by decide +kernel) (pa_cons (pv 2) pa_nil))))
    (pss_one (ps_expr (k_bm K PySem.F.plainAttrs_list PySem.F.slot_list_append PySem.F.type_list_append mt_append (pv 2) (pa_cons (pe_callB (call_min2 (hc := rfl)) (by rfl) T.z_min (by decide +kernel) (pa_cons (pv 4) (pa_cons (pe_call c__law_of.ok (hr.mono (by first | decide | omega)) (by rfl) c__law_of.m c__law_of.kp c__law_of.b c__law_of.hv pass0 (pa_cons (pv 0) (pa_cons (pe_lst (pa_cons (pv 1) (pa_cons (pv 1) (pa_cons (pe_op op_add (pv 1) (pe_int)) (pa_cons (pe_op op_mul (pe_int) (pv 1)) (pa_cons (pe_op op_sub (pv 1) (pe_int)) (pa_cons (pe_int) (pa_cons (pe_int) (pa_cons (pe_int) pa_nil))))))))) pa_nil))) pa_nil))) pa_nil))))))
    (pss_one (ps_ret (pe_tup (pa_cons (pe_callTy (k_tuple K) (by rfl) T.z_tuple (by decide +kernel) (pa_cons (pv 2) pa_nil)) (pa_cons (pv 1) pa_nil))))))), ?_⟩
    refine ⟨.ref p, rfl, p, m, 4, rfl, hh, by omega, by decide, by decide, fun i H1 i0 i1 b1 hh1 => ⟨1, i, rfl, rfl, Nat.zero_le _, fun fp hfp => ⟨_, _, rfl, ?_⟩⟩⟩
    have hfp0 : H fp = none := b1.fresh hfp (by obtain ⟨u, hu, _⟩ := hh1.dom; rw [hu]; exact Option.some_ne_none _)
    have nfp : fp ≠ p := fun z => by
      obtain ⟨u, hu, _⟩ := hh1.dom
      rw [z, hu] at hfp
      cases hfp
    have e1 : Ex H1 (upd H1 fp (.lst [])) := Ex.new hfp
    have z2 : (upd H1 fp (.lst [])) fp = some (.lst []) := upd_same
    generalize upd H1 fp (.lst []) = H2 at e1 z2 ⊢
    refine ⟨.ref p, rfl, p, m + 1, 4, rfl, hh1.mono e1, by omega, by decide, by decide, fun j H3 j0 j1 b3 hh3 => ⟨1, j, rfl, rfl, 1 + j, rfl, by omega, by omega, ?_⟩⟩
    have z3 := b3 fp _ nfp z2
    have b03 : But p H H3 := b1.trans ((But.ex e1).trans b3)
    obtain ⟨n, hn⟩ : ∃ n : Nat, 1 + j = (n : Int) := ⟨(1 + j).toNat, by omega⟩
    have hjn : (1 + j).toNat = n := by omega
    rw [hjn]
    obtain ⟨bud, hbud⟩ : ∃ bud, 1 + i = bud := ⟨_, rfl⟩
    refine for_range (fun k σ' H' => ∃ x3 x4 ns, σ' = [some (.ref p), some (.int bud), some (.ref fp), x3, x4] ∧ But p H H' ∧ HandAt H' p (m + 2 + k) ∧ H' fp = some (.lst (ns.map V.int)) ∧ ns.length = k ∧ 0 ≤ ns.sum ∧ ns.sum ≤ 12 ∧ ∀ x ∈ ns, 0 ≤ x ∧ x ≤ 12)
      ⟨none, none, [], by rw [← hbud]; rfl, b03, hh3, z3, rfl, by decide, by decide, fun _ h => by cases h⟩ (fun k σ' Hk hk hP => ?_) (fun σ' Hk hP => ?_)
    · obtain ⟨x3, x4, ns, rfl, bk, hhk, zk, ln, s0, s1, hns⟩ := hP
      refine ⟨.ref fp, rfl, fp, ns, rfl, sq_of zk, 12, ns.sum, rfl, rfl, ?_⟩
      refine ⟨.ref fp, rfl, tyV_l zk, ?_⟩
      refine ⟨.int (12 - ns.sum), rfl, .ref p, rfl, .int bud, rfl, .int bud, rfl, .int bud, rfl, bud, 1, rfl, rfl, .int bud, rfl, 2, bud, rfl, rfl, Or.inl (by decide), .int bud, rfl, bud, 1, rfl, rfl, by show 8 ≤ sizeLine; decide, fun l hl => ?_⟩
      have nl : l ≠ p := fun z => by
        obtain ⟨u, hu, _⟩ := hhk.dom
        rw [z, hu] at hl
        cases hl
      refine ⟨p, l, m + 2 + k, [bud, bud, bud + 1, 2 * bud, bud - 1, 0, 3, 6], rfl, hhk.mono (Ex.new hl), by omega, nl, upd_same, (by show 1 ≤ 8; decide), (by show 8 ≤ 1000; decide), fun x H' hx bt hh' => ?_⟩
      have x0 : 0 ≤ x := by
        simp only [List.mem_cons, List.not_mem_nil, or_false] at hx
        omega
      have b4 : But p Hk H' := (But.ex (Ex.new hl)).trans bt
      have z4 := b4 fp _ nfp zk
      refine ⟨12 - ns.sum, x, rfl, fp, _, _, rfl, rfl, z4, sz_lt (by rw [List.length_map]; omega), ?_⟩
      obtain ⟨y, hy⟩ : ∃ y, (if x < 12 - ns.sum then x else 12 - ns.sum) = y := ⟨_, rfl⟩
      have y0 : 0 ≤ y ∧ y ≤ 12 - ns.sum := by rw [← hy]; split <;> omega
      refine ⟨some (.int (0 + (k : Int))), some (.int (12 - ns.sum)), ns ++ [y], rfl, fun c u nc h => ?_, ?_, ?_, by rw [List.length_append, ln]; rfl, by rw [List.sum_append]; simp; omega, by rw [List.sum_append]; simp; omega, fun c hc => ?_⟩
      · show (upd H' fp _) c = some u
        rw [upd_ne (fun z => by rw [z, hfp0] at h; cases h)]
        exact b4 c u nc (bk c u nc h)
      · obtain ⟨g, h1, h2, hp, a⟩ := hh'.at_
        exact ⟨g, h1, h2, by rw [upd_ne nfp.symm]; exact hp, a⟩
      · rw [List.map_append, ← hy]
        exact upd_same
      · rcases List.mem_append.mp hc with hc | hc
        · exact hns c hc
        · rw [List.mem_singleton.mp hc]
          omega
    · obtain ⟨x3, x4, ns, rfl, bk, hhk, zk, ln, s0, s1, hns⟩ := hP
      have oF : Off (fun c => c = p) (cut (fun c => c = p) Hk) Hk := Off.of fun c hc => by rw [hc]; exact hhk.dom
      obtain ⟨b, hb⟩ : ∃ b : Nat, bud = (b : Int) := ⟨bud.toNat, by omega⟩
      have ev : EvD (tTup (tCons (tCB (rTupleOf K) (tCons (tVar 2) tNil)) (tCons (tVar 1) tNil))) [some (.ref p), some (.int bud), some (.ref fp), x3, x4] (cut (fun c => c = p) Hk) (.tuple [tI ns, .int bud]) :=
        d_tup (d_cons (dcb (d_cons (d_v (d := lI ns) (.lI_mk (cut_at nfp zk))) d_nil) c_tupL) (d_cons (d_v (.int bud)) d_nil)) (by show 2 ≤ 100000; decide)
      refine ev _ Hk oF _ fun v H5 e5 r5 => ?_
      rw [hb] at r5
      exact q v H5 ns b (by omega) (by omega) (by omega) (by omega) s0 s1 hns (bk.trans (But.ex e5)) ((hhk.mono e5).le (by omega)) r5
end
end K79
namespace K79
open PySem PySem.Spec PyProof.Rows L2 Evl G
/-! ### the plain law -/
def lead1 (kn : Tab) (ds : List (List Int)) (b : Nat) (bs : List Int) : Bool :=
  match look kn (isort bs) with
  | none => true
  | some here => ds.any fun d => (resultsM bs d b).all fun later => decide ((look kn later).getD here < here)
def lead2 (n b t : Nat) : Bool := (demandsM n t).all fun bs => !(bs.all fun x => decide ((b : Int) ≤ x)) || lead1 (numbersM n b t) (demandsM n b) b bs
def leadAll : Bool := (List.range 4).all fun n => (List.range 4).all fun b => (List.range 13).all fun t => lead2 n (b + 1) t
theorem lead_all : leadAll = true := by decide +kernel
theorem demands_mem : ∀ (n t : Nat) (bs : List Int), bs.length = n + 1 → (∀ x ∈ bs, 0 ≤ x) → bs.sum = (t : Int) → bs ∈ demandsM n t
  | 0, t, bs, hl, h0, hs => by
    match bs, hl with
    | [x], _ =>
      have : x = (t : Int) := by simpa using hs
      rw [this]
      exact List.mem_singleton.mpr rfl
  | n + 1, t, x :: bs, hl, h0, hs => by
    have hx := h0 x List.mem_cons_self
    have h0' : ∀ y ∈ bs, 0 ≤ y := fun y hy => h0 y (List.mem_cons_of_mem _ hy)
    rw [List.sum_cons] at hs
    have hsum : 0 ≤ bs.sum := by
      clear hs hl h0
      induction bs with
      | nil => exact Int.le_refl _
      | cons y bs ih =>
        rw [List.sum_cons]
        have h1 := h0' y List.mem_cons_self
        have h2 := ih fun z hz => h0' z (List.mem_cons_of_mem _ hz)
        omega
    obtain ⟨k, rfl⟩ : ∃ k : Nat, x = (k : Int) := ⟨x.toNat, by omega⟩
    refine List.mem_flatMap.mpr ⟨k, List.mem_range.mpr (by omega), List.mem_map.mpr ⟨bs, ?_, rfl⟩⟩
    exact demands_mem n (t - k) bs (by simpa using hl) h0' (by omega)
theorem demands_sum : ∀ (n b : Nat), ∀ d ∈ demandsM n b, d.sum = (b : Int)
  | 0, b, d, h => by
    rw [List.mem_singleton.mp h]
    simp
  | n + 1, b, d, h => by
    obtain ⟨f, hf, hd⟩ := List.mem_flatMap.mp h
    obtain ⟨o, ho, rfl⟩ := List.mem_map.mp hd
    have hf := List.mem_range.mp hf
    rw [List.sum_cons, demands_sum n _ o ho]
    omega
theorem less_sum : ∀ {bs ds : List Int}, bs.length = ds.length → (lessM bs ds).sum = bs.sum - ds.sum
  | [], [], _ => rfl
  | b :: bs, d :: ds, h => by
    have ih := less_sum (bs := bs) (ds := ds) (by simpa using h)
    show (b - d) + (lessM bs ds).sum = _
    rw [ih, List.sum_cons, List.sum_cons]
    omega
theorem changed_eq {ns : List Int} {i : Nat} {k : Int} (h : i < ns.length) : ns.set i (ns.getD i 0 + k) = changedM ns i k := by
  rw [List.set_eq_take_append_cons_drop, if_pos h]
  rfl
theorem changed_sum : ∀ {ns : List Int} {i : Nat} {k : Int}, i < ns.length → (changedM ns i k).sum = ns.sum + k
  | x :: ns, 0, k, _ => by
    show ((x + k) :: ns).sum = _
    rw [List.sum_cons, List.sum_cons]
    omega
  | x :: ns, i + 1, k, h => by
    have ih := changed_sum (ns := ns) (i := i) (k := k) (by simpa using h)
    show (x :: changedM ns i k).sum = _
    rw [List.sum_cons, List.sum_cons, ih]
    omega
theorem rep_sum (n : Nat) : (List.replicate n (0 : Int)).sum = 0 := by
  induction n with
  | zero => rfl
  | succ n ih => rw [List.replicate_succ, List.sum_cons, ih]; rfl
/-- what forcing_demand comes to -/
structure Forced (bs d : List Int) (b : Nat) (here : Int) : Prop where
  len : d.length = bs.length
  nn : ∀ x ∈ d, 0 ≤ x
  sum : d.sum ≤ (b : Int)
  alt : (∃ i, ∃ h1 : i < d.length, ∃ h2 : i < bs.length, bs[i] < d[i]) ∨ (d.sum = (b : Int) ∧ (∀ x ∈ lessM bs d, 0 ≤ x) ∧ ∀ i, i < bs.length → ∃ l, ticksM (changedM (lessM bs d) i b) b = some l ∧ l < here)
theorem force_ok {bs : List Int} {n b t : Nat} (p : Posn bs n b t) (b1 : 1 ≤ b) (t12 : t ≤ 12) {here : Int} (h : ticksM bs b = some here) : ∃ d, forceM bs b here = some d ∧ Forced bs d b here := by
  have hl := p.len
  cases hf : bs.zipIdx.find? fun p => decide (p.1 < (b : Int)) with
  | some q =>
    have hq := List.find?_some hf
    have hlt : q.1 < (b : Int) := of_decide_eq_true hq
    have hmem := List.mem_of_find?_eq_some hf
    have hi := List.mem_zipIdx_iff_getElem?.mp hmem
    have hi2 : q.2 < bs.length := (List.getElem?_eq_some_iff.mp hi).1
    have hb := p.bd q.1 (List.mem_of_getElem? hi)
    refine ⟨_, by unfold forceM; rw [hf], by simp; omega, fun x hx => ?_, ?_, .inl ⟨q.2, by simp <;> omega, hi2, ?_⟩⟩
    · simp only [List.mem_append, List.mem_replicate, List.mem_singleton] at hx
      omega
    · rw [List.sum_append, List.sum_append, rep_sum, rep_sum]
      simp
      omega
    · have e1 : bs[q.2] = q.1 := (List.getElem?_eq_some_iff.mp hi).2
      have e3 : ((List.replicate q.2 (0 : Int) ++ [q.1 + 1]) ++ List.replicate (bs.length - q.2 - 1) 0)[q.2]? = some (q.1 + 1) := by
        rw [List.append_assoc, List.getElem?_append_right (by simp)]
        simp
      rw [e1, (List.getElem?_eq_some_iff.mp e3).2]
      omega
  | none =>
    have hge : ∀ x ∈ bs, (b : Int) ≤ x := fun x hx => by
      obtain ⟨i, hi, rfl⟩ := List.mem_iff_getElem.mp hx
      have := List.find?_eq_none.mp hf (bs[i], i) (List.mem_zipIdx_iff_getElem?.mpr (by rw [List.getElem?_eq_getElem hi]))
      simpa using this
    have hn : bs.length - 1 = n := by omega
    have ht : bs.sum.toNat = t := by rw [p.sum]; rfl
    have hm := demands_mem n t bs hl (fun x hx => (p.bd x hx).1) p.sum
    have ha := lead_all
    unfold leadAll at ha
    have ha := List.all_eq_true.mp ha n (List.mem_range.mpr (by have := p.n3; omega))
    have ha := List.all_eq_true.mp ha (b - 1) (List.mem_range.mpr (by have := p.b4; omega))
    have ha := List.all_eq_true.mp ha t (List.mem_range.mpr (by omega))
    rw [show b - 1 + 1 = b by omega] at ha
    have ha := List.all_eq_true.mp ha bs hm
    rw [List.all_eq_true.mpr fun x hx => decide_eq_true (hge x hx)] at ha
    have ha : lead1 (numbersM n b t) (demandsM n b) b bs = true := ha
    have hk : look (numbersM n b t) (isort bs) = some here := by
      unfold ticksM at h
      rw [hn, ht] at h
      exact h
    unfold lead1 at ha
    rw [hk] at ha
    obtain ⟨d0, hd0, hd0'⟩ := List.any_eq_true.mp ha
    have hfm : forceM bs b here = (demandsM n b).find? fun d => (resultsM bs d b).all fun later => decide ((look (numbersM n b t) later).getD here < here) := by
      unfold forceM
      rw [hf, hn, ht]
    cases hd : (demandsM n b).find? fun d => (resultsM bs d b).all fun later => decide ((look (numbersM n b t) later).getD here < here) with
    | none => exact absurd hd0' (by simpa using List.find?_eq_none.mp hd d0 hd0)
    | some d =>
      have hdm := List.mem_of_find?_eq_some hd
      have hdp := List.find?_some hd
      have fit := fits_ge p hge hdm
      have l2 := demands_len n b d hdm
      refine ⟨d, by rw [hfm, hd], by omega, fun x hx => (demands_bd n b d hdm x hx).1, by rw [demands_sum n b d hdm]; exact Int.le_refl _, .inr ⟨demands_sum n b d hdm, fun x hx => (fit.bd x hx).1, fun i hi => ?_⟩⟩
      have hll := less_len fit.len
      have hmem : isort (changedM (lessM bs d) i b) ∈ resultsM bs d b := by
        refine (ssort_mem (d := bs.length) fit.ok _).mpr ?_
        exact List.mem_map.mpr ⟨i, List.mem_range.mpr hi, rfl⟩
      have hlt := of_decide_eq_true (List.all_eq_true.mp hdp _ hmem)
      have e1 : (changedM (lessM bs d) i b).length - 1 = n := by rw [changed_len (by omega)]; omega
      have e2 : (changedM (lessM bs d) i b).sum.toNat = t := by
        rw [changed_sum (by omega), less_sum fit.len, p.sum, demands_sum n b d hdm]
        omega
      unfold ticksM
      rw [e1, e2]
      cases e : look (numbersM n b t) (isort (changedM (lessM bs d) i b)) with
      | none =>
        rw [e] at hlt
        exact absurd hlt (Int.lt_irrefl _)
      | some l =>
        rw [e] at hlt
        exact ⟨l, rfl, hlt⟩
end K79
namespace K79
open PySem PySem.Spec PyProof.Rows L2 Evl G
section
variable {P : Program} {w : World} {K : PySem.W.Frag} {mg : Str → Option Value} {base : Heap}
/-! ### _law_does_lead -/
abbrev s__law_does_lead : Stmt := topS 21
theorem sc__law_does_lead : FnScope ["balances", "demand", "budget", "number", "sender", "left", "later", "balance", "amount"] ["balances", "demand", "budget", "number"] (defScope s__law_does_lead) := ⟨rfl, rfl, rfl, by decide +kernel, rfl, by decide +kernel, by decide +kernel⟩
-- slots: 0 balances, 1 demand, 2 budget, 3 number, 4 sender, 5 left, 6 later, 7 balance, 8 amount; cells: 
structure Leads (bs d : List Int) (n b t : Nat) (here : Int) : Prop where
  p : Posn bs n b t
  len : d.length = bs.length
  sum : d.sum = (b : Int)
  nn : ∀ x ∈ lessM bs d, 0 ≤ x
  all : ∀ i, i < bs.length → ∃ l, ticksM (changedM (lessM bs d) i b) b = some l ∧ l < here
theorem Leads.posn {bs d : List Int} {n b t : Nat} {here : Int} (L : Leads bs d n b t here) {i : Nat} (hi : i < bs.length) : Posn (changedM (lessM bs d) i b) n b t := by
  have hl := less_len (bs := bs) (ds := d) L.len.symm
  have hs : (lessM bs d).sum = (t : Int) - b := by rw [less_sum L.len.symm, L.p.sum, L.sum]
  have hm := mem_le_sum L.nn
  have t24 := L.p.t24
  have b4 := L.p.b4
  refine ⟨by rw [changed_len (by omega), hl, L.p.len], L.p.n3, L.p.b4, by rw [changed_sum (by omega), hs]; omega, L.p.t24, fun x hx => ?_⟩
  rcases mem_changed (by omega) hx with h | ⟨y, hy, rfl⟩
  · have := L.nn x h
    have := hm.2 x h
    omega
  · have := L.nn y hy
    have := hm.2 y hy
    omega
def preLead (B : Hp) (vs : List V) (R : RelH) : Prop := ∃ (bs d : List Int) (n b t : Nat) (here : Int), RpA B vs [tI bs, tI d, .int (b : Nat), .int here] ∧ Leads bs d n b t here ∧ R = rp (.bool true)
theorem ok_lead (T : Zs mg) (c_ticks_to_stall : Cal P w K mg base 7 "ticks_to_stall" ["balances", "budget"] [] (spD preTicks)) {f : Addr} {fd : FuncData} (F : Fun K "_law_does_lead" "_law_does_lead" s__law_does_lead f fd) :
    FnOk P w K mg base CX0 8 f fd ["balances", "demand", "budget", "number"] (spD preLead) := by
  refine F.ok sc__law_does_lead (fun vs H Q E h => ?_) (fun cdv A outer s H vs Q E hr h => ?_)
  · obtain ⟨F, B, R, o, ⟨bs, d, n, b, t, here, r, _⟩, _⟩ := h
    exact r.length
  · obtain ⟨F, B, R, o, ⟨bs, d, n, b, t, here, r, L, rfl⟩, q⟩ := h
    obtain ⟨v0, w1, rfl, r0, r⟩ := (by cases r with | cons a b => exact ⟨_, _, rfl, a, b⟩ : ∃ v0 w1, vs = v0 :: w1 ∧ Rp B v0 (tI bs) ∧ RpA B w1 [tI d, .int (b : Nat), .int here])
    obtain ⟨v1, v2, v3, rfl, r1, r2, r3⟩ := rpa3 r
    refine ⟨_, (pss_cons (ps_for PassesOwn.never rfl (pi_range1 (by rfl) T.z_range (pa_cons (pe_callB (k_len K) (by rfl) T.z_len (by decide +kernel) (pa_cons (pv 0) pa_nil)) pa_nil)) (pg_name (i := 4) sc__law_does_lead.nd rfl (Or.inl rfl))
    (pss_cons (ps_setLc (i := 5) (own := [("balance", 7), ("amount", 8)]) rfl sc__law_does_lead.nd rfl rfl (sw_true rfl rfl rfl (by kernel_rfl)) (k_zip K (by rfl) T.z_zip (pa_cons (pv 0) (pa_cons (pv 1) pa_nil))) (blkOk_by (by kernel_rfl)) (fun _ _ _ _ _ => (k_pg K (n := 2) (hc := rfl) (hs := (pgs_cons (pg_name (i := 7) sc__law_does_lead.nd rfl (Or.inl rfl)) (pgs_cons (pg_name (i := 8) sc__law_does_lead.nd rfl (Or.inl rfl)) pgs_nil))))) (fun _ _ _ _ _ => pts_nil) (fun _ _ _ _ _ => (pe_op op_sub (pv 7) (pv 8))))
    (pss_cons (ps_asg (pe_op op_add (pe_ix (k_ixL K) (pv 5) (pv 4) (fun _ _ => rfl)) (pv 2)) (pg_sub (pv 5) (pv 4) set_list))
    (pss_cons (ps_set (i := 6) sc__law_does_lead.nd rfl (Or.inl rfl) (pe_call c_ticks_to_stall.ok (hr.mono (by first | decide | omega)) (by rfl) c_ticks_to_stall.m c_ticks_to_stall.kp c_ticks_to_stall.b c_ticks_to_stall.hv pass0 (pa_cons (pe_callTy (k_tuple K) (by rfl) T.z_tuple (by decide +kernel) (pa_cons (pv 5) pa_nil)) (pa_cons (pv 2) pa_nil))))
    (pss_one (ps_if (PW.pt (pw_or (pt_cmp (pc_isN (pv 6)) (by rfl)) (pw_or1 (pt_cmpR op_ge (pv 6) (pv 3) (nomark _))))) (pss_one (ps_ret (pe_bl))) pss_nil))))))
    (pss_one (ps_ret (pe_bl)))), ?_⟩
    refine fn_run (B := B) ?_ o q
    clear q o
    intro F H o D' q
    obtain rfl := r2.int_inv
    obtain rfl := r3.int_inv
    have hl := L.p.len
    have hn3 := L.p.n3
    have hll := less_len (bs := bs) (ds := d) L.len.symm
    refine s_for (σ := [some v0, some v1, some (.int b), some (.int here), none, none, none, none, none]) (List.range bs.length) (fun i => PyData.int ((i : Nat) : Int)) (i_rng1' (d_cons (dcb (d_cons (d_v r0) d_nil) c_lenT) d_nil) (by rw [List.length_map]) (by omega)) o
      (fun B1 k σ' H' => Off F B1 H' ∧ Ex H H' ∧ ∃ x4 x5 x6, σ' = [some v0, some v1, some (.int b), some (.int here), x4, x5, x6, none, none]) (fun H1 e1 => ⟨o.next e1, e1, none, none, none, rfl⟩) (fun B1 k σ' H' _ h => h.1) (fun B1 k i v σ' H' H'' eB hi hP eH rv => ?_) (fun B1 σ' H' eB hP => ?_)
    · obtain ⟨oH, eH0, x4, x5, x6, rfl⟩ := hP
      obtain ⟨hk, rfl⟩ := List.getElem?_eq_some_iff.mp hi
      rw [List.length_range] at hk
      rw [List.getElem_range] at rv
      obtain rfl := rv.int_inv
      have o1 := oH.next eH
      have eB1 : Ex B (cut F H'') := eB.trans (oH.go eH).cut
      show tSeq (tAsg (tLc (RZ.iZipA K (tCons (tVar 0) (tCons (tVar 1) tNil))) _ _ _ [7, 8]) (gName 5)) _ _ [some v0, some v1, some (.int b), some (.int here), some (.int (k : Int)), x5, x6, none, none] H''
      have evN : EvN (tLc (RZ.iZipA K (tCons (tVar 0) (tCons (tVar 1) tNil))) (gTup K 2 (gCons (gName 7) (gCons (gName 8) gNil))) tYes (tOp (rI0 fun i j => .int (i - j)) (tVar 7) (tVar 8)) [7, 8]) [some v0, some v1, some (.int b), some (.int here), some (.int (k : Int)), x5, x6, none, none] (cut F H'') (rp (lI (lessM bs d))) := by
        have e1 : lI (lessM bs d) = .list ((bs.zip d).map fun p => PyData.int (p.1 - p.2)) := by
          show PyData.list _ = _
          unfold lessM
          rw [List.map_map]
          rfl
        rw [e1]
        refine d_lcNY (bs.zip d) (fun p => PyData.tuple [.int p.1, .int p.2]) (fun p => .int (p.1 - p.2)) (by rw [List.length_zip]; omega) (i_zipT' (d_cons (d_v (r0.mono eB1)) (d_cons (d_v (r1.mono eB1)) d_nil))) fun p hp v B' e rv => ?_
        obtain ⟨y7, y8, t7, t8, tg⟩ := tg_pair (K := K) (i := 7) (j := 8) (σ := wipe [some v0, some v1, some (.int b), some (.int here), some (.int (k : Int)), x5, x6, none, none] [7, 8]) rv
        exact ⟨_, tg, rfl, dop (d_v t7) (d_v t8) o_sub⟩
      refine n_asg evN o1 fun p5 H1 f5 e1 r5 => ?_
      obtain ⟨p5', hp5', h5⟩ := Rp.lI_inv r5
      cases hp5'
      have h5' := cut_ex _ _ h5
      refine ⟨.ref p5, rfl, .int (k : Int), rfl, p5, _, (k : Int), .int ((lessM bs d).getD k 0), rfl, rfl, sq_of h5', atI_nat (by rw [List.getElem?_map, List.getD_eq_getElem?_getD, List.getElem?_eq_getElem (by omega)]; rfl), .int b, rfl, _, b, rfl, rfl, ?_⟩
      refine ⟨.ref p5, rfl, .int (k : Int), rfl, p5, _, (k : Int), k, rfl, rfl, h5', ixN_nat (by rw [List.length_map]; omega), ?_⟩
      have e2 : Ex H'' (upd H1 p5 (.lst (((lessM bs d).map V.int).set k (.int ((lessM bs d).getD k 0 + b))))) := Ex.mut e1 f5
      have h2 : (upd H1 p5 (.lst (((lessM bs d).map V.int).set k (.int ((lessM bs d).getD k 0 + b))))) p5 = some (.lst ((changedM (lessM bs d) k b).map V.int)) := by
        rw [upd_same, ← changed_eq (by omega), List.map_set]
      show tSeq _ _ _ _ (upd H1 p5 (.lst (((lessM bs d).map V.int).set k (.int ((lessM bs d).getD k 0 + b)))))
      generalize upd H1 p5 (.lst (((lessM bs d).map V.int).set k (.int ((lessM bs d).getD k 0 + b)))) = H2 at e2 h2 ⊢
      have o2 := o1.next e2
      have n5 : ¬ F p5 := o1.free f5
      have eB2 : Ex B (cut F H2) := eB1.trans (o1.go e2).cut
      obtain ⟨l, hl1, hl2⟩ := L.all k hk
      refine h_asgD (d := oD (ticksM (changedM (lessM bs d) k b) b)) (dcall (d_cons (dcb (d_cons (d_v (d := lI (changedM (lessM bs d) k b)) (.lI_mk (cut_at n5 h2))) d_nil) c_tupL) (d_cons (d_v (r2.mono eB2)) d_nil)) fun B' vs e ra => ⟨_, n, b, t, ra, L.posn hk, rfl⟩) o2 fun v6 H3 e3 o3 x3 r6 => ?_
      rw [hl1] at r6
      obtain rfl := r6.int_inv
      refine b_eq (b' := false) (b_or (b_val (d_isN (d_v (i := 6) (.int l)) rfl)) fun _ => b_cmp (dop (d_v (i := 6) (.int l)) (d_v (i := 3) (.int here)) o_ge)) ?_ F H3 o3 _ fun H4 e4 => ?_
      · simp
        omega
      · show Off F B1 H4 ∧ _
        exact ⟨(((oH.go eH).go e2).go e3).go e4, (((eH0.trans eH).trans e2).trans e3).trans e4, _, _, _, rfl⟩
    · obtain ⟨oH, eH0, x4, x5, x6, rfl⟩ := hP
      exact q _ H' eH0 (.bl true)
/-! ### _law_right -/
abbrev s__law_right : Stmt := topS 22
theorem sc__law_right : FnScope ["hand", "balances", "budget", "number", "caught", "demand", "error", "amount", "balance"] ["hand"] (defScope s__law_right) := ⟨rfl, rfl, rfl, by decide +kernel, rfl, by decide +kernel, by decide +kernel⟩
-- slots: 0 hand, 1 balances, 2 budget, 3 number, 4 caught, 5 demand, 6 error, 7 amount, 8 balance; cells: 
def spRight : Sp := fun vs H Q E => ∃ (p : Addr) (m : Nat), vs = [.ref p] ∧ HandAt H p m ∧ m ≤ 90000 ∧ ∀ H', But p H H' → HandAt H' p (m + 6) → Q (.bl true) H'
/-- forcing_demand, by its name -/
structure CalF (P : Program) (w : World) (K : PySem.W.Frag) (mg : Str → Option Value) (base : Heap) (C : Addr) where
  f : Addr
  fd : FuncData
  ok : FnOk P w K mg base (L2.CX P w) 7 f fd ["balances", "budget"] (spForce C)
  m : mg "forcing_demand" = some (.ref f)
  kp : PySem.W.keepIn K (.ref f) = true
  b : Binds K fd ["balances", "budget"] []
theorem ok_right (T : Zs mg) (S : ASafe P w K mg base) (c_forcing : CalF P w K mg base S.C) (c__law_drawn : Cal P w K mg base 3 "_law_drawn" ["hand"] [] spDrawn) (c_ticks_to_stall : Cal P w K mg base 7 "ticks_to_stall" ["balances", "budget"] [] (spD preTicks))
    (c__law_does_lead : Cal P w K mg base 8 "_law_does_lead" ["balances", "demand", "budget", "number"] [] (spD preLead)) {f : Addr} {fd : FuncData} (F : Fun K "_law_right" "_law_right" s__law_right f fd) : FnOk P w K mg base CX0 9 f fd ["hand"] spRight := by
  refine F.ok sc__law_right (fun vs H Q E h => ?_) (fun cdv A outer s H vs Q E hr h => ?_)
  · obtain ⟨p, m, rfl, _⟩ := h
    rfl
  · obtain ⟨p, m, rfl, hh, hm, q⟩ := h
    refine ⟨_, (pss_cons (ps_asg (pe_call c__law_drawn.ok (hr.mono (by first | decide | omega)) (by rfl) c__law_drawn.m c__law_drawn.kp c__law_drawn.b c__law_drawn.hv pass0 (pa_cons (pv 0) pa_nil)) (k_pg K (n := 2) (hc := rfl) (hs := (pgs_cons (pg_name (i := 1) sc__law_right.nd rfl (Or.inl rfl)) (pgs_cons (pg_name (i := 2) sc__law_right.nd rfl (Or.inl rfl)) pgs_nil)))))
    (pss_cons (ps_par3 (i := 3) (j := 4) (l := 5) (by rfl) sc__law_right.nd rfl rfl rfl (by decide) (by decide) (by decide) rfl rfl rfl (pa_cons (pe_call c_ticks_to_stall.ok (hr.mono (by first | decide | omega)) (by rfl) c_ticks_to_stall.m c_ticks_to_stall.kp c_ticks_to_stall.b c_ticks_to_stall.hv pass0 (pa_cons (pv 1) (pa_cons (pv 2) pa_nil))) (pa_cons (pe_non) (pa_cons (pe_non) pa_nil))) (by rfl))
    (pss_cons (ps_try_as (i := 6) rfl rfl sc__law_right.nd rfl rfl ⟨rfl, by decide, .inl S.m⟩ L2.takes0 (fun W pn xe tk _ => (pss_one (ps_set (i := 5) sc__law_right.nd rfl (Or.inl rfl) (pe_callS c_forcing.ok (hr.mono (by first | decide | omega)) (by rfl) c_forcing.m c_forcing.kp c_forcing.b (fun σ => L2.passAt tk σ) (pa_cons (pv 1) (pa_cons (pv 2) pa_nil)))))) (fun a oe cls d pn hz hf => (pss_one (ps_set (i := 4) sc__law_right.nd rfl (Or.inl rfl) (pv 6)))))
    (pss_cons (ps_if (PW.pt (pw_or (pt_cmp (pc_isN (pv 3)) (by rfl)) (pw_or1 (pt_cmp (pc_notN (pv 4)) (by rfl))))) (pss_one (ps_ret (pe_and (pe_cmp (pc_isN (pv 3)) rfl) (pe_one (pe_cmp (pc_notN (pv 4)) rfl))))) pss_nil)
    (pss_cons (ps_if (PW.pt (pw_or (pt_not (pt_val (pe_callB (k_isi K) (by rfl) T.z_isinstance (by decide +kernel) (pa_cons (pv 5) (pa_cons (pe_bltn (v := .ty "tuple") (u := .type "tuple") (by rfl) T.z_tuple (by decide +kernel) rfl) pa_nil))))) (pw_or (pt_cmpR op_ne (pe_callB (k_len K) (by rfl) T.z_len (by decide +kernel) (pa_cons (pv 5) pa_nil)) (pe_callB (k_len K) (by rfl) T.z_len (by decide +kernel) (pa_cons (pv 1) pa_nil)) (nomark _)) (pw_or (pt_cmpR op_lt (pe_callB (k_minT K (hc := rfl)) (by rfl) T.z_min (by decide +kernel) (pa_cons (pv 5) pa_nil)) (pe_int) (nomark _)) (pw_or1 (pt_cmpR op_gt (pe_callB (k_sumT K (hc := rfl)) (by rfl) T.z_sum (by decide +kernel) (pa_cons (pv 5) pa_nil)) (pv 2) (nomark _))))))) (pss_one (ps_ret (pe_bl))) pss_nil)
    (pss_cons (ps_if (pt_not (pt_val (pe_callB (k_all K (hc := rfl)) (by rfl) T.z_all (by decide +kernel) (pa_cons (pe_lc (own := [("amount", 7)]) rfl sc__law_right.nd (k_iTup K (hl := (pv 5))) (blkOk_by (by kernel_rfl)) (fun _ _ _ _ _ => (pg_name (i := 7) sc__law_right.nd rfl (Or.inl rfl))) (fun _ _ _ _ _ => pts_nil) (fun _ _ _ _ _ => (pe_and (pe_callB (k_isi K) (by rfl) T.z_isinstance (by decide +kernel) (pa_cons (pv 7) (pa_cons (pe_bltn (v := .ty "int") (u := .type "int") (by rfl) T.z_int (by decide +kernel) rfl) pa_nil))) (pe_one (pe_not (pe_callB (k_isi K) (by rfl) T.z_isinstance (by decide +kernel) (pa_cons (pv 7) (pa_cons (pe_bltn (v := .ty "bool") (u := .type "bool") (by rfl) T.z_bool (by decide +kernel) rfl) pa_nil)))))))) pa_nil)))) (pss_one (ps_ret (pe_bl))) pss_nil)
    (pss_cons (ps_if (pt_val (pe_callB (k_any K (hc := rfl)) (by rfl) T.z_any (by decide +kernel) (pa_cons (pe_lc (own := [("amount", 7), ("balance", 8)]) rfl sc__law_right.nd (k_zip K (by rfl) T.z_zip (pa_cons (pv 5) (pa_cons (pv 1) pa_nil))) (blkOk_by (by kernel_rfl)) (fun _ _ _ _ _ => (k_pg K (n := 2) (hc := rfl) (hs := (pgs_cons (pg_name (i := 7) sc__law_right.nd rfl (Or.inl rfl)) (pgs_cons (pg_name (i := 8) sc__law_right.nd rfl (Or.inl rfl)) pgs_nil))))) (fun _ _ _ _ _ => pts_nil) (fun _ _ _ _ _ => (pe_cmpR op_gt (pv 7) (pv 8) (nomark _)))) pa_nil))) (pss_one (ps_ret (pe_bl))) pss_nil)
    (pss_one (ps_ret (pe_and (pe_cmpR op_eq (pe_callB (k_sumT K (hc := rfl)) (by rfl) T.z_sum (by decide +kernel) (pa_cons (pv 5) pa_nil)) (pv 2) (nomark _)) (pe_one (pe_call c__law_does_lead.ok (hr.mono (by first | decide | omega)) (by rfl) c__law_does_lead.m c__law_does_lead.kp c__law_does_lead.b c__law_does_lead.hv pass0 (pa_cons (pv 1) (pa_cons (pv 5) (pa_cons (pv 2) (pa_cons (pv 3) pa_nil)))))))))))))))), ?_⟩
    refine ⟨.ref p, rfl, p, m, rfl, hh, hm, fun v H1 bs b b1 b4 l1 l4 s0 s12 hbd bt hh1 rv => ?_⟩
    have o1 : Off (fun c => c = p) (cut (fun c => c = p) H1) H1 := Off.of fun c hc => by rw [hc]; exact hh1.dom
    obtain ⟨v1, v2, r1, r2, tg⟩ := tg_pair (K := K) (i := 1) (j := 2) (σ := [some (.ref p), none, none, none, none, none, none, none, none]) rv
    obtain rfl := r2.int_inv
    refine tg _ H1 o1 _ ?_
    obtain ⟨t, ht⟩ : ∃ t : Nat, bs.sum = (t : Int) := ⟨bs.sum.toNat, by omega⟩
    have ps : Posn bs (bs.length - 1) b t := ⟨by omega, by omega, b4, ht, by omega, fun x hx => by have := hbd x hx; omega⟩
    have evT : EvD (tCall (spD preTicks) [] E0 (tCons (tVar 1) (tCons (tVar 2) tNil))) [some (.ref p), some v1, some (.int b), none, none, none, none, none, none] (cut (fun c => c = p) H1) (oD (ticksM bs b)) :=
      dcall (d_cons (d_v r1) (d_cons (d_v r2) d_nil)) fun B' vs e ra => ⟨bs, _, b, t, ra, ps, rfl⟩
    refine evT _ H1 o1 _ fun v3 H2 e2 r3 => ⟨_, _, _, rfl, ?_⟩
    have o2 := o1.next e2
    have x2 := (o1.go e2).cut
    refine ⟨v1, rfl, .int b, rfl, _, _, bs, _, b, t, o2, .cons (r1.mono x2) (.cons (.int b) .nil), ps, fun hn H3 e3 => ⟨true, S.te, fun _ a ha => ?_, fun z => nomatch z⟩, fun here hh2 v5 H3 e3 r5 => ?_⟩
    · rw [hn] at r3
      obtain rfl := r3.non_inv
      refine ⟨.ref a, rfl, ?_⟩
      refine ⟨.non, rfl, true, rfl, ?_⟩
      refine ⟨.non, rfl, true, rfl, .ref a, rfl, ?_⟩
      exact q H3 (bt.trans (But.ex (e2.trans e3))) (hh1.mono (e2.trans e3))
    · have o3 := o2.next e3
      have x3 := (o2.go e3).cut
      obtain ⟨d, hd, fo⟩ := force_ok ps b1 (by omega) hh2
      rw [hd] at r5
      rw [hh2] at r3
      have r5 : Rp (cut (fun c => c = p) H3) v5 (tI d) := r5
      have r1' := (r1.mono x2).mono x3
      have r3' : Rp (cut (fun c => c = p) H3) v3 (.int here) := r3.mono x3
      show tSeq _ _ _ [some (.ref p), some v1, some (.int b), some v3, some .non, some v5, none, none, none] H3
      refine EvS.run (R := rp (.bool true)) (B := cut (fun c => c = p) H3) ?_ o3 fun v H4 e4 r4 => ?_
      · have hdl := fo.len
        have hdne : d ≠ [] := fun z => by rw [z] at hdl; simp at hdl; omega
        have hmin := minI_mem hdne
        have hmin0 := fo.nn _ hmin
        have hsum := fo.sum
        refine e_if (b := false) (b_eq (b_or (b_val (d_isN (d_v r3') rfl)) fun _ => b_val (d_notN (d_v .non) rfl)) rfl) (fun h => by cases h) fun _ => ?_
        refine e_if (b := false) (b_eq (b_or (b_not (b_val (d_isiT (r := true) (d_v r5) (by decide +kernel)))) fun _ => b_or (b_cmp (dop (dcb (d_cons (d_v r5) d_nil) c_lenT) (dcb (d_cons (d_v r1') d_nil) c_lenT) o_neI)) fun _ => b_or (b_cmp (dop (dcb (d_cons (d_v r5) d_nil) (c_minT hdne)) d_int o_lt)) fun _ => b_cmp (dop (dcb (d_cons (d_v r5) d_nil) c_sumT) (d_v (.int b)) o_gt)) ?_) (fun h => by cases h) fun _ => ?_
        · rw [List.length_map, List.length_map, hdl, decide_eq_true rfl, decide_eq_false (by omega), decide_eq_false (by omega)]
          rfl
        refine e_if (b := false) (b_eq (b_not (b_val (dcb (d_cons (as_eq (d_lc d PyData.int (fun _ => .bool true) (by omega) (i_tup (d_v r5)) fun a ha v B' e rv => ⟨_, tg_name, rfl, d_andV (d_isiI (r := true) (d_v rv) (by decide +kernel)) fun _ => d_notV (d_isiI (r := false) (d_v rv) (by decide +kernel))⟩) (d' := .list ((d.map fun _ => true).map PyData.bool)) (by rw [List.map_map]; rfl)) d_nil) c_all))) ?_) (fun h => by cases h) fun _ => ?_
        · rw [List.all_map]
          simp
        refine e_if (b := (d.zip bs).any fun p => decide (p.2 < p.1)) (b_eq (b_val (dcb (d_cons (as_eq (d_lc (d.zip bs) (fun p => PyData.tuple [.int p.1, .int p.2]) (fun p => .bool (decide (p.2 < p.1))) (by rw [List.length_zip]; omega) (i_zipT' (d_cons (d_v r5) (d_cons (d_v r1') d_nil))) fun pq hp v B' e rv => ?_) (d' := .list (((d.zip bs).map fun p => decide (p.2 < p.1)).map PyData.bool)) (by rw [List.map_map]; rfl)) d_nil) c_any)) ?_) (fun _ => e_ret d_bl) fun hany => ?_
        · obtain ⟨y7, y8, t7, t8, tg⟩ := tg_pair (K := K) (i := 7) (j := 8) (σ := wipe [some (.ref p), some v1, some (.int b), some v3, some .non, some v5, none, none, none] [7, 8]) rv
          exact ⟨_, tg, rfl, dop (d_v t7) (d_v t8) o_gt⟩
        · rw [List.any_map]
          rfl
        rcases fo.alt with ⟨i, h1, h2, hlt⟩ | ⟨hs, hnn, hall⟩
        · exfalso
          refine Bool.false_ne_true (hany.symm.trans (List.any_eq_true.mpr ⟨(d[i], bs[i]), ?_, decide_eq_true hlt⟩))
          have : (d.zip bs)[i]? = some (d[i], bs[i]) := by rw [List.getElem?_zip_eq_some]; exact ⟨List.getElem?_eq_getElem h1, List.getElem?_eq_getElem h2⟩
          exact List.mem_of_getElem? this
        · refine e_ret (as_eq (d_andV (b := true) (dop (dcb (d_cons (d_v r5) d_nil) c_sumT) (d_v (.int b)) o_eqI) fun _ => dcall (d_cons (d_v r1') (d_cons (d_v r5) (d_cons (d_v (.int b)) (d_cons (d_v r3') d_nil)))) fun B' vs e ra => ⟨bs, d, _, b, t, here, ra, ⟨ps, hdl, hs, hnn, hall⟩, rfl⟩) ?_)
          rw [decide_eq_true hs]
          rfl
      · obtain rfl := r4.bl_inv
        have e24 := (e2.trans e3).trans e4
        exact q H4 (bt.trans (But.ex e24)) (hh1.mono e24)
/-! ### law -/
abbrev s_law : Stmt := topS 23
theorem sc_law : FnScope ["script", "k", "hand", "turn"] ["script"] (defScope s_law) := ⟨rfl, rfl, rfl, by decide +kernel, rfl, by decide +kernel, by decide +kernel⟩
-- slots: 0 script, 1 k, 2 hand, 3 turn; cells: hand
def spLaw (K : PySem.W.Frag) : Sp := fun vs H Q E => ∃ (F : Addr → Prop) (B : Hp) (a : Addr) (ns : List Int), Off F B H ∧ vs = [.ref a] ∧ SqL K B a (ns.map V.int) ∧ ∀ H', Ex H H' → Q (.bl true) H'
theorem ok_law (T : Zs mg) (c__law_hand : Cal P w K mg base 1 "_law_hand" ["script", "k"] [] (spHand K)) (c__law_right : Cal P w K mg base 9 "_law_right" ["hand"] [] spRight) {f : Addr} {fd : FuncData} (F : Fun K "law" "law" s_law f fd) : FnOk P w K mg base CX0 10 f fd ["script"] (spLaw K) := by
  refine F.ok sc_law (fun vs H Q E h => ?_) (fun cdv A outer s H vs Q E hr h => ?_)
  · obtain ⟨F, B, a, ns, o, rfl, _⟩ := h
    rfl
  · obtain ⟨F, B, a, ns, o, rfl, r0, q⟩ := h
    obtain ⟨v0, hv0⟩ : ∃ v0, V.ref a = v0 := ⟨_, rfl⟩
    refine ⟨_, (pss_cons (ps_for PassesOwn.never rfl (pi_range1 (by rfl) T.z_range (pa_cons (pe_callB (call_max2 (hc := rfl)) (by rfl) T.z_max (by decide +kernel) (pa_cons (pe_int) (pa_cons (pe_callB (call_min2 (hc := rfl)) (by rfl) T.z_min (by decide +kernel) (pa_cons (pe_int) (pa_cons (pe_callB (k_len K) (by rfl) T.z_len (by decide +kernel) (pa_cons (pv 0) pa_nil)) pa_nil))) pa_nil))) pa_nil)) (pg_name (i := 1) sc_law.nd rfl (Or.inl rfl))
    (pss_cons (ps_set (i := 2) sc_law.nd rfl (Or.inr rfl) (pe_call c__law_hand.ok (hr.mono (by first | decide | omega)) (by rfl) c__law_hand.m c__law_hand.kp c__law_hand.b c__law_hand.hv pass0 (pa_cons (pv 0) (pa_cons (pv 1) pa_nil))))
    (pss_one (ps_if (pt_not (pt_val (pe_callB (k_all K (hc := rfl)) (by rfl) T.z_all (by decide +kernel) (pa_cons (pe_lc (own := [("turn", 3)]) rfl sc_law.nd (pi_range1 (by rfl) T.z_range (pa_cons (pe_int) pa_nil)) (blkOk_by (by kernel_rfl)) (fun _ _ _ _ _ => (pg_name (i := 3) sc_law.nd rfl (Or.inl rfl))) (fun _ _ _ _ _ => pts_nil) (fun _ _ _ _ _ => (pe_call c__law_right.ok (hr.mono (by first | decide | omega)) (by rfl) c__law_right.m c__law_right.kp c__law_right.b c__law_right.hv pass0 (pa_cons (pv 2) pa_nil)))) pa_nil)))) (pss_one (ps_ret (pe_bl))) pss_nil))))
    (pss_one (ps_ret (pe_bl)))), ?_⟩
    rw [hv0]
    obtain ⟨N, hN1, hN⟩ : ∃ N : Nat, N ≤ 3 ∧ (if (if ((ns.map V.int).length : Int) < 3 then ((ns.map V.int).length : Int) else 3) > 1 then (if ((ns.map V.int).length : Int) < 3 then ((ns.map V.int).length : Int) else 3) else 1) = (N : Int) := by
      refine ⟨Int.toNat (if (if ((ns.map V.int).length : Int) < 3 then ((ns.map V.int).length : Int) else 3) > 1 then (if ((ns.map V.int).length : Int) < 3 then ((ns.map V.int).length : Int) else 3) else 1), ?_, ?_⟩ <;> (repeat' split) <;> omega
    refine s_for (σ := [some v0, none, none, none]) (List.range N) (fun i => PyData.int ((i : Nat) : Int)) (i_rng1' (d_cons (dcb (d_cons d_int (d_cons (dcb (d_cons d_int (d_cons (d_lenS r0 (by rw [← hv0]; rfl)) d_nil)) c_min2) d_nil)) c_max2) d_nil) hN (by omega)) o
      (fun B1 k σ' H' => Off F B1 H' ∧ Ex H H' ∧ ∃ x1 x2, σ' = [some v0, x1, x2, none]) (fun H1 e1 => ⟨o.next e1, e1, none, none, rfl⟩) (fun B1 k σ' H' _ h => h.1) (fun B1 k i v σ' H' H'' eB hi hP eH rv => ?_) (fun B1 σ' H' eB hP => ?_)
    · obtain ⟨oH, eH0, x1, x2, rfl⟩ := hP
      obtain ⟨hk, rfl⟩ := List.getElem?_eq_some_iff.mp hi
      rw [List.length_range] at hk
      rw [List.getElem_range] at rv
      obtain rfl := rv.int_inv
      have o1 := oH.next eH
      have eB1 : Ex B (cut F H'') := eB.trans (oH.go eH).cut
      refine ⟨v0, rfl, .int (k : Int), rfl, F, cut F H'', a, ns, k, o1, by rw [← hv0]; rfl, ex_l eB1 r0, by omega, fun p H1 hp e1 hh => ?_⟩
      refine ⟨5, rfl, by decide, by decide, fun Dl hD => ?_⟩
      have nD : Dl ≠ p := fun z => by
        obtain ⟨u, hu, _⟩ := hh.dom
        rw [z, hu] at hD
        cases hD
      refine lc_range (fun i Hx => (∀ b u, b ≠ p → b ≠ Dl → H1 b = some u → Hx b = some u) ∧ HandAt Hx p (6 * i) ∧ Hx Dl = some (.lst ((List.replicate i true).map V.bl))) ⟨fun b u _ z2 z => by rw [upd_ne z2]; exact z, hh.mono (Ex.new hD), upd_same⟩ (fun i Hx hi hP => ?_) (fun Hx hP => ?_)
      · obtain ⟨hf, hhx, hd⟩ := hP
        have hi5 : i < 5 := hi
        refine ⟨rfl, yes_of ?_⟩
        refine ⟨.ref p, rfl, p, 6 * i, rfl, hhx, by omega, fun Hy bt hhy => ?_⟩
        have hdy := bt Dl _ nD hd
        refine ⟨_, hdy, sz_lt (by rw [List.length_map, List.length_replicate]; omega), fun b u z1 z2 z => ?_, ?_, ?_⟩
        · rw [upd_ne z2]
          exact bt b u z1 (hf b u z1 z2 z)
        · obtain ⟨g, h1, h2, hp', a⟩ := hhy.at_
          exact ⟨g, h1, h2, by rw [upd_ne (Ne.symm nD)]; exact hp', a⟩
        · rw [upd_same, List.replicate_succ', List.map_append]
          rfl
      · obtain ⟨hf, hhx, hd⟩ := hP
        refine ⟨Dl, List.replicate 5 true, rfl, sq_of hd, true, rfl, no_of ?_⟩
        have ex : Ex H'' Hx := Ex.two e1 (Ex.refl H1) hp hD hf
        exact ⟨(oH.go eH).go ex, (eH0.trans eH).trans ex, _, _, rfl⟩
    · obtain ⟨oH, eH0, x1, x2, rfl⟩ := hP
      exact q H' eH0
end
end K79
namespace K79
open PySem PySem.Spec PyProof.Rows L2 Evl G
/-! ### AlreadySafe.__init__ -/
def clsBody (s : Stmt) : List Stmt := match s with
  | .ClassDef (body := b) .. => b
  | _ => []
abbrev s_init : Stmt := (clsBody (topS 3)).getD 0 (.Pass ⟨0, 0, 0, 0⟩)
theorem sc_init : FnScope ["self"] ["self"] (defScope s_init) := ⟨rfl, rfl, rfl, by decide +kernel, rfl, by decide +kernel, by decide +kernel⟩
section
variable {P : Program} {w : World} {K : PySem.W.Frag} {mg : Str → Option Value} {base : Heap}
theorem ok_init {CB : Addr} {mc : Value} (mB : mg "CreditError" = some (.ref CB)) (sC : PySem.W.specialIn K (.ref CB) "__getattribute__" = some (some (.builtin "type.__getattribute__"))) (rC : PySem.W.readsIn K CB mc = true)
    (vV : PySem.W.findCls K (.ref CB) mc "__init__" = some (.val (.builtin "ValueError.__init__"))) {f : Addr} {fd : FuncData} (F : Fun K "__init__" "AlreadySafe.__init__" s_init f fd) : FnOk P w K mg base CX0 1 f fd ["self"] (spInit K) := by
  refine F.ok sc_init (fun vs H Q E h => ?_) (fun cdv A outer s H vs Q E hr h => ?_)
  · obtain ⟨a, C, rfl, _⟩ := h
    rfl
  · obtain ⟨a, C, rfl, T, ha, q⟩ := h
    refine ⟨_, (pss_one (ps_expr (pe_ceinit (by rfl) mB sC rC vV (pa_cons (pv 0) (pa_cons pe_str pa_nil))))), ?_⟩
    exact ⟨.ref a, rfl, a, C, _, rfl, by show 1 ≤ 1000; decide, T, ha, q⟩
theorem demands_all (T : Zs mg) {f : Addr} {fd : FuncData} (F : Fun K "demands_of" "demands_of" s_demands_of f fd) (b : Binds K fd ["count", "budget"] []) (m : mg "demands_of" = some (.ref f)) (kp : PySem.W.keepIn K (.ref f) = true) :
    ∀ n, FnOk P w K mg base CX0 n f fd ["count", "budget"] (spD (preDemands n))
  | 0 => ⟨fun vs H Q E h => by obtain ⟨_, _, _, _, ⟨n, b, _, hn, _⟩, _⟩ := h; exact absurd hn (Nat.not_lt_zero _), fun A outer s H args us vs Q E hr he hb hv h => by obtain ⟨_, _, _, _, ⟨n, b, _, hn, _⟩, _⟩ := h; exact absurd hn (Nat.not_lt_zero _)⟩
  | n + 1 => demands_step T F ⟨f, fd, [], demands_all T F b m kp n, m, kp, b, .nil⟩
theorem sorted_all (T : Zs mg) {dvs : List V} {f : Addr} {fd : FuncData} (F : FunD K "sorted_balances" "sorted_balances" (defArgs s_sorted_balances) (defBody s_sorted_balances) (defScope s_sorted_balances) dvs [] f fd) (b : Binds K fd ["count", "total", "least"] []) (m : mg "sorted_balances" = some (.ref f)) :
    ∀ n, FnOk P w K mg base CX0 n f fd ["count", "total", "least"] (spD (preSorted n))
  | 0 => ⟨fun vs H Q E h => by obtain ⟨_, _, _, _, ⟨n, b, _, _, hn, _⟩, _⟩ := h; exact absurd hn (Nat.not_lt_zero _), fun A outer s H args us vs Q E hr he hb hv h => by obtain ⟨_, _, _, _, ⟨n, b, _, _, hn, _⟩, _⟩ := h; exact absurd hn (Nat.not_lt_zero _)⟩
  | n + 1 => sorted_step T F ⟨f, fd, [], sorted_all T F b m n, m, F.kp, b, .nil⟩
/-- an error of the class at S is what «except S» names -/
theorem exm_self {K : PySem.W.Frag} {S : Addr} (h1 : PySem.W.subIn K (.ref S) (.type "BaseException") = some true) (h2 : PySem.W.isClsIn K S = true) (h3 : PySem.W.typeIn K (.ref S) = some (.type "type")) (h4 : PySem.W.subIn K (.ref S) (.ref S) = some true) :
    PySem.W.exmOne K (.ref S) (.ref S) = some true := by
  have e1 : (PySem.W.subIn K (.ref S) (.type "BaseException") == some true) = true := by rw [h1] <;> rfl
  have e2 : ((PySem.W.clsIn K S).isSome && PySem.W.typeIn K (.ref S) == some (.type "type")) = true := by
    have h2' : (PySem.W.clsIn K S).isSome = true := h2
    rw [h2', h3] <;> rfl
  show (if (PySem.W.subIn K (.ref S) (.type "BaseException") == some true) = true then (if ((PySem.W.clsIn K S).isSome && PySem.W.typeIn K (.ref S) == some (.type "type")) = true then PySem.W.subIn K (.ref S) (.ref S) else none) else none) = some true
  rw [if_pos e1, if_pos e2]
  exact h4
end
theorem all_mk {l : PySem.W.OpenLaw} {w : World} {K : PySem.W.Frag} {h : Heap} {mg : Str → Option Value} {fa : Addr} (X : K.In h) (G : h.Ns mainGlobals mg) (hfa : mg "law" = some (.ref fa))
    {od1 an1 : Option Addr} {sl1 : Array (Option Value)} {oc1 kV1 dc1 pm1 cd1 ct1 : Value} {f1 : Addr}
    {od2 an2 : Option Addr} {sl2 : Array (Option Value)} {oc2 kV2 dc2 pm2 cd2 ct2 : Value} {f2 : Addr}
    {od3 an3 : Option Addr} {sl3 : Array (Option Value)} {oc3 kV3 dc3 pm3 cd3 ct3 : Value} {f3 : Addr}
    {od4 an4 : Option Addr} {sl4 : Array (Option Value)} {oc4 kV4 dc4 pm4 cd4 ct4 : Value} {f4 : Addr}
    {od5 an5 : Option Addr} {sl5 : Array (Option Value)} {oc5 kV5 dc5 pm5 cd5 ct5 : Value} {f5 : Addr}
    {od6 an6 : Option Addr} {sl6 : Array (Option Value)} {oc6 kV6 dc6 pm6 cd6 ct6 : Value} {f6 : Addr}
    {od7 an7 : Option Addr} {sl7 : Array (Option Value)} {oc7 kV7 dc7 pm7 cd7 ct7 : Value} {f7 : Addr}
    {od8 an8 : Option Addr} {sl8 : Array (Option Value)} {oc8 kV8 dc8 pm8 cd8 ct8 : Value} {f8 : Addr}
    {od9 an9 : Option Addr} {sl9 : Array (Option Value)} {oc9 kV9 dc9 pm9 cd9 ct9 : Value} {f9 : Addr}
    {od10 an10 : Option Addr} {sl10 : Array (Option Value)} {oc10 kV10 dc10 pm10 cd10 ct10 : Value} {f10 : Addr}
    {od11 an11 : Option Addr} {sl11 : Array (Option Value)} {oc11 kV11 dc11 pm11 cd11 ct11 : Value} {f11 : Addr}
    {od12 an12 : Option Addr} {sl12 : Array (Option Value)} {oc12 kV12 dc12 pm12 cd12 ct12 : Value} {f12 : Addr}
    {od13 an13 : Option Addr} {sl13 : Array (Option Value)} {oc13 kV13 dc13 pm13 cd13 ct13 : Value} {f13 : Addr}
    {od14 an14 : Option Addr} {sl14 : Array (Option Value)} {oc14 kV14 dc14 pm14 cd14 ct14 : Value} {f14 : Addr}
    {od15 an15 : Option Addr} {sl15 : Array (Option Value)} {oc15 kV15 dc15 pm15 cd15 ct15 : Value} {f15 : Addr}
    {od16 an16 : Option Addr} {sl16 : Array (Option Value)} {oc16 kV16 dc16 pm16 cd16 ct16 : Value} {f16 : Addr}
    {od0 an0 : Option Addr} {sl0 : Array (Option Value)} {oc0 kV0 dc0 pm0 cd0 ct0 : Value} {f0 fT : Addr} {tc : Value} {td : Option Addr} {tt : Tok} {tn : Nat} {tsl : Array (Option Value)}
    {C CB fI : Addr} {nm q : Str} {N : Addr} {bs : List Value} {sn : List Str} {sub : List Value} {ab : Bool} {col : Option Bool} {dd : Option Addr} {m0 m1 m2 m3 m5 : Option Value} {odI anI : Option Addr} {slI : Array (Option Value)} {ocI kVI dcI pmI cdI ctI : Value}
    (a1 : PySem.W.nsIn K mainGlobals "changed" = some (some (.ref f1))) (l1 : K.lookup f1 = some ⟨oc1, od1, .func (PySem.W.fnOf "changed" "changed" (defArgs s_changed) (defBody s_changed) (defScope s_changed) .none kV1 dc1 pm1 an1 cd1 ct1), sl1⟩) (c1 : PySem.W.codeIn K cd1 "changed" = true) (k1 : PySem.W.keepIn K (.ref f1) = true)
    (a2 : PySem.W.nsIn K mainGlobals "stalled" = some (some (.ref f2))) (l2 : K.lookup f2 = some ⟨oc2, od2, .func (PySem.W.fnOf "stalled" "stalled" (defArgs s_stalled) (defBody s_stalled) (defScope s_stalled) .none kV2 dc2 pm2 an2 cd2 ct2), sl2⟩) (c2 : PySem.W.codeIn K cd2 "stalled" = true) (k2 : PySem.W.keepIn K (.ref f2) = true)
    (a3 : PySem.W.nsIn K mainGlobals "less_demand" = some (some (.ref f3))) (l3 : K.lookup f3 = some ⟨oc3, od3, .func (PySem.W.fnOf "less_demand" "less_demand" (defArgs s_less_demand) (defBody s_less_demand) (defScope s_less_demand) .none kV3 dc3 pm3 an3 cd3 ct3), sl3⟩) (c3 : PySem.W.codeIn K cd3 "less_demand" = true) (k3 : PySem.W.keepIn K (.ref f3) = true)
    (a4 : PySem.W.nsIn K mainGlobals "results" = some (some (.ref f4))) (l4 : K.lookup f4 = some ⟨oc4, od4, .func (PySem.W.fnOf "results" "results" (defArgs s_results) (defBody s_results) (defScope s_results) .none kV4 dc4 pm4 an4 cd4 ct4), sl4⟩) (c4 : PySem.W.codeIn K cd4 "results" = true) (k4 : PySem.W.keepIn K (.ref f4) = true)
    (a5 : PySem.W.nsIn K mainGlobals "demands_of" = some (some (.ref f5))) (l5 : K.lookup f5 = some ⟨oc5, od5, .func (PySem.W.fnOf "demands_of" "demands_of" (defArgs s_demands_of) (defBody s_demands_of) (defScope s_demands_of) .none kV5 dc5 pm5 an5 cd5 ct5), sl5⟩) (c5 : PySem.W.codeIn K cd5 "demands_of" = true) (k5 : PySem.W.keepIn K (.ref f5) = true)
    (a6 : PySem.W.nsIn K mainGlobals "choices" = some (some (.ref f6))) (l6 : K.lookup f6 = some ⟨oc6, od6, .func (PySem.W.fnOf "choices" "choices" (defArgs s_choices) (defBody s_choices) (defScope s_choices) .none kV6 dc6 pm6 an6 cd6 ct6), sl6⟩) (c6 : PySem.W.codeIn K cd6 "choices" = true) (k6 : PySem.W.keepIn K (.ref f6) = true)
    (a7 : PySem.W.nsIn K mainGlobals "numbers_of" = some (some (.ref f7))) (l7 : K.lookup f7 = some ⟨oc7, od7, .func (PySem.W.fnOf "numbers_of" "numbers_of" (defArgs s_numbers_of) (defBody s_numbers_of) (defScope s_numbers_of) .none kV7 dc7 pm7 an7 cd7 ct7), sl7⟩) (c7 : PySem.W.codeIn K cd7 "numbers_of" = true) (k7 : PySem.W.keepIn K (.ref f7) = true)
    (a8 : PySem.W.nsIn K mainGlobals "ticks_to_stall" = some (some (.ref f8))) (l8 : K.lookup f8 = some ⟨oc8, od8, .func (PySem.W.fnOf "ticks_to_stall" "ticks_to_stall" (defArgs s_ticks_to_stall) (defBody s_ticks_to_stall) (defScope s_ticks_to_stall) .none kV8 dc8 pm8 an8 cd8 ct8), sl8⟩) (c8 : PySem.W.codeIn K cd8 "ticks_to_stall" = true) (k8 : PySem.W.keepIn K (.ref f8) = true)
    (a9 : PySem.W.nsIn K mainGlobals "forcing_demand" = some (some (.ref f9))) (l9 : K.lookup f9 = some ⟨oc9, od9, .func (PySem.W.fnOf "forcing_demand" "forcing_demand" (defArgs s_forcing_demand) (defBody s_forcing_demand) (defScope s_forcing_demand) .none kV9 dc9 pm9 an9 cd9 ct9), sl9⟩) (c9 : PySem.W.codeIn K cd9 "forcing_demand" = true) (k9 : PySem.W.keepIn K (.ref f9) = true)
    (a10 : PySem.W.nsIn K mainGlobals "_law_hand" = some (some (.ref f10))) (l10 : K.lookup f10 = some ⟨oc10, od10, .func (PySem.W.fnOf "_law_hand" "_law_hand" (defArgs s__law_hand) (defBody s__law_hand) (defScope s__law_hand) .none kV10 dc10 pm10 an10 cd10 ct10), sl10⟩) (c10 : PySem.W.codeIn K cd10 "_law_hand" = true) (k10 : PySem.W.keepIn K (.ref f10) = true)
    (a11 : PySem.W.nsIn K mainGlobals "_law_take" = some (some (.ref f11))) (l11 : K.lookup f11 = some ⟨oc11, od11, .func (PySem.W.fnOf "_law_take" "_law_take" (defArgs s__law_take) (defBody s__law_take) (defScope s__law_take) .none kV11 dc11 pm11 an11 cd11 ct11), sl11⟩) (c11 : PySem.W.codeIn K cd11 "_law_take" = true) (k11 : PySem.W.keepIn K (.ref f11) = true)
    (a12 : PySem.W.nsIn K mainGlobals "_law_of" = some (some (.ref f12))) (l12 : K.lookup f12 = some ⟨oc12, od12, .func (PySem.W.fnOf "_law_of" "_law_of" (defArgs s__law_of) (defBody s__law_of) (defScope s__law_of) .none kV12 dc12 pm12 an12 cd12 ct12), sl12⟩) (c12 : PySem.W.codeIn K cd12 "_law_of" = true) (k12 : PySem.W.keepIn K (.ref f12) = true)
    (a13 : PySem.W.nsIn K mainGlobals "_law_drawn" = some (some (.ref f13))) (l13 : K.lookup f13 = some ⟨oc13, od13, .func (PySem.W.fnOf "_law_drawn" "_law_drawn" (defArgs s__law_drawn) (defBody s__law_drawn) (defScope s__law_drawn) .none kV13 dc13 pm13 an13 cd13 ct13), sl13⟩) (c13 : PySem.W.codeIn K cd13 "_law_drawn" = true) (k13 : PySem.W.keepIn K (.ref f13) = true)
    (a14 : PySem.W.nsIn K mainGlobals "_law_does_lead" = some (some (.ref f14))) (l14 : K.lookup f14 = some ⟨oc14, od14, .func (PySem.W.fnOf "_law_does_lead" "_law_does_lead" (defArgs s__law_does_lead) (defBody s__law_does_lead) (defScope s__law_does_lead) .none kV14 dc14 pm14 an14 cd14 ct14), sl14⟩) (c14 : PySem.W.codeIn K cd14 "_law_does_lead" = true) (k14 : PySem.W.keepIn K (.ref f14) = true)
    (a15 : PySem.W.nsIn K mainGlobals "_law_right" = some (some (.ref f15))) (l15 : K.lookup f15 = some ⟨oc15, od15, .func (PySem.W.fnOf "_law_right" "_law_right" (defArgs s__law_right) (defBody s__law_right) (defScope s__law_right) .none kV15 dc15 pm15 an15 cd15 ct15), sl15⟩) (c15 : PySem.W.codeIn K cd15 "_law_right" = true) (k15 : PySem.W.keepIn K (.ref f15) = true)
    (a16 : PySem.W.nsIn K mainGlobals "law" = some (some (.ref f16))) (l16 : K.lookup f16 = some ⟨oc16, od16, .func (PySem.W.fnOf "law" "law" (defArgs s_law) (defBody s_law) (defScope s_law) .none kV16 dc16 pm16 an16 cd16 ct16), sl16⟩) (c16 : PySem.W.codeIn K cd16 "law" = true) (k16 : PySem.W.keepIn K (.ref f16) = true)
    (a0 : PySem.W.nsIn K mainGlobals "sorted_balances" = some (some (.ref f0))) (l0 : K.lookup f0 = some ⟨oc0, od0, .func (PySem.W.fnOf "sorted_balances" "sorted_balances" (defArgs s_sorted_balances) (defBody s_sorted_balances) (defScope s_sorted_balances) (.ref fT) kV0 dc0 pm0 an0 cd0 ct0), sl0⟩) (c0 : PySem.W.codeIn K cd0 "sorted_balances" = true) (k0 : PySem.W.keepIn K (.ref f0) = true) (lT : K.lookup fT = some ⟨tc, td, .seq #[.int 0 tt] tn, tsl⟩)
    (aC : PySem.W.nsIn K mainGlobals "AlreadySafe" = some (some (.ref C))) (xL : K.lookup C = some (excClassObj nm q C N bs [.ref CB, .type "ValueError", .type "Exception", .type "BaseException", .type "object"] true sn sub ab col dd m0 m1 m2 m3 m5 "ValueError.__new__")) (sa : PySem.W.findIn K (.ref C) "__setattr__" = some (some (.builtin "object.__setattr__"))) (iI : PySem.W.findIn K (.ref C) "__init__" = some (some (.ref fI))) (tI : PySem.W.typeIn K (.ref fI) = some (.type "function")) (lJ : K.lookup fI = some ⟨ocI, odI, .func (PySem.W.fnOf "__init__" "AlreadySafe.__init__" (defArgs s_init) (defBody s_init) (defScope s_init) .none kVI dcI pmI anI cdI ctI), slI⟩) (cI : PySem.W.codeIn K cdI "AlreadySafe.__init__" = true) (kJ : PySem.W.keepIn K (.ref fI) = true) (kC : PySem.W.keepIn K (.ref C) = true) (eC : PySem.W.subIn K (.ref C) (.type "BaseException") = some true) (tC : PySem.W.typeIn K (.ref C) = some (.type "type")) (iC : PySem.W.isClsIn K C = true) (sC : PySem.W.subIn K (.ref C) (.ref C) = some true) (aB : PySem.W.nsIn K mainGlobals "CreditError" = some (some (.ref CB))) (sB : PySem.W.specialIn K (.ref CB) "__getattribute__" = some (some (.builtin "type.__getattribute__"))) (rB : PySem.W.readsIn K CB (.type "type") = true) (vB : PySem.W.findCls K (.ref CB) (.type "type") "__init__" = some (.val (.builtin "ValueError.__init__")))
    (z_len : PySem.W.nsIn K mainGlobals "len" = some none)
    (z_tuple : PySem.W.nsIn K mainGlobals "tuple" = some none)
    (z_sorted : PySem.W.nsIn K mainGlobals "sorted" = some none)
    (z_set : PySem.W.nsIn K mainGlobals "set" = some none)
    (z_range : PySem.W.nsIn K mainGlobals "range" = some none)
    (z_enumerate : PySem.W.nsIn K mainGlobals "enumerate" = some none)
    (z_zip : PySem.W.nsIn K mainGlobals "zip" = some none)
    (z_sum : PySem.W.nsIn K mainGlobals "sum" = some none)
    (z_all : PySem.W.nsIn K mainGlobals "all" = some none)
    (z_any : PySem.W.nsIn K mainGlobals "any" = some none)
    (z_min : PySem.W.nsIn K mainGlobals "min" = some none)
    (z_max : PySem.W.nsIn K mainGlobals "max" = some none)
    (z_int : PySem.W.nsIn K mainGlobals "int" = some none)
    (z_bool : PySem.W.nsIn K mainGlobals "bool" = some none)
    (z_abs : PySem.W.nsIn K mainGlobals "abs" = some none)
    (z_list : PySem.W.nsIn K mainGlobals "list" = some none)
    (z_dict : PySem.W.nsIn K mainGlobals "dict" = some none)
    (z_repr : PySem.W.nsIn K mainGlobals "repr" = some none)
    (z_isinstance : PySem.W.nsIn K mainGlobals "isinstance" = some none) :
    ∃ fd : FuncData, (∀ (s : Shared) (v : Value), BindsTo s fd ⟨[v], []⟩ [("script", v)]) ∧ ∀ base : Heap, K.In base → base.Ns mainGlobals mg → FnOk l.prog w K mg base CX0 10 fa fd ["script"] (spLaw K) := by
  have e := hfa.symm.trans (PySem.W.mg_of X G a16)
  cases e
  have F1 := fun_mk (st := s_changed) l1 c1 k1
  have b1 := F1.binds (ps := ["balances", "sender", "amount"]) fun _ _ _ _ _ _ us hl => match us, hl with | [_, _, _], _ => rfl
  have F2 := fun_mk (st := s_stalled) l2 c2 k2
  have b2 := F2.binds (ps := ["balances", "demand"]) fun _ _ _ _ _ _ us hl => match us, hl with | [_, _], _ => rfl
  have F3 := fun_mk (st := s_less_demand) l3 c3 k3
  have b3 := F3.binds (ps := ["balances", "demand"]) fun _ _ _ _ _ _ us hl => match us, hl with | [_, _], _ => rfl
  have F4 := fun_mk (st := s_results) l4 c4 k4
  have b4 := F4.binds (ps := ["balances", "demand", "budget"]) fun _ _ _ _ _ _ us hl => match us, hl with | [_, _, _], _ => rfl
  have F5 := fun_mk (st := s_demands_of) l5 c5 k5
  have b5 := F5.binds (ps := ["count", "budget"]) fun _ _ _ _ _ _ us hl => match us, hl with | [_, _], _ => rfl
  have F6 := fun_mk (st := s_choices) l6 c6 k6
  have b6 := F6.binds (ps := ["balances", "budget"]) fun _ _ _ _ _ _ us hl => match us, hl with | [_, _], _ => rfl
  have F7 := fun_mk (st := s_numbers_of) l7 c7 k7
  have b7 := F7.binds (ps := ["count", "budget", "total"]) fun _ _ _ _ _ _ us hl => match us, hl with | [_, _, _], _ => rfl
  have F8 := fun_mk (st := s_ticks_to_stall) l8 c8 k8
  have b8 := F8.binds (ps := ["balances", "budget"]) fun _ _ _ _ _ _ us hl => match us, hl with | [_, _], _ => rfl
  have F9 := fun_mk (st := s_forcing_demand) l9 c9 k9
  have b9 := F9.binds (ps := ["balances", "budget"]) fun _ _ _ _ _ _ us hl => match us, hl with | [_, _], _ => rfl
  have F10 := fun_mk (st := s__law_hand) l10 c10 k10
  have b10 := F10.binds (ps := ["script", "k"]) fun _ _ _ _ _ _ us hl => match us, hl with | [_, _], _ => rfl
  have F11 := fun_mk (st := s__law_take) l11 c11 k11
  have b11 := F11.binds (ps := ["hand", "many"]) fun _ _ _ _ _ _ us hl => match us, hl with | [_, _], _ => rfl
  have F12 := fun_mk (st := s__law_of) l12 c12 k12
  have b12 := F12.binds (ps := ["hand", "some"]) fun _ _ _ _ _ _ us hl => match us, hl with | [_, _], _ => rfl
  have F13 := fun_mk (st := s__law_drawn) l13 c13 k13
  have b13 := F13.binds (ps := ["hand"]) fun _ _ _ _ _ _ us hl => match us, hl with | [_], _ => rfl
  have F14 := fun_mk (st := s__law_does_lead) l14 c14 k14
  have b14 := F14.binds (ps := ["balances", "demand", "budget", "number"]) fun _ _ _ _ _ _ us hl => match us, hl with | [_, _, _, _], _ => rfl
  have F15 := fun_mk (st := s__law_right) l15 c15 k15
  have b15 := F15.binds (ps := ["hand"]) fun _ _ _ _ _ _ us hl => match us, hl with | [_], _ => rfl
  have F16 := fun_mk (st := s_law) l16 c16 k16
  have b16 := F16.binds (ps := ["script"]) fun _ _ _ _ _ _ us hl => match us, hl with | [_], _ => rfl
  have Z : Zs mg := ⟨PySem.W.mg_none_of X G z_len, PySem.W.mg_none_of X G z_tuple, PySem.W.mg_none_of X G z_sorted, PySem.W.mg_none_of X G z_set, PySem.W.mg_none_of X G z_range, PySem.W.mg_none_of X G z_enumerate, PySem.W.mg_none_of X G z_zip, PySem.W.mg_none_of X G z_sum, PySem.W.mg_none_of X G z_all, PySem.W.mg_none_of X G z_any, PySem.W.mg_none_of X G z_min, PySem.W.mg_none_of X G z_max, PySem.W.mg_none_of X G z_int, PySem.W.mg_none_of X G z_bool, PySem.W.mg_none_of X G z_abs, PySem.W.mg_none_of X G z_list, PySem.W.mg_none_of X G z_dict, PySem.W.mg_none_of X G z_repr, PySem.W.mg_none_of X G z_isinstance⟩
  have FD : FunD K "sorted_balances" "sorted_balances" (defArgs s_sorted_balances) (defBody s_sorted_balances) (defScope s_sorted_balances) [.int 0] [] f0 (PySem.W.fnOf "sorted_balances" "sorted_balances" (defArgs s_sorted_balances) (defBody s_sorted_balances) (defScope s_sorted_balances) (.ref fT) kV0 dc0 pm0 an0 cd0 ct0) :=
    ⟨⟨oc0, od0, _, kV0, dc0, pm0, an0, cd0, ct0, sl0, rfl, l0, c0, .inr ⟨List.cons_ne_nil _ _, fT, _, [.int 0 tt], tn, rfl, lT, rfl, .cons ⟨tt, rfl⟩ .nil⟩, .inl rfl⟩, k0⟩
  obtain ⟨ds2, hd2, bd2⟩ := FD.binds1 (ps := ["count", "total", "least"]) 2 0 (List.cons_ne_nil _ _) rfl fun T kV doc pm an cdv ct us its h1 h2 => match us, its, h1, h2 with | [_, _], [_], _, _ => ⟨_, rfl, rfl⟩
  obtain ⟨ds3, hd3, bd3⟩ := FD.binds1 (ps := ["count", "total", "least"]) 3 1 (List.cons_ne_nil _ _) rfl fun T kV doc pm an cdv ct us its h1 h2 => match us, its, h1, h2 with | [_, _, _], [_], _, _ => ⟨_, rfl, rfl⟩
  have e3 : ds3 = [] := by cases hd3; rfl
  subst e3
  have FI := fun_mk (st := s_init) lJ cI kJ
  have bI := FI.binds (ps := ["self"]) fun _ _ _ _ _ _ us hl => match us, hl with | [_], _ => rfl
  refine ⟨PySem.W.fnOf "law" "law" (defArgs s_law) (defBody s_law) (defScope s_law) .none kV16 dc16 pm16 an16 cd16 ct16, fun s v => .of_eq rfl, fun base _ _ => ?_⟩
  have cc : Cal l.prog w K mg base 1 "changed" ["balances", "sender", "amount"] [] (spD preChanged) := ⟨_, _, [], ok_changed F1, PySem.W.mg_of X G a1, k1, b1, .nil⟩
  have cs : Cal l.prog w K mg base 1 "stalled" ["balances", "demand"] [] (spD preStalled) := ⟨_, _, [], ok_stalled Z F2, PySem.W.mg_of X G a2, k2, b2, .nil⟩
  have cl : Cal l.prog w K mg base 2 "less_demand" ["balances", "demand"] [] (spD preLess) := ⟨_, _, [], ok_less Z cs F3, PySem.W.mg_of X G a3, k3, b3, .nil⟩
  have cr : Cal l.prog w K mg base 3 "results" ["balances", "demand", "budget"] [] (spD preResults) := ⟨_, _, [], ok_results Z cl cc F4, PySem.W.mg_of X G a4, k4, b4, .nil⟩
  have cd : Cal l.prog w K mg base 4 "demands_of" ["count", "budget"] [] (spD (preDemands 4)) := ⟨_, _, [], demands_all Z F5 b5 (PySem.W.mg_of X G a5) k5 4, PySem.W.mg_of X G a5, k5, b5, .nil⟩
  have ch : Cal l.prog w K mg base 5 "choices" ["balances", "budget"] [] (spD preChoices) := ⟨_, _, [], ok_choices Z cd cr F6, PySem.W.mg_of X G a6, k6, b6, .nil⟩
  have cb : Cal l.prog w K mg base 4 "sorted_balances" ["count", "total", "least"] [.int 0] (spD (preSorted 4)) := ⟨_, _, ds2, sorted_all Z FD bd3 (PySem.W.mg_of X G a0) 4, PySem.W.mg_of X G a0, k0, bd2, hd2⟩
  have cn : Cal l.prog w K mg base 6 "numbers_of" ["count", "budget", "total"] [] (spD preNumbers) := ⟨_, _, [], ok_numbers Z cb ch F7, PySem.W.mg_of X G a7, k7, b7, .nil⟩
  have ct : Cal l.prog w K mg base 7 "ticks_to_stall" ["balances", "budget"] [] (spD preTicks) := ⟨_, _, [], ok_ticks Z cn F8, PySem.W.mg_of X G a8, k8, b8, .nil⟩
  have S : ASafe l.prog w K mg base := ⟨C, fI, _, ⟨⟨nm, q, N, bs, _, sn, sub, ab, col, dd, m0, m1, m2, m3, m5, xL, by show PySem.HandSPX.refsVE PySem.HandSPX.veTail = true; decide +kernel⟩, sa, eC, tC, kC⟩, iI, tI, ok_init (PySem.W.mg_of X G aB) sB rB vB FI, bI, PySem.W.mg_of X G aC, exm_self eC iC tC sC⟩
  have cf : CalF l.prog w K mg base S.C := ⟨_, _, ok_forcing Z S cn cd cr F9, PySem.W.mg_of X G a9, k9, b9⟩
  have cH : Cal l.prog w K mg base 1 "_law_hand" ["script", "k"] [] (spHand K) := ⟨_, _, [], ok_hand Z F10, PySem.W.mg_of X G a10, k10, b10, .nil⟩
  have cT : Cal l.prog w K mg base 1 "_law_take" ["hand", "many"] [] spTake := ⟨_, _, [], ok_take Z F11, PySem.W.mg_of X G a11, k11, b11, .nil⟩
  have cO : Cal l.prog w K mg base 2 "_law_of" ["hand", "some"] [] spOf := ⟨_, _, [], ok_of Z cT F12, PySem.W.mg_of X G a12, k12, b12, .nil⟩
  have cD : Cal l.prog w K mg base 3 "_law_drawn" ["hand"] [] spDrawn := ⟨_, _, [], ok_drawn Z cT cO F13, PySem.W.mg_of X G a13, k13, b13, .nil⟩
  have cL : Cal l.prog w K mg base 8 "_law_does_lead" ["balances", "demand", "budget", "number"] [] (spD preLead) := ⟨_, _, [], ok_lead Z ct F14, PySem.W.mg_of X G a14, k14, b14, .nil⟩
  have cR : Cal l.prog w K mg base 9 "_law_right" ["hand"] [] spRight := ⟨_, _, [], ok_right Z S cf cD ct cL F15, PySem.W.mg_of X G a15, k15, b15, .nil⟩
  exact ok_law Z cH cR F16
theorem walk {l : PySem.W.OpenLaw} {q : Program} {loose : List Str} {XP : (Str → Option Value) → Heap → Prop} {YP : World → Heap → Prop} {d : DefRec} {K : Params → PySem.W.Frag} (hn : l.most = some 63) (hdf : d.params.defaults = [])
    (hY : ∀ (w : World) (h : Heap), YP w h → (K w.params).In h)
    (F : ∀ (w : World) (mg : Str → Option Value) (fa : Addr) (h : Heap), (K w.params).In h → h.Ns mainGlobals mg → mg d.name = some (.ref fa) →
      ∃ fd : FuncData, (∀ (s : Shared) (u : Value), BindsTo s fd ⟨[u], []⟩ [("script", u)]) ∧ ∀ base : Heap, (K w.params).In base → base.Ns mainGlobals mg → FnOk l.prog w (K w.params) mg base CX0 10 fa fd ["script"] (spLaw (K w.params))) :
    PySem.W.WalkO q loose XP YP l.row.toRowW d [] (fun f vs => PySem.call f vs) :=
  L2.walk_of (n := 63) (k := 10) (x := "script") (CX := fun _ => CX0) (sp := fun w => spLaw (K w.params)) hn (by decide) hdf ⟨rfl, by decide, by decide⟩ hY F (fun _ H a ns hl _ hS => ⟨fun _ => False, H, a, ns, Off.nil H, rfl, hS, fun _ _ => rfl⟩) fun _ _ _ _ _ z => z

end K79
open PySem PySem.W PyProof.Rows
set_option maxRecDepth 100000 in
set_option maxHeartbeats 0 in
theorem PySem.Challenge.cw_creditfloor_k79_demands_that_force_are_w_holds : PySem.Challenge.rw_creditfloor_k79_demands_that_force_are_w.Holds := by
  w_on; o_law; k_head; (case hw => w_witness2)
  k_fill
  refine K79.walk (l := PySem.Challenge.rw_creditfloor_k79_demands_that_force_are_w) rfl rfl (fun w h Y => PySem.W.kIn_of Y) ?F
  case F =>
    intro w mg fa h KX G hmg
    refine' K79.all_mk KX G hmg ?a1 ?l1 ?c1 ?k1 ?a2 ?l2 ?c2 ?k2 ?a3 ?l3 ?c3 ?k3 ?a4 ?l4 ?c4 ?k4 ?a5 ?l5 ?c5 ?k5 ?a6 ?l6 ?c6 ?k6 ?a7 ?l7 ?c7 ?k7 ?a8 ?l8 ?c8 ?k8 ?a9 ?l9 ?c9 ?k9 ?a10 ?l10 ?c10 ?k10 ?a11 ?l11 ?c11 ?k11 ?a12 ?l12 ?c12 ?k12 ?a13 ?l13 ?c13 ?k13 ?a14 ?l14 ?c14 ?k14 ?a15 ?l15 ?c15 ?k15 ?a16 ?l16 ?c16 ?k16 ?a0 ?l0 ?c0 ?k0 ?lT ?aC ?xL ?sa ?iI ?tI ?lJ ?cI ?kJ ?kC ?eC ?tC ?iC ?sC ?aB ?sB ?rB ?vB ?z_len ?z_tuple ?z_sorted ?z_set ?z_range ?z_enumerate ?z_zip ?z_sum ?z_all ?z_any ?z_min ?z_max ?z_int ?z_bool ?z_abs ?z_list ?z_dict ?z_repr ?z_isinstance
    (case a1 => k_is)
    (case l1 => k_is)
    (case c1 => k_is)
    (case k1 => k_is)
    (case a2 => k_is)
    (case l2 => k_is)
    (case c2 => k_is)
    (case k2 => k_is)
    (case a3 => k_is)
    (case l3 => k_is)
    (case c3 => k_is)
    (case k3 => k_is)
    (case a4 => k_is)
    (case l4 => k_is)
    (case c4 => k_is)
    (case k4 => k_is)
    (case a5 => k_is)
    (case l5 => k_is)
    (case c5 => k_is)
    (case k5 => k_is)
    (case a6 => k_is)
    (case l6 => k_is)
    (case c6 => k_is)
    (case k6 => k_is)
    (case a7 => k_is)
    (case l7 => k_is)
    (case c7 => k_is)
    (case k7 => k_is)
    (case a8 => k_is)
    (case l8 => k_is)
    (case c8 => k_is)
    (case k8 => k_is)
    (case a9 => k_is)
    (case l9 => k_is)
    (case c9 => k_is)
    (case k9 => k_is)
    (case a10 => k_is)
    (case l10 => k_is)
    (case c10 => k_is)
    (case k10 => k_is)
    (case a11 => k_is)
    (case l11 => k_is)
    (case c11 => k_is)
    (case k11 => k_is)
    (case a12 => k_is)
    (case l12 => k_is)
    (case c12 => k_is)
    (case k12 => k_is)
    (case a13 => k_is)
    (case l13 => k_is)
    (case c13 => k_is)
    (case k13 => k_is)
    (case a14 => k_is)
    (case l14 => k_is)
    (case c14 => k_is)
    (case k14 => k_is)
    (case a15 => k_is)
    (case l15 => k_is)
    (case c15 => k_is)
    (case k15 => k_is)
    (case a16 => k_is)
    (case l16 => k_is)
    (case c16 => k_is)
    (case k16 => k_is)
    (case a0 => k_is)
    (case l0 => k_is)
    (case c0 => k_is)
    (case k0 => k_is)
    (case lT => k_is)
    (case aC => k_is)
    (case xL => k_is)
    (case sa => k_is)
    (case iI => k_is)
    (case tI => k_is)
    (case lJ => k_is)
    (case cI => k_is)
    (case kJ => k_is)
    (case kC => k_is)
    (case eC => k_is)
    (case tC => k_is)
    (case iC => k_is)
    (case sC => first | rfl | k_is)
    (case aB => k_is)
    (case sB => k_is)
    (case rB => k_is)
    (case vB => k_is)
    (case z_len => k_is)
    (case z_tuple => k_is)
    (case z_sorted => k_is)
    (case z_set => k_is)
    (case z_range => k_is)
    (case z_enumerate => k_is)
    (case z_zip => k_is)
    (case z_sum => k_is)
    (case z_all => k_is)
    (case z_any => k_is)
    (case z_min => k_is)
    (case z_max => k_is)
    (case z_int => k_is)
    (case z_bool => k_is)
    (case z_abs => k_is)
    (case z_list => k_is)
    (case z_dict => k_is)
    (case z_repr => k_is)
    (case z_isinstance => k_is)
#print axioms PySem.Challenge.cw_creditfloor_k79_demands_that_force_are_w_holds
