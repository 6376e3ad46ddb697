import PyProof.Rows.All
import Wide.All
import OpenK.AllK
import Wide.FinOn
import HandS.ForMost
import HandS.ForExc
import HandS.Evl
import HandS.Zip
import HandS.TupAny
import HandS.TupSets
import HandS.TupMul
import HandS.IsInst
import HandS.DictTup
import HandS.DictComp
import HandS.SortInts
import HandS.Style
import HandS.Wide
import HandS.WideMore
import HandS.Flow
import HandS.Conv
import HandS.Defaults
import KE.GoesEnum
import HandS.ExcInit
import KE.KDictPairs
import HandS.RaiseMore
import HandS.Deep
import HandS.Ends
import PySem.Challenge.RW_creditfloor_k78_whole_the_greatest_games
import PyProof.Rows.ReprShort
import PyProof.Rows.ReprItems
set_option Elab.async false
set_option linter.all false
set_option maxRecDepth 100000
set_option maxHeartbeats 4000000
/-! G0: what values stand for in a heap (data without addresses), expressions that come to data, whatever else is tracked beside it. -/
namespace G
open PySem PySem.Spec PyProof.Rows L2 Evl

abbrev D := PyData
mutual
/-- v stands for the data d in the heap B -/
inductive Rp (B : Hp) : V → D → Prop where
  | non : Rp B .non .none
  | bl (b : Bool) : Rp B (.bl b) (.bool b)
  | int (i : Int) : Rp B (.int i) (.int i)
  | str (x : Str) : Rp B (.str x) (.str x)
  | lst {a : Addr} {xs : List V} {ds : List D} : B a = some (.lst xs) → RpA B xs ds → Rp B (.ref a) (.list ds)
  | tup {a : Addr} {xs : List V} {ds : List D} : B a = some (.tup xs) → RpA B xs ds → Rp B (.ref a) (.tuple ds)
inductive RpA (B : Hp) : List V → List D → Prop where
  | nil : RpA B [] []
  | cons {v : V} {vs : List V} {d : D} {ds : List D} : Rp B v d → RpA B vs ds → RpA B (v :: vs) (d :: ds)
end
mutual
theorem Rp.mono {B B' : Hp} (e : Ex B B') : ∀ {v : V} {d : D}, Rp B v d → Rp B' v d
  | _, _, .non => .non
  | _, _, .bl b => .bl b
  | _, _, .int i => .int i
  | _, _, .str x => .str x
  | _, _, .lst h a => .lst (e _ _ h) (RpA.mono e a)
  | _, _, .tup h a => .tup (e _ _ h) (RpA.mono e a)
theorem RpA.mono {B B' : Hp} (e : Ex B B') : ∀ {vs : List V} {ds : List D}, RpA B vs ds → RpA B' vs ds
  | _, _, .nil => .nil
  | _, _, .cons h a => .cons (Rp.mono e h) (RpA.mono e a)
end
theorem RpA.length {B : Hp} : ∀ {vs : List V} {ds : List D}, RpA B vs ds → vs.length = ds.length
  | _, _, .nil => rfl
  | _, _, .cons _ a => congrArg (· + 1) a.length
theorem RpA.get {B : Hp} : ∀ {vs : List V} {ds : List D} {i : Nat} {d : D}, RpA B vs ds → ds[i]? = some d → ∃ v, vs[i]? = some v ∧ Rp B v d
  | _, _, _, _, .nil, e => by simp at e
  | _, _, 0, _, .cons r _, e => by
    simp at e
    subst e
    exact ⟨_, rfl, r⟩
  | _, _, i + 1, d, .cons _ t, e => by
    obtain ⟨u, h1, h2⟩ := RpA.get (i := i) (d := d) t (by simpa using e)
    exact ⟨u, by simpa using h1, h2⟩
theorem RpA.append {B : Hp} : ∀ {vs ws : List V} {ds es : List D}, RpA B vs ds → RpA B ws es → RpA B (vs ++ ws) (ds ++ es)
  | _, _, _, _, .nil, s => s
  | _, _, _, _, .cons r t, s => .cons r (RpA.append t s)
theorem RpA.take {B : Hp} : ∀ {vs : List V} {ds : List D} (n : Nat), RpA B vs ds → RpA B (vs.take n) (ds.take n)
  | _, _, 0, _ => .nil
  | _, _, _ + 1, .nil => .nil
  | _, _, n + 1, .cons r t => .cons r (RpA.take n t)
theorem RpA.drop {B : Hp} : ∀ {vs : List V} {ds : List D} (n : Nat), RpA B vs ds → RpA B (vs.drop n) (ds.drop n)
  | _, _, 0, r => r
  | _, _, _ + 1, .nil => .nil
  | _, _, n + 1, .cons _ t => RpA.drop n t
theorem RpA.one {B : Hp} {v : V} {d : D} (h : Rp B v d) : RpA B [v] [d] := .cons h .nil
theorem Rp.int_inv {B : Hp} {v : V} {i : Int} (h : Rp B v (.int i)) : v = .int i := by cases h; rfl
theorem Rp.bl_inv {B : Hp} {v : V} {b : Bool} (h : Rp B v (.bool b)) : v = .bl b := by cases h; rfl
theorem Rp.non_inv {B : Hp} {v : V} (h : Rp B v .none) : v = .non := by cases h; rfl
theorem Rp.tup_inv {B : Hp} {v : V} {ds : List D} (h : Rp B v (.tuple ds)) : ∃ a xs, v = .ref a ∧ B a = some (.tup xs) ∧ RpA B xs ds := by
  cases h with
  | tup h a => exact ⟨_, _, rfl, h, a⟩
theorem Rp.lst_inv {B : Hp} {v : V} {ds : List D} (h : Rp B v (.list ds)) : ∃ a xs, v = .ref a ∧ B a = some (.lst xs) ∧ RpA B xs ds := by
  cases h with
  | lst h a => exact ⟨_, _, rfl, h, a⟩
/-- ints -/
theorem RpA.ints {B : Hp} : ∀ {vs : List V} {ns : List Int}, RpA B vs (ns.map PyData.int) → vs = ns.map V.int
  | _, [], h => by cases h; rfl
  | _, n :: ns, h => by
    cases h with
    | cons h a => rw [h.int_inv, a.ints]; rfl
theorem RpA.of_ints {B : Hp} : ∀ (ns : List Int), RpA B (ns.map V.int) (ns.map PyData.int)
  | [] => .nil
  | n :: ns => .cons (.int n) (RpA.of_ints ns)
theorem RpA.bools {B : Hp} : ∀ {vs : List V} {ns : List Bool}, RpA B vs (ns.map PyData.bool) → vs = ns.map V.bl
  | _, [], h => by cases h; rfl
  | _, n :: ns, h => by
    cases h with
    | cons h a => rw [h.bl_inv, a.bools]; rfl
/-- a tuple of ints, as data -/
abbrev tI (ns : List Int) : D := .tuple (ns.map PyData.int)
abbrev lI (ns : List Int) : D := .list (ns.map PyData.int)
theorem Rp.tI_inv {B : Hp} {v : V} {ns : List Int} (h : Rp B v (tI ns)) : ∃ a, v = .ref a ∧ B a = some (.tup (ns.map V.int)) := by
  obtain ⟨a, xs, e, hb, r⟩ := h.tup_inv
  rw [r.ints] at hb
  exact ⟨a, e, hb⟩
theorem Rp.lI_inv {B : Hp} {v : V} {ns : List Int} (h : Rp B v (lI ns)) : ∃ a, v = .ref a ∧ B a = some (.lst (ns.map V.int)) := by
  obtain ⟨a, xs, e, hb, r⟩ := h.lst_inv
  rw [r.ints] at hb
  exact ⟨a, e, hb⟩
theorem Rp.tI_mk {B : Hp} {a : Addr} {ns : List Int} (h : B a = some (.tup (ns.map V.int))) : Rp B (.ref a) (tI ns) := .tup h (RpA.of_ints ns)
theorem Rp.lI_mk {B : Hp} {a : Addr} {ns : List Int} (h : B a = some (.lst (ns.map V.int))) : Rp B (.ref a) (lI ns) := .lst h (RpA.of_ints ns)
mutual
theorem Rp.dp {K : PySem.W.Frag} {B : Hp} : ∀ {v : V} {d : D}, Rp B v d → Dp K B v d
  | _, _, .non => .non
  | _, _, .bl b => .bl b
  | _, _, .int i => .int i
  | _, _, .str x => .str x
  | _, _, .lst h a => .lst (sq_of h) (RpA.dp a)
  | _, _, .tup h a => .tup (st_of h) (RpA.dp a)
theorem RpA.dp {K : PySem.W.Frag} {B : Hp} : ∀ {vs : List V} {ds : List D}, RpA B vs ds → DpAll K B vs ds
  | _, _, .nil => .nil
  | _, _, .cons h a => .cons (Rp.dp h) (RpA.dp a)
end

/-! ### heaps without some addresses -/
open Classical in
/-- H without F -/
noncomputable def cut (F : Addr → Prop) (H : Hp) : Hp := fun b => if F b then none else H b
theorem cut_some {F : Addr → Prop} {H : Hp} {b : Addr} {o : HO} : cut F H b = some o ↔ ¬ F b ∧ H b = some o := by
  unfold cut
  by_cases h : F b
  · rw [if_pos h]
    exact ⟨fun z => (by cases z), fun z => absurd h z.1⟩
  · rw [if_neg h]
    exact ⟨fun z => ⟨h, z⟩, fun z => z.2⟩
theorem cut_at {F : Addr → Prop} {H : Hp} {b : Addr} {o : HO} (h : ¬ F b) (e : H b = some o) : cut F H b = some o := cut_some.mpr ⟨h, e⟩
theorem cut_ex {F : Addr → Prop} {H : Hp} : Ex (cut F H) H := fun b o h => (cut_some.mp h).2
theorem cut_mono {F : Addr → Prop} {H H' : Hp} (e : Ex H H') : Ex (cut F H) (cut F H') := fun b o h => cut_at (cut_some.mp h).1 (e b o (cut_some.mp h).2)
def isTup : HO → Bool
  | .tup _ => true
  | _ => false
/-- B lies in H, off F; F is tracked in H, no tuple among it -/
structure Off (F : Addr → Prop) (B H : Hp) : Prop where
  ex : ∀ b o, B b = some o → H b = some o
  off : ∀ b o, B b = some o → ¬ F b
  dom : ∀ b, F b → ∃ u, H b = some u ∧ isTup u = false
theorem Off.cut {F : Addr → Prop} {B H : Hp} (o : Off F B H) : Ex B (cut F H) := fun b u h => cut_at (o.off b u h) (o.ex b u h)
theorem Off.go {F : Addr → Prop} {B H H' : Hp} (o : Off F B H) (e : Ex H H') : Off F B H' :=
  ⟨fun b u h => e b u (o.ex b u h), o.off, fun b h => by
    obtain ⟨u, q, t⟩ := o.dom b h
    exact ⟨u, e b u q, t⟩⟩
theorem Off.self {F : Addr → Prop} {B H : Hp} (o : Off F B H) : Off F (G.cut F H) H := ⟨fun b u h => (cut_some.mp h).2, fun b u h => (cut_some.mp h).1, o.dom⟩
theorem Off.next {F : Addr → Prop} {B H H' : Hp} (o : Off F B H) (e : Ex H H') : Off F (G.cut F H') H' := (o.go e).self
theorem Off.free {F : Addr → Prop} {B H : Hp} (o : Off F B H) {p : Addr} (h : H p = none) : ¬ F p := fun z => by
  obtain ⟨u, q, t⟩ := o.dom p z
  rw [h] at q
  cases q
theorem Off.tupOff {F : Addr → Prop} {B H : Hp} (o : Off F B H) {p : Addr} {xs : List V} (h : H p = some (.tup xs)) : ¬ F p := fun z => by
  obtain ⟨u, q, t⟩ := o.dom p z
  rw [h] at q
  cases q
  cases t
theorem Off.nil (H : Hp) : Off (fun _ => False) H H := ⟨fun _ _ h => h, fun _ _ _ z => z, fun _ z => False.elim z⟩
theorem cut_nil (H : Hp) : cut (fun _ => False) H = H := by
  funext b
  unfold cut
  rw [if_neg id]
/-- one more address that B does not know -/
theorem Off.add {F : Addr → Prop} {B H : Hp} {p : Addr} {u : HO} (o : Off F B H) (hB : B p = none) (h : H p = some u) (hu : isTup u = false := by rfl) : Off (fun b => F b ∨ b = p) B H :=
  ⟨o.ex, fun b w e z => Or.elim z (o.off b w e) fun z => (by rw [z, hB] at e; cases e), fun b z => Or.elim z (o.dom b) fun z => ⟨u, by rw [z, h], hu⟩⟩
theorem Off.new {F : Addr → Prop} {B H : Hp} {p : Addr} {u : HO} (o : Off F B H) (h : H p = none) (hu : isTup u = false := by rfl) : Off (fun b => F b ∨ b = p) B (upd H p u) := by
  have hB : B p = none := by
    cases q : B p with
    | none => rfl
    | some w => rw [o.ex p w q] at h; cases h
  exact (o.go (Ex.new h)).add hB upd_same hu
theorem cut_upd {F : Addr → Prop} {H : Hp} {p : Addr} {u : HO} (h : F p) : cut F (upd H p u) = cut F H := by
  funext b
  unfold cut
  by_cases hb : F b
  · rw [if_pos hb, if_pos hb]
  · rw [if_neg hb, if_neg hb, upd_ne (fun e => hb (by rw [e]; exact h))]
theorem Off.upd {F : Addr → Prop} {B H : Hp} {p : Addr} {u : HO} (o : Off F B H) (h : F p) (hu : isTup u = false := by rfl) : Off F B (upd H p u) :=
  ⟨fun b w e => by rw [upd_ne (fun z => o.off b w e (by rw [z]; exact h))]; exact o.ex b w e, o.off, fun b hb => by
    by_cases z : b = p
    · exact ⟨u, by rw [z, upd_same], hu⟩
    · rw [upd_ne z]; exact o.dom b hb⟩
theorem cut_more {F : Addr → Prop} {H : Hp} {p : Addr} : Ex (cut (fun b => F b ∨ b = p) H) (cut F H) := fun b o h => cut_at (fun z => (cut_some.mp h).1 (.inl z)) (cut_some.mp h).2
theorem cut_less {F : Addr → Prop} {H H' : Hp} {p : Addr} (hp : H p = none) (e : Ex H H') : Ex (cut F H) (cut (fun b => F b ∨ b = p) H') := fun b o h => by
  obtain ⟨h1, h2⟩ := cut_some.mp h
  exact cut_at (fun z => Or.elim z h1 fun z => by rw [z, hp] at h2; cases h2) (e b o h2)

/-! ### expressions that come to something -/
abbrev RelH := Hp → V → Prop
def Mono (R : RelH) : Prop := ∀ {B B' : Hp} {v : V}, Ex B B' → R B v → R B' v
abbrev rp (d : D) : RelH := fun B v => Rp B v d
theorem mono_rp (d : D) : Mono (rp d) := fun e h => h.mono e
/-- te comes to a value of which R is true, in every heap over B -/
def EvR (te : TE) (σ : L2.St) (B : Hp) (R : RelH) : Prop := ∀ F H, Off F B H → ∀ Q : VK, (∀ v H', Ex H H' → R (cut F H') v → Q v H') → te σ H Q
abbrev EvD (te : TE) (σ : L2.St) (B : Hp) (d : D) : Prop := EvR te σ B (rp d)
def EvB (tt : TT) (σ : L2.St) (B : Hp) (b : Bool) : Prop := ∀ F H, Off F B H → ∀ Q : Bool → Hp → Prop, (∀ H', Ex H H' → Q b H') → tt σ H Q
abbrev RelA := Hp → List V → Prop
def EvAs (ta : TA) (σ : L2.St) (B : Hp) (R : RelA) : Prop := ∀ F H, Off F B H → ∀ Q : List V → Hp → Prop, (∀ vs H', Ex H H' → R (cut F H') vs → Q vs H') → ta σ H Q
def MonoA (R : RelA) : Prop := ∀ {B B' : Hp} {vs : List V}, Ex B B' → R B vs → R B' vs
abbrev EvDs (ta : TA) (σ : L2.St) (B : Hp) (ds : List D) : Prop := EvAs ta σ B (fun B vs => RpA B vs ds)
section
variable {σ : L2.St} {B B' : Hp} {ta : TA} {te tb tx : TE} {t u : TT} {v : V} {d d1 d2 : D} {R R1 R2 : RelH} {RA : RelA} {ds : List D}
theorem EvR.mono (e : Ex B B') (h : EvR te σ B R) : EvR te σ B' R := fun F H o Q q => h F H ⟨fun b w z => o.ex b w (e b w z), fun b w z => o.off b w (e b w z), o.dom⟩ Q q
theorem EvB.mono {b : Bool} (e : Ex B B') (h : EvB t σ B b) : EvB t σ B' b := fun F H o Q q => h F H ⟨fun b w z => o.ex b w (e b w z), fun b w z => o.off b w (e b w z), o.dom⟩ Q q
theorem EvAs.mono (e : Ex B B') (h : EvAs ta σ B RA) : EvAs ta σ B' RA := fun F H o Q q => h F H ⟨fun b w z => o.ex b w (e b w z), fun b w z => o.off b w (e b w z), o.dom⟩ Q q
theorem EvR.imp (h : EvR te σ B R1) (hi : ∀ B' v, Ex B B' → R1 B' v → R2 B' v) : EvR te σ B R2 := fun F H o Q q => h F H o Q fun v H' e r => q v H' e (hi _ _ (o.go e).cut r)
theorem d_var {i : Nat} (hm : Mono R) (h : σ[i]? = some (some v)) (r : R B v) : EvR (tVar i) σ B R := fun F H o _ q => ⟨v, h, q v H (Ex.refl H) (hm o.cut r)⟩
theorem d_v {i : Nat} (r : Rp B v d) (h : σ[i]? = some (some v) := by rfl) : EvD (tVar i) σ B d := d_var (mono_rp d) h r
theorem d_int {i : Int} : EvD (tC (.int i)) σ B (.int i) := fun F H _ _ q => q _ H (Ex.refl H) (.int i)
theorem d_bl {i : Bool} : EvD (tC (.bl i)) σ B (.bool i) := fun F H _ _ q => q _ H (Ex.refl H) (.bl i)
theorem d_non : EvD (tC .non) σ B .none := fun F H _ _ q => q _ H (Ex.refl H) .non
theorem d_str {x : Str} : EvD (tC (.str x)) σ B (.str x) := fun F H _ _ q => q _ H (Ex.refl H) (.str x)
theorem d_nil : EvDs tNil σ B [] := fun F H _ _ q => q [] H (Ex.refl H) .nil
theorem d_cons (h : EvD te σ B d) (hs : EvDs ta σ B ds) : EvDs (tCons te ta) σ B (d :: ds) := fun F H o Q q =>
  h F H o _ fun v H1 e1 r1 => hs F H1 (o.go e1) _ fun vs H2 e2 r2 => q _ H2 (e1.trans e2) (.cons (r1.mono (cut_mono e2)) r2)
theorem a_nil : EvAs tNil σ B (fun _ vs => vs = []) := fun F H _ _ q => q [] H (Ex.refl H) rfl
theorem a_cons (hm : Mono R) (h : EvR te σ B R) (hs : EvAs ta σ B RA) : EvAs (tCons te ta) σ B (fun B vs => ∃ v ws, vs = v :: ws ∧ R B v ∧ RA B ws) := fun F H o Q q =>
  h F H o _ fun v H1 e1 r1 => hs F H1 (o.go e1) _ fun vs H2 e2 r2 => q _ H2 (e1.trans e2) ⟨v, vs, rfl, hm (cut_mono e2) r1, r2⟩
theorem new_at {F : Addr → Prop} {H : Hp} {p : Addr} {u : HO} (o : Off F B H) (hp : H p = none) : cut F (upd H p u) p = some u := cut_at (o.free hp) upd_same
theorem d_tup (h : EvDs ta σ B ds) (hz : ds.length ≤ 100000) : EvD (tTup ta) σ B (.tuple ds) := fun F H o Q q =>
  h F H o _ fun vs H1 e1 r1 => ⟨sz_of (by rw [r1.length]; exact hz), fun p hp => q _ _ (e1.trans (Ex.new hp)) (.tup (new_at (o.go e1) hp) (r1.mono (cut_mono (Ex.new hp))))⟩
theorem d_lst (h : EvDs ta σ B ds) (hz : ds.length ≤ 100000) : EvD (tLst ta) σ B (.list ds) := fun F H o Q q =>
  h F H o _ fun vs H1 e1 r1 => ⟨sz_of (by rw [r1.length]; exact hz), fun p hp => q _ _ (e1.trans (Ex.new hp)) (.lst (new_at (o.go e1) hp) (r1.mono (cut_mono (Ex.new hp))))⟩

/-! two-place operations, one-place ones, calls: by data -/
def OpD (r : L2.R2) (R1 R2 R : RelH) : Prop := ∀ {B : Hp} {x y : V}, R1 B x → R2 B y → ∀ F H, Off F B H → ∀ Q : VK, (∀ v H', Ex H H' → R (cut F H') v → Q v H') → r x y H Q
def UnD (r : V → Hp → VK → Prop) (R1 R : RelH) : Prop := ∀ {B : Hp} {x : V}, R1 B x → ∀ F H, Off F B H → ∀ Q : VK, (∀ v H', Ex H H' → R (cut F H') v → Q v H') → r x H Q
def CallD (r : List V → Hp → VK → Prop) (RA : RelA) (R : RelH) : Prop := ∀ {B : Hp} {xs : List V}, RA B xs → ∀ F H, Off F B H → ∀ Q : VK, (∀ v H', Ex H H' → R (cut F H') v → Q v H') → r xs H Q
theorem d_op {r : L2.R2} (hm : Mono R1) (ha : EvR te σ B R1) (hb : EvR tb σ B R2) (hr : OpD r R1 R2 R) : EvR (tOp r te tb) σ B R := fun F H o Q q =>
  ha F H o _ fun x H1 e1 r1 => hb F H1 (o.go e1) _ fun y H2 e2 r2 => hr (hm (cut_mono e2) r1) r2 F H2 (o.next (e1.trans e2)) Q fun v H3 e3 r3 => q v H3 ((e1.trans e2).trans e3) r3
theorem d_un {r : V → Hp → VK → Prop} (ha : EvR te σ B R1) (hr : UnD r R1 R) : EvR (tUn r te) σ B R := fun F H o Q q =>
  ha F H o _ fun x H1 e1 r1 => hr r1 F H1 (o.next e1) Q fun v H3 e3 r3 => q v H3 (e1.trans e3) r3
theorem d_cb {r : List V → Hp → VK → Prop} (ha : EvAs ta σ B RA) (hr : CallD r RA R) : EvR (tCB r ta) σ B R := fun F H o Q q =>
  ha F H o _ fun xs H1 e1 r1 => hr r1 F H1 (o.next e1) Q fun v H3 e3 r3 => q v H3 (e1.trans e3) r3
/-- a def's promise -/
def SpD (sp : Sp) (RA : RelA) (R : RelH) : Prop := ∀ {B : Hp} {xs : List V}, RA B xs → ∀ F H, Off F B H → ∀ Q : VK, (∀ v H', Ex H H' → R (cut F H') v → Q v H') → ∀ E, sp xs H Q E
theorem d_call {sp : Sp} {E : XK} (ha : EvAs ta σ B RA) (hr : SpD sp RA R) : EvR (tCall sp [] E ta) σ B R := fun F H o Q q =>
  ha F H o _ fun xs H1 e1 r1 => by
    rw [List.append_nil]
    exact hr r1 F H1 (o.next e1) Q (fun v H3 e3 r3 => q v H3 (e1.trans e3) r3) E
/-- the promise itself, by data: the shape that I give to the pure defs -/
def spD (pre : Hp → List V → (RelH) → Prop) : Sp := fun vs H Q _ => ∃ (F : Addr → Prop) (B : Hp) (R : RelH), Off F B H ∧ pre B vs R ∧ ∀ v H', Ex H H' → R (cut F H') v → Q v H'
theorem spD_ok {pre : Hp → List V → RelH → Prop} (h : ∀ B vs, RA B vs → pre B vs R) : SpD (spD pre) RA R := fun ra F H o Q q E => ⟨F, _, R, o, h _ _ ra, q⟩

/-! tests -/
theorem b_cmp (h : EvD te σ B (.bool b)) : EvB (tTest te) σ B b := fun F H o Q q => h F H o _ fun v H1 e1 r1 => ⟨b, r1.bl_inv, q H1 e1⟩
theorem b_val (h : EvD te σ B (.bool b)) : EvB (tB te) σ B b := fun F H o Q q => h F H o _ fun v H1 e1 r1 => ⟨b, r1.bl_inv, q H1 e1⟩
theorem b_not {b : Bool} (h : EvB t σ B b) : EvB (tNot t) σ B (!b) := fun F H o Q q => h F H o _ q
theorem b_and {a b : Bool} (h : EvB t σ B a) (h2 : a = true → EvB u σ B b) : EvB (tAnd t u) σ B (a && b) := fun F H o Q q => h F H o _ fun H1 e1 => by
  cases a with
  | false => exact q H1 e1
  | true => exact h2 rfl F H1 (o.go e1) _ fun H2 e2 => q H2 (e1.trans e2)
theorem b_or {a b : Bool} (h : EvB t σ B a) (h2 : a = false → EvB u σ B b) : EvB (tOr t u) σ B (a || b) := fun F H o Q q => h F H o _ fun H1 e1 => by
  cases a with
  | true => exact q H1 e1
  | false => exact h2 rfl F H1 (o.go e1) _ fun H2 e2 => q H2 (e1.trans e2)
theorem d_andV {a b : Bool} (h : EvD te σ B (.bool a)) (h2 : a = true → EvD tb σ B (.bool b)) : EvD (tAndV te tb) σ B (.bool (a && b)) := fun F H o Q q => h F H o _ fun v H1 e1 r1 => ⟨a, r1.bl_inv, by
  cases a with
  | false => exact q _ H1 e1 (.bl _)
  | true => exact h2 rfl F H1 (o.go e1) _ fun v H2 e2 r2 => q v H2 (e1.trans e2) r2⟩
theorem d_orV {a b : Bool} (h : EvD te σ B (.bool a)) (h2 : a = false → EvD tb σ B (.bool b)) : EvD (tOrV te tb) σ B (.bool (a || b)) := fun F H o Q q => h F H o _ fun v H1 e1 r1 => ⟨a, r1.bl_inv, by
  cases a with
  | true => exact q _ H1 e1 (.bl _)
  | false => exact h2 rfl F H1 (o.go e1) _ fun v H2 e2 r2 => q v H2 (e1.trans e2) r2⟩
theorem d_notV {a : Bool} (h : EvD te σ B (.bool a)) : EvD (tNotV te) σ B (.bool (!a)) := fun F H o Q q => h F H o _ fun v H1 e1 r1 => ⟨a, r1.bl_inv, q _ H1 e1 (.bl _)⟩
theorem d_if {b : Bool} (h : EvB t σ B b) (h1 : b = true → EvR te σ B R) (h2 : b = false → EvR tb σ B R) : EvR (tIf t te tb) σ B R := fun F H o Q q => h F H o _ fun H1 e1 => by
  cases b with
  | true => exact h1 rfl F H1 (o.go e1) _ fun v H2 e2 r2 => q v H2 (e1.trans e2) r2
  | false => exact h2 rfl F H1 (o.go e1) _ fun v H2 e2 r2 => q v H2 (e1.trans e2) r2
theorem d_isN {b : Bool} (h : EvD te σ B d) (hb : b = (match d with | .none => true | _ => false)) : EvD (tIsN te) σ B (.bool b) := fun F H o Q q => h F H o _ fun v H1 e1 r1 => by
  refine q _ H1 e1 ?_
  subst hb
  cases r1 <;> exact .bl _
theorem d_notN {b : Bool} (h : EvD te σ B d) (hb : b = (match d with | .none => false | _ => true)) : EvD (tNotN te) σ B (.bool b) := fun F H o Q q => h F H o _ fun v H1 e1 r1 => by
  refine q _ H1 e1 ?_
  subst hb
  cases r1 <;> exact .bl _
end

/-! ### the operators -/
theorem o_I0 {g : Int → Int → V} {i j : Int} {d : D} (h : ∀ B, Rp B (g i j) d) : OpD (rI0 g) (rp (.int i)) (rp (.int j)) (rp d) := fun r1 r2 F H o Q q =>
  ⟨i, j, r1.int_inv, r2.int_inv, q _ H (Ex.refl H) (h _)⟩
theorem o_I {C : Int → Int → Prop} {g : Int → Int → V} {i j : Int} {d : D} (hc : C i j) (h : ∀ B, Rp B (g i j) d) : OpD (rI C g) (rp (.int i)) (rp (.int j)) (rp d) := fun r1 r2 F H o Q q =>
  ⟨i, j, r1.int_inv, r2.int_inv, hc, q _ H (Ex.refl H) (h _)⟩
theorem o_add {i j : Int} : OpD (rI0 fun i j => .int (i + j)) (rp (.int i)) (rp (.int j)) (rp (.int (i + j))) := o_I0 fun _ => .int _
theorem o_sub {i j : Int} : OpD (rI0 fun i j => .int (i - j)) (rp (.int i)) (rp (.int j)) (rp (.int (i - j))) := o_I0 fun _ => .int _
theorem o_lt {i j : Int} : OpD (rI0 fun i j => .bl (decide (i < j))) (rp (.int i)) (rp (.int j)) (rp (.bool (decide (i < j)))) := o_I0 fun _ => .bl _
theorem o_le {i j : Int} : OpD (rI0 fun i j => .bl (decide (i ≤ j))) (rp (.int i)) (rp (.int j)) (rp (.bool (decide (i ≤ j)))) := o_I0 fun _ => .bl _
theorem o_gt {i j : Int} : OpD (rI0 fun i j => .bl (decide (j < i))) (rp (.int i)) (rp (.int j)) (rp (.bool (decide (j < i)))) := o_I0 fun _ => .bl _
theorem o_ge {i j : Int} : OpD (rI0 fun i j => .bl (decide (j ≤ i))) (rp (.int i)) (rp (.int j)) (rp (.bool (decide (j ≤ i)))) := o_I0 fun _ => .bl _
theorem o_eqI {i j : Int} : OpD rEq (rp (.int i)) (rp (.int j)) (rp (.bool (decide (i = j)))) := fun r1 r2 F H o Q q => by
  rw [r1.int_inv, r2.int_inv]
  refine ⟨rfl, ?_⟩
  have e : decide (V.int i = V.int j) = decide (i = j) := by
    by_cases h : i = j
    · rw [decide_eq_true h, decide_eq_true (congrArg V.int h)]
    · rw [decide_eq_false h, decide_eq_false fun z => h (V.int.inj z)]
  rw [e]
  exact q _ H (Ex.refl H) (.bl _)
theorem o_neI {i j : Int} : OpD rNe (rp (.int i)) (rp (.int j)) (rp (.bool (!decide (i = j)))) := fun r1 r2 F H o Q q => by
  rw [r1.int_inv, r2.int_inv]
  refine ⟨rfl, ?_⟩
  have e : decide (V.int i = V.int j) = decide (i = j) := by
    by_cases h : i = j
    · rw [decide_eq_true h, decide_eq_true (congrArg V.int h)]
    · rw [decide_eq_false h, decide_eq_false fun z => h (V.int.inj z)]
  rw [e]
  exact q _ H (Ex.refl H) (.bl _)
theorem o_eqD {K : PySem.W.Frag} {d e : D} (hd : SeqAt.shaped d = true) (he : SeqAt.shaped e = true) : OpD (rEqD K) (rp d) (rp e) (rp (.bool (PyData.eqv d e))) := fun r1 r2 F H o Q q =>
  ⟨d, e, (r1.mono o.ex).dp, (r2.mono o.ex).dp, hd, he, q _ H (Ex.refl H) (.bl _)⟩
theorem o_neD {K : PySem.W.Frag} {d e : D} (hd : SeqAt.shaped d = true) (he : SeqAt.shaped e = true) : OpD (rNeD K) (rp d) (rp e) (rp (.bool (!PyData.eqv d e))) := fun r1 r2 F H o Q q =>
  ⟨d, e, (r1.mono o.ex).dp, (r2.mono o.ex).dp, hd, he, q _ H (Ex.refl H) (.bl _)⟩
theorem atI_rp {B : Hp} {vs : List V} {ds : List D} {i : Int} {d : D} (r : RpA B vs ds) (h : atI ds i = some d) : ∃ v, atI vs i = some v ∧ Rp B v d := by
  unfold atI at h ⊢
  rw [r.length]
  cases e : ixN ds.length i with
  | none => rw [e] at h; cases h
  | some j =>
    rw [e] at h
    exact r.get (i := j) h
theorem o_ixL {K : PySem.W.Frag} {ds : List D} {i : Int} {d : D} (h : atI ds i = some d) : OpD (rIxL K) (rp (.list ds)) (rp (.int i)) (rp d) := fun r1 r2 F H o Q q => by
  obtain ⟨a, xs, e, hb, r⟩ := r1.lst_inv
  obtain ⟨v, hv, rv⟩ := atI_rp r h
  exact ⟨a, xs, i, v, e, r2.int_inv, sq_of (o.ex _ _ hb), hv, q _ H (Ex.refl H) (rv.mono o.cut)⟩
theorem o_ixT {K : PySem.W.Frag} {ds : List D} {i : Int} {d : D} (h : atI ds i = some d) : OpD (rIxT K) (rp (.tuple ds)) (rp (.int i)) (rp d) := fun r1 r2 F H o Q q => by
  obtain ⟨a, xs, e, hb, r⟩ := r1.tup_inv
  obtain ⟨v, hv, rv⟩ := atI_rp r h
  exact ⟨a, xs, i, v, e, r2.int_inv, st_of (o.ex _ _ hb), hv, q _ H (Ex.refl H) (rv.mono o.cut)⟩
end G
/-! G1: what loops and comprehensions walk, as data; comprehensions; for. -/
namespace G
open PySem PySem.Spec PyProof.Rows L2 Evl

/-- the walk J yields the data ds, over B -/
structure ItOk (J : It) (B : Hp) (ds : List D) : Prop where
  go : ∀ F H i d, Off F B H → ds[i]? = some d → J.go i H ∧ ∀ x H', J.yld i H x H' → Ex H H' ∧ Rp (cut F H') x d
  stop : ∀ F H i, Off F B H → ds.length ≤ i → J.stop i H
def EvI (wi : TI) (σ : L2.St) (B : Hp) (ds : List D) : Prop := ∀ F H, Off F B H → ∀ R : It → Hp → Prop, (∀ J H', Ex H H' → ItOk J (cut F H') ds → R J H') → wi σ H R
section
variable {K : PySem.W.Frag} {σ : L2.St} {B : Hp} {ta : TA} {te tl : TE} {ds es : List D}
theorem i_list (h : EvD tl σ B (.list ds)) : EvI (iList K tl) σ B ds := fun F H o R q => h F H o _ fun v H1 e1 r1 => by
  obtain ⟨a, xs, rfl, hb, ra⟩ := r1.lst_inv
  refine ⟨a, rfl, ⟨xs, sq_of (cut_ex _ _ hb)⟩, q _ H1 e1 ⟨fun F' H' i d o' hd => ?_, fun F' H' i o' hi => ⟨xs, sq_of (o'.ex _ _ hb), by rw [ra.length]; exact hi⟩⟩⟩
  obtain ⟨x, hx, rx⟩ := ra.get hd
  refine ⟨⟨xs, x, sq_of (o'.ex _ _ hb), hx⟩, fun x' H'' y => ?_⟩
  obtain ⟨rfl, y⟩ := y
  have := y xs (sq_of (o'.ex _ _ hb))
  rw [hx] at this
  cases this
  exact ⟨Ex.refl _, rx.mono o'.cut⟩
theorem i_tup (h : EvD tl σ B (.tuple ds)) : EvI (iTup K tl) σ B ds := fun F H o R q => h F H o _ fun v H1 e1 r1 => by
  obtain ⟨a, xs, rfl, hb, ra⟩ := r1.tup_inv
  refine ⟨a, rfl, ⟨xs, st_of (cut_ex _ _ hb)⟩, q _ H1 e1 ⟨fun F' H' i d o' hd => ?_, fun F' H' i o' hi => ⟨xs, st_of (o'.ex _ _ hb), by rw [ra.length]; exact hi⟩⟩⟩
  obtain ⟨x, hx, rx⟩ := ra.get hd
  refine ⟨⟨xs, x, st_of (o'.ex _ _ hb), hx⟩, fun x' H'' y => ?_⟩
  obtain ⟨rfl, y⟩ := y
  have := y xs (st_of (o'.ex _ _ hb))
  rw [hx] at this
  cases this
  exact ⟨Ex.refl _, rx.mono o'.cut⟩
theorem it_rng (lo : Int) (n : Nat) : ItOk (Itr lo n) B ((List.range n).map fun i => PyData.int (lo + (i : Nat))) := by
  refine ⟨fun F H i d o hd => ?_, fun F H i o hi => (show n ≤ i by simpa using hi)⟩
  rw [List.getElem?_map] at hd
  by_cases hi : i < n
  · rw [List.getElem?_range hi] at hd
    cases hd
    refine ⟨hi, fun x H' y => ?_⟩
    obtain ⟨rfl, rfl⟩ := y
    exact ⟨Ex.refl _, .int _⟩
  · rw [List.getElem?_eq_none (by simpa using Nat.le_of_not_lt hi)] at hd
    cases hd
theorem i_rng1 {n : Int} (h : EvDs ta σ B [.int n]) (h1 : -(2 ^ 62) ≤ n) (h2 : n < 2 ^ 62) : EvI (iRng1 ta) σ B ((List.range n.toNat).map fun i => PyData.int ((i : Nat) : Int)) := fun F H o R q => h F H o _ fun vs H1 e1 r1 => by
  cases r1 with
  | cons r r' =>
    cases r'
    refine ⟨n, by rw [r.int_inv], h1, h2, q _ H1 e1 ?_⟩
    have := it_rng (B := cut F H1) 0 n.toNat
    simpa only [Int.zero_add] using this
theorem i_rng2 {m n : Int} (h : EvDs ta σ B [.int m, .int n]) (h1 : -(2 ^ 62) ≤ m ∧ m < 2 ^ 62 ∧ -(2 ^ 62) ≤ n ∧ n < 2 ^ 62) : EvI (iRng2 ta) σ B ((List.range (n - m).toNat).map fun i => PyData.int (m + ((i : Nat) : Int))) := fun F H o R q => h F H o _ fun vs H1 e1 r1 => by
  cases r1 with
  | cons r r' =>
    cases r' with
    | cons r2 r3 =>
      cases r3
      refine ⟨m, n, by rw [r.int_inv, r2.int_inv], h1, q _ H1 e1 (it_rng m _)⟩
theorem pair_new {F : Addr → Prop} {H : Hp} {T : Addr} {x y : V} {d e : D} (o : Off F B H) (hT : H T = none) (h1 : Rp (cut F H) x d) (h2 : Rp (cut F H) y e) :
    Ex H (upd H T (.tup [x, y])) ∧ Rp (cut F (upd H T (.tup [x, y]))) (.ref T) (.tuple [d, e]) :=
  ⟨Ex.new hT, .tup (new_at o hT) (.cons (h1.mono (cut_mono (Ex.new hT))) (.cons (h2.mono (cut_mono (Ex.new hT))) .nil))⟩
theorem i_enum (h : EvDs ta σ B [.list ds]) : EvI (iEnum K ta) σ B (ds.zipIdx.map fun p => PyData.tuple [.int (p.2 : Nat), p.1]) := fun F H o R q => h F H o _ fun vs H1 e1 r1 => by
  cases r1 with
  | cons r r' =>
    cases r'
    obtain ⟨a, xs, rfl, hb, ra⟩ := r.lst_inv
    refine ⟨a, xs, rfl, sq_of (cut_ex _ _ hb), q _ H1 e1 ⟨fun F' H' i d o' hd => ?_, fun F' H' i o' hi => ⟨xs, sq_of (o'.ex _ _ hb), by rw [ra.length]; simpa using hi⟩⟩⟩
    rw [List.getElem?_map, List.getElem?_zipIdx] at hd
    cases he : ds[i]? with
    | none => rw [he] at hd; cases hd
    | some d0 =>
      rw [he] at hd
      cases hd
      obtain ⟨x, hx, rx⟩ := ra.get he
      refine ⟨⟨xs, x, sq_of (o'.ex _ _ hb), hx⟩, fun x' H'' y => ?_⟩
      obtain ⟨T, x1, rfl, hT, rfl, hy⟩ := y
      have := hy xs (sq_of (o'.ex _ _ hb))
      rw [hx] at this
      cases this
      have z := pair_new o' hT (.int (i : Nat)) (rx.mono o'.cut)
      simpa using z
theorem zip_get {ds es : List D} {i : Nat} {d : D} (hd : ((ds.zip es).map fun p => PyData.tuple [p.1, p.2])[i]? = some d) : ∃ a b, ds[i]? = some a ∧ es[i]? = some b ∧ d = .tuple [a, b] := by
  rw [List.getElem?_map] at hd
  cases he : (ds.zip es)[i]? with
  | none => rw [he] at hd; cases hd
  | some p =>
    rw [he] at hd
    cases hd
    obtain ⟨h1, h2⟩ := List.getElem?_zip_eq_some.mp he
    exact ⟨p.1, p.2, h1, h2, rfl⟩
theorem i_zipL (h : EvDs ta σ B [.list ds, .list es]) : EvI (RZ.iZipA K ta) σ B ((ds.zip es).map fun p => PyData.tuple [p.1, p.2]) := fun F H o R q => h F H o _ fun vs H1 e1 r1 => by
  cases r1 with
  | cons r r' =>
    cases r' with
    | cons r2 r3 =>
      cases r3
      obtain ⟨a, xs, rfl, hb, ra⟩ := r.lst_inv
      obtain ⟨b, ys, rfl, hb2, ra2⟩ := r2.lst_inv
      refine ⟨a, b, xs, ys, rfl, .inl ⟨sq_of (cut_ex _ _ hb), sq_of (cut_ex _ _ hb2), q _ H1 e1 ⟨fun F' H' i d o' hd => ?_, fun F' H' i o' hi => ⟨xs, ys, sq_of (o'.ex _ _ hb), sq_of (o'.ex _ _ hb2), by rw [ra.length, ra2.length]; simp only [List.length_map, List.length_zip] at hi; omega⟩⟩⟩⟩
      obtain ⟨d1, d2, he1, he2, rfl⟩ := zip_get hd
      obtain ⟨x, hx, rx⟩ := ra.get he1
      obtain ⟨y, hy, ry⟩ := ra2.get he2
      refine ⟨⟨xs, ys, x, y, sq_of (o'.ex _ _ hb), sq_of (o'.ex _ _ hb2), hx, hy⟩, fun x' H'' z => ?_⟩
      obtain ⟨T, x1, y1, rfl, hT, rfl, z1, z2⟩ := z
      have := z1 xs (sq_of (o'.ex _ _ hb))
      rw [hx] at this
      cases this
      have := z2 ys (sq_of (o'.ex _ _ hb2))
      rw [hy] at this
      cases this
      exact pair_new o' hT (rx.mono o'.cut) (ry.mono o'.cut)
theorem i_zipT (h : EvDs ta σ B [.tuple ds, .tuple es]) : EvI (RZ.iZipA K ta) σ B ((ds.zip es).map fun p => PyData.tuple [p.1, p.2]) := fun F H o R q => h F H o _ fun vs H1 e1 r1 => by
  cases r1 with
  | cons r r' =>
    cases r' with
    | cons r2 r3 =>
      cases r3
      obtain ⟨a, xs, rfl, hb, ra⟩ := r.tup_inv
      obtain ⟨b, ys, rfl, hb2, ra2⟩ := r2.tup_inv
      refine ⟨a, b, xs, ys, rfl, .inr ⟨st_of (cut_ex _ _ hb), st_of (cut_ex _ _ hb2), q _ H1 e1 ⟨fun F' H' i d o' hd => ?_, fun F' H' i o' hi => ⟨xs, ys, st_of (o'.ex _ _ hb), st_of (o'.ex _ _ hb2), by rw [ra.length, ra2.length]; simp only [List.length_map, List.length_zip] at hi; omega⟩⟩⟩⟩
      obtain ⟨d1, d2, he1, he2, rfl⟩ := zip_get hd
      obtain ⟨x, hx, rx⟩ := ra.get he1
      obtain ⟨y, hy, ry⟩ := ra2.get he2
      refine ⟨⟨xs, ys, x, y, st_of (o'.ex _ _ hb), st_of (o'.ex _ _ hb2), hx, hy⟩, fun x' H'' z => ?_⟩
      obtain ⟨T, x1, y1, rfl, hT, rfl, z1, z2⟩ := z
      have := z1 xs (st_of (o'.ex _ _ hb))
      rw [hx] at this
      cases this
      have := z2 ys (st_of (o'.ex _ _ hb2))
      rw [hy] at this
      cases this
      exact pair_new o' hT (rx.mono o'.cut) (ry.mono o'.cut)
end

/-! ### targets -/
def TgOk (g : TG) (v : V) (σ σ2 : L2.St) (B : Hp) : Prop := ∀ F H, Off F B H → ∀ Q : L2.St → Hp → Prop, Q σ2 H → g v σ H Q
theorem tg_name {i : Nat} {v : V} {σ : L2.St} {B : Hp} : TgOk (gName i) v σ (σ.set i (some v)) B := fun _ _ _ _ q => q
theorem tg_pair {K : PySem.W.Frag} {i j : Nat} {v : V} {d e : D} {σ : L2.St} {B : Hp} (h : Rp B v (.tuple [d, e])) :
    ∃ x y, Rp B x d ∧ Rp B y e ∧ TgOk (gTup K 2 (gCons (gName i) (gCons (gName j) gNil))) v σ ((σ.set i (some x)).set j (some y)) B := by
  obtain ⟨a, xs, rfl, hb, r⟩ := h.tup_inv
  cases r with
  | cons r1 r2 =>
    cases r2 with
    | cons r3 r4 =>
      cases r4
      exact ⟨_, _, r1, r3, fun F H o Q q => ⟨a, _, rfl, st_of (o.ex _ _ hb), rfl, _, _, rfl, _, _, rfl, rfl, q⟩⟩

/-! ### comprehensions -/
theorem take_filter {α β : Type} {p : α → Bool} {f : α → β} {xs : List α} {i : Nat} (hi : i < xs.length) :
    ((xs.take (i + 1)).filter p).map f = ((xs.take i).filter p).map f ++ (if p xs[i] = true then [f xs[i]] else []) := by
  rw [List.take_succ_eq_append_getElem hi, List.filter_append, List.map_append]
  congr 1
  by_cases h : p xs[i] = true
  · rw [List.filter_cons, if_pos h, if_pos h]
    rfl
  · rw [List.filter_cons, if_neg h, if_neg h]
    rfl
section
variable {σ : L2.St} {B : Hp} {wi : TI} {g : TG} {tt : TT} {te : TE} {vs : List Nat}
theorem d_lcF {α : Type} (xs : List α) (ea : α → D) (p : α → Bool) (eb : α → D) (hz : xs.length ≤ 100000) (hi : EvI wi σ B (xs.map ea))
    (ht : ∀ a ∈ xs, ∀ v B', Ex B B' → Rp B' v (ea a) → ∃ σ2, TgOk g v (wipe σ vs) σ2 B' ∧ wipe σ2 vs = wipe σ vs ∧ EvB tt σ2 B' (p a) ∧ (p a = true → EvD te σ2 B' (eb a))) :
    EvD (tLc wi g tt te vs) σ B (.list ((xs.filter p).map eb)) := by
  intro F H0 o Q q
  refine hi F H0 o _ fun J H1 e1 ok Dl hD => ?_
  have o1 : Off F (cut F H1) H1 := o.next e1
  have hB1 : cut F H1 Dl = none := by
    cases z : cut F H1 Dl with
    | none => rfl
    | some u => rw [cut_ex _ _ z] at hD; cases hD
  have nF : ¬ F Dl := o1.free hD
  refine ⟨fun i m H => m = xs.length - i ∧ i ≤ xs.length ∧ Ex H1 H ∧ ∃ acc, H Dl = some (.lst acc) ∧ RpA (cut (fun b => F b ∨ b = Dl) H) acc (((xs.take i).filter p).map eb), ⟨_, rfl, Nat.zero_le _, Ex.new hD, [], upd_same, by simpa using RpA.nil⟩, ?_⟩
  rintro i m H ⟨rfl, hle, eH, acc, hacc, ra⟩
  have oH : Off (fun b => F b ∨ b = Dl) (cut F H1) H := (o1.go eH).add hB1 hacc
  by_cases hlt : i < xs.length
  · have hg := ok.go _ H i (ea xs[i]) oH (by rw [List.getElem?_map, List.getElem?_eq_getElem hlt]; rfl)
    refine .inr ⟨hg.1, fun H' => i + 1 ≤ xs.length ∧ Ex H1 H' ∧ ∃ acc, H' Dl = some (.lst acc) ∧ RpA (cut (fun b => F b ∨ b = Dl) H') acc (((xs.take (i + 1)).filter p).map eb), fun H' n => ⟨xs.length - (i + 1), by omega, rfl, n⟩, fun x H' y => ?_⟩
    obtain ⟨eH', rx⟩ := hg.2 x H' y
    have oH' := oH.next eH'
    obtain ⟨σ2, htg, hw, htt, hte⟩ := ht xs[i] (List.getElem_mem hlt) x _ (o1.go (eH.trans eH') |>.cut.trans (cut_mono (Ex.refl _)) |> fun _ => (o.cut.trans (cut_less (F := F) hD (eH.trans eH') |> fun z => (cut_mono e1).trans z))) rx
    refine htg _ H' oH' _ ⟨hw, htt _ H' oH' _ fun H2 e2 => ?_⟩
    have hacc2 : H2 Dl = some (.lst acc) := e2 _ _ (eH' _ _ hacc)
    have ex2 : Ex H1 H2 := (eH.trans eH').trans e2
    rw [take_filter hlt]
    cases hp : p xs[i] with
    | true =>
      refine hte hp _ H2 (oH'.go e2) _ fun v H3 e3 rv => ?_
      have hacc3 : H3 Dl = some (.lst acc) := e3 _ _ hacc2
      refine ⟨acc, hacc3, sz_lt ?_, hlt, Ex.mut (ex2.trans e3) hD, acc ++ [v], upd_same, ?_⟩
      · rw [ra.length, List.length_map]
        exact Nat.lt_of_le_of_lt (List.length_filter_le _ _) (Nat.lt_of_lt_of_le (by rw [List.length_take]; omega) hz)
      · rw [cut_upd (Or.inr rfl), if_pos rfl]
        exact (ra.mono (cut_mono ((eH'.trans e2).trans e3))).append (.one rv)
    | false =>
      refine ⟨hlt, ex2, acc, hacc2, ?_⟩
      rw [if_neg (by decide), List.append_nil]
      exact ra.mono (cut_mono (eH'.trans e2))
  · have hi' : i = xs.length := by omega
    subst hi'
    rw [List.take_length] at ra
    exact .inl ⟨ok.stop _ H _ oH (by rw [List.length_map]; exact Nat.le_refl _), q _ H (e1.trans eH) (.lst (cut_at nF hacc) (ra.mono cut_more))⟩
theorem d_lc {α : Type} (xs : List α) (ea : α → D) (eb : α → D) (hz : xs.length ≤ 100000) (hi : EvI wi σ B (xs.map ea))
    (ht : ∀ a ∈ xs, ∀ v B', Ex B B' → Rp B' v (ea a) → ∃ σ2, TgOk g v (wipe σ vs) σ2 B' ∧ wipe σ2 vs = wipe σ vs ∧ EvD te σ2 B' (eb a)) :
    EvD (tLc wi g tYes te vs) σ B (.list (xs.map eb)) := by
  have := d_lcF (tt := tYes) xs ea (fun _ => true) eb hz hi fun a ha v B' e r => by
    obtain ⟨σ2, h1, h2, h3⟩ := ht a ha v B' e r
    exact ⟨σ2, h1, h2, fun F H o Q q => q H (Ex.refl H), fun _ => h3⟩
  rw [List.filter_eq_self.mpr (fun _ _ => rfl)] at this
  exact this
/-- for -/
theorem s_for {α : Type} {F : Addr → Prop} {H : Hp} {tb : TS} {D' : Ends} (xs : List α) (ea : α → D) (hi : EvI wi σ B (xs.map ea)) (o : Off F B H) (Pv : Hp → Nat → L2.St → Hp → Prop)
    (h0 : ∀ H1, Ex H H1 → Pv (cut F H1) 0 σ H1) (hP : ∀ B1 i σ' H', Ex B B1 → Pv B1 i σ' H' → Off F B1 H')
    (hs : ∀ B1 i a v σ' H' H'', Ex B B1 → xs[i]? = some a → Pv B1 i σ' H' → Ex H' H'' → Rp (cut F H'') v (ea a) → g v σ' H'' fun σ2 H2 => tb { D' with nx := Pv B1 (i + 1), ct := Pv B1 (i + 1), bk := D'.nx } σ2 H2)
    (hd : ∀ B1 σ' H', Ex B B1 → Pv B1 xs.length σ' H' → D'.nx σ' H') : tFor wi g tb D' σ H := by
  refine hi F H o _ fun J H1 e1 ok => ?_
  have eB : Ex B (cut F H1) := o.cut.trans (cut_mono e1)
  refine ⟨fun i m σ' H' => m = xs.length - i ∧ i ≤ xs.length ∧ Pv (cut F H1) i σ' H', ⟨_, rfl, Nat.zero_le _, h0 H1 e1⟩, ?_⟩
  rintro i m σ' H' ⟨rfl, hle, pv⟩
  have oH := hP _ _ _ _ eB pv
  by_cases hlt : i < xs.length
  · have hg := ok.go _ H' i (ea xs[i]) oH (by rw [List.getElem?_map, List.getElem?_eq_getElem hlt]; rfl)
    refine .inr ⟨hg.1, Pv (cut F H1) (i + 1), fun σ2 H2 n => ⟨xs.length - (i + 1), by omega, rfl, hlt, n⟩, fun x H'' y => ?_⟩
    obtain ⟨eH', rx⟩ := hg.2 x H'' y
    exact hs _ i xs[i] x σ' H' H'' eB (List.getElem?_eq_getElem hlt) pv eH' rx
  · have hi' : i = xs.length := by omega
    subst hi'
    exact .inl ⟨ok.stop _ H' _ oH (by rw [List.length_map]; exact Nat.le_refl _), hd _ σ' H' eB pv⟩
end
end G
/-! G2: sum, min, sorted, enumerate of tuples. -/
namespace G
open PySem PySem.Spec PyProof.Rows L2 Evl
section
variable {prog : Program} {w : World} {A : Around} {E : Value → Shared → Prop} {s : Shared} {l : Addr} {its : List Value} {ns : List Int} {Q : Value → Shared → Prop}
theorem oldT {h' : Heap} (hk : ∀ b o, b ∉ [s.heap.objs.size] → (s.heap.push { cls := .type "tuple_iterator", data := .fields #[.ref l, .int 0 0] }).get? b = some o → h'.get? b = some o) :
    ∀ b o, s.heap.get? b = some o → h'.get? b = some o := fun b o e => by
  refine hk b o (fun hm => ?_) (Heap.get?_push_of_some _ e)
  rcases List.mem_cons.mp hm with e1 | hm
  · exact absurd (e1 ▸ Heap.lt_size e) (Nat.lt_irrefl _)
  · cases hm
theorem sumT_raw (hh : A.handled = none) (hl : IsTup s.heap l its.toArray) (hi : IntsAre its ns)
    (h : ∀ h' tk t', (∀ b o, s.heap.get? b = some o → h'.get? b = some o) → Q (.int ns.sum t') { s with heap := h', toks := tk }) : wpAny (model prog w) A (call (.builtin "sum") [.ref l]) Q E s := by
  obtain ⟨xs, e⟩ := hi.allInts.items
  have hn : numsOf (intItems xs).toList = ns := by rw [← e]; exact hi.numsOf
  rw [nums_intItems] at hn
  rw [e] at hl
  have hlt := hl.lt
  refine call_sum_walkG (wpAny_pyIter_tuple (show s.heap.IsTuple l (intItems xs) from hl) ?_)
  refine ⟨_, _, _, _, _, _, numAt xs, rfl, Walks.tuple (A := A.in1) hh s.heap.objs.size l (Nat.ne_of_lt hlt) (intItems xs), ⟨⟨_, Heap.get?_push_size _ rfl, rfl, rfl⟩, hl.push _⟩, fun b hb => ?_, (fun _ _ => intItems_at), fun h' tk t' hk => ?_⟩
  · show b < (s.heap.push _).objs.size
    rw [Heap.size_push]
    rcases List.mem_cons.mp hb with rfl | hb
    · exact Nat.lt_succ_self _
    · rcases List.mem_cons.mp hb with rfl | hb
      · exact Nat.lt_succ_of_lt hlt
      · cases hb
  · have := h h' tk t' (oldT hk)
    have e2 : preSum (numAt xs) (intItems xs).size = ns.sum := by
      rw [show (intItems xs).size = xs.size by simp [intItems], preSum_eq, List.take_of_length_le (by simp), hn]
    rw [e2]
    exact this
theorem minT_raw (hh : A.handled = none) (hl : IsTup s.heap l its.toArray) (hi : IntsAre its ns) (hne : 0 < ns.length)
    (h : ∀ h' tk M t', (∀ b o, s.heap.get? b = some o → h'.get? b = some o) → M ∈ ns → (∀ a, a ∈ ns → M ≤ a) → Q (.int M t') { s with heap := h', toks := tk }) : wpAny (model prog w) A (call (.builtin "min") [.ref l]) Q E s := by
  obtain ⟨xs, e⟩ := hi.allInts.items
  have hn : numsOf (intItems xs).toList = ns := by rw [← e]; exact hi.numsOf
  rw [nums_intItems] at hn
  subst hn
  rw [e] at hl
  have hsz : 0 < xs.size := by simpa using hne
  have hlt := hl.lt
  have hz : (intItems xs).size = xs.size := by simp [intItems]
  refine call_min_walk (wpAny_pyIter_tuple (show s.heap.IsTuple l (intItems xs) from hl) ?_)
  refine ⟨_, _, _, _, _, _, _, rfl, Walks.tuple (A := A.in1) hh s.heap.objs.size l (Nat.ne_of_lt hlt) (intItems xs), ⟨⟨_, Heap.get?_push_size _ rfl, rfl, rfl⟩, hl.push _⟩, fun b hb => ?_, by rw [hz]; exact hsz, CmpOf.ints_lt (numAt xs) (fun _ _ => intItems_at), fun v h' tk hP hk => ?_⟩
  · show b < (s.heap.push _).objs.size
    rw [Heap.size_push]
    rcases List.mem_cons.mp hb with rfl | hb
    · exact Nat.lt_succ_self _
    · rcases List.mem_cons.mp hb with rfl | hb
      · exact Nat.lt_succ_of_lt hlt
      · cases hb
  · rw [hz] at hP
    obtain ⟨t, rfl⟩ := intItems_at hP
    obtain ⟨h1, h2⟩ := argBest_lt (numAt xs) (xs.size - 1)
    refine h h' tk _ t (oldT hk) ?_ fun a ha => ?_
    · rw [numAt_eq]; exact PySem.getD_mem (by rw [List.length_map, Array.length_toList]; omega)
    · obtain ⟨j, hj, rfl⟩ := mem_getD ha
      rw [List.length_map, Array.length_toList] at hj
      rw [← numAt_eq]; exact h2 j (by omega)
theorem sortedT_raw (hl : IsTup s.heap l its.toArray) (hi : IntsAre its ns) (h64 : its.length < 64)
    (h : ∀ (h1 h' : Heap) (out : Array Value) (c : Nat) (ns' : List Int), (∀ b o, s.heap.get? b = some o → h1.get? b = some o) → (∀ b o, h1.get? b = some o → h'.get? b = some o) → h'.get? h1.objs.size = some (seqObj "list" out c) → IntsAre out.toList ns' → ns'.Perm ns → ns'.Pairwise (· ≤ ·) →
      Q (.ref h1.objs.size) { s with heap := h' }) : wpAny (model prog w) A (call (.builtin "sorted") [.ref l]) Q E s := by
  refine Calls.call_function_entry kind_sorted plain_sorted entry_sorted (args_sorted1 _) ?_
  unfold Builtin.«sorted»
  refine wpAny_bind (m := checkCount "sorted" 1 1 _) (wpAny_pure ?_)
  obtain ⟨o, ho, hc, n, hd⟩ := hl
  have hz : its.toArray.size ≤ sizeLine := by
    rw [List.size_toArray, sizeLine_eq]
    omega
  refine wpAny_bind (wpAny_collect_seq l (.inr rfl) ho hc hd (fun h1 k1 => ?_) hz)
  refine wpAny_bind (wpAny_newList ?_ (by rw [sizeLine_eq]; simp; omega))
  have hoL : (h1.push (seqObj "list" its.toArray 0)).get? h1.objs.size = some (seqObj "list" its.toArray 0) := Heap.get?_push_size _ rfl
  refine wpAny_bind (wpAny_holding (wpAny_call_entry slot_list_sort ⟨_, hoL, rfl⟩ entry_list_sort (list_sort_tree hoL hi h64 fun out ns' a1 a2 a3 => ⟨_, rfl, ?_⟩) (args_list_sort _)))
  obtain ⟨c, hc'⟩ := sortedHeap_at (vs := its) (out := out) hoL
  refine wpAny_pure ⟨_, rfl, h h1 _ out c ns' k1 (fun b u q => ?_) hc' a1 a2 a3⟩
  have hlt := Heap.lt_size q
  show (sortedHeap (h1.push (seqObj "list" its.toArray 0)) h1.objs.size its out).get? b = some u
  rw [sortedHeap_old (Nat.ne_of_lt hlt) (by rw [size_push']; exact Nat.lt_succ_of_lt hlt)]
  exact Heap.get?_push_of_some _ q
/-! enumerate of a tuple -/
theorem meets_enumerate_newB1 {v : Value} {o : Obj} {H : Heap → Prop} (B : Begins v o H) :
    Meets (Builtin.«enumerate.__new__» ⟨[.type "enumerate", v], []⟩) (fun _ R s => H s.heap ∧
      R (.ok (.ret (.ref (s.heap.push o).objs.size))) { s with heap := (s.heap.push o).push { cls := .type "enumerate", data := .fields #[.none, .bool false, .ref s.heap.objs.size, rawInt 0, .none, .none] } }) :=
  .of_wp fun prog w A R s h => by
    obtain ⟨hp, g, d, tk, os⟩ := s; obtain ⟨h1, h⟩ := h
    have hsub := sub_enumerate
    have q1 : ∀ {A' : Around} {E : Value → Shared → Prop} {Q : Value → Shared → Prop}, Q (.ref hp.objs.size) ⟨hp.push o, g, d, tk, os⟩ → wpAny (model prog w) A' (pyIter v) Q E ⟨hp, g, d, tk, os⟩ :=
      fun q => B.iter prog w _ _ ⟨hp, g, d, tk, os⟩ _ h1 q
    wp_walk using q1
    refine wpAny_stack_any fun st => wpAny_pure ?_
    split
    · rename_i c _ _ _ _ _
      cases (c == Value.type "enumerate")
      · wp_walk using q1
        exact ⟨_, rfl, h⟩
      · wp_walk using q1
        exact ⟨_, rfl, h⟩
    · wp_walk using q1
      exact ⟨_, rfl, h⟩
theorem enum_begins1 {v : Value} {o : Obj} {H : Heap → Prop} (B : Begins v o H) (h1 : H s.heap)
    (h : ∀ h', IsEnum h' (s.heap.objs.size + 1) s.heap.objs.size 0 .none → h'.get? s.heap.objs.size = some o → h'.objs.size = s.heap.objs.size + 2 →
      (∀ b o, s.heap.get? b = some o → h'.get? b = some o) → Q (.ref (s.heap.objs.size + 1)) { s with heap := h' }) :
    wpAny (model prog w) A (call (.type "enumerate") [v]) Q E s := by
  refine callType_new F.called_enumerate (by decide) (F.typeCall_enumerate_1 _) (F.newCall_enumerate_1 _) (fun obj => F.args_object_init_2 obj _) F.entry_enumerate_new
    (meets_enumerate_newB1 B) ⟨h1, ?_⟩
  have hz : (s.heap.push o).objs.size = s.heap.objs.size + 1 := Heap.size_push ..
  show _ ∧ _
  rw [hz]
  have he : IsEnum ((s.heap.push o).push { cls := .type "enumerate", data := .fields #[.none, .bool false, .ref s.heap.objs.size, rawInt 0, .none, .none] }) (s.heap.objs.size + 1) s.heap.objs.size 0 .none := by
    have := Heap.get?_push_size (s.heap.push o) (o := { cls := .type "enumerate", data := .fields #[.none, .bool false, .ref s.heap.objs.size, rawInt 0, .none, .none] }) rfl
    rw [hz] at this; exact this
  refine ⟨⟨_, he, rfl⟩, h _ he (Heap.get?_push_of_some _ (Heap.get?_push_size _ B.free)) (by rw [Heap.size_push, hz]) fun b o x => Heap.get?_push_of_some _ (Heap.get?_push_of_some _ x)⟩
end
end G
/-! G3: the rules of these over the layer. -/
namespace G
open PySem PySem.Spec PyProof.Rows L2 Evl
section
variable {X : Cx}
def rSumT (K : PySem.W.Frag) : List V → Hp → VK → Prop := fun vs H Q => ∃ (a : Addr) (ns : List Int), vs = [V.ref a] ∧ SqT K H a (ns.map V.int) ∧ Q (.int ns.sum) H
def rMinT (K : PySem.W.Frag) : List V → Hp → VK → Prop := fun vs H Q => ∃ (a : Addr) (ns : List Int), vs = [V.ref a] ∧ SqT K H a (ns.map V.int) ∧ 0 < ns.length ∧ ∀ m, m ∈ ns → (∀ y, y ∈ ns → m ≤ y) → Q (.int m) H
def rSortTI (K : PySem.W.Frag) : List V → Hp → VK → Prop := fun vs H Q => ∃ (a : Addr) (ns : List Int), vs = [V.ref a] ∧ SqT K H a (ns.map V.int) ∧ ns.length < 64 ∧
  ∀ (ns' : List Int) (p : Addr), ns'.Perm ns → ns'.Pairwise (· ≤ ·) → H p = none → Q (.ref p) (upd H p (.lst (ns'.map V.int)))
theorem cr_sumT (hc : X.calm = true) : CallR X (.builtin "sum") (rSumT X.K) := by
  intro pins s σ H vs us Q I r h
  obtain ⟨a, ns, rfl, hs, q⟩ := h
  obtain ⟨its, rv, hl, _⟩ := I.tuple hs
  rw [Vals.ref1 r]
  exact sumT_raw (I.ok.hd hc) hl rv.ints fun h' tk t' hk => ⟨.int _, H, I.kept hk, ⟨_, rfl⟩, q⟩
theorem cr_minT (hc : X.calm = true) : CallR X (.builtin "min") (rMinT X.K) := by
  intro pins s σ H vs us Q I r h
  obtain ⟨a, ns, rfl, hs, hne, q⟩ := h
  obtain ⟨its, rv, hl, _⟩ := I.tuple hs
  rw [Vals.ref1 r]
  exact minT_raw (I.ok.hd hc) hl rv.ints hne fun h' tk m t' hk h1 h2 => ⟨.int _, H, I.kept hk, ⟨_, rfl⟩, q m h1 h2⟩
theorem cr_sortTI : CallR X (.builtin "sorted") (rSortTI X.K) := by
  intro pins s σ H vs us Q I r h
  obtain ⟨a, ns, rfl, hs, h64, q⟩ := h
  obtain ⟨its, rv, hl, _⟩ := I.tuple hs
  rw [Vals.ref1 r]
  have hi := rv.ints
  refine sortedT_raw hl hi (by rw [hi.length]; exact h64) fun h1 h' out c ns' k1 k2 hp a1 a2 a3 => ?_
  have I1 : Inv X pins σ H { s with heap := h1 } := I.kept (t' := s.toks) k1
  have hlen : (ns'.map V.int).length ≤ sizeLine := by rw [List.length_map, a2.length_eq]; exact small64 h64
  exact ⟨.ref _, upd H h1.objs.size (.lst (ns'.map V.int)), I1.laid (t' := s.toks) k2 (Nat.le_refl _) ⟨hlen, out.toList, c, vals_of_ints a1, hp⟩, rfl, q ns' _ a2 a3 (I1.hok.fresh (Nat.le_refl _))⟩
/-- (a,) * k for k at most 1 -/
def rRepT1 (K : PySem.W.Frag) : R2 := fun x y H Q => ∃ l k xs, x = .ref l ∧ y = .int k ∧ SqT K H l xs ∧ xs ≠ [] ∧ -1000 ≤ k ∧ k ≤ 1 ∧ xs.length ≤ 1000 ∧ (k = 1 → Q (.ref l) H) ∧ (k ≤ 0 → ∀ p, H p = none → Q (.ref p) (upd H p (.tup [])))
end

/-! enumerate of a tuple -/
def IteT (K : PySem.W.Frag) (a : Addr) : It :=
  ⟨fun i H => ∃ (xs : List V) (x : V), SqT K H a xs ∧ xs[i]? = some x, fun i H v H' => ∃ T x, v = .ref T ∧ H T = none ∧ H' = upd H T (.tup [.int (i : Nat), x]) ∧ ∀ xs, SqT K H a xs → xs[i]? = some x, fun i H => ∃ xs : List V, SqT K H a xs ∧ xs.length ≤ i⟩
theorem turn_enumT {P : Program} {w : World} {K : PySem.W.Frag} {elts : List Expr} {kk : Nat} {tpos : Pos} (a e it : Addr) :
    Turn P w K (.Tuple elts kk tpos) (IteT K a) [e, it] e (fun i h => (∃ old, IsEnum h e it ((i : Nat) : Int) old) ∧ h.IsTupleIter it a i ∧ e ≠ it ∧ a ≠ it ∧ a ≠ e) where
  mem := by simp
  obj := fun i h st b hb => by
    obtain ⟨⟨old, he⟩, ⟨o, ho, hc, hd⟩, _⟩ := st
    have e' : b = e ∨ b = it := by simpa using hb
    rcases e' with z | z
    · rw [z]; exact ⟨_, he, fun v q => nomatch q⟩
    · rw [z]; exact ⟨o, ho, fun v q => by rw [hd] at q; cases q⟩
  keep := fun i h h' st k => let ⟨⟨old, he⟩, hi, hne⟩ := st; ⟨⟨old, k e (by simp) _ he⟩, hi.at fun o q => k it (by simp) o q, hne⟩
  item := by
    intro X hP hw hK hc i pins s σ H E I hf st hg
    subst hP hw hK
    obtain ⟨⟨old, he⟩, hit, hne, hai, hae⟩ := st
    obtain ⟨xs, x, hq, hx⟩ := hg
    obtain ⟨its, rv, p, hz⟩ := I.tuple hq
    obtain ⟨u, hu, ru⟩ := rv.get hx
    have hel : e < s.heap.objs.size := Heap.lt_size he
    have hil : it < s.heap.objs.size := by obtain ⟨_, q, _⟩ := hit; exact Heap.lt_size q
    have hlt : i < its.toArray.size := by
      have := (List.getElem?_eq_some_iff.mp hu).1
      simpa using this
    have D := Draws.tuple (prog := X.prog) (w := X.w) (A := X.A.in1) (I.ok.hd hc) it a hai its.toArray
    refine wpAny_pyNext_enum_itemD D he ⟨hit, (show s.heap.IsTuple a its.toArray from p)⟩ hlt hne (by simp; exact ⟨hne, fun z => hae z.symm⟩) fun x' h' tk hPx ho hst' hT hsz hk => ?_
    have ex : x' = u := by
      have q : its.toArray[i]? = some x' := hPx
      rw [show its.toArray[i]? = some u by simpa using hu] at q
      exact (Option.some.inj q).symm
    subst ex
    refine ⟨_, rfl, wpAny_letOwnedTupleGo_enum (s := { s with heap := h', toks := tk + 1 }) ho fun h'' he' sb => ?_⟩
    have hT2 : h''.get? s.heap.objs.size = some { cls := .type "tuple", data := .seq #[.int i tk, x'] } := (sb.2 _ (Nat.ne_of_gt hel)).trans hT
    have new : ObjOk X.prog X.w (upd H s.heap.objs.size (.tup [.int (i : Nat), x])) h'' s.heap.objs.size (.tup [.int (i : Nat), x]) :=
      ⟨by show 2 ≤ sizeLine; decide, [.int i tk, x'], .cons ⟨_, rfl⟩ (.cons ru .nil), ⟨_, hT2, rfl, _, rfl⟩⟩
    have I1 : Inv X pins σ (upd H s.heap.objs.size (.tup [.int (i : Nat), x])) { s with heap := h'', toks := tk + 1 } :=
      I.turnedNew (ch := [e, it]) (fun b ob hb q => (sb.2 b (fun z => hb (by simp [z]))).trans (hk b ob (fun z => hb (by simp [z])) (fun z => hb (by simp [z])) q)) hf (Nat.le_refl _) new
    refine ⟨.ref s.heap.objs.size, _, I1, rfl, ⟨_, x, rfl, I.hok.fresh (Nat.le_refl _), rfl, fun ys hy => by rw [I.tuple_inj hy hq]; exact hx⟩, ⟨⟨x', ?_⟩, hst'.1.at fun o q => (sb.2 it (Ne.symm hne)).trans q, hne, hai, hae⟩, fun b hb => ?_⟩
    · have e1 : ((i + 1 : Nat) : Int) = (i : Int) + 1 := by omega
      rw [e1]; exact he'
    · have hb' : b < s.heap.objs.size := by
        have e' : b = e ∨ b = it := by simpa using hb
        rcases e' with z | z
        · rw [z]; exact hel
        · rw [z]; exact hil
      rw [upd_ne (Nat.ne_of_lt hb')]
      exact (hf b hb).1
  done := by
    intro X hP hw hK hc i pins s σ H E I hf st hg
    subst hP hw hK
    obtain ⟨⟨old, he⟩, hit, hne, hai, hae⟩ := st
    obtain ⟨xs, hq, hx⟩ := hg
    obtain ⟨its, rv, p, hz⟩ := I.tuple hq
    obtain ⟨f0, f1, f2, f3, f4, f5⟩ := hf it (by simp)
    have hl := rv.length
    have D := Draws.tuple (prog := X.prog) (w := X.w) (A := X.A.in1) (I.ok.hd hc) it a hai its.toArray
    have hT : s.TypeIs (.ref e) "enumerate" := ⟨_, he, rfl⟩
    unfold pyNext
    refine wpAny_bind (wpAny_attempt (wpAny_callSpecial?_slot (name := Str.ofString "__next__") hT F.slot_enumerate_next
      (wpAny_call_entry F.slot_enumerate_next hT F.entry_enumerate_next ?_ (F.args_enumerate_next_1 _))))
    show wpAny _ _ (field (.ref e) 2 >>= _) _ _ _
    refine wpAny_bind (wpAny_field he rfl (x := .ref it) rfl ?_)
    refine wpAny_bind (wpAny_nextOf_tuple_end (I.ok.hd hc) hit (show s.heap.IsTuple a its.toArray from p) (by simp; omega) fun h' x he' hx' => ?_)
    obtain ⟨o, ho, hc'⟩ := hx'
    refine wpAny_bind (wpAny_isInstance (T := "StopIteration") (b := true) ⟨o, ho, hc'⟩ isSubtype_stop ?_)
    exact wpAny_pure ⟨rfl, I.turned (t' := s.toks) (fun b o hb q => he' b o hb q) f0 f1 f3 f4 f5⟩
  self := fun A i s Q E st h => let ⟨⟨_, he⟩, _⟩ := st; wpAny_pyIter_enum he h
def iEnumT (K : PySem.W.Frag) (ta : TA) : TI := fun σ H R => ta σ H fun vs H1 => ∃ a xs, vs = [.ref a] ∧ SqT K H1 a xs ∧ R (IteT K a) H1
theorem pi_enumT {X : Cx} {e : Expr} {ta : TA} {p pos tpos : Pos} {elts : List Expr} {kk : Nat} (hg : Gl X "enumerate") (hm : X.mg "enumerate" = none) (ha : PA X [e] ta) (hs : starEach [e] X.env = [(false, eval e X.env)] := by rfl) :
    PI X (.Tuple elts kk tpos) (.Call (.Name "enumerate" p) [e] [] pos) (iEnumT X.K ta) := by
  refine ⟨fun pins s σ H R I h => ?_⟩
  refine Call_ (ld_blt I hg hm boot_enumerate (PyProof.Rows.callWith_type1 (thn (ha.run pos pins s σ H _ I h) fun us s1 ⟨vs, H1, I1, r1, q1⟩ => ?_) hs rfl))
  obtain ⟨a, xs, ex, hq, q⟩ := q1
  subst ex
  cases r1 with
  | cons r rr =>
    cases rr
    cases r
    obtain ⟨its, rv, p', hz⟩ := I1.tuple hq
    have hlt := p'.lt
    refine enum_begins1 (begins_tuple a its.toArray) (show s1.heap.IsTuple a its.toArray from p') fun h' he hit hsz hk => wpAny_pyIter_enum he ?_
    have I2 : Inv X pins σ H1 { s1 with heap := h' } := I1.kept (t' := s1.toks) hk
    refine ⟨s1.heap.objs.size + 1, [s1.heap.objs.size + 1, s1.heap.objs.size], _, _, H1, rfl, I2, turn_enumT a (s1.heap.objs.size + 1) s1.heap.objs.size, ⟨⟨.none, he⟩, ⟨_, hit, rfl, rfl⟩, Nat.succ_ne_self _, Nat.ne_of_lt hlt, Nat.ne_of_lt (Nat.lt_succ_of_lt hlt)⟩, fun b hb => ?_, q⟩
    have e' : b = s1.heap.objs.size + 1 ∨ b = s1.heap.objs.size := by simpa using hb
    have hle : s1.heap.objs.size ≤ b := by
      rcases e' with z | z
      · rw [z]; exact Nat.le_add_right _ _
      · rw [z]; exact Nat.le_refl _
    exact I1.fpOk hle (I1.hok.fresh hle)
section
variable {K : PySem.W.Frag} {σ : L2.St} {B : Hp} {ta : TA} {ds : List D}
theorem i_enumT (h : EvDs ta σ B [.tuple ds]) : EvI (iEnumT K ta) σ B (ds.zipIdx.map fun p => PyData.tuple [.int (p.2 : Nat), p.1]) := fun F H o R q => h F H o _ fun vs H1 e1 r1 => by
  cases r1 with
  | cons r r' =>
    cases r'
    obtain ⟨a, xs, rfl, hb, ra⟩ := r.tup_inv
    refine ⟨a, xs, rfl, st_of (cut_ex _ _ hb), q _ H1 e1 ⟨fun F' H' i d o' hd => ?_, fun F' H' i o' hi => ⟨xs, st_of (o'.ex _ _ hb), by rw [ra.length]; simpa using hi⟩⟩⟩
    rw [List.getElem?_map, List.getElem?_zipIdx] at hd
    cases he : ds[i]? with
    | none => rw [he] at hd; cases hd
    | some d0 =>
      rw [he] at hd
      cases hd
      obtain ⟨x, hx, rx⟩ := ra.get he
      refine ⟨⟨xs, x, st_of (o'.ex _ _ hb), hx⟩, fun x' H'' y => ?_⟩
      obtain ⟨T, x1, rfl, hT, rfl, hy⟩ := y
      have := hy xs (st_of (o'.ex _ _ hb))
      rw [hx] at this
      cases this
      have z := pair_new o' hT (.int (i : Nat)) (rx.mono o'.cut)
      simpa using z
end
end G
/-! G4: dicts with tuple keys: comprehensions, items(), pop. -/
namespace G
open PySem PySem.Spec PyProof.Rows L2 Evl
/-- d[k] = v by a comprehension, the key a tuple -/
theorem d_dictSetT {X : Cx} {pins : List (Addr × Obj)} {σ : L2.St} {H : Hp} {s : Shared} {E : Value → Shared → Prop} {D b : Addr} {kvs : List (List Key × V)} {k : List Key} {v : V} {r : Value} {Q : Unit → Shared → Prop} (hu : X.A.units + 1 < cLine) (I : Inv X pins σ H s) (hD : H D = some (.dT kvs)) (hb : H b = some (.tup (k.map kV))) (hz : kvs.length < sizeLine)
    (rv : RelV v r) (h : ∀ s', Inv X pins σ (upd H D (.dT (putK kvs k v))) s' → Q () s') : wpAny (model X.prog X.w) X.A (dictSet D (.ref b) r) Q E s := by
  obtain ⟨z, hd, xs, rel, dd⟩ := dt_of I.hok hD
  have hz2 : xs.length ≤ sizeLine := by rw [← Paired.length rel]; exact z
  have hl : (putK kvs k v).length ≤ sizeLine := by have := length_putK kvs k v; omega
  refine wpAny_dictSet_heap (hsz := hz2) (show X.A.units < cLine by omega) (key_of I.hok hb) dd fun h' dd' hs => h _ ?_
  obtain ⟨q, es, ep, hq, h2, h3, h4, _, h5⟩ := dd'
  refine d_write I (by rw [hD]; exact True.intro) hs ⟨q, hq⟩ ⟨hl, hd, _, (rel.put k hb rv).keeps fun c ys ec => ?_, q, es, ep, hq, h2, h3, h4, h5⟩
  rw [upd_ne (ne_of ec hD (fun z => nomatch z))]
  exact ec
section
variable {X : Cx}
/-- {k: v for target in iter if ..}, keys tuples: D the new dict -/
def tDcT (wi : TI) (g : TG) (tt : TT) (tk tv : TE) (vs : List Nat) : TE := fun σ H Q => wi σ H fun J H1 => ∀ D, H1 D = none → ∃ W : Nat → Nat → Hp → Prop, (∃ m, W 0 m (upd H1 D (.dT []))) ∧ ∀ i m H, W i m H →
  (J.stop i H ∧ Q (.ref D) H) ∨ (J.go i H ∧ ∃ Nx : Hp → Prop, (∀ H', Nx H' → ∃ m', m' < m ∧ W (i + 1) m' H') ∧ ∀ x H', J.yld i H x H' → g x (wipe σ vs) H' fun σ2 H2 => wipe σ2 vs = wipe σ vs ∧ tt σ2 H2 fun b H3 =>
    if b = true then tk σ2 H3 fun y H4 => tv σ2 H4 fun z H5 => ∃ kvs k b, y = .ref b ∧ H5 b = some (.tup (k.map kV)) ∧ H5 D = some (.dT kvs) ∧ kvs.length < sizeLine ∧ Nx (upd H5 D (.dT (putK kvs k z))) else Nx H3)
theorem dcT_core {pins : List (Addr × Obj)} {s : Shared} {σ : L2.St} {H : Hp} {Q : VK} {kx vx tg iter : Expr} {ifs : List Expr} {scope : Scope} {own : List (Str × Nat)} {pos pos' : Pos} {wi : TI} {g : TG} {tt : TT} {tk tv : TE} {use : Option (Value → Sem Unit)} {Qf : Value → Shared → Prop}
    (hu : X.A.units + 1 < cLine) (hc : X.calm = true) (hN : X.N.Nodup) (I : Inv X pins σ H s) (hi : PI X tg iter wi) (ok : BlkOk X.N X.env.scope scope own)
    (hg : ∀ (s : Shared) (H : Hp) (C : Addr) (cl : List (Str × Addr)) (fp : List Addr), PG (X.blk s H scope (compEnvC scope cl C X.env) fp) tg g) (ht : ∀ (s : Shared) (H : Hp) (C : Addr) (cl : List (Str × Addr)) (fp : List Addr), PTs (X.blk s H scope (compEnvC scope cl C X.env) fp) ifs tt)
    (hk : ∀ (s : Shared) (H : Hp) (C : Addr) (cl : List (Str × Addr)) (fp : List Addr), PE (X.blk s H scope (compEnvC scope cl C X.env) fp) kx tk)
    (he : ∀ (s : Shared) (H : Hp) (C : Addr) (cl : List (Str × Addr)) (fp : List Addr), PE (X.blk s H scope (compEnvC scope cl C X.env) fp) vx tv) (hs : ∀ x, foldedSetIterable iter X.env x = pure x)
    (h : tDcT wi g tt tk tv (own.map (·.2)) σ H Q)
    (hRR : ∀ D C s' m H', Inv X pins σ H' s' → Q (.ref D) H' → s'.heap.Ns C m → FpOk X pins H' C → compPost (model X.prog X.w) X.A X.xe use Qf (.ref D) C (.ok .next) s') :
    wpAny (model X.prog X.w) X.A (comprehension (.DictComp kx vx [⟨tg, iter, ifs, 0⟩] scope pos) scope X.env pos' newDict false (eval iter X.env) use) Qf X.xe s := by
  have hfree : ∀ y ∈ scope.names, y.2 = .free → ∃ c, X.env.cells.lookup y.1 = some c := fun y hy e => by
    rcases ok.free y hy e with k | k
    · exact I.ok.has _ (.inl k)
    · exact I.ok.has _ (.inr k)
  refine wpAny_comprehension_free (use := use) rfl hs (closure_ok hfree) ok.kind (fun y hy e => by rw [ok.uniq y hy, e])
    (thn (hi.run pins s σ H _ I h) fun xv s1 hx => thn hx fun itv s2 h2 => ?_)
  obtain ⟨it, fp, tn, J, H2, e, I2, T, st2, f2, q⟩ := h2
  subst e
  refine wpAny_newObj_type (newEnv_comp ?_)
  generalize hD : s2.heap.objs.size = D
  have hDn : H2 D = none := I2.hok.fresh (Nat.le_of_eq hD)
  obtain ⟨W, ⟨m0, w0⟩, turn⟩ := q D hDn
  -- the new list
  generalize hs3 : ({ s2 with heap := s2.heap.push { cls := .type "dict", data := .dict #[] } } : Shared) = s3
  have I3 : Inv X pins σ (upd H2 D (.dT [])) s3 := by
    rw [← hs3]
    refine I2.laid (t' := s2.toks) (fun b o e => Heap.get?_push_of_some _ e) (Nat.le_of_eq hD) ?_
    rw [← hD]
    exact dt_empty s2.heap I2.big
  have h3 : s3.heap = s2.heap.push { cls := .type "dict", data := .dict #[] } := by rw [← hs3]
  have sz : ∀ b ∈ fp, b < s2.heap.objs.size := fun b hb => by
    obtain ⟨o, e, _⟩ := T.obj _ _ st2 b hb
    exact Heap.lt_size e
  have f3 : ∀ b ∈ fp, FpOk X pins (upd H2 D (.dT [])) b ∧ b < s3.heap.objs.size := fun b hb => by
    have hlt := sz b hb
    refine ⟨⟨?_, (f2 b hb).2⟩, by rw [h3, Heap.size_push]; exact Nat.lt_succ_of_lt hlt⟩
    rw [upd_ne (by rw [← hD]; exact Nat.ne_of_lt hlt)]
    exact (f2 b hb).1
  have st3 : tn 0 s3.heap := T.keep _ _ _ st2 fun b _ o e => by rw [h3]; exact Heap.get?_push_of_some _ e
  have I4 := block_start I3 ok hN f3
  have pg := hg s3 (upd H2 D (.dT [])) s3.heap.objs.size (cellsFrom (s3.heap.objs.size + 1) scope.names (cloFrom X.env.cells scope.names [])) fp
  have pt := ht s3 (upd H2 D (.dT [])) s3.heap.objs.size (cellsFrom (s3.heap.objs.size + 1) scope.names (cloFrom X.env.cells scope.names [])) fp
  have pk := hk s3 (upd H2 D (.dT [])) s3.heap.objs.size (cellsFrom (s3.heap.objs.size + 1) scope.names (cloFrom X.env.cells scope.names [])) fp
  have pe := he s3 (upd H2 D (.dT [])) s3.heap.objs.size (cellsFrom (s3.heap.objs.size + 1) scope.names (cloFrom X.env.cells scope.names [])) fp
  show codeAny _ _ (.compStart (.DictComp kx vx [⟨tg, iter, ifs, 0⟩] scope pos) 0 (.ref it) (.ref D) (compEnvC scope (cellsFrom (s3.heap.objs.size + 1) scope.names (cloFrom X.env.cells scope.names [])) s3.heap.objs.size X.env)) (compPost (model X.prog X.w) X.A X.xe use Qf (.ref D) s3.heap.objs.size) { s3 with heap := pushCells (s3.heap.push { cls := .type "dict", data := .dict #[] }) scope.names }
  have nfp : ∀ b ∈ fp, (upd H2 D (.dT [])) b = none := fun b hb => (f3 b hb).1.1
  generalize hce : compEnvC scope (cellsFrom (s3.heap.objs.size + 1) scope.names (cloFrom X.env.cells scope.names [])) s3.heap.objs.size X.env = ce at I4 pg pt pk pe ⊢
  have cL : ce.locals = s3.heap.objs.size := by subst hce; rfl
  generalize hH3 : upd H2 D (.dT []) = H3 at I3 I4 pg pt pk pe w0 nfp f3
  generalize hs4 : ({ s3 with heap := pushCells (s3.heap.push { cls := .type "dict", data := .dict #[] }) scope.names } : Shared) = s4 at I4 ⊢
  have st4 : tn 0 s4.heap := T.keep _ _ _ st3 fun b _ o e => by rw [← hs4]; exact pushCells_keeps _ _ _ _ (Heap.get?_push_of_some _ e)
  have stat : ∀ {σ' : L2.St} {H' : Hp} {s' : Shared}, Inv (X.blk s3 H3 scope ce fp) [] σ' H' s' → (∀ b ∈ fp, H' b = none) → ∀ b ∈ fp, FpOk (X.blk s3 H3 scope ce fp) [] H' b := fun {σ' H' s'} I' hn b hb =>
    ⟨hn b hb, (I'.ok.exf b hb).1, I'.ok.exfs b hb, .inl hb, fun x c e => (I'.ok.exf b hb).2 x c e, fun p hp => absurd (show p ∈ ([] : List (Addr × Obj)) ++ [] from hp) (by simp)⟩
  have loop : codeAny (model X.prog X.w) X.A (.compLoop (.DictComp kx vx [⟨tg, iter, ifs, 0⟩] scope pos) 0 (.ref it) (.ref D) ce) (compPost (model X.prog X.w) X.A X.xe use Qf (.ref D) s3.heap.objs.size) s4 := by
    refine compLoop_anyD (fun n s' => ∃ i H', Inv (X.blk s3 H3 scope ce fp) [] (wipe σ (own.map (·.2))) H' s' ∧ tn i s'.heap ∧ (∀ b ∈ fp, H' b = none) ∧ W i n H') ?_ m0 ⟨0, H3, I4, st4, nfp, w0⟩
    rintro n s5 ⟨i, H5, I5, st5, n5, w5⟩
    rcases turn i n H5 w5 with ⟨stop, qq⟩ | ⟨go, Nx, hNx, step⟩
    · have td := T.done (X.blk s3 H3 scope ce fp) rfl rfl rfl hc i [] s5 _ H5 (fun _ _ => False) I5 (stat I5 n5) st5 stop
      refine thnF td fun r s6 ⟨hr, I6⟩ => ?_
      subst hr
      -- back in the def's context
      have I7 : Inv X pins σ H5 s6 := I3.call' (ch := fp) I6.os I6.base I6.hok I6.bare fun b hb => ⟨(f3 b hb).1.2.2.2.1, (f3 b hb).1.2.1, (f3 b hb).1.2.2.2.2.1, (f3 b hb).1.2.2.2.2.2⟩
      have nC : H5 s3.heap.objs.size = none := by
        have z : H5 ce.locals = none := I6.free
        rw [cL] at z
        exact z
      obtain ⟨m, hn, _⟩ := I6.loc
      have hn : s6.heap.Ns ce.locals m := hn
      rw [cL] at hn
      exact hRR D s3.heap.objs.size s6 m H5 I7 qq hn (I3.fpOk (Nat.le_refl _) nC)
    · have ti := T.item (X.blk s3 H3 scope ce fp) rfl rfl rfl hc i [] s5 _ H5 (fun _ _ => False) I5 (stat I5 n5) st5 go
      refine thnF ti fun r s6 ⟨u, hr, h6⟩ => ?_
      subst hr
      refine thnF h6 fun _ s7 ⟨x, H7, I7, r7, y7, st7, n7⟩ => ?_
      have I7' := I7.pinned (stat I7 n7) (T.obj _ _ st7)
      refine thnF (pg.run _ s7 _ H7 x u _ I7' r7 (step x H7 y7)) fun _ s8 ⟨σ8, H8, I8, hw8, q8⟩ => ?_
      refine thnF (pt.run _ s8 σ8 H8 _ I8 q8) fun b s9 ⟨H9, I9, q9⟩ => ?_
      -- the turn's end
      have fin : ∀ {s' : Shared} {H' : Hp}, Inv (X.blk s3 H3 scope ce fp) ([] ++ pinsAt fp s7.heap) σ8 H' s' → Nx H' → ∃ m, m < n ∧ ∃ i H', Inv (X.blk s3 H3 scope ce fp) [] (wipe σ (own.map (·.2))) H' s' ∧ tn i s'.heap ∧ (∀ b ∈ fp, H' b = none) ∧ W i m H' := fun {s' H'} I' nx => by
        obtain ⟨m', hm, w'⟩ := hNx H' nx
        have pin' : ∀ b ∈ fp, ∀ o, s7.heap.get? b = some o → s'.heap.get? b = some o ∧ H' b = none := fun b hb o e =>
          let z := I'.pin (b, o) (List.mem_append_right _ (List.mem_append_right _ (mem_pinsAt hb e)))
          ⟨z.1, z.2.1⟩
        have hl : (wipe σ (own.map (·.2))).length = σ8.length := by rw [← hw8, wipe_length]
        refine ⟨m', hm, i + 1, H', (I'.unpinned (pins := [])).weak hl (fun j v e => ?_), T.keep _ _ _ st7 fun b hb o e => (pin' b hb o e).1, fun b hb => ?_, w'⟩
        · rw [← hw8] at e
          exact (wipe_some e).1
        · obtain ⟨o, e, _⟩ := T.obj _ _ st7 b hb
          exact (pin' b hb o e).2
      cases b with
      | false =>
        simp only [Bool.false_eq_true, if_false] at q9 ⊢
        exact fin I9 q9
      | true =>
        simp only [if_true] at q9 ⊢
        refine thnF (pk.run _ s9 σ8 H9 _ I9 q9) fun z s10 ⟨yk, H10, I10, r10, q10⟩ => ?_
        refine thnF (pe.run _ s10 σ8 H10 _ I10 q10) fun z2 s11 ⟨yv, H11, I11, r11, kvs, k, b, ek, hb11, hD11, hz11, nx⟩ => ?_
        subst ek
        cases r10
        exact d_dictSetT (X := X.blk s3 H3 scope ce fp) hu I11 hD11 hb11 hz11 r11 fun s12 I12 => fin I12 nx
  exact codeAny_compStart_dict loop (T.self X.A 0 _ _ _ st4 loop)
/-- as a value -/
theorem pe_dcT {kx vx tg iter : Expr} {ifs : List Expr} {scope : Scope} {own : List (Str × Nat)} {pos : Pos} {wi : TI} {g : TG} {tt : TT} {tk tv : TE} (hu : X.A.units + 1 < cLine) (hc : X.calm = true) (hN : X.N.Nodup) (hi : PI X tg iter wi) (ok : BlkOk X.N X.env.scope scope own)
    (hg : ∀ (s : Shared) (H : Hp) (C : Addr) (cl : List (Str × Addr)) (fp : List Addr), PG (X.blk s H scope (compEnvC scope cl C X.env) fp) tg g) (ht : ∀ (s : Shared) (H : Hp) (C : Addr) (cl : List (Str × Addr)) (fp : List Addr), PTs (X.blk s H scope (compEnvC scope cl C X.env) fp) ifs tt)
    (hk : ∀ (s : Shared) (H : Hp) (C : Addr) (cl : List (Str × Addr)) (fp : List Addr), PE (X.blk s H scope (compEnvC scope cl C X.env) fp) kx tk)
    (he : ∀ (s : Shared) (H : Hp) (C : Addr) (cl : List (Str × Addr)) (fp : List Addr), PE (X.blk s H scope (compEnvC scope cl C X.env) fp) vx tv) (hs : ∀ x, foldedSetIterable iter X.env x = pure x := by intro _; rfl) :
    PE X (.DictComp kx vx [⟨tg, iter, ifs, 0⟩] scope pos) (tDcT wi g tt tk tv (own.map (·.2))) := by
  refine ⟨fun pins s σ H Q I h => ?_⟩
  rw [arm_eval_DictComp]
  refine dcT_core hu hc hN I hi ok hg ht hk he hs h fun D C s' m H' I' q hn f => ⟨m, hn, fun h'' sb => ?_⟩
  obtain ⟨f0, f1, f2, f3, f4, f5⟩ := f
  exact ⟨.ref D, H', I'.turned (t' := s'.toks) (fun b o hb e => (sb.2 b hb).trans e) f0 f1 f3 f4 f5, rfl, q⟩
end
end G
/-! G5: d.items() walked, d.pop(k), keys tuples; a tuple times 0 or 1. -/
namespace G
open PySem PySem.Spec PyProof.Rows L2 Evl
section
variable {X : Cx} {pins : List (Addr × Obj)} {σ : L2.St} {H : Hp} {s : Shared} {d : Addr} {o : Obj}
/-- a locked dict with tuple keys: its entries -/
theorem frzT2 {kvs : List (List Key × V)} (I : Inv X pins σ H s) (h : H d = some (.frz o (.dT kvs))) :
    (d == sysModules) = false ∧ s.heap.get? d = some o ∧ o.ExactDict ∧ ∃ (es : Array DictEntry) (ep : Nat), o.data = .dict es ep ∧ es.size = kvs.length ∧
      ∀ (i : Nat) (k : List Key) (v : V), kvs[i]? = some (k, v) → ∃ (en : DictEntry) (q : Addr), es[i]? = some en ∧ en.key = .ref q ∧ H q = some (.tup (k.map kV)) ∧ RelV v en.val := by
  obtain ⟨hd, z, hs, xs, pr, o', es, ep, ho, hx, hdt, he, _⟩ := I.hok d _ h
  rw [hd] at ho
  cases ho
  refine ⟨hs, hd, hx, es, ep, hdt, ?_, fun i k v e => ?_⟩
  · have l1 : es.size = xs.length := size_of_entries he
    have l2 : kvs.length = xs.length := Paired.length pr
    omega
  · obtain ⟨b, hb, e1, e2, e3⟩ := paired_get pr e
    have q := entry_at he i
    rw [hb] at q
    exact ⟨_, b.2.1, q, rfl, e2, e3⟩
end
def ItiT (d : Addr) (o : Obj) (kvs : List (List Key × V)) : It :=
  ⟨fun i H => H d = some (.frz o (.dT kvs)) ∧ i < kvs.length, fun i H x H' => ∃ T k v q, kvs[i]? = some (k, v) ∧ x = .ref T ∧ H T = none ∧ H q = some (.tup (k.map kV)) ∧ H' = upd H T (.tup [.ref q, v]), fun i H => H d = some (.frz o (.dT kvs)) ∧ kvs.length ≤ i⟩
section
variable {P : Program} {w : World} {K : PySem.W.Frag} {d : Addr} {o : Obj} {es : Array DictEntry} {ep : Nat}
theorem turn_itemsT {kvs : List (List Key × V)} {elts : List Expr} {kk : Nat} {tpos : Pos} (it : Addr) (hod : o.data = .dict es ep) :
    Turn P w K (.Tuple elts kk tpos) (ItiT d o kvs) [it] it (fun i h => ∃ ok ov, IsItemIter h it d i kvs.length ep ok ov) where
  mem := by simp
  obj := fun i h st b hb => by
    have e : b = it := by simpa using hb
    subst e
    obtain ⟨ok, ov, e⟩ := st
    exact ⟨_, e, fun v z => nomatch z⟩
  keep := fun i h h' st k => let ⟨ok, ov, e⟩ := st; ⟨ok, ov, k it (by simp) _ e⟩
  item := by
    intro X hP hw hK hc i pins s σ H E I hf st hg
    subst hP hw hK
    obtain ⟨hd, hi⟩ := hg
    obtain ⟨hs, hgd, hx, es', ep', hdt, hsz, ent⟩ := frzT2 I hd
    obtain ⟨rfl, rfl⟩ := dict_ep hod hdt
    obtain ⟨⟨k, v⟩, hkv⟩ : ∃ p, kvs[i]? = some p := ⟨kvs[i], List.getElem?_eq_getElem hi⟩
    obtain ⟨en, q, hen, hkey, hq, hval⟩ := ent i k v hkv
    obtain ⟨ok, ov, he⟩ := st
    rw [← hsz] at he
    have hlt : it < s.heap.objs.size := Heap.lt_size he
    have hi' : i < es'.size := by rw [hsz]; exact hi
    have een : es'[i] = en := by
      rw [Array.getElem?_eq_getElem hi'] at hen
      exact Option.some.inj hen
    refine DT.nextI he ⟨o, hgd, hx, hdt⟩ hi' fun h' ho hT hz hk => ?_
    rw [een] at ho hT
    refine ⟨_, rfl, wpAny_letOwnedTupleGo_items (s := { s with heap := h' }) ho fun h'' he' sb => ?_⟩
    have hT2 : h''.get? s.heap.objs.size = some { cls := .type "tuple", data := .seq #[en.key, en.val] } := (sb.2 _ (Nat.ne_of_gt hlt)).trans hT
    have new : ObjOk X.prog X.w (upd H s.heap.objs.size (.tup [.ref q, v])) h'' s.heap.objs.size (.tup [.ref q, v]) :=
      ⟨by show 2 ≤ sizeLine; decide, [en.key, en.val], .cons hkey (.cons hval .nil), ⟨_, hT2, rfl, _, rfl⟩⟩
    have I1 : Inv X pins σ (upd H s.heap.objs.size (.tup [.ref q, v])) { s with heap := h'' } :=
      I.turnedNew (t' := s.toks) (ch := [it]) (fun b ob hb e => (sb.2 b (by simpa using hb)).trans (hk b ob (by simpa using hb) e)) hf (Nat.le_refl _) new
    refine ⟨.ref s.heap.objs.size, _, I1, rfl, ⟨_, k, v, q, hkv, rfl, I.hok.fresh (Nat.le_refl _), hq, rfl⟩, ⟨en.key, en.val, ?_⟩, fun b hb => ?_⟩
    · rw [← hsz]; exact he'
    · have e : b = it := by simpa using hb
      rw [e, upd_ne (Nat.ne_of_lt hlt)]
      exact (hf it (by simp)).1
  done := by
    intro X hP hw hK hc i pins s σ H E I hf st hg
    subst hP hw hK
    obtain ⟨hd, hi⟩ := hg
    obtain ⟨f0, f1, f2, f3, f4, f5⟩ := hf it (by simp)
    obtain ⟨hs, hgd, hx, es', ep', hdt, hsz, ent⟩ := frzT2 I hd
    obtain ⟨rfl, rfl⟩ := dict_ep hod hdt
    obtain ⟨ok, ov, he⟩ := st
    rw [← hsz] at he
    exact DT.endI (I.ok.hd hc) he ⟨o, hgd, hx, hdt⟩ (by omega) fun h' eb => ⟨rfl, I.turned (t' := s.toks) (fun b ob hb e => eb b ob hb e) f0 f1 f3 f4 f5⟩
  self := fun A i s Q E st h => let ⟨_, _, e⟩ := st; PySem.W.kcp_self e h
end
def iItemsT (td : TE) : TI := fun σ H R => td σ H fun x H1 => ∃ d o kvs, x = .ref d ∧ H1 d = some (.frz o (.dT kvs)) ∧ R (ItiT d o kvs) H1
theorem pi_itemsT {X : Cx} {e : Expr} {td : TE} {apos cpos tpos : Pos} {elts : List Expr} {kk : Nat} (he : PE X e td) (hbase : attributeBase e "items" X.env (eval e X.env) = eval e X.env := by rfl) (hline : (apos.endLine == cpos.line) = true := by rfl) :
    PI X (.Tuple elts kk tpos) (.Call (.Attribute e "items" apos) [] [] cpos) (iItemsT td) := by
  refine ⟨fun pins s σ H R I h => ?_⟩
  refine wpAny_Call_method (T := "dict") (id := "dict.items") hbase rfl hline F.plainAttrs_dict F.slot_dict_items F.type_dict_items (thn (he.run pins s σ H _ I h) fun u s1 ⟨x, H1, I1, rx, d, o, kvs, ex, hd, q⟩ => ?_)
  subst ex
  obtain rfl : u = Value.ref d := rx
  obtain ⟨hs, hgd, hx, es, ep, hdt, hsz, ent⟩ := frzT2 I1 hd
  have hraw : DT.Raw s1.heap d es ep := ⟨o, hgd, hx, hdt⟩
  refine ⟨hraw.typeIs, fun b e => by cases e; exact ⟨o, hgd, hx.2.1⟩, ?_⟩
  have I2 : Inv X pins σ H1 { s1 with heap := s1.heap.push { cls := .type "dict_items", data := .fields #[.ref d] } } := I1.kept (t' := s1.toks) fun b ob q => Heap.get?_push_of_some _ q
  have fin : wpAny (model X.prog X.w) X.A (pyIter (.ref s1.heap.objs.size)) (PIE X pins σ (.Tuple elts kk tpos) R) X.xe { s1 with heap := s1.heap.push { cls := .type "dict_items", data := .fields #[.ref d] } } := by
    refine DT.iterI (d := d) (es := es) (ep := ep) ⟨_, Heap.get?_push_size _ rfl, rfl, rfl⟩ (hraw.push _) (pi_one (tk := s1.toks) I2 _ (turn_itemsT _ hdt) ⟨.none, .none, ?_⟩ q)
    rw [← hsz]
    exact Heap.get?_push_size _ rfl
  show wpAny _ _ (callWith cpos (.builtin "dict.items") [.ref d] [] []) _ X.xe s1
  exact method_meetsIn F.slot_dict_items F.entry_dict_items rfl (PySem.evalArgs_none ⟨rfl, hraw.typeIs, F.args_dict_items_1 _, _, DT.meetsItems (es := es) (ep := ep) hs, hraw, fin⟩)

/-! d.pop(k), there -/
section
variable {K : Type} [DecidableEq K] {prog : Program} {w : World} {knd : HeapKind prog w K}
theorem meetsPop1 {d b : Addr} {k : K} (hd : (d == sysModules) = false) :
    MeetsIn prog w (Builtin.«dict.pop» ⟨[.ref d, .ref b], []⟩) (fun A R s => ∃ xs, knd.room A.in1 ∧ knd.is s.heap k b ∧ s.heap.DictOfH knd d xs ∧ xs.length ≤ sizeLine ∧
      ∃ p, atKey xs k = some p ∧ ∀ h' tk, h'.DictOfH knd d (DT.dropH xs k) → Heap.SameBut d s.heap h' → R (.ok (.ret p.2)) { s with heap := h', toks := tk }) :=
  .of_wp fun A R s ⟨xs, hu, hkey, hm, hsz, p0, hp0, hsome⟩ => by
    obtain ⟨o, es, ep, ho, hc, hdat, he, his, hn⟩ := id hm
    have hes : es.size = xs.length := size_of_entries he
    have hpart : (keyPart (Value.ref b)).isSome = false := rfl
    unfold Builtin.«dict.pop»
    refine wpAny_bind ?_
    unfold Builtin.Dict.keyAndDefault
    refine wpAny_bind (wpAny_notOrdered_dict hm.typeIs ?_)
    show wpAny _ _ (pure (d, Value.ref b, none)) _ _ s
    refine wpAny_pure ?_
    simp only [hpart, Bool.false_eq_true, if_false]
    refine wpAny_bind (wpAny_dictEntries ho hdat (wpAny_bind (wpAny_pure ?_)))
    have hem : es.isEmpty = false := by
      cases hem : es.isEmpty with
      | false => rfl
      | true =>
        have h0 : xs = [] := by
          have z : es.size = 0 := by simpa using hem
          exact List.length_eq_zero_iff.mp (by omega)
        rw [h0] at hp0
        cases hp0
    simp only [hem, Bool.false_eq_true, if_false]
    refine wpAny_bind (DT.takeH hu hkey hm hsz (fun hno => by rw [hp0] at hno; cases hno) fun p e hp hev h' hm' hs' => ?_)
    simp only [Option.isNone_some, Bool.false_eq_true, if_false]
    rw [hp0] at hp
    cases hp
    exact wpAny_bind (wpAny_letGo (wpAny_pure ⟨e.val, rfl, by rw [hev]; exact hsome h' _ hm' hs'⟩))
end
section
variable {X : Cx}
def rPopT1 : V → List V → Hp → VK → Prop := fun x xs H Q => ∃ (a : Addr) (kvs : List (List L2.Key × V)) (k : List L2.Key) (b : Addr) (v : V), x = .ref a ∧ xs = [.ref b] ∧ H a = some (.dT kvs) ∧ H b = some (.tup (k.map kV)) ∧
  valV kvs k = some v ∧ Q v (upd H a (.dT (dropK kvs k)))
theorem mt_popT1 (hu : X.A.units + 1 < cLine) : MtR X "dict.pop" rPopT1 := by
  intro pins s σ H x xs v us Q I rx rxs h
  obtain ⟨a, kvs, k, b, v0, rfl, rfl, ha, hb, hv, q1⟩ := h
  cases rx
  rw [Vals.ref1 rxs]
  obtain ⟨z, hd, xs', rel, dd⟩ := dt_of I.hok ha
  have hz : xs'.length ≤ sizeLine := by rw [← Paired.length rel]; exact z
  have r := rel.val k
  rw [hv] at r
  obtain ⟨p, hp⟩ : ∃ p, atKey xs' k = some p := by
    cases e : atKey xs' k with
    | none => rw [e] at r; exact (show False from r).elim
    | some p => exact ⟨p, rfl⟩
  rw [hp] at r
  refine call_meetsIn PySem.F.slot_dict_pop dd.typeIs PySem.F.entry_dict_pop (PySem.F.args_dict_pop_2 _ _) (meetsPop1 (knd := tupleKind (mixKind X.prog X.w)) (k := k) hd)
    ⟨xs', tupleKind_room_in1 hu, key_of I.hok hb, dd, hz, p, hp, fun h' tk dd' hs => ?_⟩
  obtain ⟨o, es, ep, hq, h2, h3, h4, _, h5⟩ := dd'
  have I2 : Inv X pins σ (upd H a (.dT (dropK kvs k))) { s with heap := h', toks := tk } :=
    d_write I (by rw [ha]; exact True.intro) hs ⟨o, hq⟩ ⟨Nat.le_trans (dropK_le kvs k) z, hd, _, (DX.KT_drop k rel).keeps (fun c ys ec => (by rw [upd_ne (ne_of ec ha (fun z => nomatch z))]; exact ec)), o, es, ep, hq, h2, h3, h4, h5⟩
  exact ⟨v0, _, I2, r, q1⟩
end
end G
/-! G6: a tuple times 0 or 1. -/
namespace G
open PySem PySem.Spec PyProof.Rows L2 Evl
theorem tuple_mul1 (l : Addr) (items : Array Value) (n : Nat) (dd : Option Addr) (sl : Array (Option Value)) (x : Int) (u : Tok) (c0 : (decide (x < -(2 ^ 63)) || decide (x ≥ 2 ^ 63)) = false) (c1 : (items.isEmpty || x == 1) = true) :
    Meets (Builtin.«tuple.__mul__» ⟨[.ref l, .int x u], []⟩) (fun _ R s => s.heap.get? l = some { cls := .type "tuple", dict := dd, data := .seq items n, slots := sl } ∧ R (.ok (.ret (Value.ref l))) s) :=
  .of_wp fun prog w A R s h => by
    obtain ⟨hp, g, d, tk, os⟩ := s
    obtain ⟨hl, h⟩ := h
    have f1 := AutoSeq1.idx_int
    wp_walk using wpAny_loadPart' hl
    repeat (first
      | (refine wpAny_ite_false (decide_eq_false (by rw [c0]; exact Bool.false_ne_true)) ?_; wp_walk using wpAny_loadPart' hl)
      | (refine wpAny_ite_true (decide_eq_true c1) ?_; wp_walk using wpAny_loadPart' hl))
    exact ⟨_, rfl, h⟩
theorem tuple_mul0 (l : Addr) (items : Array Value) (n : Nat) (dd : Option Addr) (sl : Array (Option Value)) (x : Int) (u : Tok) (c0 : (decide (x < -(2 ^ 63)) || decide (x ≥ 2 ^ 63)) = false) (c1 : (items.isEmpty || x == 1) = false) (c2 : (decide (x ≤ 0) || items.isEmpty) = true) :
    Meets (Builtin.«tuple.__mul__» ⟨[.ref l, .int x u], []⟩) (fun _ R s => s.heap.get? l = some { cls := .type "tuple", dict := dd, data := .seq items n, slots := sl } ∧ R (.ok (.ret (Value.ref s.heap.objs.size))) { s with heap := s.heap.push { cls := Value.type "tuple", data := Data.seq #[] }, toks := s.toks }) :=
  .of_wp fun prog w A R s h => by
    obtain ⟨hp, g, d, tk, os⟩ := s
    obtain ⟨hl, h⟩ := h
    have f1 := AutoSeq1.idx_int
    wp_walk using wpAny_loadPart' hl
    repeat (first
      | (refine wpAny_ite_false (decide_eq_false (by rw [c0]; exact Bool.false_ne_true)) ?_; wp_walk using wpAny_loadPart' hl)
      | (refine wpAny_ite_false (decide_eq_false (by rw [c1]; exact Bool.false_ne_true)) ?_; wp_walk using wpAny_loadPart' hl)
      | (refine wpAny_ite_true (decide_eq_true c2) ?_; wp_walk using wpAny_loadPart' hl))
    exact ⟨_, rfl, h⟩
theorem op_repT1 {X : Cx} : OpR X (binaryOp .Mult) (rRepT1 X.K) := by
  intro pins s σ H x y v u Q I rx ry h
  obtain ⟨l, k, xs, rfl, rfl, hT, hne, h1, h2, hz, q1, q0⟩ := h
  cases rx
  obtain ⟨t, rfl⟩ := ry
  obtain ⟨its, r, ⟨⟨cls, dd, data, sl⟩, ho, hc, n, hd⟩, hs⟩ := I.tuple hT
  simp only at hc hd
  subst hc hd
  have hle : its.length = xs.length := r.length.symm
  have hn : its ≠ [] := fun e => hne (by
    rw [e] at hle
    exact List.eq_nil_of_length_eq_zero hle.symm)
  have hi : its.toArray.isEmpty = false := by
    cases its with
    | nil => exact absurd rfl hn
    | cons a b => rfl
  have c0 : (decide (k < -(2 ^ 63)) || decide (k ≥ 2 ^ 63)) = false := by
    rw [decide_eq_false (by omega), decide_eq_false (by omega)] <;> rfl
  by_cases hk : k = 1
  · have c1 : (its.toArray.isEmpty || k == 1) = true := by rw [hi, hk]; rfl
    refine wpAny_binaryOp_repeat_ref (T := "tuple") (U := "int") (by decide) ⟨_, ho, rfl⟩ (fun s' => typeIs_int s' k t) noFill_tuple_mul F.fills_int_mul F.slot_int_rmul repeat_tuple F.slot_int_index.lookup
      (call_meets F.slot_int_rmul (typeIs_int s k t) F.entry_int_rmul (F.args_int_rmul_2 _ _) (int_rmul_tuple k t l its.toArray n dd sl)
        ⟨ho, rfl, ⟨_, ho, rfl⟩, call_meets F.slot_tuple_mul ⟨_, ho, rfl⟩ F.entry_tuple_mul (F.args_tuple_mul_2 _ _) (tuple_mul1 l its.toArray n dd sl k t c0 c1) ⟨ho, ?_⟩⟩)
    exact ⟨.ref l, H, I, rfl, q1 hk⟩
  · have c1 : (its.toArray.isEmpty || k == 1) = false := by
      rw [hi, Bool.false_or]
      exact beq_eq_false_iff_ne.mpr hk
    have c2 : (decide (k ≤ 0) || its.toArray.isEmpty) = true := by
      rw [decide_eq_true (by omega)]
      rfl
    refine wpAny_binaryOp_repeat_ref (T := "tuple") (U := "int") (by decide) ⟨_, ho, rfl⟩ (fun s' => typeIs_int s' k t) noFill_tuple_mul F.fills_int_mul F.slot_int_rmul repeat_tuple F.slot_int_index.lookup
      (call_meets F.slot_int_rmul (typeIs_int s k t) F.entry_int_rmul (F.args_int_rmul_2 _ _) (int_rmul_tuple k t l its.toArray n dd sl)
        ⟨ho, rfl, ⟨_, ho, rfl⟩, call_meets F.slot_tuple_mul ⟨_, ho, rfl⟩ F.entry_tuple_mul (F.args_tuple_mul_2 _ _) (tuple_mul0 l its.toArray n dd sl k t c0 c1 c2) ⟨ho, ?_⟩⟩)
    refine ⟨.ref s.heap.objs.size, _, I.laid (t' := s.toks) (o := .tup []) (fun b ob q => Heap.get?_push_of_some _ q) (Nat.le_refl _) ?_, rfl, q0 (by omega) _ (I.hok.fresh (Nat.le_refl _))⟩
    exact ⟨Nat.zero_le _, [], .nil, IsTup.new _ _⟩
/-- a tuple times any small number -/
def rRepA (K : PySem.W.Frag) : R2 := fun x y H Q => rRepT1 K x y H Q ∨ rRepT K x y H Q
theorem op_repA {X : Cx} : OpR X (binaryOp .Mult) (rRepA X.K) := by
  intro pins s σ H x y v u Q I rx ry h
  rcases h with h | h
  · exact op_repT1 pins s σ H x y v u Q I rx ry h
  · exact op_repT pins s σ H x y v u Q I rx ry h
end G
/-! G7: sorted lists as functions; built-ins by data. -/
namespace G
open PySem PySem.Spec PyProof.Rows L2 Evl

/-! ### insertion sort of ints -/
def ins (x : Int) : List Int → List Int
  | [] => [x]
  | y :: r => if x ≤ y then x :: y :: r else y :: ins x r
def isort : List Int → List Int
  | [] => []
  | x :: r => ins x (isort r)
theorem ins_perm (x : Int) : ∀ l, (ins x l).Perm (x :: l)
  | [] => .refl _
  | y :: r => by
    unfold ins
    split
    · exact .refl _
    · exact ((ins_perm x r).cons y).trans (.swap x y r)
theorem isort_perm : ∀ l, (isort l).Perm l
  | [] => .refl _
  | x :: r => (ins_perm x (isort r)).trans ((isort_perm r).cons x)
theorem ins_sorted (x : Int) : ∀ l : List Int, l.Pairwise (· ≤ ·) → (ins x l).Pairwise (· ≤ ·)
  | [], _ => List.pairwise_singleton _ _
  | y :: r, h => by
    unfold ins
    obtain ⟨h1, h2⟩ := List.pairwise_cons.mp h
    split
    · rename_i hx
      refine List.pairwise_cons.mpr ⟨fun z hz => ?_, h⟩
      rcases List.mem_cons.mp hz with e | hz
      · rw [e]; exact hx
      · have := h1 z hz; omega
    · rename_i hx
      refine List.pairwise_cons.mpr ⟨fun z hz => ?_, ins_sorted x r h2⟩
      rcases List.mem_cons.mp ((ins_perm x r).mem_iff.mp hz) with e | hz
      · rw [e]; omega
      · exact h1 z hz
theorem isort_sorted : ∀ l, (isort l).Pairwise (· ≤ ·)
  | [] => .nil
  | x :: r => ins_sorted x _ (isort_sorted r)
theorem sorted_unique : ∀ {a b : List Int}, a.Perm b → a.Pairwise (· ≤ ·) → b.Pairwise (· ≤ ·) → a = b := fun {a b} p h1 h2 =>
  p.eq_of_pairwise (fun x y _ _ h h' => Int.le_antisymm h h') h1 h2
theorem isort_eq {a b : List Int} (p : b.Perm a) (h : b.Pairwise (· ≤ ·)) : b = isort a := sorted_unique (p.trans (isort_perm a).symm) h (isort_sorted a)
theorem isort_length (l : List Int) : (isort l).length = l.length := (isort_perm l).length_eq

/-! ### sets of tuples, sorted -/
abbrev cd (l : List Int) : Int := TS.code 64 l
def insU (x : List Int) : List (List Int) → List (List Int)
  | [] => [x]
  | y :: r => if cd x < cd y then x :: y :: r else if cd x = cd y then y :: r else y :: insU x r
def ssort : List (List Int) → List (List Int)
  | [] => []
  | x :: r => insU x (ssort r)
theorem code_inj : ∀ {a b : List Int}, a.length = b.length → TS.Bd 64 a → TS.Bd 64 b → cd a = cd b → a = b
  | [], [], _, _, _, _ => rfl
  | x :: a, y :: b, hl, ha, hb, e => by
    have hl' : a.length = b.length := by simpa using hl
    have ha' : TS.Bd 64 a := fun m hm => ha m (List.mem_cons_of_mem _ hm)
    have hb' : TS.Bd 64 b := fun m hm => hb m (List.mem_cons_of_mem _ hm)
    rcases Int.lt_trichotomy x y with h | h | h
    · have := TS.code_lt hl' ha' hb' h
      rw [show TS.code 64 (x :: a) = TS.code 64 (y :: b) from e] at this
      omega
    · subst h
      have z : cd a = cd b := by
        rcases Int.lt_trichotomy (cd a) (cd b) with h | h | h
        · have := (TS.code_same (d := x) hl').mpr h
          rw [show TS.code 64 (x :: a) = TS.code 64 (x :: b) from e] at this
          omega
        · exact h
        · have := (TS.code_same (d := x) hl'.symm).mpr h
          rw [show TS.code 64 (x :: a) = TS.code 64 (x :: b) from e] at this
          omega
      rw [code_inj hl' ha' hb' z]
    · have := TS.code_lt hl'.symm hb' ha' h
      rw [show TS.code 64 (x :: a) = TS.code 64 (y :: b) from e] at this
      omega
theorem insU_mem {d : Nat} {x : List Int} (hx : x.length = d ∧ TS.Bd 64 x) : ∀ {l : List (List Int)}, (∀ y ∈ l, y.length = d ∧ TS.Bd 64 y) → ∀ z, z ∈ insU x l ↔ z = x ∨ z ∈ l
  | [], _, z => by simp [insU]
  | y :: r, h, z => by
    unfold insU
    split
    · simp
    · split
      · rename_i _ e
        have hy := h y List.mem_cons_self
        have : x = y := code_inj (hx.1.trans hy.1.symm) hx.2 hy.2 e
        subst this
        simp
      · rw [List.mem_cons, insU_mem hx (fun y hy => h y (List.mem_cons_of_mem _ hy)), List.mem_cons]
        constructor
        · rintro (a | a | a)
          · exact .inr (.inl a)
          · exact .inl a
          · exact .inr (.inr a)
        · rintro (a | a | a)
          · exact .inr (.inl a)
          · exact .inl a
          · exact .inr (.inr a)
theorem ssort_mem {d : Nat} : ∀ {l : List (List Int)}, (∀ y ∈ l, y.length = d ∧ TS.Bd 64 y) → ∀ z, z ∈ ssort l ↔ z ∈ l
  | [], _, z => by simp [ssort]
  | x :: r, h, z => by
    have h' : ∀ y ∈ r, y.length = d ∧ TS.Bd 64 y := fun y hy => h y (List.mem_cons_of_mem _ hy)
    unfold ssort
    rw [insU_mem (h x List.mem_cons_self) (fun y hy => h' y ((ssort_mem h' y).mp hy)), ssort_mem h', List.mem_cons]
theorem insU_sorted (x : List Int) : ∀ {l : List (List Int)}, l.Pairwise (fun a b => cd a < cd b) → (insU x l).Pairwise (fun a b => cd a < cd b) ∧ ∀ z ∈ insU x l, z = x ∨ z ∈ l
  | [], _ => ⟨List.pairwise_singleton _ _, fun z hz => by simpa [insU] using hz⟩
  | y :: r, h => by
    unfold insU
    obtain ⟨h1, h2⟩ := List.pairwise_cons.mp h
    split
    · rename_i hx
      refine ⟨List.pairwise_cons.mpr ⟨fun z hz => ?_, h⟩, fun z hz => by simpa using hz⟩
      rcases List.mem_cons.mp hz with e | hz
      · rw [e]; exact hx
      · have := h1 z hz; omega
    · split
      · exact ⟨h, fun z hz => .inr hz⟩
      · rename_i hx hx2
        obtain ⟨k1, k2⟩ := insU_sorted x h2
        refine ⟨List.pairwise_cons.mpr ⟨fun z hz => ?_, k1⟩, fun z hz => ?_⟩
        · rcases k2 z hz with e | hz
          · rw [e]; omega
          · exact h1 z hz
        · rcases List.mem_cons.mp hz with e | hz
          · exact .inr (by rw [e]; exact List.mem_cons_self)
          · rcases k2 z hz with e | hz
            · exact .inl e
            · exact .inr (List.mem_cons_of_mem _ hz)
theorem ssort_sorted : ∀ l : List (List Int), (ssort l).Pairwise (fun a b => cd a < cd b)
  | [] => .nil
  | x :: r => (insU_sorted x (ssort_sorted r)).1
theorem strict_unique : ∀ {a b : List (List Int)}, a.Pairwise (fun x y => cd x < cd y) → b.Pairwise (fun x y => cd x < cd y) → (∀ z, z ∈ a ↔ z ∈ b) → a = b := fun {a b} h1 h2 hm => by
  have n1 : a.Nodup := h1.imp fun h e => by rw [e] at h; omega
  have n2 : b.Nodup := h2.imp fun h e => by rw [e] at h; omega
  exact ((List.perm_ext_iff_of_nodup n1 n2).mpr hm).eq_of_pairwise (fun x y _ _ h h' => by omega) h1 h2
end G
/-! G8: operators and built-ins, by data. -/
namespace G
open PySem PySem.Spec PyProof.Rows L2 Evl
section
variable {K : PySem.W.Frag} {σ : L2.St} {B : Hp} {ta : TA} {te tb : TE} {ds es : List D} {P : Program} {w : World}
/-- lists of data as argument lists -/
abbrev rps (ds : List D) : RelA := fun B vs => RpA B vs ds
theorem rpa1 {v : List V} {d : D} (h : RpA B v [d]) : ∃ x, v = [x] ∧ Rp B x d := by
  cases h with
  | cons r a => cases a; exact ⟨_, rfl, r⟩
theorem rpa2 {v : List V} {d e : D} (h : RpA B v [d, e]) : ∃ x y, v = [x, y] ∧ Rp B x d ∧ Rp B y e := by
  cases h with
  | cons r a =>
    obtain ⟨y, rfl, ry⟩ := rpa1 a
    exact ⟨_, _, rfl, r, ry⟩
theorem rpa3 {v : List V} {d e f : D} (h : RpA B v [d, e, f]) : ∃ x y z, v = [x, y, z] ∧ Rp B x d ∧ Rp B y e ∧ Rp B z f := by
  cases h with
  | cons r a =>
    obtain ⟨y, z, rfl, ry⟩ := rpa2 a
    exact ⟨_, _, _, rfl, r, ry⟩
/-- t + u -/
theorem o_catT (hz : ds.length + es.length ≤ 100000) : OpD (rCatA K) (rp (.tuple ds)) (rp (.tuple es)) (rp (.tuple (ds ++ es))) := fun {B x y} r1 r2 F H o Q q => by
  obtain ⟨a, xs, rfl, ha, ra⟩ := r1.tup_inv
  obtain ⟨b, ys, rfl, hb, rb⟩ := r2.tup_inv
  refine ⟨a, b, xs, ys, rfl, rfl, st_of (o.ex _ _ ha), st_of (o.ex _ _ hb), sz_of (by rw [ra.length, rb.length]; exact hz), fun e => ?_, fun e e2 => ?_, fun e e2 p hp => ?_⟩
  · subst e
    cases ra
    exact q _ H (Ex.refl H) (r2.mono o.cut)
  · subst e2
    cases rb
    rw [List.append_nil] at q
    exact q _ H (Ex.refl H) (r1.mono o.cut)
  · exact q _ _ (Ex.new hp) (.tup (new_at o hp) ((ra.append rb).mono (o.cut.trans (cut_mono (Ex.new hp)))))
/-- slices of a tuple -/
def EvP (to : TO) (σ : L2.St) (B : Hp) (k : Option Int) : Prop := ∀ F H, Off F B H → ∀ Q : Option Int → Hp → Prop, (∀ H', Ex H H' → Q k H') → to σ H Q
theorem p_none : EvP tNoPart σ B none := fun F H o Q q => q H (Ex.refl H)
theorem p_some {i : Int} (h : EvD te σ B (.int i)) : EvP (tPart te) σ B (some i) := fun F H o Q q => h F H o _ fun v H1 e r => ⟨i, r.int_inv, q H1 e⟩
theorem d_slT {tl th : TO} {lo hi : Option Int} (h : EvD te σ B (.tuple ds)) (hl : EvP tl σ B lo) (hh : EvP th σ B hi) (r : List D)
    (hr : (ds.drop (HT.sIx ds.length 0 lo)).take (HT.sIx ds.length ds.length hi - HT.sIx ds.length 0 lo) = r) : EvD (tSl (rSlA K) te tl th) σ B (.tuple r) := fun F H o Q q =>
  h F H o _ fun v H1 e1 r1 => hl F H1 (o.go e1) _ fun H2 e2 => hh F H2 (o.go (e1.trans e2)) _ fun H3 e3 => by
    have o3 := o.next ((e1.trans e2).trans e3)
    obtain ⟨a, xs, rfl, ha, ra⟩ := (r1.mono (cut_mono (e2.trans e3))).tup_inv
    refine ⟨a, xs, rfl, st_of (cut_ex _ _ ha), fun e => ?_, fun e p hp => ?_⟩
    · rw [ra.length] at e
      rw [e.1, e.2] at hr
      simp at hr
      subst hr
      exact q _ _ ((e1.trans e2).trans e3) (.tup ha ra)
    · refine q _ _ (((e1.trans e2).trans e3).trans (Ex.new hp)) (.tup (new_at (o.go ((e1.trans e2).trans e3)) hp) ?_)
      unfold cutV
      rw [ra.length, ← hr]
      exact ((ra.drop _).take _).mono (cut_mono (Ex.new hp))
theorem sl_pre {n : Nat} {ds : List D} (h : n ≤ ds.length) : (ds.drop (HT.sIx ds.length 0 none)).take (HT.sIx ds.length ds.length (some (n : Int)) - HT.sIx ds.length 0 none) = ds.take n := by
  rw [HT.sIx_none, HT.sIx_nat, Nat.min_eq_left h]
  simp
theorem sl_post {n : Nat} {ds : List D} : (ds.drop (HT.sIx ds.length 0 (some (n : Int)))).take (HT.sIx ds.length ds.length none - HT.sIx ds.length 0 (some (n : Int))) = ds.drop n := by
  rw [HT.sIx_none, HT.sIx_nat]
  by_cases h : n ≤ ds.length
  · rw [Nat.min_eq_left h, List.take_of_length_le (by rw [List.length_drop]; exact Nat.le_refl _)]
  · rw [Nat.min_eq_right (by omega), List.drop_of_length_le (Nat.le_refl _), List.drop_of_length_le (by omega)]
    simp
/-- (d,) * k -/
theorem o_repT {d : D} {k : Int} (h1 : -1000 ≤ k) (h2 : k ≤ 1000) : OpD (rRepA K) (rp (.tuple [d])) (rp (.int k)) (rp (.tuple (List.replicate k.toNat d))) := fun {B x y} r1 r2 F H o Q q => by
  obtain ⟨a, xs, rfl, ha, ra⟩ := r1.tup_inv
  cases r2.int_inv
  obtain ⟨x, rfl, rx⟩ := rpa1 ra
  by_cases hk : k ≤ 1
  · refine .inl ⟨a, k, [x], rfl, rfl, st_of (o.ex _ _ ha), List.cons_ne_nil _ _, h1, hk, by show 1 ≤ 1000; decide, fun e => ?_, fun e p hp => ?_⟩
    · subst e
      exact q _ H (Ex.refl H) (r1.mono o.cut)
    · rw [show k.toNat = 0 by omega] at q
      exact q _ _ (Ex.new hp) (.tup (new_at o hp) .nil)
  · refine .inr ⟨a, k, [x], rfl, rfl, st_of (o.ex _ _ ha), List.cons_ne_nil _ _, by omega, h2, by show 1 ≤ 1000; decide, fun p hp => ?_⟩
    refine q _ _ (Ex.new hp) (.tup (new_at o hp) ?_)
    have z : ∀ n : Nat, RpA (cut F (upd H p (.tup (List.replicate k.toNat [x]).flatten))) (List.replicate n [x]).flatten (List.replicate n d) := fun n => by
      induction n with
      | zero => exact .nil
      | succ n ih =>
        rw [List.replicate_succ, List.replicate_succ]
        exact .cons (rx.mono (o.cut.trans (cut_mono (Ex.new hp)))) ih
    exact z _
/-- sum -/
theorem c_sumL {ns : List Int} : CallD (rSum K) (rps [lI ns]) (rp (.int ns.sum)) := fun {B xs} r F H o Q q => by
  obtain ⟨x, rfl, rx⟩ := rpa1 r
  obtain ⟨a, rfl, ha⟩ := rx.lI_inv
  exact ⟨a, ns, rfl, sq_of (o.ex _ _ ha), q _ H (Ex.refl H) (.int _)⟩
theorem c_sumT {ns : List Int} : CallD (rSumT K) (rps [tI ns]) (rp (.int ns.sum)) := fun {B xs} r F H o Q q => by
  obtain ⟨x, rfl, rx⟩ := rpa1 r
  obtain ⟨a, rfl, ha⟩ := rx.tI_inv
  exact ⟨a, ns, rfl, st_of (o.ex _ _ ha), q _ H (Ex.refl H) (.int _)⟩
/-- the least -/
def minI : List Int → Int
  | [] => 0
  | x :: r => r.foldl min x
theorem foldl_min : ∀ (r : List Int) (x : Int), (r.foldl min x = x ∨ r.foldl min x ∈ r) ∧ r.foldl min x ≤ x ∧ ∀ y ∈ r, r.foldl min x ≤ y
  | [], x => ⟨.inl rfl, Int.le_refl _, fun y hy => nomatch hy⟩
  | z :: r, x => by
    obtain ⟨h1, h2, h3⟩ := foldl_min r (min x z)
    have m1 : min x z ≤ x := Int.min_le_left _ _
    have m2 : min x z ≤ z := Int.min_le_right _ _
    refine ⟨?_, Int.le_trans h2 m1, fun y hy => ?_⟩
    · show r.foldl min (min x z) = x ∨ r.foldl min (min x z) ∈ z :: r
      rcases h1 with h1 | h1
      · rcases Int.le_total x z with q | q
        · exact .inl (by rw [h1, Int.min_eq_left q])
        · exact .inr (by rw [h1, Int.min_eq_right q]; exact List.mem_cons_self)
      · exact .inr (List.mem_cons_of_mem _ h1)
    · rcases List.mem_cons.mp hy with e | hy
      · rw [e]; exact Int.le_trans h2 m2
      · exact h3 y hy
theorem minI_eq {ns : List Int} {m : Int} (h : m ∈ ns) (hl : ∀ y ∈ ns, m ≤ y) : m = minI ns := by
  cases ns with
  | nil => cases h
  | cons x r =>
    obtain ⟨h1, h2, h3⟩ := foldl_min r x
    have a : minI (x :: r) ∈ x :: r := by
      rcases h1 with h1 | h1
      · rw [show minI (x :: r) = x from h1]; exact List.mem_cons_self
      · exact List.mem_cons_of_mem _ h1
    have b : minI (x :: r) ≤ m := by
      rcases List.mem_cons.mp h with e | h
      · rw [e]; exact h2
      · exact h3 m h
    exact Int.le_antisymm (hl _ a) b
theorem c_minT {ns : List Int} (hn : ns ≠ []) : CallD (rMinT K) (rps [tI ns]) (rp (.int (minI ns))) := fun {B xs} r F H o Q q => by
  obtain ⟨x, rfl, rx⟩ := rpa1 r
  obtain ⟨a, rfl, ha⟩ := rx.tI_inv
  refine ⟨a, ns, rfl, st_of (o.ex _ _ ha), List.length_pos_iff.mpr hn, fun m h1 h2 => ?_⟩
  rw [minI_eq h1 h2]
  exact q _ H (Ex.refl H) (.int _)
theorem c_minL {ns : List Int} (hn : ns ≠ []) : CallD (rMin K) (rps [lI ns]) (rp (.int (minI ns))) := fun {B xs} r F H o Q q => by
  obtain ⟨x, rfl, rx⟩ := rpa1 r
  obtain ⟨a, rfl, ha⟩ := rx.lI_inv
  refine ⟨a, ns, rfl, sq_of (o.ex _ _ ha), List.length_pos_iff.mpr hn, fun m h1 h2 => ?_⟩
  rw [minI_eq h1 h2]
  exact q _ H (Ex.refl H) (.int _)
/-- sorted -/
theorem c_sortL {ns : List Int} : CallD (rSortedI K) (rps [lI ns]) (rp (lI (isort ns))) := fun {B xs} r F H o Q q => by
  obtain ⟨x, rfl, rx⟩ := rpa1 r
  obtain ⟨a, rfl, ha⟩ := rx.lI_inv
  refine ⟨a, ns, rfl, sq_of (o.ex _ _ ha), fun ns' p h1 h2 hp => ?_⟩
  rw [isort_eq h1 h2]
  exact q _ _ (Ex.new hp) (.lI_mk (new_at o hp))
theorem c_sortT {ns : List Int} (h64 : ns.length < 64) : CallD (rSortTI K) (rps [tI ns]) (rp (lI (isort ns))) := fun {B xs} r F H o Q q => by
  obtain ⟨x, rfl, rx⟩ := rpa1 r
  obtain ⟨a, rfl, ha⟩ := rx.tI_inv
  refine ⟨a, ns, rfl, st_of (o.ex _ _ ha), h64, fun ns' p h1 h2 hp => ?_⟩
  rw [isort_eq h1 h2]
  exact q _ _ (Ex.new hp) (.lI_mk (new_at o hp))
/-- tuple(list), tuple(tuple) -/
def rTupleOf (K : PySem.W.Frag) : List V → Hp → VK → Prop := fun xs H Q => ∃ p ys, xs = [.ref p] ∧ ((SqL K H p ys ∧ ∀ l, H l = none → Q (.ref l) (upd H l (.tup ys))) ∨ (SqT K H p ys ∧ Q (.ref p) H))
theorem c_tupL : CallD (rTupleOf K) (rps [.list ds]) (rp (.tuple ds)) := fun {B xs} r F H o Q q => by
  obtain ⟨x, rfl, rx⟩ := rpa1 r
  obtain ⟨a, xs, rfl, ha, ra⟩ := rx.lst_inv
  exact ⟨a, xs, rfl, .inl ⟨sq_of (o.ex _ _ ha), fun l hl => q _ _ (Ex.new hl) (.tup (new_at o hl) (ra.mono (o.cut.trans (cut_mono (Ex.new hl)))))⟩⟩
theorem c_tupT : CallD (rTupleOf K) (rps [.tuple ds]) (rp (.tuple ds)) := fun {B xs} r F H o Q q => by
  obtain ⟨x, rfl, rx⟩ := rpa1 r
  obtain ⟨a, xs, rfl, ha, ra⟩ := rx.tup_inv
  exact ⟨a, xs, rfl, .inr ⟨st_of (o.ex _ _ ha), q _ H (Ex.refl H) (rx.mono o.cut)⟩⟩
/-- list(..) -/
def rListOf (K : PySem.W.Frag) : List V → Hp → VK → Prop := fun xs H Q => ∃ p ys, xs = [.ref p] ∧ (SqL K H p ys ∨ SqT K H p ys) ∧ ∀ l, H l = none → Q (.ref l) (upd H l (.lst ys))
theorem c_lstL : CallD (rListOf K) (rps [.list ds]) (rp (.list ds)) := fun {B xs} r F H o Q q => by
  obtain ⟨x, rfl, rx⟩ := rpa1 r
  obtain ⟨a, xs, rfl, ha, ra⟩ := rx.lst_inv
  exact ⟨a, xs, rfl, .inl (sq_of (o.ex _ _ ha)), fun l hl => q _ _ (Ex.new hl) (.lst (new_at o hl) (ra.mono (o.cut.trans (cut_mono (Ex.new hl)))))⟩
theorem c_lstT : CallD (rListOf K) (rps [.tuple ds]) (rp (.list ds)) := fun {B xs} r F H o Q q => by
  obtain ⟨x, rfl, rx⟩ := rpa1 r
  obtain ⟨a, xs, rfl, ha, ra⟩ := rx.tup_inv
  exact ⟨a, xs, rfl, .inr (st_of (o.ex _ _ ha)), fun l hl => q _ _ (Ex.new hl) (.lst (new_at o hl) (ra.mono (o.cut.trans (cut_mono (Ex.new hl)))))⟩
/-- len -/
def rLenS (K : PySem.W.Frag) : List V → Hp → VK → Prop := fun xs H Q => ∃ p ys, xs = [.ref p] ∧ (SqL K H p ys ∨ SqT K H p ys) ∧ Q (.int ys.length) H
theorem c_lenL : CallD (rLenS K) (rps [.list ds]) (rp (.int (ds.length : Nat))) := fun {B xs} r F H o Q q => by
  obtain ⟨x, rfl, rx⟩ := rpa1 r
  obtain ⟨a, xs, rfl, ha, ra⟩ := rx.lst_inv
  refine ⟨a, xs, rfl, .inl (sq_of (o.ex _ _ ha)), q _ H (Ex.refl H) ?_⟩
  rw [ra.length]
  exact .int _
theorem c_lenT : CallD (rLenS K) (rps [.tuple ds]) (rp (.int (ds.length : Nat))) := fun {B xs} r F H o Q q => by
  obtain ⟨x, rfl, rx⟩ := rpa1 r
  obtain ⟨a, xs, rfl, ha, ra⟩ := rx.tup_inv
  refine ⟨a, xs, rfl, .inr (st_of (o.ex _ _ ha)), q _ H (Ex.refl H) ?_⟩
  rw [ra.length]
  exact .int _
/-- all, any -/
theorem c_all {bs : List Bool} : CallD (rAll K) (rps [.list (bs.map PyData.bool)]) (rp (.bool (bs.all id))) := fun {B xs} r F H o Q q => by
  obtain ⟨x, rfl, rx⟩ := rpa1 r
  obtain ⟨a, xs, rfl, ha, ra⟩ := rx.lst_inv
  exact ⟨a, bs, rfl, sq_of (by rw [← ra.bools]; exact o.ex _ _ ha), q _ H (Ex.refl H) (.bl _)⟩
theorem c_any {bs : List Bool} : CallD (rAny K) (rps [.list (bs.map PyData.bool)]) (rp (.bool (bs.any id))) := fun {B xs} r F H o Q q => by
  obtain ⟨x, rfl, rx⟩ := rpa1 r
  obtain ⟨a, xs, rfl, ha, ra⟩ := rx.lst_inv
  exact ⟨a, bs, rfl, sq_of (by rw [← ra.bools]; exact o.ex _ _ ha), q _ H (Ex.refl H) (.bl _)⟩
/-- sorted(set(list of tuples)) -/
theorem rpa_tI : ∀ {xs : List V} {kss : List (List Int)}, RpA B xs (kss.map tI) → ∃ as : List Addr, xs = as.map V.ref ∧ as.length = kss.length ∧ ∀ (i : Nat) (a : Addr) (ks : List Int), as[i]? = some a → kss[i]? = some ks → B a = some (.tup (ks.map V.int))
  | _, [], h => by
    cases h
    exact ⟨[], rfl, rfl, fun i a ks e => by simp at e⟩
  | _, ks :: kss, h => by
    cases h with
    | cons r a =>
      obtain ⟨p, rfl, hp⟩ := r.tI_inv
      obtain ⟨as, rfl, hl, hh⟩ := rpa_tI a
      refine ⟨p :: as, rfl, by simp [hl], fun i b ks' e1 e2 => ?_⟩
      cases i with
      | zero =>
        simp at e1 e2
        subst e1 e2
        exact hp
      | succ i => exact hh i b ks' (by simpa using e1) (by simpa using e2)
theorem rpa_refs : ∀ {L : List (Addr × List Int)}, (∀ p ∈ L, B p.1 = some (.tup (p.2.map V.int))) → RpA B (L.map fun q => V.ref q.1) ((L.map (·.2)).map tI)
  | [], _ => .nil
  | p :: L, h => .cons (.tI_mk (h p List.mem_cons_self)) (rpa_refs fun q hq => h q (List.mem_cons_of_mem _ hq))
theorem d_sortSet {kss : List (List Int)} {n : Nat} (h : EvD te σ B (.list (kss.map tI))) (hn : 1 ≤ n) (hk : ∀ ks ∈ kss, ks.length = n ∧ TS.Bd 64 ks) (h64 : kss.length < 64) :
    EvD (tCB (rSortedT K P w) (tCons (tCB (rSetOfT K P w) (tCons te tNil)) tNil)) σ B (.list ((ssort kss).map tI)) := fun F H o Q q => h F H o _ fun v H1 e1 r1 => by
  obtain ⟨l, xs, rfl, hl, ra⟩ := r1.lst_inv
  obtain ⟨as, rfl, hlen, hh⟩ := rpa_tI ra
  have hz : (as.zip kss).map (fun p => V.ref p.1) = as.map V.ref := by
    rw [show (fun p : Addr × List Int => V.ref p.1) = V.ref ∘ Prod.fst from rfl, ← List.map_map, List.map_fst_zip (by omega)]
  have hz2 : (as.zip kss).map (·.2) = kss := by rw [List.map_snd_zip (by omega)]
  have hmem : ∀ p ∈ as.zip kss, cut F H1 p.1 = some (.tup (p.2.map V.int)) := fun p hp => by
    obtain ⟨i, hi⟩ := List.mem_iff_getElem?.mp hp
    obtain ⟨a1, a2⟩ := List.getElem?_zip_eq_some.mp hi
    exact hh i p.1 p.2 a1 a2
  refine ⟨l, as.zip kss, rfl, sq_of (by rw [hz]; exact cut_ex _ _ hl), fun p hp => st_of (cut_ex _ _ (hmem p hp)), by rw [List.length_zip]; omega, fun a L ha hsub hall => ?_⟩
  have eA : Ex H1 (upd H1 a (SetTO P w a L)) := Ex.new ha
  have hkL : ∀ p ∈ L, p.2 ∈ kss := fun p hp => by rw [← hz2]; exact List.mem_map.mpr ⟨p, hsub p hp, rfl⟩
  refine ⟨a, L, n, 64, rfl, upd_same, fun p hp => st_of (eA _ _ (cut_ex _ _ (hmem p (hsub p hp)))), hn, fun p hp => hk _ (hkL p hp), fun L' p hperm hnd hfew hpw hp => ?_⟩
  have hss : (L'.map (·.2)) = ssort kss := by
    refine strict_unique ?_ (ssort_sorted kss) fun z => ?_
    · refine List.pairwise_map.mpr ?_
      have hnd' : L'.Pairwise (fun q r => q.2 ≠ r.2) := List.pairwise_map.mp hnd
      refine (List.Pairwise.and hpw hnd').imp_of_mem fun {q r} hq hr ⟨h1, h2⟩ => ?_
      have k1 := hk _ (hkL q (hperm.mem_iff.mp hq))
      have k2 := hk _ (hkL r (hperm.mem_iff.mp hr))
      rcases Int.lt_or_eq_of_le h1 with h | h
      · exact h
      · exact absurd (code_inj (k1.1.trans k2.1.symm) k1.2 k2.2 h) h2
    · rw [ssort_mem hk]
      constructor
      · intro hz'
        obtain ⟨q, hq, e⟩ := List.mem_map.mp hz'
        rw [← e]
        exact hkL q (hperm.mem_iff.mp hq)
      · intro hz'
        rw [← hz2] at hz'
        obtain ⟨q, hq, e⟩ := List.mem_map.mp hz'
        obtain ⟨r, hr, e2⟩ := List.mem_map.mp (hall q hq)
        exact List.mem_map.mpr ⟨r, hperm.mem_iff.mpr hr, e2.trans e⟩
  rw [← hss] at q
  have eP := eA.trans (Ex.new (o := .lst (L'.map fun q => V.ref q.1)) hp)
  refine q _ _ (e1.trans eP) (.lst (new_at (o.go (e1.trans eA)) hp) (rpa_refs fun r hr => ?_))
  exact cut_mono eP _ _ (hmem r (hsub r (hperm.mem_iff.mp hr)))
end
end G
/-! G9: statements that come to a returned value. -/
namespace G
open PySem PySem.Spec PyProof.Rows L2 Evl
/-- the block returns a value of which R is true -/
def EvS (t : TS) (σ : L2.St) (B : Hp) (R : RelH) : Prop := ∀ F H, Off F B H → ∀ D : Ends, (∀ v H', Ex H H' → R (cut F H') v → D.rt v H') → t D σ H
section
variable {K : PySem.W.Frag} {σ : L2.St} {B : Hp} {te : TE} {tt : TT} {tu tw tz : TS} {R R1 : RelH} {d : D} {b : Bool}
theorem EvS.mono {B' : Hp} {t : TS} (e : Ex B B') (h : EvS t σ B R) : EvS t σ B' R := fun F H o D q => h F H ⟨fun b w z => o.ex b w (e b w z), fun b w z => o.off b w (e b w z), o.dom⟩ D q
theorem e_ret (h : EvR te σ B R) : EvS (tRet te) σ B R := fun F H o D q => h F H o _ q
theorem e_asg {i : Nat} (h : EvR te σ B R1) (k : ∀ v B', Ex B B' → R1 B' v → EvS tz (σ.set i (some v)) B' R) : EvS (tSeq (tAsg te (gName i)) tz) σ B R := fun F H o D q =>
  h F H o _ fun v H1 e1 r1 => k v _ (o.go e1).cut r1 F H1 (o.next e1) D fun u H2 e2 r2 => q u H2 (e1.trans e2) r2
theorem e_asgD {i : Nat} (h : EvD te σ B d) (k : ∀ v B', Ex B B' → Rp B' v d → EvS tz (σ.set i (some v)) B' R) : EvS (tSeq (tAsg te (gName i)) tz) σ B R := e_asg h k
theorem e_if (h : EvB tt σ B b) (h1 : b = true → EvS tu σ B R) (h2 : b = false → EvS tz σ B R) : EvS (tSeq (tIfS tt tu tNext) tz) σ B R := fun F H o D q =>
  h F H o _ fun H1 e1 => by
    cases b with
    | true => exact h1 rfl F H1 (o.go e1) _ fun u H2 e2 r2 => q u H2 (e1.trans e2) r2
    | false => exact h2 rfl F H1 (o.go e1) _ fun u H2 e2 r2 => q u H2 (e1.trans e2) r2
theorem e_ifE (h : EvB tt σ B b) (h1 : b = true → EvS tu σ B R) (h2 : b = false → EvS tw σ B R) : EvS (tIfS tt tu tw) σ B R := fun F H o D q =>
  h F H o _ fun H1 e1 => by
    cases b with
    | true => exact h1 rfl F H1 (o.go e1) _ fun u H2 e2 r2 => q u H2 (e1.trans e2) r2
    | false => exact h2 rfl F H1 (o.go e1) _ fun u H2 e2 r2 => q u H2 (e1.trans e2) r2
theorem as_eq {d d' : D} (h : EvD te σ B d) (e : d = d') : EvD te σ B d' := by rw [← e]; exact h
theorem dop {r : L2.R2} {ta tb : TE} {d1 d2 d : D} (ha : EvD ta σ B d1) (hb : EvD tb σ B d2) (hr : OpD r (rp d1) (rp d2) (rp d)) : EvD (tOp r ta tb) σ B d := d_op (R1 := rp d1) (R2 := rp d2) (R := rp d) (mono_rp d1) ha hb hr
theorem dcb {r : List V → Hp → VK → Prop} {ta : TA} {ds : List D} {d : D} (ha : EvDs ta σ B ds) (hr : CallD r (rps ds) (rp d)) : EvD (tCB r ta) σ B d := d_cb (R := rp d) (RA := rps ds) ha hr
theorem dcall {ta : TA} {pre : Hp → List V → RelH → Prop} {ds : List D} {E : XK} {d : D} (ha : EvDs ta σ B ds) (hp : ∀ B' vs, Ex B B' → RpA B' vs ds → pre B' vs (rp d)) : EvD (tCall (spD pre) [] E ta) σ B d := fun F H o Q q =>
  ha F H o _ fun xs H1 e1 r1 => by
    rw [List.append_nil]
    exact ⟨F, _, _, o.next e1, hp _ _ (o.go e1).cut r1, fun v H2 e2 r2 => q v H2 (e1.trans e2) r2⟩
/-- the body of a pure def -/
theorem fn_run {t : TS} {F : Addr → Prop} {H : Hp} {Q : VK} (h : EvS t σ B R) (o : Off F B H) (q : ∀ v H', Ex H H' → R (cut F H') v → Q v H') : t { nx := fun _ H' => Q .non H', rt := Q } σ H := h F H o _ q
/-- a call of a pure def -/
theorem d_callP {ta : TA} {pre : Hp → List V → RelH → Prop} {RA : RelA} {E : XK} (ha : EvAs ta σ B RA) (hp : ∀ B' vs, Ex B B' → RA B' vs → pre B' vs R) : EvR (tCall (spD pre) [] E ta) σ B R := fun F H o Q q =>
  ha F H o _ fun xs H1 e1 r1 => by
    rw [List.append_nil]
    exact ⟨F, _, R, o.next e1, hp _ _ (o.go e1).cut r1, fun v H2 e2 r2 => q v H2 (e1.trans e2) r2⟩
end
end G
/-! G10: walks over mapped data; a list that a loop extends. -/
namespace G
open PySem PySem.Spec PyProof.Rows L2 Evl
section
variable {K : PySem.W.Frag} {σ : L2.St} {B : Hp} {ta : TA} {te : TE} {α β : Type}
theorem i_enumT' {xs : List α} {e : α → D} (h : EvDs ta σ B [.tuple (xs.map e)]) : EvI (iEnumT K ta) σ B (xs.zipIdx.map fun p => PyData.tuple [.int (p.2 : Nat), e p.1]) := by
  have := i_enumT (K := K) h
  rw [List.zipIdx_map, List.map_map] at this
  exact this
theorem i_enum' {xs : List α} {e : α → D} (h : EvDs ta σ B [.list (xs.map e)]) : EvI (iEnum K ta) σ B (xs.zipIdx.map fun p => PyData.tuple [.int (p.2 : Nat), e p.1]) := by
  have := i_enum (K := K) h
  rw [List.zipIdx_map, List.map_map] at this
  exact this
theorem i_zipT' {xs : List α} {ys : List β} {e : α → D} {f : β → D} (h : EvDs ta σ B [.tuple (xs.map e), .tuple (ys.map f)]) : EvI (RZ.iZipA K ta) σ B ((xs.zip ys).map fun p => PyData.tuple [e p.1, f p.2]) := by
  have := i_zipT (K := K) h
  rw [List.zip_map, List.map_map] at this
  exact this
theorem i_zipL' {xs : List α} {ys : List β} {e : α → D} {f : β → D} (h : EvDs ta σ B [.list (xs.map e), .list (ys.map f)]) : EvI (RZ.iZipA K ta) σ B ((xs.zip ys).map fun p => PyData.tuple [e p.1, f p.2]) := by
  have := i_zipL (K := K) h
  rw [List.zip_map, List.map_map] at this
  exact this
theorem tyV_l {H : Hp} {p : Addr} {xs : List V} (h : H p = some (.lst xs)) : tyV K "list" (.ref p) H := .inl ⟨rfl, _, sq_of h⟩
theorem flatMap_take {xs : List α} {g : α → List D} {i : Nat} (hi : i < xs.length) : (xs.take (i + 1)).flatMap g = (xs.take i).flatMap g ++ g xs[i] := by
  rw [List.take_succ_eq_append_getElem hi, List.flatMap_append, List.flatMap_singleton]
theorem flatMap_le (xs : List α) (g : α → List D) (i : Nat) : ((xs.take i).flatMap g).length ≤ (xs.flatMap g).length := by
  conv => rhs; rw [← List.take_append_drop i xs, List.flatMap_append, List.length_append]
  omega
/-- found = []; for x in ..: found.extend(e); return found -/
theorem e_extend {wi : TI} {i j : Nat} (hij : i ≠ j) (hi : i < σ.length) (xs : List α) (ea : α → D) (g : α → List D) (hz : (xs.flatMap g).length ≤ 100000) (hw : ∀ p, EvI wi (σ.set i (some (.ref p))) B (xs.map ea))
    (ht : ∀ x ∈ xs, ∀ p v B', Ex B B' → Rp B' v (ea x) → EvD te ((σ.set i (some (.ref p))).set j (some v)) B' (.list (g x))) :
    EvS (tSeq (tAsg (tLst tNil) (gName i)) (tSeq (tFor wi (gName j) (tDrop (tBM K "list" rExtend (tVar i) (tCons te tNil)))) (tRet (tVar i)))) σ B (rp (.list (xs.flatMap g))) := by
  intro F H o D' q
  refine ⟨Nat.zero_le _, fun p hp => ?_⟩
  have o1 := o.new (u := .lst []) hp
  show tFor wi (gName j) _ _ _ _
  refine s_for xs ea (hw p) o1 (fun B1 k σ' H' => Off (fun b => F b ∨ b = p) B1 H' ∧ Ex H H' ∧ (σ' = σ.set i (some (.ref p)) ∨ ∃ y, σ' = (σ.set i (some (.ref p))).set j y) ∧ ∃ acc, H' p = some (.lst acc) ∧ RpA (cut (fun b => F b ∨ b = p) H') acc ((xs.take k).flatMap g))
    (fun H1 e1 => ⟨o1.next e1, (Ex.new hp).trans e1, .inl rfl, [], e1 _ _ upd_same, .nil⟩) (fun B1 k σ' H' _ h => h.1) (fun B1 k a v σ' H' H'' eB ha hP eH rv => ?_) (fun B1 σ' H' eB hP => ?_)
  · obtain ⟨oH, eH0, hσ, acc, hacc, ra⟩ := hP
    obtain ⟨hk, rfl⟩ := List.getElem?_eq_some_iff.mp ha
    have hσ' : σ'.set j (some v) = (σ.set i (some (.ref p))).set j (some v) := by
      rcases hσ with rfl | ⟨y, rfl⟩
      · rfl
      · rw [List.set_set]
    show (tBM K "list" rExtend (tVar i) (tCons te tNil)) (σ'.set j (some v)) H'' _
    rw [hσ']
    have o2 := oH.go eH
    have hacc2 := eH _ _ hacc
    refine ⟨.ref p, by rw [List.getElem?_set_ne hij.symm, List.getElem?_set_self hi], tyV_l hacc2, ?_⟩
    have hev := ht xs[k] (List.getElem_mem hk) p v _ ((eB.trans oH.cut).trans (cut_mono eH)) rv
    refine hev _ H'' (oH.next eH) _ fun u H3 e3 ru => ?_
    obtain ⟨b, zs, rfl, hb, rz⟩ := ru.lst_inv
    have hacc3 := e3 _ _ hacc2
    have hlen := flatMap_le xs g (k + 1)
    rw [flatMap_take hk, List.length_append] at hlen
    refine ⟨p, b, acc, zs, rfl, rfl, hacc3, cut_ex _ _ hb, sz_of (by rw [ra.length, rz.length]; omega), ?_⟩
    have eF : Ex H (upd H3 p (.lst (acc ++ zs))) := Ex.mut ((eH0.trans eH).trans e3) hp
    refine ⟨(o2.go e3).upd (Or.inr rfl), eF, .inr ⟨_, rfl⟩, acc ++ zs, upd_same, ?_⟩
    rw [cut_upd (Or.inr rfl), flatMap_take hk]
    exact (ra.mono (cut_mono (eH.trans e3))).append rz
  · obtain ⟨oH, eH0, hσ, acc, hacc, ra⟩ := hP
    rw [List.take_length] at ra
    refine ⟨.ref p, ?_, q _ H' eH0 (.lst (cut_at (o.free hp) hacc) (ra.mono cut_more))⟩
    rcases hσ with rfl | ⟨y, rfl⟩
    · rw [List.getElem?_set_self hi]
    · rw [List.getElem?_set_ne hij.symm, List.getElem?_set_self hi]
end
end G
/-! GA: what stands behind the top; defs by name. -/
namespace G
open PySem PySem.Spec PyProof.Rows L2 Evl
/-- the built-in names stand -/
structure Zs (mg : Str → Option Value) : Prop where
  z_len : mg "len" = none
  z_tuple : mg "tuple" = none
  z_sorted : mg "sorted" = none
  z_set : mg "set" = none
  z_range : mg "range" = none
  z_enumerate : mg "enumerate" = none
  z_zip : mg "zip" = none
  z_sum : mg "sum" = none
  z_all : mg "all" = none
  z_any : mg "any" = none
  z_min : mg "min" = none
  z_max : mg "max" = none
  z_int : mg "int" = none
  z_bool : mg "bool" = none
  z_abs : mg "abs" = none
  z_list : mg "list" = none
  z_dict : mg "dict" = none
  z_repr : mg "repr" = none
  z_isinstance : mg "isinstance" = none
/-- a def that keeps a promise, by its name -/
structure Cal (P : Program) (w : World) (K : PySem.W.Frag) (mg : Str → Option Value) (base : Heap) (k : Nat) (x : Str) (ps : List Str) (dvs : List V) (sp : Sp) where
  f : Addr
  fd : FuncData
  ds : List Value
  ok : FnOk P w K mg base CX0 k f fd ps sp
  m : mg x = some (.ref f)
  kp : PySem.W.keepIn K (.ref f) = true
  b : Binds K fd ps ds
  hv : Vals dvs ds
def Cal.mono {P : Program} {w : World} {K : PySem.W.Frag} {mg : Str → Option Value} {base : Heap} {j k : Nat} {x : Str} {ps : List Str} {dvs : List V} {sp : Sp} (c : Cal P w K mg base j x ps dvs sp) (h : j ≤ k) : Cal P w K mg base k x ps dvs sp := ⟨c.f, c.fd, c.ds, c.ok.mono h, c.m, c.kp, c.b, c.hv⟩
section
variable {σ : L2.St} {B : Hp}
/-- a call with the default 0 -/
theorem dcall0 {ta : TA} {pre : Hp → List V → RelH → Prop} {ds : List D} {E : XK} {d : D} (ha : EvDs ta σ B ds) (hp : ∀ B' vs, Ex B B' → RpA B' vs (ds ++ [.int 0]) → pre B' vs (rp d)) : EvD (tCall (spD pre) [.int 0] E ta) σ B d := fun F H o Q q =>
  ha F H o _ fun xs H1 e1 r1 => ⟨F, _, _, o.next e1, hp _ _ (o.go e1).cut (r1.append (.one (.int 0))), fun v H2 e2 r2 => q v H2 (e1.trans e2) r2⟩
theorem i_rng1' {ta : TA} {n : Int} {m : Nat} (h : EvDs ta σ B [.int n]) (hn : n = (m : Int)) (h2 : m < 1000000) : EvI (iRng1 ta) σ B ((List.range m).map fun i => PyData.int ((i : Nat) : Int)) := by
  have := i_rng1 h (by omega) (by omega)
  rw [hn, Int.toNat_natCast] at this
  exact this
theorem i_rng2' {ta : TA} {a n : Int} {m : Nat} (h : EvDs ta σ B [.int a, .int n]) (hn : n - a = (m : Int)) (h1 : -1000000 < a ∧ a < 1000000) (h2 : m < 1000000) : EvI (iRng2 ta) σ B ((List.range m).map fun i => PyData.int (a + ((i : Nat) : Int))) := by
  have := i_rng2 h (by omega)
  rw [hn, Int.toNat_natCast] at this
  exact this
theorem i_rng2n {ta : TA} {a n : Int} {m : Nat} (h : EvDs ta σ B [.int a, .int n]) (hm : (n - a).toNat = m) (h1 : -1000000 < a ∧ a < 1000000 ∧ -1000000 < n ∧ n < 1000000) : EvI (iRng2 ta) σ B ((List.range m).map fun i => PyData.int (a + ((i : Nat) : Int))) := by
  have := i_rng2 h (by omega)
  rw [hm] at this
  exact this
/-- an empty range -/
theorem i_rng2e {ta : TA} {a n : Int} (h : EvDs ta σ B [.int a, .int n]) (hn : n ≤ a) (h1 : -1000000 < a ∧ a < 1000000) (h2 : -1000000 < n) : EvI (iRng2 ta) σ B ((List.range 0).map fun i => PyData.int (a + ((i : Nat) : Int))) := by
  have := i_rng2 h (by omega)
  rw [show (n - a).toNat = 0 by omega] at this
  exact this
end
end G
/-! GB: the rules with the written part named, so that their readings speak of no context. -/
namespace G
open PySem PySem.Spec PyProof.Rows L2 Evl
section
variable {X : Cx} (K : PySem.W.Frag)
theorem k_ixL (h : X.K = K := by rfl) : IxR X (rIxL K) := h ▸ ix_list
theorem k_ixT (h : X.K = K := by rfl) : IxR X (rIxT K) := h ▸ ix_tup
theorem k_catT (h : X.K = K := by rfl) : OpR X (binaryOp .Add) (rCatA K) := h ▸ op_catA
theorem k_rep (h : X.K = K := by rfl) : OpR X (binaryOp .Mult) (rRepA K) := h ▸ op_repA
theorem k_slT (h : X.K = K := by rfl) : SlR X (rSlA K) := h ▸ sl_tupA
theorem k_slL (h : X.K = K := by rfl) : SlR X (rSlL K) := h ▸ sl_list
theorem k_in (h : X.K = K := by rfl) : OpR X (compareOp .In) (rIn K false) := h ▸ op_in_seq
theorem k_notIn (h : X.K = K := by rfl) : OpR X (compareOp .NotIn) (rIn K true) := h ▸ op_notIn_seq
theorem k_eqD (h : X.K = K := by rfl) (hu : X.A.units + 64 < cLine) : OpR X (compareOp .Eq) (rEqD K) := h ▸ op_eqD hu
theorem k_neD (h : X.K = K := by rfl) (hu : X.A.units + 64 < cLine) : OpR X (compareOp .NotEq) (rNeD K) := h ▸ op_neD hu
theorem k_tuple (h : X.K = K := by rfl) : CallR X (.type "tuple") (rTupleOf K) := h ▸ call_tuple_of
theorem k_list (h : X.K = K := by rfl) : CallR X (.type "list") (rListOf K) := h ▸ call_list_of
theorem k_len (h : X.K = K := by rfl) : CallR X (.builtin "len") (rLenS K) := h ▸ call_len_seq
theorem k_sum (h : X.K = K := by rfl) (hc : X.calm = true) : CallR X (.builtin "sum") (rSum K) := h ▸ cr_sum hc
theorem k_sumT (h : X.K = K := by rfl) (hc : X.calm = true) : CallR X (.builtin "sum") (rSumT K) := h ▸ cr_sumT hc
theorem k_min (h : X.K = K := by rfl) (hc : X.calm = true) : CallR X (.builtin "min") (rMin K) := h ▸ cr_min hc
theorem k_minT (h : X.K = K := by rfl) (hc : X.calm = true) : CallR X (.builtin "min") (rMinT K) := h ▸ cr_minT hc
theorem k_max (h : X.K = K := by rfl) (hc : X.calm = true) : CallR X (.builtin "max") (rMax K) := h ▸ cr_max hc
theorem k_all (h : X.K = K := by rfl) (hc : X.calm = true) : CallR X (.builtin "all") (rAll K) := h ▸ cr_all hc
theorem k_any (h : X.K = K := by rfl) (hc : X.calm = true) : CallR X (.builtin "any") (rAny K) := h ▸ cr_any hc
theorem k_sort (h : X.K = K := by rfl) : CallR X (.builtin "sorted") (rSortedI K) := h ▸ cr_sortedI
theorem k_sortT (h : X.K = K := by rfl) : CallR X (.builtin "sorted") (rSortTI K) := h ▸ cr_sortTI
theorem k_isi (h : X.K = K := by rfl) : CallR X (.builtin "isinstance") (rIsi K) := h ▸ call_isi
theorem k_iList (h : X.K = K := by rfl) {tg l : Expr} {tl : TE} (hl : PE X l tl) : PI X tg l (iList K tl) := h ▸ pi_list hl
theorem k_iTup (h : X.K = K := by rfl) {tg l : Expr} {tl : TE} (hl : PE X l tl) : PI X tg l (iTup K tl) := h ▸ pi_tup hl
theorem k_pg (h : X.K = K := by rfl) {es : List Expr} {k : Nat} {t : TGs} {n : Nat} {pos : Pos} (hc : X.calm = true) (hs : PGs X es t)
    (hn : (assignEach es X.env).length = n := by rfl) (hst : (assignEach es X.env).findIdx? (·.1) = none := by rfl) : PG X (.Tuple es k pos) (gTup K n t) := h ▸ pg_tup hc hs hn hst
end
section
variable {X : Cx} (K : PySem.W.Frag) {e : Expr} {ta : TA} {p pos tpos : Pos} {elts : List Expr} {kk : Nat}
theorem k_enum (hg : Gl X "enumerate") (hm : X.mg "enumerate" = none) (ha : PA X [e] ta) (h : X.K = K := by rfl) (hs : starEach [e] X.env = [(false, eval e X.env)] := by rfl) :
    PI X (.Tuple elts kk tpos) (.Call (.Name "enumerate" p) [e] [] pos) (iEnum K ta) := h ▸ pi_enum hg hm ha hs
theorem k_enumT (hg : Gl X "enumerate") (hm : X.mg "enumerate" = none) (ha : PA X [e] ta) (h : X.K = K := by rfl) (hs : starEach [e] X.env = [(false, eval e X.env)] := by rfl) :
    PI X (.Tuple elts kk tpos) (.Call (.Name "enumerate" p) [e] [] pos) (iEnumT K ta) := h ▸ pi_enumT hg hm ha hs
theorem k_zip {e2 : Expr} (hg : Gl X "zip") (hm : X.mg "zip" = none) (ha : PA X [e, e2] ta) (h : X.K = K := by rfl)
    (hs : starEach [e, e2] X.env = (false, eval e X.env) :: starEach [e2] X.env := by rfl) (hpl : (backTo pos (starEach [e2] X.env)).any (·.1) = false := by rfl) :
    PI X (.Tuple elts kk tpos) (.Call (.Name "zip" p) [e, e2] [] pos) (RZ.iZipA K ta) := h ▸ RZ.pi_zipA hg hm ha hs hpl
end
section
variable {X : Cx} (K : PySem.W.Frag) (P : Program) (w : World)
theorem k_set (h : X.K = K := by rfl) (h2 : X.prog = P := by rfl) (h3 : X.w = w := by rfl) (hc : X.calm = true) (hu : X.A.units + 64 < cLine) : CallR X (.type "set") (rSetOfT K P w) := by
  subst h h2 h3
  exact cr_setOfT hc hu
theorem k_sortS (h : X.K = K := by rfl) (h2 : X.prog = P := by rfl) (h3 : X.w = w := by rfl) (hc : X.calm = true) : CallR X (.builtin "sorted") (rSortedT K P w) := by
  subst h h2 h3
  exact cr_sortedT hc
end
section
variable {X : Cx} (K : PySem.W.Frag) {T name id : String} {r : V → List V → Hp → VK → Prop} {o e : Expr} {es : List Expr} {to : TE} {t : TA} {apos cpos : Pos}
theorem k_bm (pa : PlainAttrs T) (slot : Slot T name id) (hty : typeOf (.builtin id) = pure (.type "method_descriptor")) (hm : MtR X id r) (ho : PE X o to) (ha : PA X (e :: es) t) (h : X.K = K := by rfl)
    (hbase : attributeBase o name X.env (eval o X.env) = eval o X.env := by rfl)
    (hfew : ((backTo cpos (starEach (e :: es) X.env)).all (fun x => !x.1) && (backToKw cpos (keywordEach [] X.env)).all (fun x => x.1.isSome)
      && decide ((e :: es).length + ([] : List Keyword).length + (if ([] : List Keyword).isEmpty then 0 else 1) < 30)) = true := by rfl)
    (hline : (apos.endLine == cpos.line) = true := by rfl) (hs : starEach (e :: es) X.env = (false, eval e X.env) :: starEach es X.env := by rfl) (hplain : (backTo cpos (starEach es X.env)).any (·.1) = false := by rfl) :
    PE X (.Call (.Attribute o name apos) (e :: es) [] cpos) (tBM K T r to t) := h ▸ pe_bm pa slot hty hm ho ha hbase hfew hline hs hplain
end
end G
/-! GC: dicts whose keys are tuples of ints, their values data. -/
namespace G
open PySem PySem.Spec PyProof.Rows L2 Evl
def isSeq : HO → Bool
  | .lst _ => true
  | .tup _ => true
  | _ => false
mutual
theorem Rp.avoid {F : Addr → Prop} {B : Hp} (hF : ∀ b, F b → ∀ u, B b = some u → isSeq u = false) : ∀ {v : V} {d : D}, Rp B v d → Rp (cut F B) v d
  | _, _, .non => .non
  | _, _, .bl b => .bl b
  | _, _, .int i => .int i
  | _, _, .str x => .str x
  | _, _, .lst h a => .lst (cut_at (fun z => by cases hF _ z _ h) h) (RpA.avoid hF a)
  | _, _, .tup h a => .tup (cut_at (fun z => by cases hF _ z _ h) h) (RpA.avoid hF a)
theorem RpA.avoid {F : Addr → Prop} {B : Hp} (hF : ∀ b, F b → ∀ u, B b = some u → isSeq u = false) : ∀ {vs : List V} {ds : List D}, RpA B vs ds → RpA (cut F B) vs ds
  | _, _, .nil => .nil
  | _, _, .cons h a => .cons (Rp.avoid hF h) (RpA.avoid hF a)
end
theorem cut_cut {F : Addr → Prop} {H : Hp} {p : Addr} : cut (fun b => b = p) (cut F H) = cut (fun b => F b ∨ b = p) H := by
  funext b
  unfold cut
  by_cases h1 : b = p
  · rw [if_pos h1, if_pos (Or.inr h1)]
  · rw [if_neg h1]
    by_cases h2 : F b
    · rw [if_pos h2, if_pos (Or.inl h2)]
    · rw [if_neg h2, if_neg (fun z => Or.elim z h2 h1)]
/-- data does not stand at a thing that is no list and no tuple -/
theorem Rp.addF {F : Addr → Prop} {H : Hp} {p : Addr} {u : HO} {v : V} {d : D} (h : H p = some u) (hu : isSeq u = false) (r : Rp (cut F H) v d) : Rp (cut (fun b => F b ∨ b = p) H) v d := by
  rw [← cut_cut]
  exact r.avoid fun b e w hw => by
    rw [e] at hw
    rw [cut_ex _ _ hw] at h
    cases h
    exact hu
theorem RpA.addF {F : Addr → Prop} {H : Hp} {p : Addr} {u : HO} {v : List V} {d : List D} (h : H p = some u) (hu : isSeq u = false) (r : RpA (cut F H) v d) : RpA (cut (fun b => F b ∨ b = p) H) v d := by
  rw [← cut_cut]
  exact r.avoid fun b e w hw => by
    rw [e] at hw
    rw [cut_ex _ _ hw] at h
    cases h
    exact hu

/-! ### tables -/
abbrev kI (ks : List Int) : List Key := ks.map Sum.inl
theorem kI_inj {a b : List Int} (h : kI a = kI b) : a = b := by
  induction a generalizing b with
  | nil => cases b with
    | nil => rfl
    | cons y b => cases h
  | cons x a ih => cases b with
    | nil => cases h
    | cons y b =>
      have h' : Sum.inl x :: kI a = Sum.inl y :: kI b := h
      injection h' with h1 h2
      rw [Sum.inl.inj h1, ih h2]
theorem kV_kI (ks : List Int) : (kI ks).map kV = ks.map V.int := by
  rw [List.map_map]
  rfl
/-- what a dict holds, as data -/
abbrev RpT (B : Hp) : List (List Key × V) → List (List Int × D) → Prop := Paired fun kv r => kv.1 = kI r.1 ∧ Rp B kv.2 r.2
theorem RpT.mono {B B' : Hp} {kvs : List (List Key × V)} {l : List (List Int × D)} (e : Ex B B') (h : RpT B kvs l) : RpT B' kvs l := Paired.mapP h fun _ _ z => ⟨z.1, z.2.mono e⟩
theorem RpT.addF {F : Addr → Prop} {H : Hp} {p : Addr} {u : HO} {kvs : List (List Key × V)} {l : List (List Int × D)} (h : H p = some u) (hu : isSeq u = false) (r : RpT (cut F H) kvs l) : RpT (cut (fun b => F b ∨ b = p) H) kvs l :=
  Paired.mapP r fun _ _ z => ⟨z.1, z.2.addF h hu⟩
def look {α : Type} (l : List (List Int × α)) (ks : List Int) : Option α := (l.find? fun r => decide (r.1 = ks)).map (·.2)
theorem RpT.val {B : Hp} {kvs : List (List Key × V)} {l : List (List Int × D)} (r : RpT B kvs l) (ks : List Int) : (∀ d, look l ks = some d → ∃ v, valV kvs (kI ks) = some v ∧ Rp B v d) ∧ (look l ks = none → valV kvs (kI ks) = none) := by
  induction r with
  | nil => exact ⟨fun d h => (by cases h), fun _ => rfl⟩
  | @cons p q ps qs h t ih =>
    by_cases e : q.1 = ks
    · have e1 : p.1 = kI ks := by rw [h.1, e]
      have e2 : look (q :: qs) ks = some q.2 := by simp [look, List.find?_cons, e]
      rw [valV_pos e1, e2]
      exact ⟨fun d z => by cases z; exact ⟨_, rfl, h.2⟩, fun z => (by cases z)⟩
    · have e1 : ¬ p.1 = kI ks := fun z => e (kI_inj (h.1.symm.trans z))
      have e2 : look (q :: qs) ks = look qs ks := by simp [look, List.find?_cons, e]
      rw [valV_neg e1, e2]
      exact ih
theorem RpT.some' {B : Hp} {kvs : List (List Key × V)} {l : List (List Int × D)} (r : RpT B kvs l) (ks : List Int) : (valV kvs (kI ks)).isSome = (look l ks).isSome := by
  cases e : look l ks with
  | none => rw [(r.val ks).2 e] <;> rfl
  | some d =>
    obtain ⟨v, h, _⟩ := (r.val ks).1 d e
    rw [h]
    rfl
theorem RpT.snoc {B : Hp} {kvs : List (List Key × V)} {l : List (List Int × D)} (r : RpT B kvs l) {ks : List Int} {v : V} {d : D} (h : Rp B v d) : RpT B (kvs ++ [(kI ks, v)]) (l ++ [(ks, d)]) := Paired.snoc r ⟨rfl, h⟩
theorem RpT.length {B : Hp} {kvs : List (List Key × V)} {l : List (List Int × D)} (r : RpT B kvs l) : kvs.length = l.length := Paired.length r
theorem RpT.drop {B : Hp} {kvs : List (List Key × V)} {l : List (List Int × D)} (r : RpT B kvs l) (ks : List Int) : RpT B (dropK kvs (kI ks)) (l.filter fun q => decide (q.1 ≠ ks)) := by
  induction r with
  | nil => exact .nil
  | @cons p q ps qs h t ih =>
    by_cases e : q.1 = ks
    · have e1 : p.1 = kI ks := by rw [h.1, e]
      rw [dropK_pos e1, List.filter_cons, if_neg (by simp [e])]
      exact ih
    · have e1 : ¬ p.1 = kI ks := fun z => e (kI_inj (h.1.symm.trans z))
      rw [dropK_neg e1, List.filter_cons, if_pos (by simp [e])]
      exact .cons h ih
/-- v is a dict of this -/
def rd (l : List (List Int × D)) : RelH := fun B v => ∃ p kvs, v = .ref p ∧ B p = some (.dT kvs) ∧ RpT B kvs l
theorem mono_rd (l : List (List Int × D)) : Mono (rd l) := fun e ⟨p, kvs, h1, h2, h3⟩ => ⟨p, kvs, h1, e _ _ h2, h3.mono e⟩
section
variable {K : PySem.W.Frag} {σ : L2.St} {B : Hp} {te td tx tv tk : TE} {ks : List Int} {l : List (List Int × D)} {d : D} {R : RelH}
theorem dget_t {H : Hp} {p q : Addr} {kvs : List (List Key × V)} (h : H p = some (.dT kvs)) (hq : H q = some (.tup (ks.map V.int))) : DGet H p (.ref q) (valV kvs (kI ks)) := DGet.t h (by rw [kV_kI]; exact hq)
/-- k in d, k not in d -/
theorem d_din (hk : EvD te σ B (tI ks)) (hd : EvR td σ B (rd l)) : EvD (tDIn te td) σ B (.bool (look l ks).isSome) := fun F H o Q q =>
  hk F H o _ fun v H1 e1 r1 => hd F H1 (o.go e1) _ fun x H2 e2 r2 => by
    obtain ⟨p, kvs, rfl, hp, rt⟩ := r2
    obtain ⟨a, rfl, ha⟩ := r1.tI_inv
    refine ⟨p, _, rfl, dget_t (cut_ex _ _ hp) (e2 _ _ (cut_ex _ _ ha)), ?_⟩
    rw [rt.some']
    exact q _ H2 (e1.trans e2) (.bl _)
theorem d_dnotin (hk : EvD te σ B (tI ks)) (hd : EvR td σ B (rd l)) : EvD (tDNotIn te td) σ B (.bool (!(look l ks).isSome)) := fun F H o Q q =>
  hk F H o _ fun v H1 e1 r1 => hd F H1 (o.go e1) _ fun x H2 e2 r2 => by
    obtain ⟨p, kvs, rfl, hp, rt⟩ := r2
    obtain ⟨a, rfl, ha⟩ := r1.tI_inv
    refine ⟨p, _, rfl, dget_t (cut_ex _ _ hp) (e2 _ _ (cut_ex _ _ ha)), ?_⟩
    rw [rt.some']
    exact q _ H2 (e1.trans e2) (.bl _)
/-- d.get(k), d.get(k, x), d[k] -/
theorem d_dget1 (hd : EvR td σ B (rd l)) (hk : EvD te σ B (tI ks)) : EvD (tDGet1 td te) σ B ((look l ks).getD .none) := fun F H o Q q =>
  hd F H o _ fun x H1 e1 r1 => by
    obtain ⟨p, kvs, rfl, hp, rt⟩ := r1
    refine ⟨p, rfl, .inr ⟨kvs, .inl (cut_ex _ _ hp)⟩, hk F H1 (o.go e1) _ fun v H2 e2 r2 => ?_⟩
    obtain ⟨a, rfl, ha⟩ := r2.tI_inv
    refine ⟨_, dget_t (e2 _ _ (cut_ex _ _ hp)) (cut_ex _ _ ha), ?_⟩
    cases e : look l ks with
    | none =>
      rw [e] at q
      rw [(rt.val ks).2 e]
      exact q _ H2 (e1.trans e2) .non
    | some d =>
      rw [e] at q
      obtain ⟨v, hv, rv⟩ := (rt.val ks).1 d e
      rw [hv]
      exact q _ H2 (e1.trans e2) (rv.mono (cut_mono e2))
theorem d_dget2 (hd : EvR td σ B (rd l)) (hk : EvD te σ B (tI ks)) (hx : EvD tx σ B d) : EvD (tDGet2 td te tx) σ B ((look l ks).getD d) := fun F H o Q q =>
  hd F H o _ fun x H1 e1 r1 => by
    obtain ⟨p, kvs, rfl, hp, rt⟩ := r1
    refine ⟨p, rfl, .inr ⟨kvs, .inl (cut_ex _ _ hp)⟩, hk F H1 (o.go e1) _ fun v H2 e2 r2 => hx F H2 (o.go (e1.trans e2)) _ fun z H3 e3 r3 => ?_⟩
    obtain ⟨a, rfl, ha⟩ := r2.tI_inv
    refine ⟨_, dget_t (e3 _ _ (e2 _ _ (cut_ex _ _ hp))) (e3 _ _ (cut_ex _ _ ha)), ?_⟩
    cases e : look l ks with
    | none =>
      rw [e] at q
      rw [(rt.val ks).2 e]
      exact q _ H3 ((e1.trans e2).trans e3) r3
    | some d =>
      rw [e] at q
      obtain ⟨v, hv, rv⟩ := (rt.val ks).1 d e
      rw [hv]
      exact q _ H3 ((e1.trans e2).trans e3) (rv.mono (cut_mono (e2.trans e3)))
theorem d_dget (hd : EvR td σ B (rd l)) (hk : EvD te σ B (tI ks)) (h : look l ks = some d) : EvD (tDGet td te) σ B d := fun F H o Q q =>
  hd F H o _ fun x H1 e1 r1 => by
    obtain ⟨p, kvs, rfl, hp, rt⟩ := r1
    refine hk F H1 (o.go e1) _ fun v H2 e2 r2 => ?_
    obtain ⟨a, rfl, ha⟩ := r2.tI_inv
    obtain ⟨v, hv, rv⟩ := (rt.val ks).1 d h
    exact ⟨p, v, rfl, by rw [← hv]; exact dget_t (e2 _ _ (cut_ex _ _ hp)) (cut_ex _ _ ha), q _ H2 (e1.trans e2) (rv.mono (cut_mono e2))⟩
/-- a new object -/
def EvN (te : TE) (σ : L2.St) (B : Hp) (R : RelH) : Prop := ∀ F H, Off F B H → ∀ Q : VK, (∀ p H', H p = none → Ex H H' → R (cut F H') (.ref p) → Q (.ref p) H') → te σ H Q
theorem EvN.ev (h : EvN te σ B R) : EvR te σ B R := fun F H o Q q => h F H o Q fun p H' _ e r => q _ H' e r
/-- {k: v for ..}: each key once -/
theorem d_dcT {α : Type} {wi : TI} {g : TG} {tt : TT} {vs : List Nat} (xs : List α) (ea : α → D) (p : α → Bool) (key : α → List Int) (val : α → D) (hz : xs.length ≤ 100000) (hi : EvI wi σ B (xs.map ea)) (hnd : (xs.map key).Nodup)
    (ht : ∀ a ∈ xs, ∀ v B', Ex B B' → Rp B' v (ea a) → ∃ σ2, TgOk g v (wipe σ vs) σ2 B' ∧ wipe σ2 vs = wipe σ vs ∧ EvB tt σ2 B' (p a) ∧ (p a = true → EvD tk σ2 B' (tI (key a)) ∧ EvD tv σ2 B' (val a))) :
    EvN (tDcT wi g tt tk tv vs) σ B (rd ((xs.filter p).map fun a => (key a, val a))) := by
  intro F H0 o Q q
  refine hi F H0 o _ fun J H1 e1 ok Dl hD => ?_
  have o1 : Off F (cut F H1) H1 := o.next e1
  have hB1 : cut F H1 Dl = none := by
    cases z : cut F H1 Dl with
    | none => rfl
    | some u => rw [cut_ex _ _ z] at hD; cases hD
  have nF : ¬ F Dl := o1.free hD
  refine ⟨fun i m H => m = xs.length - i ∧ i ≤ xs.length ∧ Ex H1 H ∧ ∃ acc, H Dl = some (.dT acc) ∧ RpT (cut (fun b => F b ∨ b = Dl) H) acc (((xs.take i).filter p).map fun a => (key a, val a)), ⟨_, rfl, Nat.zero_le _, Ex.new hD, [], upd_same, by simpa using Paired.nil⟩, ?_⟩
  rintro i m H ⟨rfl, hle, eH, acc, hacc, ra⟩
  have oH : Off (fun b => F b ∨ b = Dl) (cut F H1) H := (o1.go eH).add hB1 hacc
  by_cases hlt : i < xs.length
  · have hg := ok.go _ H i (ea xs[i]) oH (by rw [List.getElem?_map, List.getElem?_eq_getElem hlt]; rfl)
    refine .inr ⟨hg.1, fun H' => i + 1 ≤ xs.length ∧ Ex H1 H' ∧ ∃ acc, H' Dl = some (.dT acc) ∧ RpT (cut (fun b => F b ∨ b = Dl) H') acc (((xs.take (i + 1)).filter p).map fun a => (key a, val a)), fun H' n => ⟨xs.length - (i + 1), by omega, rfl, n⟩, fun x H' y => ?_⟩
    obtain ⟨eH', rx⟩ := hg.2 x H' y
    have oH' := oH.next eH'
    obtain ⟨σ2, htg, hw, htt, hte⟩ := ht xs[i] (List.getElem_mem hlt) x _ (o.cut.trans ((cut_mono e1).trans (cut_less (F := F) hD (eH.trans eH')))) rx
    refine htg _ H' oH' _ ⟨hw, htt _ H' oH' _ fun H2 e2 => ?_⟩
    have hacc2 : H2 Dl = some (.dT acc) := e2 _ _ (eH' _ _ hacc)
    have ex2 : Ex H1 H2 := (eH.trans eH').trans e2
    rw [take_filter hlt]
    cases hp : p xs[i] with
    | true =>
      obtain ⟨hk, hv⟩ := hte hp
      refine hk _ H2 (oH'.go e2) _ fun kk H3 e3 rk => hv _ H3 (oH'.go (e2.trans e3)) _ fun vv H4 e4 rv => ?_
      obtain ⟨b, rfl, hb⟩ := rk.tI_inv
      have hacc4 : H4 Dl = some (.dT acc) := e4 _ _ (e3 _ _ hacc2)
      have hlen : acc.length < sizeLine := by
        refine sz_lt ?_
        rw [ra.length, List.length_map]
        exact Nat.lt_of_le_of_lt (List.length_filter_le _ _) (Nat.lt_of_lt_of_le (by rw [List.length_take]; omega) hz)
      have hno : valV acc (kI (key xs[i])) = none := by
        refine (ra.val _).2 ?_
        cases hc : look (((xs.take i).filter p).map fun a => (key a, val a)) (key xs[i]) with
        | none => rfl
        | some d0 =>
          exfalso
          unfold look at hc
          obtain ⟨r, hr, _⟩ := Option.map_eq_some_iff.mp hc
          have hr1 := List.mem_of_find?_eq_some hr
          have hr2 : r.1 = key xs[i] := by simpa using List.find?_some hr
          obtain ⟨a, ha, rfl⟩ := List.mem_map.mp hr1
          have ha' := (List.mem_filter.mp ha).1
          obtain ⟨j, hj⟩ := List.mem_iff_getElem?.mp ha'
          have hji : j < i := by
            have := (List.getElem?_eq_some_iff.mp hj).1
            rw [List.length_take] at this
            omega
          rw [List.getElem?_take_of_lt hji] at hj
          have h1 : (xs.map key)[j]? = some (key a) := by rw [List.getElem?_map, hj]; rfl
          have h2 : (xs.map key)[i]? = some (key xs[i]) := by rw [List.getElem?_map, List.getElem?_eq_getElem hlt]; rfl
          have := (List.getElem?_inj (i := j) (j := i) (by rw [List.length_map]; omega) hnd).mp (by rw [h1, h2, show key a = key xs[i] from hr2])
          omega
      refine ⟨acc, kI (key xs[i]), b, rfl, by rw [kV_kI]; exact e4 _ _ (cut_ex _ _ hb), hacc4, hlen, hlt, Ex.mut ((ex2.trans e3).trans e4) hD, _, upd_same, ?_⟩
      rw [cut_upd (Or.inr rfl), if_pos rfl, putK_new _ hno]
      exact (ra.mono (cut_mono (((eH'.trans e2).trans e3).trans e4))).snoc rv
    | false =>
      refine ⟨hlt, ex2, acc, hacc2, ?_⟩
      rw [if_neg (by decide), List.append_nil]
      exact ra.mono (cut_mono (eH'.trans e2))
  · have hi' : i = xs.length := by omega
    subst hi'
    rw [List.take_length] at ra
    exact .inl ⟨ok.stop _ H _ oH (by rw [List.length_map]; exact Nat.le_refl _), q _ H (fresh_back e1 hD) (e1.trans eH) ⟨Dl, acc, rfl, cut_at nF hacc, ra.mono cut_more⟩⟩
/-- the items of a locked dict -/
def rfz (l : List (List Int × D)) : RelH := fun B v => ∃ p o kvs, v = .ref p ∧ B p = some (.frz o (.dT kvs)) ∧ RpT B kvs l
theorem i_items (hd : EvR td σ B (rfz l)) : EvI (iItemsT td) σ B (l.map fun r => PyData.tuple [tI r.1, r.2]) := fun F H o R q => hd F H o _ fun x H1 e1 r1 => by
  obtain ⟨p, ob, kvs, rfl, hp, rt⟩ := r1
  refine ⟨p, ob, kvs, rfl, cut_ex _ _ hp, q _ H1 e1 ⟨fun F' H' i d o' hd => ?_, fun F' H' i o' hi => ⟨o'.ex _ _ hp, by rw [rt.length]; simpa using hi⟩⟩⟩
  rw [List.getElem?_map] at hd
  cases he : l[i]? with
  | none => rw [he] at hd; cases hd
  | some r0 =>
    rw [he] at hd
    cases hd
    have hi : i < l.length := (List.getElem?_eq_some_iff.mp he).1
    refine ⟨⟨o'.ex _ _ hp, by rw [rt.length]; exact hi⟩, fun x' H'' y => ?_⟩
    obtain ⟨T, k, v, a, hk, rfl, hT, ha, rfl⟩ := y
    have z : k = kI r0.1 ∧ Rp (cut F H1) v r0.2 := by
      obtain ⟨b, hb, e1, e2⟩ := paired_get rt hk
      rw [he] at hb
      cases hb
      exact ⟨e1, e2⟩
    obtain ⟨rfl, rv⟩ := z
    rw [kV_kI] at ha
    exact pair_new o' hT (.tI_mk (cut_at (o'.tupOff ha) ha)) (rv.mono o'.cut)
end
end G
/-! GD: further words. -/
namespace G
open PySem PySem.Spec PyProof.Rows L2 Evl
theorem Off.sub {F : Addr → Prop} {B H : Hp} {p : Addr} (o : Off (fun b => F b ∨ b = p) B H) : Off F B H := ⟨o.ex, fun b u h z => o.off b u h (Or.inl z), fun b z => o.dom b (Or.inl z)⟩
theorem Off.of {F : Addr → Prop} {H : Hp} (d : ∀ b, F b → ∃ u, H b = some u ∧ isTup u = false) : Off F (G.cut F H) H := ⟨fun b u h => cut_ex _ _ h, fun b u h => (cut_some.mp h).1, d⟩
theorem lay_ints : ∀ ns : List Int, PyData.canLayAll0 (ns.map PyData.int) = true ∧ PyData.depthAll (ns.map PyData.int) = 0
  | [] => ⟨rfl, rfl⟩
  | n :: ns => by
    obtain ⟨h1, h2⟩ := lay_ints ns
    exact ⟨by rw [List.map_cons, PyData.canLayAll0, h1]; rfl, by rw [List.map_cons, PyData.depthAll, h2]; rfl⟩
theorem lay_tIs : ∀ l : List (List Int), PyData.canLayAll0 (l.map tI) = true ∧ PyData.depthAll (l.map tI) ≤ 1
  | [] => ⟨rfl, Nat.zero_le _⟩
  | x :: l => by
    obtain ⟨h1, h2⟩ := lay_tIs l
    obtain ⟨a, b⟩ := lay_ints x
    have c : (tI x).canLay0 = true := by show PyData.canLay0 (.tuple _) = true; rw [PyData.canLay0]; exact a
    have e : (tI x).depth = 1 := by show PyData.depth (.tuple _) = 1; rw [PyData.depth, b]
    exact ⟨by rw [List.map_cons, PyData.canLayAll0, h1, c]; rfl, by rw [List.map_cons, PyData.depthAll, e]; omega⟩
theorem shaped_tI (l : List (List Int)) : SeqAt.shaped (.list (l.map tI)) = true := by
  obtain ⟨h1, h2⟩ := lay_tIs l
  unfold SeqAt.shaped
  rw [PyData.canLay0, PyData.depth, h1]
  simp
  omega
theorem shaped_tup (ns : List Int) : SeqAt.shaped (tI ns) = true := by
  obtain ⟨h1, h2⟩ := lay_ints ns
  show SeqAt.shaped (.tuple _) = true
  unfold SeqAt.shaped
  rw [PyData.canLay0, PyData.depth, h1, h2]
  rfl
section
variable {σ : L2.St} {B : Hp} {ta : TA} {tz : TS} {R : RelH} {d1 d2 : D}
theorem e_par {i j : Nat} (h : EvDs ta σ B [d1, d2]) (k : ∀ v w B', Ex B B' → Rp B' v d1 → Rp B' w d2 → EvS tz ((σ.set i (some v)).set j (some w)) B' R) : EvS (tSeq (tPar i j ta) tz) σ B R := fun F H o D q =>
  h F H o _ fun vs H1 e1 r1 => by
    obtain ⟨x, y, rfl, rx, ry⟩ := rpa2 r1
    exact ⟨x, y, rfl, k x y _ (o.go e1).cut rx ry F H1 (o.next e1) D fun u H2 e2 r2 => q u H2 (e1.trans e2) r2⟩
end
end G
/-! GE: the rounds of numbers_of. -/
namespace G
open PySem PySem.Spec PyProof.Rows L2 Evl
abbrev lT (l : List (List Int)) : D := .list (l.map tI)
abbrev Tab := List (List Int × Int)
abbrev Lef := List (List Int × List (List (List Int)))
abbrev knD (kn : Tab) : List (List Int × D) := kn.map fun r => (r.1, PyData.int r.2)
abbrev lfD (lf : Lef) : List (List Int × D) := lf.map fun r => (r.1, PyData.list (r.2.map lT))
theorem look_map {α β : Type} (f : α → β) : ∀ (l : List (List Int × α)) (ks : List Int), look (l.map fun r => (r.1, f r.2)) ks = (look l ks).map f
  | [], ks => rfl
  | r :: l, ks => by
    have ih := look_map f l ks
    by_cases e : r.1 = ks
    · simp [look, List.find?_cons, e]
    · simp only [look, List.map_cons, List.find?_cons, e, decide_false] at ih ⊢
      exact ih
theorem look_append {α : Type} (l m : List (List Int × α)) (ks : List Int) (h : look l ks = none) : look (l ++ m) ks = look m ks := by
  induction l with
  | nil => rfl
  | cons r l ih =>
    by_cases e : r.1 = ks
    · simp [look, List.find?_cons, e] at h
    · simp only [look, List.cons_append, List.find?_cons, e, decide_false] at h ih ⊢
      exact ih h
theorem look_none {α : Type} {l : List (List Int × α)} {ks : List Int} : look l ks = none ↔ ks ∉ l.map (·.1) := by
  unfold look
  rw [Option.map_eq_none_iff, List.find?_eq_none]
  simp only [decide_eq_true_eq, List.mem_map, not_exists, not_and]
def lostB (kn : Tab) (r : List Int × List (List (List Int))) : Bool := r.2.any fun lot => lot.all fun one => (look kn one).isSome
def lostM (kn : Tab) (lf : Lef) : List (List Int) := (lf.filter (lostB kn)).map (·.1)
def loopM : Nat → Tab → Lef → Int → Tab
  | 0, kn, _, _ => kn
  | f + 1, kn, lf, tk => if lostM kn lf = [] then kn else loopM f (kn ++ (lostM kn lf).map (·, tk + 1)) (lf.filter fun r => decide (r.1 ∉ lostM kn lf)) (tk + 1)
theorem lost_nodup {kn : Tab} {lf : Lef} (h : (lf.map (·.1)).Nodup) : (lostM kn lf).Nodup := h.sublist (List.Sublist.map _ List.filter_sublist)
theorem lost_mem {kn : Tab} {lf : Lef} {k : List Int} (h : k ∈ lostM kn lf) : k ∈ lf.map (·.1) := by
  obtain ⟨r, hr, rfl⟩ := List.mem_map.mp h
  exact List.mem_map.mpr ⟨r, (List.mem_filter.mp hr).1, rfl⟩
theorem count_le {kn : Tab} {lf : Lef} : (lf.filter fun r => decide (r.1 ∉ lostM kn lf)).length + (lostM kn lf).length ≤ lf.length := by
  have h1 : (lf.filter fun r => decide (r.1 ∉ lostM kn lf)).length ≤ (lf.filter fun r => !lostB kn r).length := by
    rw [← List.countP_eq_length_filter, ← List.countP_eq_length_filter]
    refine List.countP_mono_left fun r hr h => ?_
    cases e : lostB kn r with
    | false => rfl
    | true => exact absurd (List.mem_map.mpr ⟨r, List.mem_filter.mpr ⟨hr, e⟩, rfl⟩) (of_decide_eq_true h)
  have h2 : (lf.filter (lostB kn)).length + (lf.filter fun r => !lostB kn r).length = lf.length := by
    rw [← List.countP_eq_length_filter, ← List.countP_eq_length_filter]
    have := List.length_eq_countP_add_countP (lostB kn) (l := lf)
    simp only [decide_not, Bool.decide_eq_true] at this
    exact this.symm
  have h3 : (lostM kn lf).length = (lf.filter (lostB kn)).length := List.length_map _
  omega
theorem eqv_nil (l : List D) : PyData.eqv (.list l) (.list []) = l.isEmpty := by
  cases l <;> rfl
theorem Ex.two {H0 H1 H2 H' : Hp} {p q : Addr} (e1 : Ex H0 H1) (e2 : Ex H1 H2) (hp : H0 p = none) (hq : H1 q = none) (a : ∀ b u, b ≠ p → b ≠ q → H2 b = some u → H' b = some u) : Ex H0 H' := fun b u h =>
  a b u (fun z => by rw [z, hp] at h; cases h) (fun z => by rw [z] at h; rw [e1 _ _ h] at hq; cases hq) (e2 _ _ (e1 _ _ h))
/-- the test of one row -/
theorem ev_lost {K : PySem.W.Frag} {a0 a1 a2 a3 a5 a6 a7 a8 a9 a10 a12 a13 : Option V} {B : Hp} {kn : Tab} {r : List Int × List (List (List Int))} {p4 : Addr} {v : V} (rk : rd (knD kn) B (.ref p4)) (rv : Rp B v (.list (r.2.map lT)))
    (hb : r.2.length ≤ 100000) (hb2 : ∀ lot ∈ r.2, lot.length ≤ 100000) :
    EvB (tB (tCB (rAny K) (tCons (tLc (iList K (tVar 11)) (gName 12) tYes (tCB (rAll K) (tCons (tLc (iList K (tVar 12)) (gName 13) tYes (tDIn (tVar 13) (tVar 4)) [13]) tNil)) [12]) tNil))) [a0, a1, a2, a3, some (.ref p4), a5, a6, a7, a8, a9, a10, some v, a12, a13] B (lostB kn r) := by
  refine b_val (as_eq (dcb (d_cons (as_eq (d_lc r.2 lT (fun lot => .bool (lot.all fun one => (look kn one).isSome)) hb (i_list (d_v rv)) fun lot hlot v12 B1 e1 r12 => ?_) (d' := .list ((r.2.map fun lot => lot.all fun one => (look kn one).isSome).map PyData.bool)) (by rw [List.map_map]; rfl)) d_nil) c_any) ?_)
  · refine ⟨_, tg_name, rfl, ?_⟩
    refine as_eq (dcb (d_cons (as_eq (d_lc lot tI (fun one => .bool (look kn one).isSome) (hb2 lot hlot) (i_list (d_v r12)) fun one hone v13 B2 e2 r13 => ?_) (d' := .list ((lot.map fun one => (look kn one).isSome).map PyData.bool)) (by rw [List.map_map]; rfl)) d_nil) c_all) ?_
    · refine ⟨_, tg_name, rfl, ?_⟩
      refine as_eq (d_din (ks := one) (l := knD kn) (d_v r13) (d_var (mono_rd _) (v := .ref p4) rfl (mono_rd _ (e1.trans e2) rk))) ?_
      rw [look_map]
      simp
    · rw [List.all_map]
      rfl
  · rw [List.any_map]
    rfl

def F3 (F : Addr → Prop) (p4 p5 : Addr) : Addr → Prop := fun b => (F b ∨ b = p4) ∨ b = p5
structure Hd (F : Addr → Prop) (H2 : Hp) (p4 p5 : Addr) (H' : Hp) (kn : Tab) (lf : Lef) : Prop where
  a : ∀ b u, b ≠ p4 → b ≠ p5 → H2 b = some u → H' b = some u
  t4 : ∃ kvs, H' p4 = some (.dT kvs) ∧ RpT (cut (F3 F p4 p5) H') kvs (knD kn)
  t5 : ∃ kvs, H' p5 = some (.dT kvs) ∧ RpT (cut (F3 F p4 p5) H') kvs (lfD lf)
theorem Hd.go {F : Addr → Prop} {H2 : Hp} {p4 p5 : Addr} {H' H'' : Hp} {kn : Tab} {lf : Lef} (h : Hd F H2 p4 p5 H' kn lf) (e : Ex H' H'') : Hd F H2 p4 p5 H'' kn lf := by
  obtain ⟨k4, h4, r4⟩ := h.t4
  obtain ⟨k5, h5, r5⟩ := h.t5
  exact ⟨fun b u n1 n2 z => e _ _ (h.a b u n1 n2 z), ⟨k4, e _ _ h4, r4.mono (cut_mono e)⟩, ⟨k5, e _ _ h5, r5.mono (cut_mono e)⟩⟩
theorem Hd.off {F : Addr → Prop} {H2 : Hp} {p4 p5 : Addr} {H' : Hp} {kn : Tab} {lf : Lef} (h : Hd F H2 p4 p5 H' kn lf) (n4 : ¬ F p4) (n5 : ¬ F p5) (dF : ∀ b, F b → ∃ u, H2 b = some u ∧ isTup u = false) :
    Off (F3 F p4 p5) (cut (F3 F p4 p5) H') H' := Off.of fun b hb => by
  rcases hb with (hb | rfl) | rfl
  · obtain ⟨u, hu, ht⟩ := dF b hb
    exact ⟨u, h.a b u (fun z => n4 (z ▸ hb)) (fun z => n5 (z ▸ hb)) hu, ht⟩
  · obtain ⟨k, hk, _⟩ := h.t4
    exact ⟨_, hk, rfl⟩
  · obtain ⟨k, hk, _⟩ := h.t5
    exact ⟨_, hk, rfl⟩
abbrev stL (v0 v1 v2 v3 : Option V) (p4 p5 : Addr) (tk : Int) (hn : Bool) (x8 x9 : Option V) : L2.St := [v0, v1, v2, v3, some (.ref p4), some (.ref p5), some (.int tk), some (.bl hn), x8, x9, none, none, none, none]
def Okr (lf : Lef) : Prop := ∀ r ∈ lf, r.2.length ≤ 100000 ∧ ∀ lot ∈ r.2, lot.length ≤ 100000
structure LfOk (kn : Tab) (lf : Lef) : Prop where
  nd : (lf.map (·.1)).Nodup
  dj : ∀ r ∈ lf, look kn r.1 = none
  sz : kn.length + lf.length ≤ 50000
  ok : Okr lf
def WInv (F : Addr → Prop) (H2 : Hp) (v0 v1 v2 v3 : Option V) (p4 p5 : Addr) (fin : Tab) (m : Nat) (σ' : L2.St) (H' : Hp) : Prop :=
  ∃ tk hn x8 x9 kn lf, σ' = stL v0 v1 v2 v3 p4 p5 tk hn x8 x9 ∧ m = (if hn = true then lf.length + 1 else 0) ∧ Hd F H2 p4 p5 H' kn lf ∧ LfOk kn lf ∧ (if hn = true then ∃ f, lf.length < f ∧ loopM f kn lf tk = fin else kn = fin)
theorem lf_step {lf : Lef} {l : List (List Int)} {k : List Int} : (lf.filter fun r => decide (r.1 ∉ l ++ [k])) = (lf.filter fun r => decide (r.1 ∉ l)).filter fun r => decide (r.1 ≠ k) := by
  rw [List.filter_filter]
  refine List.filter_congr fun r _ => ?_
  by_cases h1 : r.1 ∈ l <;> by_cases h2 : r.1 = k <;> simp [h1, h2]
theorem LfOk.step {kn : Tab} {lf : Lef} {tk : Int} (h : LfOk kn lf) : LfOk (kn ++ (lostM kn lf).map (·, tk)) (lf.filter fun r => decide (r.1 ∉ lostM kn lf)) := by
  refine ⟨h.nd.sublist (List.Sublist.map _ List.filter_sublist), fun r hr => ?_, ?_, fun r hr => h.ok r (List.mem_filter.mp hr).1⟩
  · obtain ⟨h1, h2⟩ := List.mem_filter.mp hr
    have h2 := of_decide_eq_true h2
    refine look_none.mpr fun z => ?_
    rw [List.map_append, List.mem_append, List.map_map] at z
    rcases z with z | z
    · exact look_none.mp (h.dj r h1) z
    · obtain ⟨k, hk, e⟩ := List.mem_map.mp z
      exact h2 (by rw [← e]; exact hk)
  · have := count_le (kn := kn) (lf := lf)
    have := h.sz
    rw [List.length_append, List.length_map]
    omega
theorem knD_app (kn : Tab) (l : List (List Int)) (k : List Int) (tk : Int) : knD (kn ++ (l ++ [k]).map (·, tk)) = knD (kn ++ l.map (·, tk)) ++ [(k, PyData.int tk)] := by
  simp [knD]
theorem lfD_filter (lf : Lef) (k : List Int) : lfD (lf.filter fun r => decide (r.1 ≠ k)) = (lfD lf).filter fun r => decide (r.1 ≠ k) := by
  rw [lfD, lfD, List.filter_map]
  rfl
theorem rounds {K : PySem.W.Frag} {v0 v1 v2 v3 : Option V} {F : Addr → Prop} {H2 H' : Hp} {p4 p5 : Addr} {x8 x9 : Option V} {kn0 : Tab} {lf0 : Lef} {fin : Tab} {D' : Ends} (hne : p4 ≠ p5) (n4 : ¬ F p4) (n5 : ¬ F p5) (dF : ∀ b, F b → ∃ u, H2 b = some u ∧ isTup u = false)
    (h0 : Hd F H2 p4 p5 H' kn0 lf0) (ok0 : LfOk kn0 lf0) (hfin : loopM (lf0.length + 1) kn0 lf0 1 = fin) (q : ∀ H' lf, Hd F H2 p4 p5 H' fin lf → D'.rt (.ref p4) H') :
    tSeq (tWhile (tB (tVar 7)) (tSeq (tAug 6 (tC (.int 1)) (ipI fun i j => i + j)) (tSeq (tLock (tAsg (tLc (iItemsT (tVar 5)) (gTup K 2 (gCons (gName 9) (gCons (gName 11) gNil)))
      (tB (tCB (rAny K) (tCons (tLc (iList K (tVar 11)) (gName 12) tYes (tCB (rAll K) (tCons (tLc (iList K (tVar 12)) (gName 13) tYes (tDIn (tVar 13) (tVar 4)) [13]) tNil)) [12]) tNil))) (tVar 9) [9, 11]) (gName 8)))
      (tSeq (tFor (iList K (tVar 8)) (gName 9) (tSeq (sDPut (tVar 4) (tVar 9) (tVar 6)) (tDrop (tBM K "dict" rPopT1 (tVar 5) (tCons (tVar 9) tNil)))))
        (tAsg (tOp (rNeD K) (tVar 8) (tLst tNil)) (gName 7)))))) (tRet (tVar 4)) D' (stL v0 v1 v2 v3 p4 p5 1 true x8 x9) H' := by
  refine ⟨WInv F H2 v0 v1 v2 v3 p4 p5 fin, ⟨_, 1, true, x8, x9, kn0, lf0, rfl, rfl, h0, ok0, _, Nat.lt_succ_self _, hfin⟩, ?_⟩
  rintro m σ' H' ⟨tk, hn, x8, x9, kn, lf, rfl, rfl, hd, ok, hf⟩
  refine ⟨.bl hn, rfl, hn, rfl, ?_⟩
  cases hn with
  | false =>
    rw [if_neg (by decide)]
    rw [if_neg (by decide)] at hf
    subst hf
    exact ⟨.ref p4, rfl, q _ _ hd⟩
  | true =>
    rw [if_pos rfl]
    rw [if_pos rfl] at hf
    obtain ⟨f, hlt, hf⟩ := hf
    refine ⟨_, fun _ _ h => h, ?_⟩
    refine ⟨.int tk, rfl, tk, 1, rfl, rfl, ?_⟩
    show tLock _ _ (stL v0 v1 v2 v3 p4 p5 (tk + 1) true x8 x9) H'
    obtain ⟨kvs4, h4, r4⟩ := hd.t4
    obtain ⟨kvs5, h5, r5⟩ := hd.t5
    refine ⟨p5, .dT kvs5, h5, True.intro, fun od => ?_⟩
    obtain ⟨Hl, hHl⟩ : ∃ Hl, upd H' p5 (.frz od (.dT kvs5)) = Hl := ⟨_, rfl⟩
    rw [hHl]
    have l5 : Hl p5 = some (.frz od (.dT kvs5)) := by rw [← hHl]; exact upd_same
    have l4 : Hl p4 = some (.dT kvs4) := by rw [← hHl, upd_ne hne]; exact h4
    have lne : ∀ b, b ≠ p5 → Hl b = H' b := fun b hb => by rw [← hHl, upd_ne hb]
    have c3 : cut (F3 F p4 p5) Hl = cut (F3 F p4 p5) H' := by rw [← hHl]; exact cut_upd (Or.inr rfl)
    have ol : Off F (cut F Hl) Hl := Off.of fun b hb => by
      obtain ⟨u, hu, ht⟩ := dF b hb
      exact ⟨u, by rw [lne b (fun z => n5 (z ▸ hb))]; exact hd.a b u (fun z => n4 (z ▸ hb)) (fun z => n5 (z ▸ hb)) hu, ht⟩
    have x3 : Ex (cut (F3 F p4 p5) H') (cut F Hl) := fun b u z => by
      rw [← c3] at z
      obtain ⟨z1, z2⟩ := cut_some.mp z
      exact cut_at (fun y => z1 (.inl (.inl y))) z2
    have ev : EvD (tLc (iItemsT (tVar 5)) (gTup K 2 (gCons (gName 9) (gCons (gName 11) gNil))) (tB (tCB (rAny K) (tCons (tLc (iList K (tVar 11)) (gName 12) tYes (tCB (rAll K) (tCons (tLc (iList K (tVar 12)) (gName 13) tYes (tDIn (tVar 13) (tVar 4)) [13]) tNil)) [12]) tNil))) (tVar 9) [9, 11])
        (stL v0 v1 v2 v3 p4 p5 (tk + 1) true x8 x9) (cut F Hl) (.list ((lostM kn lf).map tI)) := by
      refine as_eq (d_lcF lf (fun r => PyData.tuple [tI r.1, PyData.list (r.2.map lT)]) (lostB kn) (fun r => tI r.1) (by have := ok.sz; omega) ?_ fun r hr v B' e rv => ?_) ?_
      · have := i_items (td := tVar 5) (σ := stL v0 v1 v2 v3 p4 p5 (tk + 1) true x8 x9) (B := cut F Hl) (l := lfD lf) fun F' H'' o' Q q => ⟨.ref p5, rfl, q _ _ (Ex.refl _) ⟨p5, od, kvs5, rfl, o'.cut _ _ (cut_at n5 l5), r5.mono (x3.trans o'.cut)⟩⟩
        rw [List.map_map] at this
        exact this
      · obtain ⟨y9, y11, t9, t11, tg⟩ := tg_pair (K := K) (i := 9) (j := 11) (σ := wipe (stL v0 v1 v2 v3 p4 p5 (tk + 1) true x8 x9) [9, 11]) rv
        refine ⟨_, tg, rfl, ev_lost (v := y11) ⟨p4, kvs4, rfl, e _ _ (cut_at n4 l4), r4.mono (x3.trans e)⟩ t11 (ok.ok r hr).1 (ok.ok r hr).2, fun _ => d_v t9⟩
      · unfold lostM
        rw [List.map_map]
        rfl
    refine ev F Hl ol _ fun v8 H3 e3 r8 => ?_
    refine ⟨e3 _ _ l5, ?_⟩
    obtain ⟨H4, hH4⟩ : ∃ H4, upd H3 p5 (.dT kvs5) = H4 := ⟨_, rfl⟩
    rw [hH4]
    have c4 : cut (F3 F p4 p5) H4 = cut (F3 F p4 p5) H3 := by rw [← hH4]; exact cut_upd (Or.inr rfl)
    have x4 : Ex (cut (F3 F p4 p5) H') (cut (F3 F p4 p5) H4) := by rw [c4, ← c3]; exact cut_mono e3
    have r8' : Rp (cut (F3 F p4 p5) H4) v8 (.list ((lostM kn lf).map tI)) := by
      rw [c4]
      exact (r8.addF (e3 _ _ l4) rfl).addF (e3 _ _ l5) rfl
    have hd4 : Hd F H2 p4 p5 H4 (kn ++ ((lostM kn lf).take 0).map (·, tk + 1)) (lf.filter fun r => decide (r.1 ∉ (lostM kn lf).take 0)) := by
      have e1 : (kn ++ ((lostM kn lf).take 0).map (·, tk + 1)) = kn := by simp
      have e2 : (lf.filter fun r => decide (r.1 ∉ (lostM kn lf).take 0)) = lf := by simp
      rw [e1, e2]
      refine ⟨fun b u z1 z2 z => ?_, ⟨kvs4, ?_, r4.mono x4⟩, ⟨kvs5, by rw [← hH4]; exact upd_same, r5.mono x4⟩⟩
      · rw [← hH4, upd_ne z2]
        exact e3 _ _ (by rw [lne b z2]; exact hd.a b u z1 z2 z)
      · rw [← hH4, upd_ne hne]
        exact e3 _ _ l4
    have o4 := hd4.off n4 n5 dF
    refine s_for (σ := stL v0 v1 v2 v3 p4 p5 (tk + 1) true (some v8) x9) (lostM kn lf) tI (i_list (d_v r8')) o4 (fun B1 k σ' Hk => Off (F3 F p4 p5) B1 Hk ∧ (∃ y9, σ' = stL v0 v1 v2 v3 p4 p5 (tk + 1) true (some v8) y9) ∧ Hd F H2 p4 p5 Hk (kn ++ ((lostM kn lf).take k).map (·, tk + 1)) (lf.filter fun r => decide (r.1 ∉ (lostM kn lf).take k)))
      (fun H1 e1 => ⟨o4.next e1, ⟨x9, rfl⟩, hd4.go e1⟩) (fun B1 k σ' H' _ h => h.1) (fun B1 k row v σ' Hk Hk' eB ha hP eH rv => ?_) (fun B1 σ' Hk eB hP => ?_)
    · obtain ⟨oH, ⟨y9, rfl⟩, hdk⟩ := hP
      obtain ⟨hk, rfl⟩ := List.getElem?_eq_some_iff.mp ha
      have hdk' := hdk.go eH
      obtain ⟨m4, g4, s4⟩ := hdk'.t4
      obtain ⟨m5, g5, s5⟩ := hdk'.t5
      obtain ⟨b, rfl, hb⟩ := rv.tI_inv
      have hb' := cut_ex _ _ hb
      have htk : (lostM kn lf).take (k + 1) = (lostM kn lf).take k ++ [(lostM kn lf)[k]] := List.take_succ_eq_append_getElem hk
      have nd := lost_nodup (kn := kn) ok.nd
      have hnot : (lostM kn lf)[k] ∉ (lostM kn lf).take k := fun z => by
        have := List.nodup_append.mp (show ((lostM kn lf).take k ++ (lostM kn lf).drop k).Nodup by rw [List.take_append_drop]; exact nd)
        exact this.2.2 _ z _ (by rw [List.drop_eq_getElem_cons hk]; exact List.mem_cons_self) rfl
      have hin := lost_mem (List.getElem_mem hk)
      obtain ⟨r, hr, hre⟩ := List.mem_map.mp hin
      have hno : look (knD (kn ++ ((lostM kn lf).take k).map (·, tk + 1))) (lostM kn lf)[k] = none := by
        refine look_none.mpr fun z => ?_
        rw [List.map_map, List.map_append, List.mem_append, List.map_map] at z
        rcases z with z | z
        · exact look_none.mp (ok.dj r hr) (by rw [hre]; exact z)
        · obtain ⟨c, hc, e⟩ := List.mem_map.mp z
          exact hnot (by rw [← e]; exact hc)
      have hyes : (look (lfD (lf.filter fun r => decide (r.1 ∉ (lostM kn lf).take k))) (lostM kn lf)[k]).isSome = true := by
        cases e : look (lfD (lf.filter fun r => decide (r.1 ∉ (lostM kn lf).take k))) (lostM kn lf)[k] with
        | some _ => rfl
        | none =>
          refine absurd (List.mem_map.mpr ⟨(r.1, PyData.list (r.2.map lT)), ?_, hre⟩) (look_none.mp e)
          exact List.mem_map.mpr ⟨r, List.mem_filter.mpr ⟨hr, decide_eq_true (by rw [hre]; exact hnot)⟩, rfl⟩
      have v4 := (s4.val (lostM kn lf)[k]).2 hno
      rw [← s5.some'] at hyes
      obtain ⟨w5, v5⟩ := Option.isSome_iff_exists.mp hyes
      have hz : m4.length < sizeLine := sz_lt (by
        rw [s4.length, List.length_map, List.length_append, List.length_map]
        have h1 := ok.sz
        have h2 := count_le (kn := kn) (lf := lf)
        have h3 : ((lostM kn lf).take k).length ≤ k := List.length_take_le _ _
        omega)
      show sDPut (tVar 4) (tVar 9) (tVar 6) _ (stL v0 v1 v2 v3 p4 p5 (tk + 1) true (some v8) (some (.ref b))) Hk'
      refine ⟨.int (tk + 1), rfl, .ref p4, rfl, .ref b, rfl, p4, _, rfl, DPut.t g4 (k := kI (lostM kn lf)[k]) (by rw [kV_kI]; exact hb') hz, ?_⟩
      have nb4 : b ≠ p4 := fun z => by rw [z, g4] at hb'; cases hb'
      refine ⟨.ref p5, rfl, .inr (.inr (.inl ⟨rfl, .inr ⟨m5, by rw [upd_ne (Ne.symm hne)]; exact g5⟩⟩)), .ref b, rfl, p5, m5, kI (lostM kn lf)[k], b, w5, rfl, rfl, by rw [upd_ne (Ne.symm hne)]; exact g5, by rw [upd_ne nb4, kV_kI]; exact hb', v5, ?_⟩
      refine ⟨((oH.go eH).upd (Or.inl (Or.inr rfl))).upd (Or.inr rfl), ⟨_, rfl⟩, ?_⟩
      have cc : cut (F3 F p4 p5) (upd (upd Hk' p4 (.dT (putK m4 (kI (lostM kn lf)[k]) (.int (tk + 1))))) p5 (.dT (dropK m5 (kI (lostM kn lf)[k])))) = cut (F3 F p4 p5) Hk' := by
        rw [cut_upd (Or.inr rfl), cut_upd (Or.inl (Or.inr rfl))]
      refine ⟨fun c u z1 z2 z => ?_, ⟨_, by rw [upd_ne hne]; exact upd_same, ?_⟩, ⟨_, upd_same, ?_⟩⟩
      · rw [upd_ne z2, upd_ne z1]
        exact hdk'.a c u z1 z2 z
      · rw [cc, htk, knD_app, putK_new _ v4]
        exact s4.snoc (.int _)
      · rw [cc, htk, lf_step, lfD_filter]
        exact s5.drop _
    · obtain ⟨oH, ⟨y9, rfl⟩, hdk⟩ := hP
      rw [List.take_length] at hdk
      have ev : EvD (tOp (rNeD K) (tVar 8) (tLst tNil)) (stL v0 v1 v2 v3 p4 p5 (tk + 1) true (some v8) y9) B1 (.bool (!(lostM kn lf).isEmpty)) := as_eq (dop (d_v (r8'.mono eB)) (d_lst d_nil (Nat.zero_le _)) (o_neD (shaped_tI _) rfl)) (by rw [eqv_nil]; cases lostM kn lf <;> rfl)
      refine ev _ Hk oH _ fun v7 H7 e7 r7 => ?_
      obtain rfl := r7.bl_inv
      show ∃ m', _ ∧ WInv F H2 v0 v1 v2 v3 p4 p5 fin m' (stL v0 v1 v2 v3 p4 p5 (tk + 1) (!(lostM kn lf).isEmpty) (some v8) y9) H7
      have ok' := ok.step (tk := tk + 1)
      refine ⟨_, ?_, tk + 1, _, some v8, y9, _, _, rfl, rfl, hdk.go e7, ok', ?_⟩
      · cases he : lostM kn lf with
        | nil => exact Nat.succ_pos _
        | cons k l =>
          have := count_le (kn := kn) (lf := lf)
          rw [he] at this
          show (lf.filter fun r => decide (r.1 ∉ k :: l)).length + 1 < lf.length + 1
          rw [List.length_cons] at this
          omega
      · cases he : lostM kn lf with
        | nil =>
          cases f with
          | zero => omega
          | succ f =>
            rw [loopM, if_pos he] at hf
            show kn ++ [] = fin
            rw [List.append_nil]
            exact hf
        | cons k l =>
          have := count_le (kn := kn) (lf := lf)
          cases f with
          | zero => omega
          | succ f =>
            rw [loopM, if_neg (by rw [he]; exact List.cons_ne_nil _ _)] at hf
            rw [he] at hf this
            rw [List.length_cons] at this
            exact ⟨f, by omega, hf⟩
end G
/-! GF: name = {k: v for ..} on one line, keys tuples. -/
namespace G
open PySem PySem.Spec PyProof.Rows L2 Evl
section
variable {X : Cx}
theorem sw_trueD {kx vx : Expr} {gs : List Comprehension} {scope : Scope} {pos py : Pos} {y : Str} {l : Nat} {env : Env} (hk : env.scope.kind = .function) (hy : env.scope.names.lookup y = some .local) (hl : (py.line == pos.line) = true)
    (ha : (scope.names.any fun (n, k) => n == y && (k == .local || k == .cell)) = false) : swapsWith (.DictComp kx vx gs scope pos) (some (.Name y py)) l env = pure true := by
  have ky : env.kindOf y = some .local := hy
  have hb : env.blockKind = .function := by unfold Env.blockKind; rw [hk]; rfl
  unfold swapsWith
  simp only [hb, ky, ha, Expr.pos, hl]
  rfl
theorem ps_setDcT {i : Nat} {y : Str} {py : Pos} {kx vx tg iter : Expr} {ifs : List Expr} {scope : Scope} {own : List (Str × Nat)} {pos spos : Pos} {wi : TI} {g : TG} {tt : TT} {tk tv : TE} (hu : X.A.units + 1 < cLine) (hc : X.calm = true) (hN : X.N.Nodup) (hy : X.N[i]? = some y) (hyl : X.env.scope.names.lookup y = some .local)
    (hsw : swapsWith (.DictComp kx vx [⟨tg, iter, ifs, 0⟩] scope pos) (some (.Name y py)) spos.line X.env = pure true) (hi : PI X tg iter wi) (ok : BlkOk X.N X.env.scope scope own)
    (hg : ∀ (s : Shared) (H : Hp) (C : Addr) (cl : List (Str × Addr)) (fp : List Addr), PG (X.blk s H scope (compEnvC scope cl C X.env) fp) tg g) (ht : ∀ (s : Shared) (H : Hp) (C : Addr) (cl : List (Str × Addr)) (fp : List Addr), PTs (X.blk s H scope (compEnvC scope cl C X.env) fp) ifs tt)
    (hk : ∀ (s : Shared) (H : Hp) (C : Addr) (cl : List (Str × Addr)) (fp : List Addr), PE (X.blk s H scope (compEnvC scope cl C X.env) fp) kx tk)
    (he : ∀ (s : Shared) (H : Hp) (C : Addr) (cl : List (Str × Addr)) (fp : List Addr), PE (X.blk s H scope (compEnvC scope cl C X.env) fp) vx tv) (hs : ∀ x, foldedSetIterable iter X.env x = pure x := by intro _; rfl) :
    PS X (.Assign [.Name y py] (.DictComp kx vx [⟨tg, iter, ifs, 0⟩] scope pos) spos) (tAsg (tDcT wi g tt tk tv (own.map (·.2))) (gName i)) := by
  refine ⟨fun pins s σ H D I h => ?_⟩
  rw [exec_Assign_Name_used _ _ _ _ hsw]
  refine wpAny_bind (wpAny_standAt (wpAny_bind ?_))
  show wpAny _ X.A (do let _ ← comprehension (.DictComp kx vx [⟨tg, iter, ifs, 0⟩] scope pos) scope X.env (firstIterPos [⟨tg, iter, ifs, 0⟩] pos) newDict false (eval iter X.env) (some (assign (.Name y py) X.env))) _ _ s
  have h : tDcT wi g tt tk tv (own.map (·.2)) σ H (fun x H1 => gName i x σ H1 D.nx) := h
  refine wpAny_bind (thn (dcT_core (Qf := fun _ s' => SP X pins D .next s') hu hc hN I hi ok hg ht hk he hs h fun L C s' m H' I' q hn f => ?_) fun _ s' hq => wpAny_pure (wpAny_pure hq))
  show wpAny _ _ (assign (.Name y py) X.env (.ref L)) _ _ _
  refine wpAny_assign_Name (store_ok2 (v := V.ref L) I' hN hy (.inl hyl) rfl (fun s2 I2 ⟨a, sb, ha⟩ => ?_) (.inr hyl))
  obtain ⟨f0, f1, f2, f3, f4, f5⟩ := f
  have haC : C ≠ a := by
    rcases ha with z | z
    · rw [z]; exact f1
    · exact fun e => f4 y a z e.symm
  refine ⟨m, hn.sameBut sb haC, fun h3 sb3 => ?_⟩
  exact ⟨_, H', I2.turned (t' := s2.toks) (fun b o hb e => (sb3.2 b hb).trans e) f0 f1 f3 f4 f5, q⟩
end
theorem n_asg {te : TE} {u : TS} {i : Nat} {D : Ends} {σ : L2.St} {F : Addr → Prop} {B H : Hp} {R : RelH} (ev : EvN te σ B R) (o : Off F B H) (k : ∀ p H', H p = none → Ex H H' → R (cut F H') (.ref p) → u D (σ.set i (some (.ref p))) H') : tSeq (tAsg te (gName i)) u D σ H := ev F H o _ k
end G
/-! GX: an own exception class whose __init__ takes nothing and calls its own base's __init__ (HandS.ExcInit, turned to: no field, no argument, an own base). -/
namespace G
open PySem PySem.Spec PyProof.Rows L2 Evl
section
variable {X : Cx} {e : Expr} {es : List Expr} {ta : TA} {p p1 p2 pos : Pos}
/-- Base.__init__(self, ..), Base an own class at CB -/
theorem pe_ceinit {pl : Sem Bool} {b : Str} {CB : Addr} {mc : Value} (hg : Gl X b) (hm : X.mg b = some (.ref CB)) (sC : PySem.W.specialIn X.K (.ref CB) "__getattribute__" = some (some (.builtin "type.__getattribute__"))) (rC : PySem.W.readsIn X.K CB mc = true)
    (vV : PySem.W.findCls X.K (.ref CB) mc "__init__" = some (.val (.builtin "ValueError.__init__"))) (ha : PA X (e :: es) ta) (hdb : (b == ("__debug__" : Str)) = false := by decide)
    (hc : eval (.Call (.Attribute (.Name b p1) "__init__" p2) (e :: es) [] pos) X.env = (do
      let ov ← eval (.Name b p1) X.env
      standAt p2.atName
      let (f, first) ← holding [ov] (getMethod ov "__init__" pl)
      callWith pos f first (backTo pos (starEach (e :: es) X.env)) (backToKw pos (keywordEach [] X.env))) := by rfl)
    (he : starEach (e :: es) X.env = (false, eval e X.env) :: starEach es X.env := by rfl) (hpl : (backTo pos (starEach es X.env)).any (·.1) = false := by rfl) :
    PE X (.Call (.Attribute (.Name b p1) "__init__" p2) (e :: es) [] pos) (tVeI X.K ta) := by
  refine ⟨fun pins s σ H Q I h => ?_⟩
  refine PySem.W.methodCall_KW (ld_glob I hg hm ?_ hdb) hc
  refine PySem.W.method_cls I.kIn sC (PySem.W.cls_value I.kIn rC vV (by decide +kernel) ?_)
  show wpAny _ _ (callWith pos (Value.builtin "ValueError.__init__") [] (backTo pos (starEach (e :: es) X.env)) []) _ _ _
  refine PyProof.Rows.callWith_method1 (thn (ha.run pos pins _ σ H _ (I.tok _) h) fun us s1 ⟨vs, H1, I1, r1, a, C, ws, ev, hl, T, ea, q⟩ => ?_) he hpl
  subst ev
  cases r1 with
  | @cons _ u0 _ ur ra rw' =>
    obtain rfl : u0 = Value.ref a := ra
    have hlen : ur.length ≤ sizeLine := by
      rw [← Paired.length rw', sizeLine_eq]
      omega
    exact oinit_ok T I1 ea hlen fun s' J => ⟨.non, H1, J, rfl, q⟩
theorem mk_endN {pins : List (Addr × Obj)} {σ : L2.St} {H1 H2 : Hp} {hp hp2 h2 : Heap} {g1 g2 : Array GenState} {d1 d2 : Drawn} {t1 t2 : Nat} {os1 os2 : OsState} {a C : Addr} (I1 : Inv X pins σ H1 ⟨hp, g1, d1, t1, os1⟩)
    (ha : hp.objs.size ≤ a) (k : ∀ b o, hp.get? b = some o → hp2.get? b = some o) (un : Un (frs X.stack) [] (upd H1 a (exo a C none)) H2 hp2 h2) (hok : HOk X.prog X.w H2 h2) (ho : os2 = os1) (hb : AllBare g2)
    (ea : H2 a = some (exo a C none)) :
    ∃ (t0 : Addr) (G : Heap), Inv X pins σ (del H2 a) ⟨G, g2, d2, t2, os2⟩ ∧ (∀ b o, G.get? b = some o → h2.get? b = some o) ∧ G.get? a = none ∧
      h2.get? a = some ({ cls := .ref C, dict := none, data := .fields #[.ref t0, .none, .none, .none, .bool false, .none] } : Obj) := by
  obtain ⟨t0, hoe⟩ := exo_at hok ea
  have hn : H1 a = none := I1.hok.fresh ha
  obtain ⟨G, g1', g2'⟩ := restrict h2 fun b => decide (b ≠ a)
  have gk : ∀ b, b ≠ a → G.get? b = h2.get? b := fun b hb => g1' b (decide_eq_true hb)
  have ge : G.get? a = none := g2' a (by simp)
  have nha : ∀ {b : Addr} {o : Obj}, hp.get? b = some o → b ≠ a := fun {b o} z => Nat.ne_of_lt (Nat.lt_of_lt_of_le (Heap.lt_size z) ha)
  have up : ∀ {b : Addr}, b ≠ a → H1 b = none → upd H1 a (exo a C none) b = none := fun {b} hb n => by rw [upd_ne hb]; exact n
  have U : Un (frs X.stack) [] H1 (del H2 a) hp G := {
    keep := fun b o z n hf hx => by
      rw [gk b (nha z)]
      exact un.keep b o (k b o z) (up (nha z) n) hf hx
    slot := fun b o z n hf hx => by
      rw [gk b (nha z)]
      exact un.slot b o (k b o z) (up (nha z) n) hf hx
    free := fun b o z n hx => by
      rw [del_ne (nha z)]
      exact un.free b o (k b o z) (up (nha z) n) hx
    there := fun b o z hx => by
      rw [gk b (nha z)]
      exact un.there b o (k b o z) hx
    tups := fun b xs z => by
      rw [del_ne (ne_of_none z hn)]
      exact un.tups b xs (by rw [upd_ne (ne_of_none z hn)]; exact z)
    frzs := fun b o v z => by
      rw [del_ne (ne_of_none z hn)]
      exact un.frzs b o v (by rw [upd_ne (ne_of_none z hn)]; exact z)
    tbls := fun b ps z => by
      rw [del_ne (ne_of_none z hn)]
      exact un.tbls b ps (by rw [upd_ne (ne_of_none z hn)]; exact z) }
  have hok3 : HOk X.prog X.w (del H2 a) G := fun b o z => by
    have hba : b ≠ a := fun e => by
      rw [e, del_same] at z
      cases z
    rw [del_ne hba] at z
    have noa : ∀ {c : Addr}, H2 c = some (.own b) → c ≠ a := fun {c} hc => at_ne ea hc exo_own
    exact (hok b o z).stay (fun c v hc y => by
        have hca : c ≠ a := by
          rcases hc with hc | hc
          · rw [hc]
            exact hba
          · exact noa hc
        rw [gk c hca]
        exact y)
      (fun c hc => by rw [del_ne (noa hc)]; exact hc) (fun c xs hc => by rw [del_ne (at_ne ea hc exo_tup)]; exact hc)
  have J : Inv X pins σ (del H2 a) ⟨G, g2, d2, t2, os2⟩ := I1.call' (ch := []) ho U hok3 hb (fun b z => absurd z (by simp))
  refine ⟨t0, G, J, fun b o z => ?_, ge, hoe⟩
  by_cases hba : b = a
  · rw [hba, ge] at z
    cases z
  · exact (gk b hba).symm.trans z
/-- what that __init__ keeps -/
def spInit (K : PySem.W.Frag) : Sp := fun vs H Q E => ∃ a C : Addr, vs = [.ref a] ∧ OexC K C ∧ H a = some (exo a C none) ∧ Q .non H
/-- C(), C's own __init__ as above -/
theorem pmk_oex0 {CX : CXT} {x : Str} {C fI : Addr} {k : Nat} {fd : FuncData} (T : OexC X.K C) (iC : PySem.W.findIn X.K (.ref C) "__init__" = some (some (.ref fI))) (tI : PySem.W.typeIn X.K (.ref fI) = some (.type "function"))
    (F1 : FnOk X.prog X.w X.K X.mg X.base CX k fI fd ["self"] (spInit X.K)) (hr : Room (k + 1) X.A) (hb : Binds X.K fd ["self"] []) (hx : Passes CX X (fun _ _ _ => False)) (hg : Gl X x) (hm : X.mg x = some (.ref C))
    (hdb : (x == ("__debug__" : Str)) = false := by decide) :
    PMk X (.Call (.Name x p) [] [] pos) (fun σ H Q => Q (.ref C) none H) := by
  intro pins s σ H Q I h
  obtain ⟨nm, q, N, bs, bm, sn, sub, ab, col, dd, k0, k1, k2, k3, k5, hC, hbm⟩ := T.cls
  refine wpAny_Call_Name_kw (ld_glob I hg hm ?_ hdb)
  refine PySem.W.callWith_K0 I.kIn T.kC ?_
  show wpAny _ _ (call (.ref C) []) _ _ _
  obtain ⟨hp, g, dr, tk, os⟩ := s
  have hsz : hp.objs.size ≤ hp.objs.size + 1 := Nat.le_succ _
  have hn : H (hp.objs.size + 1) = none := I.hok.fresh hsz
  have kk : ∀ b o, hp.get? b = some o → ((hp.push (PySem.W.kdv_tup [])).push (PySem.HandSPX.excO C hp.objs.size)).get? b = some o := fun b o e => Heap.get?_push_of_some _ (Heap.get?_push_of_some _ e)
  have hget : ((hp.push (PySem.W.kdv_tup [])).push (PySem.HandSPX.excO C hp.objs.size)).get? (hp.objs.size + 1) = some (PySem.HandSPX.excO C hp.objs.size) := by heap_get
  have I2 : Inv X pins σ (upd H (hp.objs.size + 1) (exo (hp.objs.size + 1) C none)) ⟨(hp.push (PySem.W.kdv_tup [])).push (PySem.HandSPX.excO C hp.objs.size), g, dr, tk, os⟩ :=
    I.laid (t' := tk) (a := hp.objs.size + 1) (o := exo (hp.objs.size + 1) C none) (h' := (hp.push (PySem.W.kdv_tup [])).push (PySem.HandSPX.excO C hp.objs.size)) kk hsz (exo_ok hget)
  have r2 : Vals [V.ref (hp.objs.size + 1)] [Value.ref (hp.objs.size + 1)] := .cons rfl .nil
  have hq : spInit X.K [V.ref (hp.objs.size + 1)] (upd H (hp.objs.size + 1) (exo (hp.objs.size + 1) C none)) (fun v H2 => v = .non ∧ H2 = upd H (hp.objs.size + 1) (exo (hp.objs.size + 1) C none)) (fun _ _ _ => False) := ⟨_, C, rfl, T, upd_same, rfl, rfl⟩
  refine wpAny_call (PySem.HandSPX.call_own F.excBase_ValueError (fun Y => PySem.HandSPX.refsVE_contains Y bm hbm) (I.kIn _ _ hC) (PySem.W.looks_findIn I.kIn iC) (fun self => PySem.W.bind_fn I.kIn self tI) (Nat.zero_le _)
    (codeAny_mono (F1.run _ X.stack _ _ ⟨[Value.ref (hp.objs.size + 1)], []⟩ [Value.ref (hp.objs.size + 1)] _ _ (fun _ _ _ => False) (hr.make C [] []) (I2.env0.make C [] []) (hb _ [Value.ref (hp.objs.size + 1)] I2.kIn rfl) r2 hq) fun r s' hq' => ?_))
  cases r with
  | error er => exact hx pins σ _ _ er s' I2 hq'
  | ok fl =>
    cases fl with
    | ret u =>
      obtain ⟨v, H2, os2, bare2, un2, hok2, rv, ev, eH⟩ := hq'
      subst ev
      subst eH
      obtain ⟨h2, g2, d2, t2, os'⟩ := s'
      obtain ⟨t0, G, J, kG, ge, hoe⟩ := mk_endN (d2 := d2) (t2 := t2) I hsz kk un2 hok2 os2 bare2 upd_same
      have ed : del (upd H (hp.objs.size + 1) (exo (hp.objs.size + 1) C none)) (hp.objs.size + 1) = H := by
        funext b
        by_cases hb : b = hp.objs.size + 1
        · rw [hb, del_same, hn]
        · rw [del_ne hb, upd_ne hb]
      rw [ed] at J
      exact ⟨rv, _, _, _, ⟨G, g2, d2, t2, os'⟩, H, .ref C, none, rfl, J, kG, ge, hoe, ⟨rfl, rfl⟩, rfl, rfl, hn, rfl, bare2, raises_own T.exC T.tyC, h⟩
    | next => exact False.elim hq'
    | brk => exact False.elim hq'
    | cont => exact False.elim hq'
end
end G
/-! GY: a for loop that may return. -/
namespace G
open PySem PySem.Spec PyProof.Rows L2 Evl
section
variable {K : PySem.W.Frag} {σ : L2.St} {B : Hp} {R : RelH} {wi : TI} {g : TG} {tt : TT} {te : TE} {tz : TS} {α : Type}
/-- for x in ..: if test: return e -/
theorem e_forRet (xs : List α) (ea : α → D) (p : α → Bool) (S : L2.St → Prop) (hi : EvI wi σ B (xs.map ea)) (h0 : S σ)
    (ht : ∀ x ∈ xs, ∀ v σ' B', S σ' → Ex B B' → Rp B' v (ea x) → ∃ σ2, TgOk g v σ' σ2 B' ∧ S σ2 ∧ EvB tt σ2 B' (p x) ∧ (xs.find? p = some x → EvR te σ2 B' R))
    (hz : xs.find? p = none → ∀ σ' B', S σ' → Ex B B' → EvS tz σ' B' R) : EvS (tSeq (tFor wi g (tIfS tt (tRet te) tNext)) tz) σ B R := by
  intro F H o D' q
  refine s_for xs ea hi o (fun B1 k σ' H' => Off F B1 H' ∧ Ex H H' ∧ S σ' ∧ ∀ j (hj : j < xs.length), j < k → p xs[j] = false) (fun H1 e1 => ⟨o.next e1, e1, h0, fun _ _ h => absurd h (Nat.not_lt_zero _)⟩) (fun B1 k σ' H' _ h => h.1)
    (fun B1 k x v σ' H' H'' eB hx hP eH rv => ?_) (fun B1 σ' H' eB hP => ?_)
  · obtain ⟨oH, eH0, hS, hp⟩ := hP
    obtain ⟨hk, rfl⟩ := List.getElem?_eq_some_iff.mp hx
    obtain ⟨σ2, tg, hS2, hb, hr⟩ := ht xs[k] (List.getElem_mem hk) v σ' _ hS (eB.trans ((oH.go eH).cut)) rv
    have o2 := oH.next eH
    refine tg F H'' o2 _ (hb F H'' o2 _ fun H3 e3 => ?_)
    cases hpk : p xs[k] with
    | true =>
      have hf : xs.find? p = some xs[k] := List.find?_eq_some_iff_getElem.mpr ⟨hpk, k, hk, rfl, fun j hj => by rw [hp j (by omega) hj]; rfl⟩
      exact hr hf F H3 (o2.go e3) _ fun u H4 e4 r4 => q u H4 (((eH0.trans eH).trans e3).trans e4) r4
    | false =>
      refine ⟨(oH.go eH).go e3, (eH0.trans eH).trans e3, hS2, fun j hj hjk => ?_⟩
      by_cases h : j = k
      · subst h; exact hpk
      · exact hp j hj (by omega)
  · obtain ⟨oH, eH0, hS, hp⟩ := hP
    have hn : xs.find? p = none := List.find?_eq_none.mpr fun x hx => by
      obtain ⟨j, hj, rfl⟩ := List.mem_iff_getElem.mp hx
      rw [hp j hj hj]
      exact Bool.false_ne_true
    exact hz hn σ' _ hS eB F H' oH D' fun u H2 e2 r2 => q u H2 (eH0.trans e2) r2
theorem e_pair {te : TE} {i : Nat} {d : D} (h : EvD te σ B d) (k : ∀ v B', Ex B B' → Rp B' v d → EvS tz (σ.set i (some v)) B' R) : EvS (tSeq (tAsg te (gName i)) tz) σ B R := e_asg h k
end
/-- what a look-up comes to -/
def oD : Option Int → D
  | none => .none
  | some i => .int i
theorem look_oD (kn : Tab) (ks : List Int) : (look (knD kn) ks).getD .none = oD (look kn ks) := by
  rw [look_map]
  cases look kn ks <;> rfl
theorem look_oD2 (kn : Tab) (ks : List Int) (i : Int) : (look (knD kn) ks).getD (.int i) = .int ((look kn ks).getD i) := by
  rw [look_map]
  cases look kn ks <;> rfl
end G
namespace G
open PySem PySem.Spec PyProof.Rows L2 Evl
section
variable {σ : L2.St} {F : Addr → Prop} {B H : Hp} {R : RelH} {te : TE} {tt : TT} {tu tw tz : TS} {D' : Ends} {b : Bool} {d : D}
theorem h_asg {i : Nat} (h : EvR te σ B R) (o : Off F B H) (k : ∀ v H1, Ex H H1 → Off F (cut F H1) H1 → Ex B (cut F H1) → R (cut F H1) v → tz D' (σ.set i (some v)) H1) : tSeq (tAsg te (gName i)) tz D' σ H :=
  h F H o _ fun v H1 e1 r1 => k v H1 e1 (o.next e1) (o.go e1).cut r1
theorem h_asgD {i : Nat} (h : EvD te σ B d) (o : Off F B H) (k : ∀ v H1, Ex H H1 → Off F (cut F H1) H1 → Ex B (cut F H1) → Rp (cut F H1) v d → tz D' (σ.set i (some v)) H1) : tSeq (tAsg te (gName i)) tz D' σ H := h_asg h o k
theorem h_if (h : EvB tt σ B b) (o : Off F B H) (k1 : b = true → ∀ H1, Ex H H1 → Off F B H1 → tu { D' with nx := tz D' } σ H1) (k2 : b = false → ∀ H1, Ex H H1 → Off F B H1 → tw { D' with nx := tz D' } σ H1) : tSeq (tIfS tt tu tw) tz D' σ H :=
  h F H o _ fun H1 e1 => by
    cases b with
    | true => exact k1 rfl H1 e1 (o.go e1)
    | false => exact k2 rfl H1 e1 (o.go e1)
end
theorem EvS.run {t : TS} {σ : L2.St} {F : Addr → Prop} {B H : Hp} {R : RelH} {D' : Ends} (h : EvS t σ B R) (o : Off F B H) (q : ∀ v H', Ex H H' → R (cut F H') v → D'.rt v H') : t D' σ H := h F H o D' q
theorem d_isNO {te : TE} {σ : L2.St} {B : Hp} : ∀ {x : Option Int}, EvD te σ B (oD x) → EvD (tIsN te) σ B (.bool x.isNone)
  | none, h => d_isN h rfl
  | some _, h => d_isN h rfl
theorem d_notNO {te : TE} {σ : L2.St} {B : Hp} : ∀ {x : Option Int}, EvD te σ B (oD x) → EvD (tNotN te) σ B (.bool (!x.isNone))
  | none, h => d_notN h rfl
  | some _, h => d_notN h rfl
end G
/-! GZ: words for the law's own draws. -/
namespace G
open PySem PySem.Spec PyProof.Rows L2 Evl
theorem c_abs {i : Int} : CallD (fun xs H Q => ∃ i, xs = [.int i] ∧ Q (.int (if i < 0 then -i else i)) H) (rps [.int i]) (rp (.int (if i < 0 then -i else i))) := fun {B xs} r F H o Q q => by
  obtain ⟨x, rfl, rx⟩ := rpa1 r
  obtain rfl := rx.int_inv
  exact ⟨i, rfl, q _ H (Ex.refl H) (.int _)⟩
theorem c_intb {b : Bool} : CallD (fun xs H Q => (∃ i, xs = [.int i] ∧ Q (.int i) H) ∨ ∃ k, xs = [.bl k] ∧ Q (.int (if k then 1 else 0)) H) (rps [.bool b]) (rp (.int (if b then 1 else 0))) := fun {B xs} r F H o Q q => by
  obtain ⟨x, rfl, rx⟩ := rpa1 r
  obtain rfl := rx.bl_inv
  exact .inr ⟨b, rfl, q _ H (Ex.refl H) (.int _)⟩
theorem c_min2 {i j : Int} : CallD (fun xs H Q => ∃ i j, xs = [.int i, .int j] ∧ Q (.int (if j < i then j else i)) H) (rps [.int i, .int j]) (rp (.int (if j < i then j else i))) := fun {B xs} r F H o Q q => by
  obtain ⟨x, y, rfl, rx, ry⟩ := rpa2 r
  obtain rfl := rx.int_inv
  obtain rfl := ry.int_inv
  exact ⟨i, j, rfl, q _ H (Ex.refl H) (.int _)⟩
theorem c_max2 {i j : Int} : CallD (fun xs H Q => ∃ i j, xs = [.int i, .int j] ∧ Q (.int (if j > i then j else i)) H) (rps [.int i, .int j]) (rp (.int (if j > i then j else i))) := fun {B xs} r F H o Q q => by
  obtain ⟨x, y, rfl, rx, ry⟩ := rpa2 r
  obtain rfl := rx.int_inv
  obtain rfl := ry.int_inv
  exact ⟨i, j, rfl, q _ H (Ex.refl H) (.int _)⟩
theorem o_modN {i j : Int} (h : j ≠ 0) : OpD (rI (fun _ j => j ≠ 0) fun i j => .int (i.fmod j)) (rp (.int i)) (rp (.int j)) (rp (.int (i.fmod j))) := o_I (C := fun _ j => j ≠ 0) h fun _ => .int _
theorem o_fdivN {i j : Int} (h : CDivN i j) : OpD (rI CDivN fun i j => .int (i.fdiv j)) (rp (.int i)) (rp (.int j)) (rp (.int (i.fdiv j))) := o_I h fun _ => .int _
theorem o_mul {i j : Int} (h : CMul i j) : OpD (rI CMul fun i j => .int (i * j)) (rp (.int i)) (rp (.int j)) (rp (.int (i * j))) := o_I h fun _ => .int _
theorem o_mulW {i j : Int} (h : CMulW i j) : OpD (rI CMulW fun i j => .int (i * j)) (rp (.int i)) (rp (.int j)) (rp (.int (i * j))) := o_I h fun _ => .int _
theorem o_pow {i j : Int} (h : CPow i j) : OpD (rI CPow fun i j => .int (i ^ j.toNat)) (rp (.int i)) (rp (.int j)) (rp (.int (i ^ j.toNat))) := o_I h fun _ => .int _
theorem fmod_lo {i j : Int} (h : 0 < j) : 0 ≤ i.fmod j ∧ i.fmod j < j := ⟨Int.fmod_nonneg_of_pos i h, Int.fmod_lt_of_pos i h⟩
/-- what is known of a hand -/
structure HandAt (H : Hp) (p : Addr) (m : Nat) : Prop where
  at_ : ∃ g h1 h2 : Int, H p = some (.lst [.int g, .int h1, .int h2]) ∧ 0 ≤ h1 ∧ h1 < 2147483647 ∧ 0 ≤ h2 ∧ h2 ≤ (m : Int)
/-- nothing but the thing at p has changed -/
def But (p : Addr) (H H' : Hp) : Prop := ∀ b u, b ≠ p → H b = some u → H' b = some u
theorem But.refl {p : Addr} {H : Hp} : But p H H := fun _ _ _ h => h
theorem But.trans {p : Addr} {H H' H'' : Hp} (a : But p H H') (b : But p H' H'') : But p H H'' := fun c u n h => b c u n (a c u n h)
theorem But.ex {p : Addr} {H H' : Hp} (e : Ex H H') : But p H H' := fun _ _ _ h => e _ _ h
theorem But.upd {p : Addr} {H : Hp} {u : HO} : But p H (upd H p u) := fun b w n h => by rw [upd_ne n]; exact h
theorem But.fresh {p q : Addr} {H H' : Hp} (h : But p H H') (n : H' q = none) (hp : H' p ≠ none) : H q = none := by
  cases e : H q with
  | none => rfl
  | some u =>
    by_cases z : q = p
    · exact absurd (by rw [← z]; exact n) hp
    · rw [h q u z e] at n; cases n
theorem HandAt.mono {H H' : Hp} {p : Addr} {m : Nat} (h : HandAt H p m) (e : Ex H H') : HandAt H' p m := by
  obtain ⟨g, h1, h2, z, a⟩ := h.at_
  exact ⟨g, h1, h2, e _ _ z, a⟩
theorem HandAt.le {H : Hp} {p : Addr} {m m' : Nat} (h : HandAt H p m) (e : m ≤ m') : HandAt H p m' := by
  obtain ⟨g, h1, h2, z, a, b, c, d⟩ := h.at_
  exact ⟨g, h1, h2, z, a, b, c, by omega⟩
/-- what lies off F stays, F holds -/
theorem Off.but {F : Addr → Prop} {B H H' : Hp} {p : Addr} (o : Off F B H) (hp : F p) (h : But p H H') (hH : ∃ u, H' p = some u ∧ isTup u = false) : Off F B H' := ⟨fun b u z => h b u (fun e => o.off b u z (e ▸ hp)) (o.ex b u z), o.off, fun b z => by
  by_cases e : b = p
  · rw [e]; exact hH
  · obtain ⟨u, hu, ht⟩ := o.dom b z
    exact ⟨u, h b u e hu, ht⟩⟩
theorem HandAt.dom {H : Hp} {p : Addr} {m : Nat} (h : HandAt H p m) : ∃ u, H p = some u ∧ isTup u = false := by
  obtain ⟨g, h1, h2, z, _⟩ := h.at_
  exact ⟨_, z, rfl⟩
theorem h_retL {ta : TA} {σ : L2.St} {F : Addr → Prop} {B H : Hp} {ds : List D} {D' : Ends} (h : EvDs ta σ B ds) (o : Off F B H) (hz : ds.length ≤ 100000)
    (q : ∀ p vs H1, H p = none → Ex H H1 → H1 p = none → RpA (cut F H1) vs ds → D'.rt (.ref p) (upd H1 p (.lst vs))) : tRet (tLst ta) D' σ H :=
  h F H o _ fun vs H1 e1 r1 => ⟨sz_of (by rw [r1.length]; exact hz), fun p hp => q p vs H1 (fresh_back e1 hp) e1 hp r1⟩
section
variable {σ : L2.St} {B : Hp} {wi : TI} {g : TG} {tt : TT} {te : TE} {vs : List Nat}
/-- the new list of a comprehension -/
theorem d_lcN {α : Type} (xs : List α) (ea : α → D) (p : α → Bool) (eb : α → D) (hz : xs.length ≤ 100000) (hi : EvI wi σ B (xs.map ea))
    (ht : ∀ a ∈ xs, ∀ v B', Ex B B' → Rp B' v (ea a) → ∃ σ2, TgOk g v (wipe σ vs) σ2 B' ∧ wipe σ2 vs = wipe σ vs ∧ EvB tt σ2 B' (p a) ∧ (p a = true → EvD te σ2 B' (eb a))) :
    EvN (tLc wi g tt te vs) σ B (rp (.list ((xs.filter p).map eb))) := by
  intro F H0 o Q q
  refine hi F H0 o _ fun J H1 e1 ok Dl hD => ?_
  have o1 : Off F (cut F H1) H1 := o.next e1
  have hB1 : cut F H1 Dl = none := by
    cases z : cut F H1 Dl with
    | none => rfl
    | some u => rw [cut_ex _ _ z] at hD; cases hD
  have nF : ¬ F Dl := o1.free hD
  refine ⟨fun i m H => m = xs.length - i ∧ i ≤ xs.length ∧ Ex H1 H ∧ ∃ acc, H Dl = some (.lst acc) ∧ RpA (cut (fun b => F b ∨ b = Dl) H) acc (((xs.take i).filter p).map eb), ⟨_, rfl, Nat.zero_le _, Ex.new hD, [], upd_same, by simpa using RpA.nil⟩, ?_⟩
  rintro i m H ⟨rfl, hle, eH, acc, hacc, ra⟩
  have oH : Off (fun b => F b ∨ b = Dl) (cut F H1) H := (o1.go eH).add hB1 hacc
  by_cases hlt : i < xs.length
  · have hg := ok.go _ H i (ea xs[i]) oH (by rw [List.getElem?_map, List.getElem?_eq_getElem hlt]; rfl)
    refine .inr ⟨hg.1, fun H' => i + 1 ≤ xs.length ∧ Ex H1 H' ∧ ∃ acc, H' Dl = some (.lst acc) ∧ RpA (cut (fun b => F b ∨ b = Dl) H') acc (((xs.take (i + 1)).filter p).map eb), fun H' n => ⟨xs.length - (i + 1), by omega, rfl, n⟩, fun x H' y => ?_⟩
    obtain ⟨eH', rx⟩ := hg.2 x H' y
    have oH' := oH.next eH'
    obtain ⟨σ2, htg, hw, htt, hte⟩ := ht xs[i] (List.getElem_mem hlt) x _ (o1.go (eH.trans eH') |>.cut.trans (cut_mono (Ex.refl _)) |> fun _ => (o.cut.trans (cut_less (F := F) hD (eH.trans eH') |> fun z => (cut_mono e1).trans z))) rx
    refine htg _ H' oH' _ ⟨hw, htt _ H' oH' _ fun H2 e2 => ?_⟩
    have hacc2 : H2 Dl = some (.lst acc) := e2 _ _ (eH' _ _ hacc)
    have ex2 : Ex H1 H2 := (eH.trans eH').trans e2
    rw [take_filter hlt]
    cases hp : p xs[i] with
    | true =>
      refine hte hp _ H2 (oH'.go e2) _ fun v H3 e3 rv => ?_
      have hacc3 : H3 Dl = some (.lst acc) := e3 _ _ hacc2
      refine ⟨acc, hacc3, sz_lt ?_, hlt, Ex.mut (ex2.trans e3) hD, acc ++ [v], upd_same, ?_⟩
      · rw [ra.length, List.length_map]
        exact Nat.lt_of_le_of_lt (List.length_filter_le _ _) (Nat.lt_of_lt_of_le (by rw [List.length_take]; omega) hz)
      · rw [cut_upd (Or.inr rfl), if_pos rfl]
        exact (ra.mono (cut_mono ((eH'.trans e2).trans e3))).append (.one rv)
    | false =>
      refine ⟨hlt, ex2, acc, hacc2, ?_⟩
      rw [if_neg (by decide), List.append_nil]
      exact ra.mono (cut_mono (eH'.trans e2))
  · have hi' : i = xs.length := by omega
    subst hi'
    rw [List.take_length] at ra
    exact .inl ⟨ok.stop _ H _ oH (by rw [List.length_map]; exact Nat.le_refl _), q _ H (fresh_back e1 hD) (e1.trans eH) (.lst (cut_at nF hacc) (ra.mono cut_more))⟩
theorem d_lcNY {α : Type} (xs : List α) (ea : α → D) (eb : α → D) (hz : xs.length ≤ 100000) (hi : EvI wi σ B (xs.map ea))
    (ht : ∀ a ∈ xs, ∀ v B', Ex B B' → Rp B' v (ea a) → ∃ σ2, TgOk g v (wipe σ vs) σ2 B' ∧ wipe σ2 vs = wipe σ vs ∧ EvD te σ2 B' (eb a)) :
    EvN (tLc wi g tYes te vs) σ B (rp (.list (xs.map eb))) := by
  have := d_lcN (tt := tYes) xs ea (fun _ => true) eb hz hi fun a ha v B' e r => by
    obtain ⟨σ2, h1, h2, h3⟩ := ht a ha v B' e r
    exact ⟨σ2, h1, h2, fun F H o Q q => q H (Ex.refl H), fun _ => h3⟩
  rw [List.filter_eq_self.mpr (fun _ _ => rfl)] at this
  exact this
end
theorem Off.mutN {F : Addr → Prop} {B H H1 : Hp} {p : Addr} {u : HO} (o : Off F B H) (n : H p = none) (e : Ex H H1) : Off F B (L2.upd H1 p u) := o.go (Ex.mut e n)
section
variable {K : PySem.W.Frag} {σ : L2.St} {B : Hp} {te : TE}
theorem d_isiI {i : Int} {b : String} {r : Bool} (h : EvD te σ B (.int i)) (hb : kitB "int" b = some r) : EvD (tCB (rIsi K) (tCons te (tCons (tC (.ty b)) tNil))) σ B (.bool r) := fun F H o Q q =>
  h F H o _ fun v H1 e1 r1 => by
    obtain rfl := r1.int_inv
    exact ⟨_, _, _, _, r, rfl, .ty _, .base (.int i), kit_ty hb, q _ H1 e1 (.bl _)⟩
theorem d_isiT {ds : List D} {b : String} {r : Bool} (h : EvD te σ B (.tuple ds)) (hb : kitB "tuple" b = some r) : EvD (tCB (rIsi K) (tCons te (tCons (tC (.ty b)) tNil))) σ B (.bool r) := fun F H o Q q =>
  h F H o _ fun v H1 e1 r1 => by
    obtain ⟨a, xs, rfl, ha, _⟩ := r1.tup_inv
    exact ⟨_, _, _, _, r, rfl, .ty _, .base (.tup (cut_ex _ _ ha)), kit_ty hb, q _ H1 e1 (.bl _)⟩
end
theorem b_eq {t : TT} {σ : L2.St} {B : Hp} {b b' : Bool} (h : EvB t σ B b) (e : b = b') : EvB t σ B b' := by rw [← e]; exact h
theorem minI_mem {ns : List Int} (h : ns ≠ []) : minI ns ∈ ns := by
  cases ns with
  | nil => exact absurd rfl h
  | cons x r =>
    rcases (foldl_min r x).1 with e | e
    · show r.foldl min x ∈ _
      rw [e]
      exact List.mem_cons_self
    · exact List.mem_cons_of_mem _ e
theorem mem_le_sum : ∀ {ns : List Int}, (∀ x ∈ ns, 0 ≤ x) → 0 ≤ ns.sum ∧ ∀ x ∈ ns, x ≤ ns.sum
  | [], _ => ⟨Int.le_refl _, fun _ h => by cases h⟩
  | y :: ns, h => by
    obtain ⟨h1, h2⟩ := mem_le_sum (ns := ns) fun x hx => h x (List.mem_cons_of_mem _ hx)
    have h3 := h y List.mem_cons_self
    rw [List.sum_cons]
    refine ⟨by omega, fun x hx => ?_⟩
    rcases List.mem_cons.mp hx with rfl | hx
    · omega
    · have := h2 x hx
      omega
theorem yes_of {σ : L2.St} {H : Hp} {A N : Hp → Prop} (h : A H) : tYes σ H fun b H3 => if b = true then A H3 else N H3 := by
  show if true = true then A H else N H
  rw [if_pos rfl]
  exact h
theorem no_of {A N : Prop} (h : N) : if (!true) = true then A else N := by
  rw [if_neg (by decide)]
  exact h
section
variable {K : PySem.W.Frag} {σ : L2.St} {B : Hp} {te : TE} {a : Addr} {i : Nat}
theorem off_l {F : Addr → Prop} {B H : Hp} {xs : List V} (o : Off F B H) (h : SqL K B a xs) : SqL K H a xs := ex_l (fun b u z => o.ex b u z) h
theorem d_lenS {xs : List V} (hs : SqL K B a xs) (h : σ[i]? = some (some (.ref a)) := by rfl) : EvD (tCB (G.rLenS K) (tCons (tVar i) tNil)) σ B (.int (xs.length : Nat)) := fun F H o Q q =>
  ⟨.ref a, h, a, xs, rfl, .inl (off_l o hs), q _ H (Ex.refl H) (.int _)⟩
theorem d_ixS {xs : List V} {n m : Int} (hs : SqL K B a xs) (ht : EvD te σ B (.int n)) (hn : atI xs n = some (.int m)) (h : σ[i]? = some (some (.ref a)) := by rfl) : EvD (tOp (rIxL K) (tVar i) te) σ B (.int m) := fun F H o Q q =>
  ⟨.ref a, h, ht F H o _ fun v H1 e1 r1 => by
    obtain rfl := r1.int_inv
    exact ⟨a, xs, n, _, rfl, rfl, ex_l e1 (off_l o hs), hn, q _ H1 e1 (.int _)⟩⟩
end
end G
/-! GM: zip over two sources of any kinds (here: a list and a tuple); after HandS.Zip0, generalized. -/
namespace G
open PySem PySem.Spec PyProof.Rows L2 Evl
/-- an iterator it over what stands at l: st h k, k turns done -/
structure Src (prog : Program) (w : World) (it l : Addr) (items : Array Value) (st : Heap → Nat → Prop) : Prop where
  stay : ∀ {d : Addr} {h h' : Heap} {k : Nat}, st h k → Heap.ExtBut d h h' → it ≠ d → l ≠ d → st h' k
  lt : ∀ {h : Heap} {k : Nat}, st h k → it < h.objs.size
  item : ∀ {A : Around} {E : Value → Shared → Prop} {s : Shared} {k : Nat} {x : Value} {Q : Value → Shared → Prop}, st s.heap k → items[k]? = some x → (∀ h', st h' (k + 1) → Heap.SameBut it s.heap h' → Q x { s with heap := h' }) →
    wpAny (model prog w) A (Builtin.SmallTypes.nextOf (.ref it)) Q E s
  stop : ∀ {A : Around} {E : Value → Shared → Prop} {s : Shared} {k : Nat} {Q : Value → Shared → Prop}, A.handled = none → st s.heap k → items[k]? = none →
    (∀ h' e, Heap.ExtBut it s.heap h' → (∃ o, h'.get? e = some o ∧ o.cls = .type "StopIteration") → E (.ref e) { s with heap := h' }) → wpAny (model prog w) A (Builtin.SmallTypes.nextOf (.ref it)) Q E s
theorem src_list {prog : Program} {w : World} {it l : Addr} {items : Array Value} (hn : l ≠ it) : Src prog w it l items fun h k => h.IsListIter it l k ∧ h.IsList l items where
  stay := fun st e n1 n2 => ⟨st.1.extBut e n1, st.2.extBut e n2⟩
  lt := fun st => by obtain ⟨⟨_, e, _⟩, _⟩ := st; exact Heap.lt_size e
  item := fun st hx q => wpAny_nextOf_list_item st.1 st.2 hx fun h' i sb => q h' ⟨i, st.2.extBut sb.extBut hn⟩ sb
  stop := fun hh st hx q => wpAny_nextOf_list_end hh st.1 st.2 hx q
theorem src_tup {prog : Program} {w : World} {it l : Addr} {items : Array Value} (hn : l ≠ it) : Src prog w it l items fun h k => h.IsTupleIter it l k ∧ h.IsTuple l items where
  stay := fun st e n1 n2 => ⟨st.1.extBut e n1, st.2.extBut e n2⟩
  lt := fun st => by obtain ⟨⟨_, e, _⟩, _⟩ := st; exact Heap.lt_size e
  item := fun st hx q => RZ.nextOf_tuple_item st.1 st.2 hx fun h' i sb => q h' ⟨i, st.2.extBut sb.extBut hn⟩ sb
  stop := fun hh st hx q => RZ.nextOf_tuple_end hh st.1 st.2 hx q
section
variable {prog : Program} {w : World} {A : Around} {E : Value → Shared → Prop} {s : Shared} {z TI TO i1 i2 l1 l2 : Addr} {k : Nat} {xs ys : Array Value} {x y a b : Value} {st1 st2 : Heap → Nat → Prop}
theorem z_item {Q : Value → Shared → Prop} (D : ZipApart z TI TO i1 i2 l1 l2) (S1 : Src prog w i1 l1 xs st1) (S2 : Src prog w i2 l2 ys st2)
    (hz : IsZip s.heap z TI TO .none) (hTI : IsPair s.heap TI (.ref i1) (.ref i2)) (hTO : IsPair s.heap TO a b) (h1 : st1 s.heap k) (h2 : st2 s.heap k) (hx : xs[k]? = some x) (hy : ys[k]? = some y)
    (hQ : ∀ h', IsZip h' z TI TO (rawInt s.heap.objs.size) → IsPair h' TO x y → st1 h' (k + 1) → st2 h' (k + 1) → IsPair h' s.heap.objs.size x y → h'.objs.size = s.heap.objs.size + 1 →
      (∀ c o, c ≠ z → c ≠ TO → c ≠ i1 → c ≠ i2 → s.heap.get? c = some o → h'.get? c = some o) → Q (.ref s.heap.objs.size) { s with heap := h' }) :
    wpAny (model prog w) A (Builtin.«zip.__next__» ⟨[.ref z], []⟩) (fun fin s' => ∃ v, fin = .done (.ret v) ∧ Q v s') E s := by
  show wpAny _ _ (field (.ref z) 2 >>= _) _ _ _
  refine wpAny_bind (wpAny_field hz rfl (x := .bool false) rfl ?_)
  show wpAny _ _ (field (.ref z) 3 >>= _) _ _ _
  refine wpAny_bind (wpAny_field hz rfl (x := .ref TI) rfl (wpAny_bind (wpAny_seqItems hTI rfl ?_)))
  show wpAny _ _ (Builtin.SmallTypes.ownedTupleIsFree (.ref z) >>= _) _ _ _
  refine wpAny_bind ?_
  unfold Builtin.SmallTypes.ownedTupleIsFree
  refine wpAny_bind (wpAny_field hz rfl (x := .none) rfl (wpAny_pure ?_))
  simp only [if_true]
  refine wpAny_bind (wpAny_rule (wpAny_bind (wpAny_field hz rfl (x := .ref TO) rfl (wpAny_bind (wpAny_setField_rec hz (by simp) fun g1 gz1 s1 => ?_)))))
  have gz1 : IsZip g1 z TI TO .ellipsis := gz1
  refine wpAny_bind ?_
  simp only [List.zipIdx_cons, List.zipIdx_nil, List.forIn_cons, List.forIn_nil]
  refine wpAny_bind (wpAny_bind (wpAny_onRaise ?_))
  show wpAny _ _ (Builtin.SmallTypes.nextOf (.ref i1) >>= _) _ _ _
  refine wpAny_bind (S1.item (S1.stay h1 s1.extBut D.i1z D.l1z) hx fun g2 a2 s2 => wpAny_pure ?_)
  have p2 : IsPair g2 TO a b := s2.extBut _ _ D.TOi1 (s1.extBut _ _ D.TOz hTO)
  refine wpAny_bind (wpAny_seqItems p2 rfl (wpAny_bind (wpAny_updateSeq_pair p2 fun g3 p3 s3 => ?_)))
  have p3 : IsPair g3 TO x b := p3
  refine wpAny_bind (wpAny_letGo (wpAny_pure ?_))
  refine wpAny_bind (wpAny_bind (wpAny_onRaise ?_))
  show wpAny _ _ (Builtin.SmallTypes.nextOf (.ref i2) >>= _) _ _ _
  refine wpAny_bind (S2.item (S2.stay (S2.stay (S2.stay h2 s1.extBut D.i2z D.l2z) s2.extBut D.i12.symm D.l2i1) s3.extBut D.TOi2.symm D.l2TO) hy fun g4 a4 s4 => wpAny_pure ?_)
  have p4 : IsPair g4 TO x b := s4.extBut _ _ D.TOi2 p3
  refine wpAny_bind (wpAny_seqItems p4 rfl (wpAny_bind (wpAny_updateSeq_pair p4 fun g5 p5 s5 => ?_)))
  have p5 : IsPair g5 TO x y := p5
  refine wpAny_bind (wpAny_letGo (wpAny_pure (wpAny_pure ?_)))
  refine wpAny_bind (wpAny_seqItems p5 rfl (wpAny_bind (wpAny_newTuple ?_)))
  have sz : g5.objs.size = s.heap.objs.size := by rw [s5.1, s4.1, s3.1, s2.1, s1.1]
  have gz5 : IsZip g5 z TI TO .ellipsis := s5.extBut _ _ D.TOz.symm (s4.extBut _ _ D.i2z.symm (s3.extBut _ _ D.TOz.symm (s2.extBut _ _ D.i1z.symm gz1)))
  have k5 : ∀ c o, c ≠ z → c ≠ TO → c ≠ i1 → c ≠ i2 → s.heap.get? c = some o → g5.get? c = some o := fun c o n1 n2 n3 n4 e => s5.extBut _ _ n2 (s4.extBut _ _ n4 (s3.extBut _ _ n2 (s2.extBut _ _ n3 (s1.extBut _ _ n1 e))))
  have b1 : st1 g5 (k + 1) := S1.stay (S1.stay (S1.stay a2 s3.extBut D.TOi1.symm D.l1TO) s4.extBut D.i12 D.l1i2) s5.extBut D.TOi1.symm D.l1TO
  have b2 : st2 g5 (k + 1) := S2.stay a4 s5.extBut D.TOi2.symm D.l2TO
  have lz : z < g5.objs.size := Heap.lt_size gz5
  show wpAny _ _ (Builtin.SmallTypes.ownedTupleHandOut (.ref z) (.ref g5.objs.size) >>= _) _ _ _
  refine wpAny_bind ?_
  unfold Builtin.SmallTypes.ownedTupleHandOut
  have gz6 : IsZip (g5.push { cls := .type "tuple", data := .seq #[x, y] }) z TI TO .ellipsis := Heap.get?_push_of_some _ gz5
  refine wpAny_bind (wpAny_setField_rec gz6 (by simp) fun g7 gz7 s7 => ?_)
  have gz7 : IsZip g7 z TI TO (rawInt g5.objs.size) := gz7
  refine wpAny_setField_rec gz7 (by simp) fun g8 gz8 s8 => ?_
  have gz8 : IsZip g8 z TI TO (rawInt g5.objs.size) := gz8
  have up : Heap.ExtBut z g5 g8 := fun c o n e => s8.extBut _ _ n (s7.extBut _ _ n (Heap.get?_push_of_some _ e))
  have t8 : IsPair g8 g5.objs.size x y := s8.extBut _ _ (Nat.ne_of_gt lz) (s7.extBut _ _ (Nat.ne_of_gt lz) (Heap.get?_push_size _ rfl))
  have sz8 : g8.objs.size = g5.objs.size + 1 := by rw [s8.1, s7.1, Heap.size_push]
  rw [sz] at gz8 t8 sz8
  refine wpAny_pure ⟨_, rfl, ?_⟩
  show Q (.ref g5.objs.size) _
  rw [sz]
  exact hQ g8 gz8 (up _ _ D.TOz p5) (S1.stay b1 up D.i1z D.l1z) (S2.stay b2 up D.i2z D.l2z) t8 sz8 fun c o n1 n2 n3 n4 e => up c o n1 (k5 c o n1 n2 n3 n4 e)
theorem z_stop {Q : Fin → Shared → Prop} (hh : A.handled = none) (D : ZipApart z TI TO i1 i2 l1 l2) (S1 : Src prog w i1 l1 xs st1) (S2 : Src prog w i2 l2 ys st2)
    (hz : IsZip s.heap z TI TO .none) (hTI : IsPair s.heap TI (.ref i1) (.ref i2)) (hTO : IsPair s.heap TO a b) (h1 : st1 s.heap k) (h2 : st2 s.heap k) (hend : xs[k]? = none ∨ ys[k]? = none)
    (hE : ∀ h' e, (∀ c o, c ≠ z → c ≠ TO → c ≠ i1 → c ≠ i2 → s.heap.get? c = some o → h'.get? c = some o) → (∃ o, h'.get? e = some o ∧ o.cls = .type "StopIteration") → E (.ref e) { s with heap := h' }) :
    wpAny (model prog w) A (Builtin.«zip.__next__» ⟨[.ref z], []⟩) Q E s := by
  show wpAny _ _ (field (.ref z) 2 >>= _) _ _ _
  refine wpAny_bind (wpAny_field hz rfl (x := .bool false) rfl ?_)
  show wpAny _ _ (field (.ref z) 3 >>= _) _ _ _
  refine wpAny_bind (wpAny_field hz rfl (x := .ref TI) rfl (wpAny_bind (wpAny_seqItems hTI rfl ?_)))
  show wpAny _ _ (Builtin.SmallTypes.ownedTupleIsFree (.ref z) >>= _) _ _ _
  refine wpAny_bind ?_
  unfold Builtin.SmallTypes.ownedTupleIsFree
  refine wpAny_bind (wpAny_field hz rfl (x := .none) rfl (wpAny_pure ?_))
  simp only [if_true]
  refine wpAny_bind (wpAny_rule (wpAny_bind (wpAny_field hz rfl (x := .ref TO) rfl (wpAny_bind (wpAny_setField_rec hz (by simp) fun g1 gz1 s1 => ?_)))))
  have gz1 : IsZip g1 z TI TO .ellipsis := gz1
  refine wpAny_bind ?_
  simp only [List.zipIdx_cons, List.zipIdx_nil, List.forIn_cons, List.forIn_nil]
  refine wpAny_bind (wpAny_bind (wpAny_onRaise ?_))
  show wpAny _ _ (Builtin.SmallTypes.nextOf (.ref i1) >>= _) _ _ _
  have c1 := S1.stay h1 s1.extBut D.i1z D.l1z
  cases hx : xs[k]? with
  | none =>
    refine wpAny_bind (S1.stop hh c1 hx fun g2 e s2 he => ?_)
    obtain ⟨oe, hoe, hce⟩ := he
    have gz2 : IsZip g2 z TI TO .ellipsis := s2 _ _ D.i1z.symm gz1
    have ne : e ≠ z := fun q => by subst q; rw [gz2] at hoe; cases hoe; simp at hce
    exact wpAny_setField_rec gz2 (by simp) fun g3 _ s3 => hE g3 e (fun c o n1 _ n3 _ q => s3.extBut _ _ n1 (s2 _ _ n3 (s1.extBut _ _ n1 q))) ⟨oe, s3.extBut _ _ ne hoe, hce⟩
  | some x =>
    have hy : ys[k]? = none := by
      rcases hend with h | h
      · rw [hx] at h; cases h
      · exact h
    refine wpAny_bind (S1.item c1 hx fun g2 a2 s2 => wpAny_pure ?_)
    have p2 : IsPair g2 TO a b := s2.extBut _ _ D.TOi1 (s1.extBut _ _ D.TOz hTO)
    refine wpAny_bind (wpAny_seqItems p2 rfl (wpAny_bind (wpAny_updateSeq_pair p2 fun g3 p3 s3 => ?_)))
    refine wpAny_bind (wpAny_letGo (wpAny_pure ?_))
    refine wpAny_bind (wpAny_bind (wpAny_onRaise ?_))
    show wpAny _ _ (Builtin.SmallTypes.nextOf (.ref i2) >>= _) _ _ _
    refine wpAny_bind (S2.stop hh (S2.stay (S2.stay (S2.stay h2 s1.extBut D.i2z D.l2z) s2.extBut D.i12.symm D.l2i1) s3.extBut D.TOi2.symm D.l2TO) hy fun g4 e s4 he => ?_)
    obtain ⟨oe, hoe, hce⟩ := he
    have gz4 : IsZip g4 z TI TO .ellipsis := s4 _ _ D.i2z.symm (s3.extBut _ _ D.TOz.symm (s2.extBut _ _ D.i1z.symm gz1))
    have ne : e ≠ z := fun q => by subst q; rw [gz4] at hoe; cases hoe; simp at hce
    exact wpAny_setField_rec gz4 (by simp) fun g5 _ s5 => hE g5 e (fun c o n1 n2 n3 n4 q => s5.extBut _ _ n1 (s4 _ _ n4 (s3.extBut _ _ n2 (s2.extBut _ _ n3 (s1.extBut _ _ n1 q))))) ⟨oe, s5.extBut _ _ ne hoe, hce⟩
theorem pz_item {Q : Option Value → Shared → Prop} (D : ZipApart z TI TO i1 i2 l1 l2) (S1 : Src prog w i1 l1 xs st1) (S2 : Src prog w i2 l2 ys st2)
    (hz : IsZip s.heap z TI TO .none) (hTI : IsPair s.heap TI (.ref i1) (.ref i2)) (hTO : IsPair s.heap TO a b) (h1 : st1 s.heap k) (h2 : st2 s.heap k) (hx : xs[k]? = some x) (hy : ys[k]? = some y)
    (hQ : ∀ h', IsZip h' z TI TO (rawInt s.heap.objs.size) → IsPair h' TO x y → st1 h' (k + 1) → st2 h' (k + 1) → IsPair h' s.heap.objs.size x y → h'.objs.size = s.heap.objs.size + 1 →
      (∀ c o, c ≠ z → c ≠ TO → c ≠ i1 → c ≠ i2 → s.heap.get? c = some o → h'.get? c = some o) → Q (some (.ref s.heap.objs.size)) { s with heap := h' }) : wpAny (model prog w) A (pyNext (.ref z)) Q E s := by
  have hT : s.TypeIs (.ref z) "zip" := ⟨_, hz, rfl⟩
  unfold pyNext
  exact wpAny_bind (wpAny_attempt (wpAny_callSpecial?_slot (name := Str.ofString "__next__") hT F.slot_zip_next (wpAny_call_entry F.slot_zip_next hT F.entry_zip_next
    (z_item D S1 S2 hz hTI hTO h1 h2 hx hy fun h' a1 a2 a3 a4 a5 a6 a7 => wpAny_pure (hQ h' a1 a2 a3 a4 a5 a6 a7)) (F.args_zip_next_1 _))))
theorem pz_stop {Q : Option Value → Shared → Prop} (hh : A.handled = none) (D : ZipApart z TI TO i1 i2 l1 l2) (S1 : Src prog w i1 l1 xs st1) (S2 : Src prog w i2 l2 ys st2)
    (hz : IsZip s.heap z TI TO .none) (hTI : IsPair s.heap TI (.ref i1) (.ref i2)) (hTO : IsPair s.heap TO a b) (h1 : st1 s.heap k) (h2 : st2 s.heap k) (hend : xs[k]? = none ∨ ys[k]? = none)
    (hQ : ∀ h', (∀ c o, c ≠ z → c ≠ TO → c ≠ i1 → c ≠ i2 → s.heap.get? c = some o → h'.get? c = some o) → Q none { s with heap := h' }) : wpAny (model prog w) A (pyNext (.ref z)) Q E s := by
  have hT : s.TypeIs (.ref z) "zip" := ⟨_, hz, rfl⟩
  unfold pyNext
  refine wpAny_bind (wpAny_attempt (wpAny_callSpecial?_slot (name := Str.ofString "__next__") hT F.slot_zip_next (wpAny_call_entry F.slot_zip_next hT F.entry_zip_next
    (z_stop hh D S1 S2 hz hTI hTO h1 h2 hend fun h' e hk he => ?_) (F.args_zip_next_1 _))))
  obtain ⟨o, ho, hc⟩ := he
  exact wpAny_bind (wpAny_isInstance (T := "StopIteration") (b := true) ⟨o, ho, hc⟩ isSubtype_stop (wpAny_pure (hQ _ hk)))
end
end G
/-! GN: zip(list, tuple) walked. -/
namespace G
open PySem PySem.Spec PyProof.Rows L2 Evl
abbrev mz1 (h : Heap) (l : Addr) : Heap := h.push { cls := .type "list_iterator", data := .fields #[.ref l, .int 0 0] }
abbrev mz2 (h : Heap) (l t : Addr) : Heap := (mz1 h l).push { cls := .type "tuple_iterator", data := .fields #[.ref t, .int 0 0] }
abbrev mz3 (h : Heap) (l t : Addr) : Heap := (mz2 h l t).push { cls := .type "tuple", data := .seq #[.ref h.objs.size, .ref (mz1 h l).objs.size] }
abbrev mz4 (h : Heap) (l t : Addr) : Heap := (mz3 h l t).push { cls := .type "tuple", data := .seq #[.none, .none] }
abbrev mz5 (h : Heap) (l t : Addr) : Heap := (mz4 h l t).push { cls := .type "zip", data := .fields #[.none, .bool false, .bool false, .ref (mz2 h l t).objs.size, .ref (mz3 h l t).objs.size] }
theorem meets_mz (l t : Addr) (xs ys : Array Value) : Meets (Builtin.«zip.__new__» ⟨[.type "zip", .ref l, .ref t], []⟩) (fun _ R s => s.heap.IsList l xs ∧ s.heap.IsTuple t ys ∧ R (.ok (.ret (.ref (mz4 s.heap l t).objs.size))) { s with heap := mz5 s.heap l t }) :=
  .of_wp fun prog w A R s h => by
    obtain ⟨hp, g, d, tk, os⟩ := s
    obtain ⟨hl, ht, h⟩ := h
    have hsub := sub_zip
    have e1 : Heap.IsList (Shared.heap ⟨hp, g, d, tk, os⟩) l xs := hl
    have e2 : Heap.IsTuple (Shared.heap ⟨hp.push { cls := .type "list_iterator", data := .fields #[.ref l, .int 0 0] }, g, d, tk, os⟩) t ys := Heap.IsTuple.push ht _
    wp_walk using wpAny_pyIter_list e1, wpAny_pyIter_tuple e2
    exact ⟨_, rfl, h⟩
theorem call_mz {prog : Program} {w : World} {A : Around} {E : Value → Shared → Prop} {s : Shared} {l t : Addr} {xs ys : Array Value} {Q : Value → Shared → Prop} (hl : s.heap.IsList l xs) (ht : s.heap.IsTuple t ys)
    (h : ∀ h', IsZip h' (s.heap.objs.size + 4) (s.heap.objs.size + 2) (s.heap.objs.size + 3) .none → IsPair h' (s.heap.objs.size + 2) (.ref s.heap.objs.size) (.ref (s.heap.objs.size + 1)) →
      IsPair h' (s.heap.objs.size + 3) .none .none → h'.IsListIter s.heap.objs.size l 0 → h'.IsTupleIter (s.heap.objs.size + 1) t 0 → (∀ c o, s.heap.get? c = some o → h'.get? c = some o) → Q (.ref (s.heap.objs.size + 4)) { s with heap := h' }) :
    wpAny (model prog w) A (call (.type "zip") [.ref l, .ref t]) Q E s := by
  refine callType_new F.called_zip (by decide) (F.typeCall_zip_2 _ _) (F.newCall_zip_2 _ _) (fun obj => F.args_object_init_3 obj _ _) F.entry_zip_new (meets_mz l t xs ys) ⟨hl, ht, ?_⟩
  have z1 : (mz1 s.heap l).objs.size = s.heap.objs.size + 1 := Heap.size_push ..
  have z2 : (mz2 s.heap l t).objs.size = s.heap.objs.size + 2 := by rw [Heap.size_push, z1]
  have z3 : (mz3 s.heap l t).objs.size = s.heap.objs.size + 3 := by rw [Heap.size_push, z2]
  have z4 : (mz4 s.heap l t).objs.size = s.heap.objs.size + 4 := by rw [Heap.size_push, z3]
  have up : ∀ {h : Heap} {o : Obj} {c : Addr} {u : Obj}, h.get? c = some u → (h.push o).get? c = some u := fun e => Heap.get?_push_of_some _ e
  have k5 : (mz5 s.heap l t).get? (mz4 s.heap l t).objs.size = some _ := Heap.get?_push_size _ rfl
  have k4 : (mz5 s.heap l t).get? (mz3 s.heap l t).objs.size = some _ := up (Heap.get?_push_size _ rfl)
  have k3 : (mz5 s.heap l t).get? (mz2 s.heap l t).objs.size = some _ := up (up (Heap.get?_push_size _ rfl))
  have k2 : (mz5 s.heap l t).get? (mz1 s.heap l).objs.size = some _ := up (up (up (Heap.get?_push_size _ rfl)))
  have k1 : (mz5 s.heap l t).get? s.heap.objs.size = some _ := up (up (up (up (Heap.get?_push_size _ rfl))))
  show _ ∧ _
  rw [z2, z3, z4] at k5
  rw [z1, z2] at k3
  rw [z3] at k4
  rw [z1] at k2
  rw [z4]
  exact ⟨⟨_, k5, rfl⟩, h _ k5 k3 k4 ⟨_, k1, rfl, rfl⟩ ⟨_, k2, rfl, rfl⟩ fun c o e => up (up (up (up (up e))))⟩
/-- a list and a tuple, in step -/
def ItzM (K : PySem.W.Frag) (a b : Addr) : It :=
  ⟨fun i H => ∃ (xs ys : List V) (x y : V), SqL K H a xs ∧ SqT K H b ys ∧ xs[i]? = some x ∧ ys[i]? = some y,
    fun i H v H' => ∃ T x y, v = .ref T ∧ H T = none ∧ H' = upd H T (.tup [x, y]) ∧ (∀ xs, SqL K H a xs → xs[i]? = some x) ∧ ∀ ys, SqT K H b ys → ys[i]? = some y,
    fun i H => ∃ xs ys : List V, SqL K H a xs ∧ SqT K H b ys ∧ (xs.length ≤ i ∨ ys.length ≤ i)⟩
theorem turn_mz {P : Program} {w : World} {K : PySem.W.Frag} {elts : List Expr} {kk : Nat} {tpos : Pos} {a b z TI TO i1 i2 : Addr} (D : ZipApart z TI TO i1 i2 a b) :
    Turn P w K (.Tuple elts kk tpos) (ItzM K a b) [z, TI, TO, i1, i2] z (fun i h => IsZip h z TI TO .none ∧ IsPair h TI (.ref i1) (.ref i2) ∧ (∃ x y, IsPair h TO x y) ∧ h.IsListIter i1 a i ∧ h.IsTupleIter i2 b i) where
  mem := by simp
  obj := fun i h st c hc => by
    obtain ⟨hz, hTI, ⟨x, y, hTO⟩, ⟨o1, e1, _, d1⟩, ⟨o2, e2, _, d2⟩⟩ := st
    have e' : c = z ∨ c = TI ∨ c = TO ∨ c = i1 ∨ c = i2 := by simpa using hc
    rcases e' with rfl | rfl | rfl | rfl | rfl
    · exact ⟨_, hz, fun v q => nomatch q⟩
    · exact ⟨_, hTI, fun v q => nomatch q⟩
    · exact ⟨_, hTO, fun v q => nomatch q⟩
    · exact ⟨o1, e1, fun v q => by rw [d1] at q; cases q⟩
    · exact ⟨o2, e2, fun v q => by rw [d2] at q; cases q⟩
  keep := fun i h h' st k => by
    obtain ⟨hz, hTI, ⟨x, y, hTO⟩, h1, h2⟩ := st
    exact ⟨k z (by simp) _ hz, k TI (by simp) _ hTI, ⟨x, y, k TO (by simp) _ hTO⟩, h1.at fun o q => k i1 (by simp) o q, h2.at fun o q => k i2 (by simp) o q⟩
  item := by
    intro X hP hw hK hc i pins s σ H E I hf st hg
    subst hP hw hK
    obtain ⟨hz, hTI, ⟨x0, y0, hTO⟩, h1, h2⟩ := st
    obtain ⟨xs, ys, x, y, hqx, hqy, hx, hy⟩ := hg
    obtain ⟨its, rv, p, _⟩ := I.list hqx
    obtain ⟨its2, rv2, p2, _⟩ := I.tuple hqy
    obtain ⟨u, hu, ru⟩ := rv.get hx
    obtain ⟨u2, hu2, ru2⟩ := rv2.get hy
    have hzl : z < s.heap.objs.size := Heap.lt_size hz
    refine pz_item D (src_list D.l1i1) (src_tup D.l2i2) hz hTI hTO ⟨h1, p.isList⟩ ⟨h2, p2⟩ (x := u) (y := u2) (by simpa using hu) (by simpa using hu2) fun h' z' TO' b1 b2 hT hsz hk => ?_
    refine ⟨_, rfl, wpAny_letOwnedTupleGo_zip (s := { s with heap := h' }) z' fun h'' z'' sb => ?_⟩
    have hT2 : h''.get? s.heap.objs.size = some { cls := .type "tuple", data := .seq #[u, u2] } := (sb.2 _ (Nat.ne_of_gt hzl)).trans hT
    have new : ObjOk X.prog X.w (upd H s.heap.objs.size (.tup [x, y])) h'' s.heap.objs.size (.tup [x, y]) := ⟨by show 2 ≤ sizeLine; decide, [u, u2], .cons ru (.cons ru2 .nil), ⟨_, hT2, rfl, _, rfl⟩⟩
    have I1 : Inv X pins σ (upd H s.heap.objs.size (.tup [x, y])) { s with heap := h'' } :=
      I.turnedNew (t' := s.toks) (ch := [z, TI, TO, i1, i2]) (fun c o hb q => (sb.2 c (fun e => hb (by simp [e]))).trans (hk c o (fun e => hb (by simp [e])) (fun e => hb (by simp [e])) (fun e => hb (by simp [e])) (fun e => hb (by simp [e])) q)) hf (Nat.le_refl _) new
    refine ⟨.ref s.heap.objs.size, _, I1, rfl, ⟨_, x, y, rfl, I.hok.fresh (Nat.le_refl _), rfl, fun l hl => by rw [I.list_inj hl hqx]; exact hx, fun l hl => by rw [I.tuple_inj hl hqy]; exact hy⟩, ⟨z'', ?_, ⟨u, u2, ?_⟩, ?_, ?_⟩, fun c hcm => ?_⟩
    · exact (sb.2 _ D.TIz).trans (hk _ _ D.TIz D.TITO D.TIi1 D.TIi2 hTI)
    · exact (sb.2 _ D.TOz).trans TO'
    · exact b1.1.at fun o q => (sb.2 _ D.i1z).trans q
    · exact b2.1.at fun o q => (sb.2 _ D.i2z).trans q
    · have hlt : c < s.heap.objs.size := by
        have e' : c = z ∨ c = TI ∨ c = TO ∨ c = i1 ∨ c = i2 := by simpa using hcm
        rcases e' with rfl | rfl | rfl | rfl | rfl
        · exact hzl
        · exact Heap.lt_size hTI
        · exact Heap.lt_size hTO
        · obtain ⟨_, e1, _⟩ := h1; exact Heap.lt_size e1
        · obtain ⟨_, e2, _⟩ := h2; exact Heap.lt_size e2
      rw [upd_ne (Nat.ne_of_lt hlt)]
      exact (hf c hcm).1
  done := by
    intro X hP hw hK hc i pins s σ H E I hf st hg
    subst hP hw hK
    obtain ⟨hz, hTI, ⟨x0, y0, hTO⟩, h1, h2⟩ := st
    obtain ⟨xs, ys, hqx, hqy, hend⟩ := hg
    obtain ⟨its, rv, p, _⟩ := I.list hqx
    obtain ⟨its2, rv2, p2, _⟩ := I.tuple hqy
    have l1 := rv.length
    have l2 := rv2.length
    have he : its.toArray[i]? = none ∨ its2.toArray[i]? = none := by
      rcases hend with q | q
      · exact .inl (by simp; omega)
      · exact .inr (by simp; omega)
    exact pz_stop (I.ok.hd hc) D (src_list D.l1i1) (src_tup D.l2i2) hz hTI hTO ⟨h1, p.isList⟩ ⟨h2, p2⟩ he fun h' hk => ⟨rfl, I.turnedL (t' := s.toks) (ch := [z, TI, TO, i1, i2]) (fun c o hb q =>
      hk c o (fun e => hb (by simp [e])) (fun e => hb (by simp [e])) (fun e => hb (by simp [e])) (fun e => hb (by simp [e])) q) hf⟩
  self := fun A i s Q E st h => wpAny_pyIter_zip st.1 h
def iZipM (K : PySem.W.Frag) (ta : TA) : TI := fun σ H R => ta σ H fun vs H1 => ∃ a b xs ys, vs = [.ref a, .ref b] ∧ SqL K H1 a xs ∧ SqT K H1 b ys ∧ R (ItzM K a b) H1
theorem pi_zipM {X : Cx} {e e2 : Expr} {ta : TA} {p pos tpos : Pos} {elts : List Expr} {kk : Nat} (hg : Gl X "zip") (hm : X.mg "zip" = none) (ha : PA X [e, e2] ta)
    (hs : starEach [e, e2] X.env = (false, eval e X.env) :: starEach [e2] X.env := by rfl) (hpl : (backTo pos (starEach [e2] X.env)).any (·.1) = false := by rfl) :
    PI X (.Tuple elts kk tpos) (.Call (.Name "zip" p) [e, e2] [] pos) (iZipM X.K ta) := by
  refine ⟨fun pins s σ H R I h => ?_⟩
  refine Call_ (ld_blt I hg hm PyProof.Rows.boot_zip (PyProof.Rows.callWith_type1 (thn (ha.run pos pins s σ H _ I h) fun us s1 ⟨vs, H1, I1, r1, q1⟩ => ?_) hs hpl))
  obtain ⟨a, b, xs, ys, rfl, hqx, hqy, q⟩ := q1
  obtain ⟨u1, u2, rfl, ra, rb⟩ := vals2 r1
  cases ra
  cases rb
  obtain ⟨its, rv, p1, _⟩ := I1.list hqx
  obtain ⟨its2, rv2, p2, _⟩ := I1.tuple hqy
  obtain ⟨o2, ho2, _⟩ := id p2
  refine call_mz p1.isList (show s1.heap.IsTuple b its2.toArray from p2) fun h' hz hTI hTO h1 h2 hk => wpAny_pyIter_zip hz ?_
  have I2 : Inv X pins σ H1 { s1 with heap := h' } := I1.kept (t' := s1.toks) hk
  refine ⟨s1.heap.objs.size + 4, [s1.heap.objs.size + 4, s1.heap.objs.size + 2, s1.heap.objs.size + 3, s1.heap.objs.size, s1.heap.objs.size + 1], _, _, H1, rfl, I2, turn_mz (PySem.W.ktu_apart s1.heap.objs.size a b p1.lt (Heap.lt_size ho2)), ⟨hz, hTI, ⟨_, _, hTO⟩, h1, h2⟩, fun c hcm => ?_, q⟩
  have hle : s1.heap.objs.size ≤ c := by
    have e' : c = s1.heap.objs.size + 4 ∨ c = s1.heap.objs.size + 2 ∨ c = s1.heap.objs.size + 3 ∨ c = s1.heap.objs.size ∨ c = s1.heap.objs.size + 1 := by simpa using hcm
    rcases e' with e | e | e | e | e <;> (rw [e]; first | exact Nat.le_refl _ | exact Nat.le_add_right _ _)
  exact I1.fpOk hle (I1.hok.fresh hle)
section
variable {K : PySem.W.Frag} {σ : L2.St} {B : Hp} {ta : TA} {α β : Type}
theorem i_zipM {ds es : List D} (h : EvDs ta σ B [.list ds, .tuple es]) : EvI (iZipM K ta) σ B ((ds.zip es).map fun p => PyData.tuple [p.1, p.2]) := fun F H o R q => h F H o _ fun vs H1 e1 r1 => by
  obtain ⟨v1, v2, rfl, r, r2⟩ := rpa2 r1
  obtain ⟨a, xs, rfl, hb, ra⟩ := r.lst_inv
  obtain ⟨b, ys, rfl, hb2, ra2⟩ := r2.tup_inv
  refine ⟨a, b, xs, ys, rfl, sq_of (cut_ex _ _ hb), st_of (cut_ex _ _ hb2), q _ H1 e1 ⟨fun F' H' i d o' hd => ?_, fun F' H' i o' hi => ⟨xs, ys, sq_of (o'.ex _ _ hb), st_of (o'.ex _ _ hb2), by rw [ra.length, ra2.length]; simp only [List.length_map, List.length_zip] at hi; omega⟩⟩⟩
  obtain ⟨d1, d2, he1, he2, rfl⟩ := zip_get hd
  obtain ⟨x, hx, rx⟩ := ra.get he1
  obtain ⟨y, hy, ry⟩ := ra2.get he2
  refine ⟨⟨xs, ys, x, y, sq_of (o'.ex _ _ hb), st_of (o'.ex _ _ hb2), hx, hy⟩, fun x' H'' z => ?_⟩
  obtain ⟨T, x1, y1, rfl, hT, rfl, z1, z2⟩ := z
  have q1 := z1 xs (sq_of (o'.ex _ _ hb))
  rw [hx] at q1
  cases q1
  have q2 := z2 ys (st_of (o'.ex _ _ hb2))
  rw [hy] at q2
  cases q2
  exact pair_new o' hT (rx.mono o'.cut) (ry.mono o'.cut)
theorem i_zipM' {xs : List α} {ys : List β} {e : α → D} {f : β → D} (h : EvDs ta σ B [.list (xs.map e), .tuple (ys.map f)]) : EvI (iZipM K ta) σ B ((xs.zip ys).map fun p => PyData.tuple [e p.1, f p.2]) := by
  have := i_zipM (K := K) h
  rw [List.zip_map, List.map_map] at this
  exact this
end
end G
/-! GP: tuples known to have no dict of their own (frozen in the tracked heap); dict(tuple of pairs), keys tuples. -/
namespace G
open PySem PySem.Spec PyProof.Rows L2 Evl
section
variable {X : Cx} {K : PySem.W.Frag}
/-- tuple(l), l a list: the new tuple has no dict -/
def rTupF (K : PySem.W.Frag) : List V → Hp → VK → Prop := fun xs H Q => ∃ p ys, xs = [.ref p] ∧ SqL K H p ys ∧ ∀ l o, H l = none → o.dict = none → Q (.ref l) (upd H l (.frz o (.tup ys)))
theorem cr_tupF : CallR X (.type "tuple") (rTupF X.K) := by
  intro pins s σ H xs us Q I r h
  obtain ⟨p, ys, rfl, hq, q⟩ := h
  obtain ⟨u, rfl, rx⟩ := vals1 r
  cases rx
  obtain ⟨its, r', pl, hz⟩ := I.list hq
  have hlen := r'.length
  refine call_tuple_list pl.isList (fun h' kp => ?_) (by simp only [List.size_toArray] <;> omega)
  have I1 : Inv X pins σ H { s with heap := h' } := I.kept (t' := s.toks) kp
  have I2 : Inv X pins σ (upd H h'.objs.size (.frz { cls := .type "tuple", data := .seq its.toArray } (.tup ys))) { s with heap := h'.push { cls := .type "tuple", data := .seq its.toArray } } :=
    I1.laid (t' := s.toks) (fun b o e => Heap.get?_push_of_some _ e) (Nat.le_refl _) (show ObjOk X.prog X.w _ _ _ (.frz _ (.tup ys)) from ⟨Heap.get?_push_size _ rfl, hz, its, r', IsTup.new _ _⟩)
  exact ⟨.ref h'.objs.size, _, I2, rfl, q _ _ (I1.hok.fresh (Nat.le_refl _)) rfl⟩
theorem k_tupF (h : X.K = K := by rfl) : CallR X (.type "tuple") (rTupF K) := h ▸ cr_tupF
/-- t + u, both not empty: the new tuple has no dict -/
def rCatF (K : PySem.W.Frag) : R2 := fun x y H Q => ∃ a b xs ys, x = .ref a ∧ y = .ref b ∧ SqT K H a xs ∧ SqT K H b ys ∧ xs ≠ [] ∧ ys ≠ [] ∧ xs.length + ys.length ≤ sizeLine ∧ ∀ p o, H p = none → o.dict = none → Q (.ref p) (upd H p (.frz o (.tup (xs ++ ys))))
theorem op_catF : OpR X (binaryOp .Add) (rCatF X.K) := by
  intro pins s σ H x y v u Q I rx ry h
  obtain ⟨a, b, xs, ys, rfl, rfl, ha, hb, hx, hy, hz, q⟩ := h
  cases rx
  cases ry
  obtain ⟨its, r1, p1, _⟩ := I.tuple ha
  obtain ⟨its2, r2, p2, _⟩ := I.tuple hb
  refine HT.cat_tup p1 p2 (fun z => hx (r1.nil_iff.mp z)) (fun z => absurd (r2.nil_iff.mp z) hy) (fun z => ?_) (by rw [← r1.length, ← r2.length]; exact hz)
  exact ⟨.ref s.heap.objs.size, _, I.laid (t' := s.toks) (o := .frz _ (.tup (xs ++ ys))) (fun b ob q => Heap.get?_push_of_some _ q) (Nat.le_refl _) ⟨Heap.get?_push_size _ rfl, by rw [List.length_append]; exact hz, _, r1.append r2, IsTup.new _ _⟩, rfl, q _ _ (I.hok.fresh (Nat.le_refl _)) rfl⟩
theorem k_catF (h : X.K = K := by rfl) : OpR X (binaryOp .Add) (rCatF K) := h ▸ op_catF
/-- one pair of the argument: its tuple, its key's tuple, the key, the value -/
abbrev Pr := Addr × Addr × List L2.Key × V
abbrev prK (rs : List Pr) : List (List L2.Key × V) := rs.map fun r => (r.2.2.1, r.2.2.2)
theorem prs_of {pins : List (Addr × Obj)} {σ : L2.St} {H : Hp} {s : Shared} (I : Inv X pins σ H s) : ∀ {rs : List Pr}, (∀ r ∈ rs, H r.1 = some (.tup [.ref r.2.1, r.2.2.2]) ∧ H r.2.1 = some (.tup (r.2.2.1.map kV))) →
    ∃ ps : List (List L2.Key × Addr × Value), KT H (prK rs) ps ∧ ps.length = rs.length ∧ ∀ (j : Nat) (q : List L2.Key × Addr × Value), ps[j]? = some q → ∃ r, rs[j]? = some r ∧ IsTup s.heap r.1 #[.ref q.2.1, q.2.2]
  | [], _ => ⟨[], .nil, rfl, fun j q e => by simp at e⟩
  | r :: rs, h => by
    obtain ⟨ps, k, hl, hp⟩ := prs_of I (rs := rs) fun x hx => h x (List.mem_cons_of_mem _ hx)
    obtain ⟨h1, h2⟩ := h r List.mem_cons_self
    obtain ⟨_, its, rv, t⟩ := (show ObjOk X.prog X.w H s.heap r.1 (.tup [.ref r.2.1, r.2.2.2]) from I.hok _ _ h1)
    obtain ⟨u1, u2, rfl, q1, q2⟩ := vals2 rv
    cases q1
    refine ⟨(r.2.2.1, r.2.1, u2) :: ps, .cons ⟨rfl, h2, q2⟩ k, by rw [List.length_cons, List.length_cons, hl], fun j q e => ?_⟩
    cases j with
    | zero =>
      obtain rfl := Option.some.inj e
      exact ⟨r, rfl, t⟩
    | succ j => exact hp j q (by simpa using e)
theorem kt_all {H : Hp} : ∀ {ps acc : List (List L2.Key × Addr × Value)} {kvs l : List (List L2.Key × V)}, KT H l ps → KT H kvs acc → KT H (l.foldl (fun a kv => putK a kv.1 kv.2) kvs) (storedAllH acc ps)
  | [], acc, kvs, _, .nil, h => h
  | p :: ps, acc, kvs, _, .cons (a := q) h t, h2 => by
    show KT H (List.foldl _ (putK kvs q.1 q.2) _) (storedAllH (storedH acc p.1 p.2.1 p.2.2) ps)
    refine kt_all t ?_
    rw [← h.1]
    exact h2.put q.1 h.2.1 h.2.2
theorem put_all : ∀ {l kvs : List (List L2.Key × V)}, (l.map (·.1)).Nodup → (∀ q ∈ l, valV kvs q.1 = none) → l.foldl (fun a kv => putK a kv.1 kv.2) kvs = kvs ++ l
  | [], kvs, _, _ => (List.append_nil _).symm
  | q :: l, kvs, hn, h => by
    rw [List.map_cons, List.nodup_cons] at hn
    show List.foldl _ (putK kvs q.1 q.2) l = _
    rw [putK_new _ (h q List.mem_cons_self)]
    have h3 : ∀ r ∈ l, valV (kvs ++ [(q.1, q.2)]) r.1 = none := fun r hr => by
      have h1 := h r (List.mem_cons_of_mem _ hr)
      have h2 : q.1 ≠ r.1 := fun z => hn.1 (by rw [z]; exact List.mem_map.mpr ⟨r, hr, rfl⟩)
      unfold valV at h1 ⊢
      rw [Option.map_eq_none_iff, List.find?_eq_none] at h1 ⊢
      intro x hx
      rcases List.mem_append.mp hx with hx | hx
      · exact h1 x hx
      · rw [List.mem_singleton.mp hx]
        simpa using h2
    rw [put_all hn.2 h3, List.append_assoc]
    rfl
theorem paired_back {α β : Type} {F : α → β → Prop} : ∀ {xs : List α} {ys : List β}, Paired F xs ys → ∀ {i : Nat} {y : β}, ys[i]? = some y → ∃ x, xs[i]? = some x ∧ F x y
  | _, _, .nil, i, y, h => by simp at h
  | _, _, .cons r t, 0, y, h => by
    obtain rfl := Option.some.inj h
    exact ⟨_, rfl, r⟩
  | _, _, .cons r t, i + 1, y, h => paired_back t (by simpa using h)
/-- dict(t), t a tuple of pairs, the keys tuples, each once -/
def rDictF : List V → Hp → VK → Prop := fun xs H Q => ∃ (a : Addr) (o : Obj) (rs : List Pr), xs = [.ref a] ∧ H a = some (.frz o (.tup (rs.map fun r => V.ref r.1))) ∧ o.dict = none ∧
  (∀ r ∈ rs, H r.1 = some (.tup [.ref r.2.1, r.2.2.2]) ∧ H r.2.1 = some (.tup (r.2.2.1.map kV))) ∧ (rs.map (·.2.2.1)).Nodup ∧ ∀ p, H p = none → Q (.ref p) (upd H p (.dT (prK rs)))
theorem call_dictF (hc : X.calm = true) (hu : X.A.units + 2 < cLine) : CallR X (.type "dict") rDictF := by
  intro pins s σ H xs us Q I r h
  obtain ⟨a, o, rs, rfl, ha, hd, hrs, hn, q⟩ := h
  obtain ⟨u, rfl, rx⟩ := vals1 r
  cases rx
  obtain ⟨ho, hz, its, rv, o', ho', hcl, n, hdat⟩ := (show ObjOk X.prog X.w H s.heap a (.frz o (.tup (rs.map fun r => V.ref r.1))) from I.hok _ _ ha)
  rw [ho] at ho'
  cases ho'
  have ei : its = (rs.map (·.1)).map Value.ref := refs_at (ps := rs.map (·.1)) (by rw [List.map_map]; exact rv)
  obtain ⟨ps, kt, hl, hp⟩ := prs_of I hrs
  rw [List.length_map] at hz
  refine call_dict_pairsH (knd := tupleKind (mixKind X.prog X.w)) (ps := ps) (PairArg.tuple (prog := X.prog) (w := X.w) a its.toArray (fun j => (rs.map (·.1)).getD j 0) (ps.map fun p => (Value.ref p.2.1, p.2.2))) (I.ok.hd hc) hu ⟨⟨o, n, ho, hcl, hd, hdat⟩, ?_, fun j k v e => ?_⟩ ⟨?_, fun i key v e => ?_⟩ (fun h' hk x hx => ?_) (by rw [List.length_map, hl]; exact hz) fun h' tk hd' hk => ?_
  · rw [ei]
    simp [hl]
  · rw [List.getElem?_map] at e
    cases e2 : ps[j]? with
    | none => rw [e2] at e; cases e
    | some p =>
      rw [e2] at e
      cases e
      obtain ⟨r, hr, ht⟩ := hp j p e2
      have e3 : (rs.map (·.1)).getD j 0 = r.1 := by rw [List.getD_eq_getElem?_getD, List.getElem?_map, hr]; rfl
      refine ⟨?_, ?_⟩
      · show its.toArray[j]? = some (.ref ((rs.map (·.1)).getD j 0))
        rw [ei, e3]
        simp [hr]
      · show PairAt s.heap ((rs.map (·.1)).getD j 0) _ _
        rw [e3]
        exact .inl ht
  · rw [List.length_map]
  · have e : (ps.map fun p => (Value.ref p.2.1, p.2.2))[i]? = some (key, v) := e
    rw [List.getElem?_map] at e
    cases e2 : ps[i]? with
    | none => rw [e2] at e; cases e
    | some p =>
      rw [e2] at e
      cases e
      exact ⟨p.1, p.2.1, rfl, rfl⟩
  · obtain ⟨j, hj⟩ := List.mem_iff_getElem?.mp hx
    obtain ⟨kv, hkv, z1, z2, z3⟩ := paired_back kt hj
    have ky := key_of I.hok z2
    rw [z1] at ky
    obtain ⟨o2, its2, n2, g1, g2, g3, g4⟩ := ky
    exact ⟨o2, its2, n2, hk _ _ (Nat.ne_of_lt (Heap.lt_size g1)) (by simp) g1, g2, g3, g4⟩
  · have hm : (s.heap.objs.size == sysModules) = false := beq_eq_false_iff_ne.mpr (Nat.ne_of_gt I.big)
    have e1 : (prK rs).foldl (fun a kv => putK a kv.1 kv.2) [] = prK rs := put_all (kvs := []) (by rw [List.map_map]; exact hn) fun _ _ => rfl
    have k1 : KT H (prK rs) (storedAllH [] ps) := by
      have := kt_all kt (kvs := []) (acc := []) .nil
      rw [e1] at this
      exact this
    obtain ⟨o2, es, ep, g1, g2, g3, g4, _, g5⟩ := hd'
    have hfr : H s.heap.objs.size = none := I.hok.fresh (Nat.le_refl _)
    refine ⟨.ref s.heap.objs.size, upd H s.heap.objs.size (.dT (prK rs)), I.laid (t' := tk) (fun b o e => hk b o (by simp) e) (Nat.le_refl _) (show ObjOk X.prog X.w _ _ _ (.dT (prK rs)) from ⟨by rw [List.length_map]; exact hz, hm, storedAllH [] ps, k1.keeps fun c ys ec => ?_, o2, es, ep, g1, g2, g3, g4, g5⟩), rfl, q _ hfr⟩
    rw [upd_ne (fun z => by rw [z, hfr] at ec; cases ec)]
    exact ec
end
end G
/-! GQ: readings of tuples without a dict; None among ints; repr. -/
namespace G
open PySem PySem.Spec PyProof.Rows L2 Evl
/-- v is a tuple of this that has no dict -/
def rtab (ds : List D) : RelH := fun B v => ∃ a o xs, v = .ref a ∧ B a = some (.frz o (.tup xs)) ∧ o.dict = none ∧ RpA B xs ds
theorem mono_rtab (ds : List D) : Mono (rtab ds) := fun e ⟨a, o, xs, h1, h2, h3, h4⟩ => ⟨a, o, xs, h1, e _ _ h2, h3, h4.mono e⟩
theorem sf_of {K : PySem.W.Frag} {H : Hp} {a : Addr} {o : Obj} {xs : List V} (h : H a = some (.frz o (.tup xs))) : SqT K H a xs := Or.inl (Or.inr ⟨o, h⟩)
section
variable {X : Cx} {K : PySem.W.Frag}
/-- t + u of any lengths -/
def rCatU (K : PySem.W.Frag) : R2 := fun x y H Q => ∃ a b xs ys, x = .ref a ∧ y = .ref b ∧ SqT K H a xs ∧ SqT K H b ys ∧ xs.length + ys.length ≤ sizeLine ∧ (xs = [] → Q (.ref b) H) ∧ (xs ≠ [] → ys = [] → Q (.ref a) H) ∧
  (xs ≠ [] → ys ≠ [] → ∀ p o, H p = none → o.dict = none → Q (.ref p) (upd H p (.frz o (.tup (xs ++ ys)))))
theorem op_catU : OpR X (binaryOp .Add) (rCatU X.K) := by
  intro pins s σ H x y v u Q I rx ry h
  obtain ⟨a, b, xs, ys, rfl, rfl, ha, hb, hz, q0, q1, q2⟩ := h
  by_cases hx : xs = []
  · exact op_catA pins s σ H _ _ v u Q I rx ry ⟨a, b, xs, ys, rfl, rfl, ha, hb, hz, q0, fun n => absurd hx n, fun n => absurd hx n⟩
  · by_cases hy : ys = []
    · exact op_catA pins s σ H _ _ v u Q I rx ry ⟨a, b, xs, ys, rfl, rfl, ha, hb, hz, q0, fun n e => q1 n e, fun _ n => absurd hy n⟩
    · exact op_catF pins s σ H _ _ v u Q I rx ry ⟨a, b, xs, ys, rfl, rfl, ha, hb, hx, hy, hz, fun p o h1 h2 => q2 hx hy p o h1 h2⟩
theorem k_catU (h : X.K = K := by rfl) : OpR X (binaryOp .Add) (rCatU K) := h ▸ op_catU
theorem k_noneIn (h : X.K = K := by rfl) (hu : X.A.units + 64 < cLine) : OpR X (compareOp .In) (rNoneIn K false) := h ▸ op_noneIn hu
theorem k_noneNotIn (h : X.K = K := by rfl) (hu : X.A.units + 64 < cLine) : OpR X (compareOp .NotIn) (rNoneIn K true) := h ▸ op_noneNotIn hu
theorem k_index (h : X.K = K := by rfl) : MtR X "list.index" (rIndex K) := h ▸ mt_index
theorem k_zipM (K : PySem.W.Frag) {e e2 : Expr} {ta : TA} {p pos tpos : Pos} {elts : List Expr} {kk : Nat} (hg : Gl X "zip") (hm : X.mg "zip" = none) (ha : PA X [e, e2] ta) (h : X.K = K := by rfl)
    (hs : starEach [e, e2] X.env = (false, eval e X.env) :: starEach [e2] X.env := by rfl) (hpl : (backTo pos (starEach [e2] X.env)).any (·.1) = false := by rfl) : PI X (.Tuple elts kk tpos) (.Call (.Name "zip" p) [e, e2] [] pos) (iZipM K ta) := h ▸ pi_zipM hg hm ha hs hpl
theorem k_dictF (hc : X.calm = true) (hu : X.A.units + 64 < cLine) : CallR X (.type "dict") rDictF := call_dictF hc (by omega)
/-- repr of data -/
def rRepr (K : PySem.W.Frag) : List V → Hp → VK → Prop := fun xs H Q => ∃ a d, xs = [.ref a] ∧ Dp K H (.ref a) d ∧ d.showable = true ∧ d.hasDict = false ∧ d.depth ≤ 60 ∧ d.shown.length ≤ sizeLine ∧ Q (.str d.shown) H
theorem cr_repr (hg : X.A.guards = some []) (hu : X.A.units + 64 < cLine) : CallR X (.builtin "repr") (rRepr X.K) := by
  intro pins s σ H xs us Q I r h
  obtain ⟨a, d, rfl, hd, h1, h2, h3, h4, q⟩ := h
  obtain ⟨u, rfl, rx⟩ := vals1 r
  obtain ⟨as, rd⟩ := Dp.reads I d (.ref a) u hd rx
  cases rx
  exact repr_of_reads' rd h1 (fun z => by rw [h2] at z; cases z) hg (by omega) (fun b o e => e) (fun h' t tk hk => ⟨.str _, H, I.kept (t' := tk) hk, ⟨_, rfl⟩, q⟩) h4
theorem k_repr (h : X.K = K := by rfl) (hg : X.A.guards = some []) (hu : X.A.units + 64 < cLine) : CallR X (.builtin "repr") (rRepr K) := h ▸ cr_repr hg hu
end
section
variable {K : PySem.W.Frag} {σ : L2.St} {B : Hp} {ta : TA} {te tl : TE} {ds es : List D} {d : D}
theorem d_tupF (h : EvD te σ B (.list ds)) : EvR (tCB (rTupF K) (tCons te tNil)) σ B (rtab ds) := fun F H o Q q =>
  h F H o _ fun v H1 e1 r1 => by
    obtain ⟨p, ys, rfl, hp, ra⟩ := r1.lst_inv
    exact ⟨p, ys, rfl, sq_of (cut_ex _ _ hp), fun l ob hl hd => q _ _ (e1.trans (Ex.new hl)) ⟨l, ob, ys, rfl, new_at (o.go e1) hl, hd, ra.mono (cut_mono (Ex.new hl))⟩⟩
theorem i_tupF (h : EvR tl σ B (rtab ds)) : EvI (iTup K tl) σ B ds := fun F H o R q => h F H o _ fun v H1 e1 r1 => by
  obtain ⟨a, ob, xs, rfl, hb, _, ra⟩ := r1
  refine ⟨a, rfl, ⟨xs, sf_of (cut_ex _ _ hb)⟩, q _ H1 e1 ⟨fun F' H' i d o' hd => ?_, fun F' H' i o' hi => ⟨xs, sf_of (o'.ex _ _ hb), by rw [ra.length]; exact hi⟩⟩⟩
  obtain ⟨x, hx, rx⟩ := ra.get hd
  refine ⟨⟨xs, x, sf_of (o'.ex _ _ hb), hx⟩, fun x' H'' y => ?_⟩
  obtain ⟨rfl, y⟩ := y
  have := y xs (sf_of (o'.ex _ _ hb))
  rw [hx] at this
  cases this
  exact ⟨Ex.refl _, rx.mono o'.cut⟩
theorem d_isiF {b : String} {r : Bool} (h : EvR te σ B (rtab ds)) (hb : kitB "tuple" b = some r) : EvD (tCB (rIsi K) (tCons te (tCons (tC (.ty b)) tNil))) σ B (.bool r) := fun F H o Q q =>
  h F H o _ fun v H1 e1 r1 => by
    obtain ⟨a, ob, xs, rfl, ha, _, _⟩ := r1
    exact ⟨_, _, _, _, r, rfl, .ty _, .fTuple (cut_ex _ _ ha), kit_ty hb, q _ H1 e1 (.bl _)⟩
theorem d_lenF (h : EvR te σ B (rtab ds)) : EvD (tCB (G.rLenS K) (tCons te tNil)) σ B (.int (ds.length : Nat)) := fun F H o Q q =>
  h F H o _ fun v H1 e1 r1 => by
    obtain ⟨a, ob, xs, rfl, ha, _, ra⟩ := r1
    refine ⟨a, xs, rfl, .inr (sf_of (cut_ex _ _ ha)), q _ H1 e1 ?_⟩
    rw [ra.length]
    exact .int _
theorem o_ixF {i : Int} (h : atI ds i = some d) : OpD (rIxT K) (rtab ds) (rp (.int i)) (rp d) := fun r1 r2 F H o Q q => by
  obtain ⟨a, ob, xs, rfl, ha, _, ra⟩ := r1
  cases r2.int_inv
  obtain ⟨v, hv, rv⟩ := atI_rp ra h
  exact ⟨a, xs, i, v, rfl, rfl, sf_of (o.ex _ _ ha), hv, q _ H (Ex.refl H) (rv.mono o.cut)⟩
/-- a slice that is not the whole -/
theorem d_slF {tl th : TO} {lo hi : Option Int} (h : EvR te σ B (rtab ds)) (hl : EvP tl σ B lo) (hh : EvP th σ B hi) (r : List D) (hw : ¬ (HT.sIx ds.length 0 lo = 0 ∧ HT.sIx ds.length ds.length hi = ds.length))
    (hr : (ds.drop (HT.sIx ds.length 0 lo)).take (HT.sIx ds.length ds.length hi - HT.sIx ds.length 0 lo) = r) : EvD (tSl (rSlA K) te tl th) σ B (.tuple r) := fun F H o Q q =>
  h F H o _ fun v H1 e1 r1 => hl F H1 (o.go e1) _ fun H2 e2 => hh F H2 (o.go (e1.trans e2)) _ fun H3 e3 => by
    have o3 := o.next ((e1.trans e2).trans e3)
    obtain ⟨a, ob, xs, rfl, ha, _, ra⟩ := mono_rtab ds (cut_mono (e2.trans e3)) r1
    refine ⟨a, xs, rfl, sf_of (cut_ex _ _ ha), fun e => ?_, fun e p hp => ?_⟩
    · rw [ra.length] at e
      exact absurd e hw
    · refine q _ _ (((e1.trans e2).trans e3).trans (Ex.new hp)) (.tup (new_at (o.go ((e1.trans e2).trans e3)) hp) ?_)
      unfold cutV
      rw [ra.length, ← hr]
      exact ((ra.drop _).take _).mono (cut_mono (Ex.new hp))
/-- a + b + c with no dict: b of one item, c and a not both empty -/
theorem d_cat3 {ta tb tc : TE} {as cs : List D} (ha : EvD ta σ B (.tuple as)) (hb : EvD tb σ B (.tuple [d])) (hc : EvD tc σ B (.tuple cs)) (hne : as ≠ [] ∨ cs ≠ []) (hz : as.length + 1 + cs.length ≤ 100000) :
    EvR (tOp (rCatU K) (tOp (rCatU K) ta tb) tc) σ B (rtab (as ++ [d] ++ cs)) := fun F H o Q q =>
  ha F H o _ fun v1 H1 e1 r1 => hb F H1 (o.go e1) _ fun v2 H2 e2 r2 => by
    obtain ⟨a, xs, rfl, ga, sa⟩ := (r1.mono (cut_mono e2)).tup_inv
    obtain ⟨b, ys, rfl, gb, sb⟩ := r2.tup_inv
    have la := sa.length
    have lb := sb.length
    have e12 := e1.trans e2
    have yne : ys ≠ [] := fun z => by rw [z] at lb; cases lb
    have step : ∀ (p : Addr) (zs : List V) (H3 : Hp), Ex H2 H3 → zs ≠ [] → RpA (cut F H3) zs (as ++ [d]) → SqT K H3 p zs → ((∃ ob, cut F H3 p = some (.frz ob (.tup zs)) ∧ ob.dict = none) ∨ cs ≠ []) →
        tc σ H3 fun y H4 => rCatU K (.ref p) y H4 Q := fun p zs H3 e3 zne rz sz alt => hc F H3 (o.go (e12.trans e3)) _ fun v3 H4 e4 r3 => by
      obtain ⟨c, ws, rfl, gc, sc⟩ := r3.tup_inv
      have lz := rz.length
      have lc := sc.length
      rw [List.length_append] at lz
      refine ⟨p, c, zs, ws, rfl, rfl, ex_t e4 sz, st_of (cut_ex _ _ gc), sz_of (by rw [lz, lc]; exact hz), fun z => absurd z zne, fun _ z => ?_, fun _ wne l ob hl hd => ?_⟩
      · have hcs : cs = [] := by
          rw [z] at lc
          exact List.eq_nil_of_length_eq_zero lc.symm
        rcases alt with ⟨ob, g, hd⟩ | n
        · refine q _ H4 ((e12.trans e3).trans e4) ⟨p, ob, zs, rfl, cut_mono e4 _ _ g, hd, ?_⟩
          rw [hcs, List.append_nil]
          exact rz.mono (cut_mono e4)
        · exact absurd hcs n
      · exact q _ _ (((e12.trans e3).trans e4).trans (Ex.new hl)) ⟨l, ob, zs ++ ws, rfl, new_at (o.go ((e12.trans e3).trans e4)) hl, hd, ((rz.mono (cut_mono e4)).append sc).mono (cut_mono (Ex.new hl))⟩
    refine ⟨a, b, xs, ys, rfl, rfl, st_of (cut_ex _ _ ga), st_of (cut_ex _ _ gb), sz_of (by rw [la, lb]; show _ + 1 ≤ _; omega), fun z => ?_, fun _ z => absurd z yne, fun xne _ l ob hl hd => ?_⟩
    · have has : as = [] := by
        rw [z] at la
        exact List.eq_nil_of_length_eq_zero la.symm
      refine step b ys H2 (Ex.refl _) yne (by rw [has]; exact sb) (st_of (cut_ex _ _ gb)) (.inr ?_)
      rcases hne with n | n
      · exact absurd has n
      · exact n
    · refine step l (xs ++ ys) _ (Ex.new hl) (fun z => xne (List.append_eq_nil_iff.mp z).1) ((sa.append sb).mono (cut_mono (Ex.new hl))) (sf_of upd_same) (.inl ⟨ob, new_at (o.go e12) hl, hd⟩)
/-- dict(t) -/
theorem d_dictF {l : List (List Int × D)} (h : EvR te σ B (rtab (l.map fun r => PyData.tuple [tI r.1, r.2]))) (hn : (l.map (·.1)).Nodup) : EvN (tCB rDictF (tCons te tNil)) σ B (rd l) := fun F H o Q q =>
  h F H o _ fun v H1 e1 r1 => by
    obtain ⟨a, ob, xs, rfl, ha, hd, ra⟩ := r1
    have key : ∀ {xs : List V} {l : List (List Int × D)}, RpA (cut F H1) xs (l.map fun r => PyData.tuple [tI r.1, r.2]) → ∃ rs : List Pr, xs = rs.map (fun r => V.ref r.1) ∧ (∀ r ∈ rs, H1 r.1 = some (.tup [.ref r.2.1, r.2.2.2]) ∧ H1 r.2.1 = some (.tup (r.2.2.1.map kV))) ∧
        rs.map (·.2.2.1) = l.map (fun r => kI r.1) ∧ RpT (cut F H1) (prK rs) l := by
      intro xs l r
      induction l generalizing xs with
      | nil =>
        cases r
        exact ⟨[], rfl, (fun _ h => (by cases h)), rfl, Paired.nil⟩
      | cons x l ih =>
        cases r with
        | cons r1 r2 =>
          obtain ⟨rs, rfl, g1, g2, g3⟩ := ih r2
          obtain ⟨T, ys, rfl, hT, rT⟩ := r1.tup_inv
          obtain ⟨k, v, rfl, rk, rv⟩ := rpa2 rT
          obtain ⟨b, rfl, hb⟩ := rk.tI_inv
          refine ⟨(T, b, kI x.1, v) :: rs, rfl, fun r hr => ?_, by rw [List.map_cons, List.map_cons, g2], .cons ⟨rfl, rv⟩ g3⟩
          rcases List.mem_cons.mp hr with rfl | hr
          · exact ⟨cut_ex _ _ hT, by rw [kV_kI]; exact cut_ex _ _ hb⟩
          · exact g1 r hr
    obtain ⟨rs, rfl, g1, g2, g3⟩ := key ra
    refine ⟨a, ob, rs, rfl, cut_ex _ _ ha, hd, g1, ?_, fun p hp => ?_⟩
    · rw [g2]
      have e2 : (l.map fun r => kI r.1) = (l.map (·.1)).map kI := by rw [List.map_map]; rfl
      rw [e2]
      exact List.pairwise_map.mpr (hn.imp fun h e => h (kI_inj e))
    · exact q p _ (fresh_back e1 hp) (e1.trans (Ex.new hp)) ⟨p, _, rfl, new_at (o.go e1) hp, g3.mono (cut_mono (Ex.new hp))⟩
end
end G
/-! GR: further words. -/
namespace G
open PySem PySem.Spec PyProof.Rows L2 Evl
def maxI : List Int → Int
  | [] => 0
  | x :: r => r.foldl max x
theorem foldl_max : ∀ (r : List Int) (x : Int), (r.foldl max x = x ∨ r.foldl max x ∈ r) ∧ x ≤ r.foldl max x ∧ ∀ y ∈ r, y ≤ r.foldl max x
  | [], x => ⟨.inl rfl, Int.le_refl _, fun _ h => by cases h⟩
  | z :: r, x => by
    obtain ⟨h1, h2, h3⟩ := foldl_max r (max x z)
    have hm : max x z = x ∨ max x z = z := by omega
    refine ⟨?_, ?_, fun y hy => ?_⟩
    · show r.foldl max (max x z) = x ∨ r.foldl max (max x z) ∈ z :: r
      rcases h1 with h1 | h1
      · rw [h1]
        rcases hm with e | e
        · exact .inl e
        · exact .inr (by rw [e]; exact List.mem_cons_self)
      · exact .inr (List.mem_cons_of_mem _ h1)
    · show x ≤ r.foldl max (max x z)
      omega
    · show y ≤ r.foldl max (max x z)
      rcases List.mem_cons.mp hy with rfl | hy
      · omega
      · exact h3 y hy
theorem maxI_spec {ns : List Int} (h : ns ≠ []) : maxI ns ∈ ns ∧ ∀ y ∈ ns, y ≤ maxI ns := by
  cases ns with
  | nil => exact absurd rfl h
  | cons x r =>
    obtain ⟨h1, h2, h3⟩ := foldl_max r x
    refine ⟨?_, fun y hy => ?_⟩
    · show r.foldl max x ∈ _
      rcases h1 with e | e
      · rw [e]; exact List.mem_cons_self
      · exact List.mem_cons_of_mem _ e
    · show y ≤ r.foldl max x
      rcases List.mem_cons.mp hy with rfl | hy
      · exact h2
      · exact h3 y hy
theorem maxI_eq {ns : List Int} {m : Int} (h : m ∈ ns) (hl : ∀ y ∈ ns, y ≤ m) : m = maxI ns := by
  obtain ⟨h1, h2⟩ := maxI_spec (ns := ns) (fun z => by rw [z] at h; cases h)
  have := h2 m h
  have := hl _ h1
  omega
section
variable {K : PySem.W.Frag} {σ : L2.St} {B : Hp} {R : RelH} {wi : TI} {g : TG} {t1 t2 tt : TT} {te te1 te2 ta tb : TE} {tz : TS} {α : Type} {d : D}
theorem c_maxL {ns : List Int} (hn : ns ≠ []) : CallD (rMax K) (rps [lI ns]) (rp (.int (maxI ns))) := fun {B xs} r F H o Q q => by
  obtain ⟨x, rfl, rx⟩ := rpa1 r
  obtain ⟨a, rfl, ha⟩ := rx.lI_inv
  refine ⟨a, ns, rfl, sq_of (o.ex _ _ ha), List.length_pos_iff.mpr hn, fun m h1 h2 => ?_⟩
  have e := maxI_eq h1 h2
  subst e
  exact q _ H (Ex.refl H) (.int _)
theorem o_eqO : ∀ {x : Option Int} {i : Int}, OpD rEq (rp (oD x)) (rp (.int i)) (rp (.bool (decide (x = some i))))
  | none, i => fun r1 r2 F H o Q q => by
    cases r1.non_inv
    cases r2.int_inv
    exact ⟨rfl, q _ H (Ex.refl H) (.bl _)⟩
  | some j, i => fun r1 r2 F H o Q q => o_eqI r1 r2 F H o Q fun v H' e r => q v H' e (by
      have e2 : decide (j = i) = decide (some j = some i) := by
        by_cases h : j = i
        · subst h; simp
        · simp [h]
      rw [← e2]
      exact r)
theorem o_neB {a b : Bool} : OpD rNe (rp (.bool a)) (rp (.bool b)) (rp (.bool (!decide (a = b)))) := fun r1 r2 F H o Q q => by
  cases r1.bl_inv
  cases r2.bl_inv
  refine ⟨rfl, ?_⟩
  have e : (!decide (V.bl a = V.bl b)) = !decide (a = b) := by cases a <;> cases b <;> rfl
  rw [e]
  exact q _ H (Ex.refl H) (.bl _)
theorem o_isB {a b : Bool} : OpD rIsB (rp (.bool a)) (rp (.bool b)) (rp (.bool (decide (a = b)))) := fun r1 r2 F H o Q q => by
  cases r1.bl_inv
  cases r2.bl_inv
  exact ⟨a, b, rfl, rfl, q _ H (Ex.refl H) (.bl _)⟩
theorem o_notB {a b : Bool} : OpD rNotB (rp (.bool a)) (rp (.bool b)) (rp (.bool (!decide (a = b)))) := fun r1 r2 F H o Q q => by
  cases r1.bl_inv
  cases r2.bl_inv
  exact ⟨a, b, rfl, rfl, q _ H (Ex.refl H) (.bl _)⟩
theorem lay_oD : ∀ os : List (Option Int), PyData.canLayAll0 (os.map oD) = true ∧ PyData.depthAll (os.map oD) = 0
  | [] => ⟨rfl, rfl⟩
  | none :: os => by
    obtain ⟨h1, h2⟩ := lay_oD os
    exact ⟨by rw [List.map_cons, PyData.canLayAll0, h1]; rfl, by rw [List.map_cons, PyData.depthAll, h2]; rfl⟩
  | some i :: os => by
    obtain ⟨h1, h2⟩ := lay_oD os
    exact ⟨by rw [List.map_cons, PyData.canLayAll0, h1]; rfl, by rw [List.map_cons, PyData.depthAll, h2]; rfl⟩
theorem shaped_oD (os : List (Option Int)) : SeqAt.shaped (.list (os.map oD)) = true := by
  obtain ⟨h1, h2⟩ := lay_oD os
  unfold SeqAt.shaped
  rw [PyData.canLay0, PyData.depth, h1, h2]
  rfl
theorem any_oD (os : List (Option Int)) : ((os.map oD).any fun z => PyData.eqv z .none) = os.any Option.isNone := by
  rw [List.any_map]
  congr 1
  funext x
  cases x <;> rfl
theorem o_noneIn {os : List (Option Int)} : OpD (rInD K) (rp .none) (rp (.list (os.map oD))) (rp (.bool (os.any Option.isNone))) := fun r1 r2 F H o Q q => by
  refine ⟨.none, os.map oD, (r1.mono o.ex).dp, (r2.mono o.ex).dp, rfl, shaped_oD os, ?_⟩
  rw [any_oD]
  exact q _ H (Ex.refl H) (.bl _)
theorem o_noneNotIn {os : List (Option Int)} : OpD (rNotInD K) (rp .none) (rp (.list (os.map oD))) (rp (.bool (!os.any Option.isNone))) := fun r1 r2 F H o Q q => by
  refine ⟨.none, os.map oD, (r1.mono o.ex).dp, (r2.mono o.ex).dp, rfl, shaped_oD os, ?_⟩
  rw [any_oD]
  exact q _ H (Ex.refl H) (.bl _)
/-- for x in ..: if t1: return e1; if t2: return e2 -/
theorem e_for2 (xs : List α) (ea : α → D) (p : α → Bool) (S : L2.St → Prop) (hi : EvI wi σ B (xs.map ea)) (h0 : S σ)
    (ht : ∀ x ∈ xs, ∀ v σ' B', S σ' → Ex B B' → Rp B' v (ea x) → ∃ σ2 p1 p2, TgOk g v σ' σ2 B' ∧ S σ2 ∧ p x = (p1 || p2) ∧ EvB t1 σ2 B' p1 ∧ (p1 = true → xs.find? p = some x → EvR te1 σ2 B' R) ∧ (p1 = false → EvB t2 σ2 B' p2) ∧ (p1 = false → xs.find? p = some x → EvR te2 σ2 B' R))
    (hz : xs.find? p = none → ∀ σ' B', S σ' → Ex B B' → EvS tz σ' B' R) : EvS (tSeq (tFor wi g (tSeq (tIfS t1 (tRet te1) tNext) (tIfS t2 (tRet te2) tNext))) tz) σ B R := by
  intro F H o D' q
  refine s_for xs ea hi o (fun B1 k σ' H' => Off F B1 H' ∧ Ex H H' ∧ S σ' ∧ ∀ j (hj : j < xs.length), j < k → p xs[j] = false) (fun H1 e1 => ⟨o.next e1, e1, h0, fun _ _ h => absurd h (Nat.not_lt_zero _)⟩) (fun B1 k σ' H' _ h => h.1)
    (fun B1 k x v σ' H' H'' eB hx hP eH rv => ?_) (fun B1 σ' H' eB hP => ?_)
  · obtain ⟨oH, eH0, hS, hp⟩ := hP
    obtain ⟨hk, rfl⟩ := List.getElem?_eq_some_iff.mp hx
    obtain ⟨σ2, p1, p2, tg, hS2, hpp, hb1, hr1, hb2, hr2⟩ := ht xs[k] (List.getElem_mem hk) v σ' _ hS (eB.trans ((oH.go eH).cut)) rv
    have o2 := oH.next eH
    have hf : p xs[k] = true → xs.find? p = some xs[k] := fun hpk => List.find?_eq_some_iff_getElem.mpr ⟨hpk, k, hk, rfl, fun j hj => by rw [hp j (by omega) hj]; rfl⟩
    refine tg F H'' o2 _ (hb1 F H'' o2 _ fun H3 e3 => ?_)
    cases p1 with
    | true => exact hr1 rfl (hf hpp) F H3 (o2.go e3) _ fun u H4 e4 r4 => q u H4 (((eH0.trans eH).trans e3).trans e4) r4
    | false =>
      refine hb2 rfl F H3 (o2.go e3) _ fun H4 e4 => ?_
      cases p2 with
      | true => exact hr2 rfl (hf hpp) F H4 ((o2.go e3).go e4) _ fun u H5 e5 r5 => q u H5 ((((eH0.trans eH).trans e3).trans e4).trans e5) r5
      | false =>
        refine ⟨((oH.go eH).go e3).go e4, ((eH0.trans eH).trans e3).trans e4, hS2, fun j hj hjk => ?_⟩
        by_cases h : j = k
        · subst h; exact hpp
        · exact hp j hj (by omega)
  · obtain ⟨oH, eH0, hS, hp⟩ := hP
    have hn : xs.find? p = none := List.find?_eq_none.mpr fun x hx => by
      obtain ⟨j, hj, rfl⟩ := List.mem_iff_getElem.mp hx
      rw [hp j hj hj]
      exact Bool.false_ne_true
    exact hz hn σ' _ hS eB F H' oH D' fun u H2 e2 r2 => q u H2 (eH0.trans e2) r2
end
theorem shaped_lI (ns : List Int) : SeqAt.shaped (lI ns) = true := by
  obtain ⟨h1, h2⟩ := lay_ints ns
  show SeqAt.shaped (.list _) = true
  unfold SeqAt.shaped
  rw [PyData.canLay0, PyData.depth, h1, h2]
  rfl
theorem Room.u65 {k : Nat} {A : Around} (hr : Room k A) : A.units + 65 < cLine := by have := hr.un; omega
section
variable {X : Cx} {K : PySem.W.Frag}
theorem k_inD (h : X.K = K := by rfl) (hu : X.A.units + 65 < cLine) : OpR X (compareOp .In) (rInD K) := h ▸ op_inD hu
theorem k_notInD (h : X.K = K := by rfl) (hu : X.A.units + 65 < cLine) : OpR X (compareOp .NotIn) (rNotInD K) := h ▸ op_notInD hu
end
end G
/-! GL: what the rounds of numbers_of come to: a row's number is one more than the least greatest number of a lot. -/
namespace G
open PySem PySem.Spec PyProof.Rows L2 Evl
theorem look_app {kn m : Tab} {r : List Int} : look (kn ++ m) r = match look kn r with | some k => some k | none => look m r := by
  cases e : look kn r with
  | none => exact look_append kn m r e
  | some k =>
    unfold look at e ⊢
    obtain ⟨q, hq, rfl⟩ := Option.map_eq_some_iff.mp e
    rw [List.find?_append, hq]
    rfl
theorem look_const {l : List (List Int)} {v : Int} {r : List Int} : look (l.map (·, v)) r = if r ∈ l then some v else none := by
  induction l with
  | nil => rfl
  | cons x l ih =>
    by_cases e : x = r
    · subst e
      simp [look, List.find?_cons]
    · have e' : ¬ r = x := fun z => e z.symm
      simp only [look, List.map_cons, List.find?_cons, e, decide_false, List.mem_cons, e', false_or] at ih ⊢
      exact ih
structure LoopLaw (kn fin : Tab) (lf : Lef) (tk : Int) : Prop where
  old : ∀ r k, look kn r = some k → look fin r = some k
  new : ∀ r k, look kn r = none → look fin r = some k → tk + 1 ≤ k
  one : ∀ r ∈ lf, ∀ k, look fin r.1 = some k → (∃ lot ∈ r.2, ∀ one ∈ lot, ∃ j, look fin one = some j ∧ j < k) ∧ ∀ lot ∈ r.2, ∃ one ∈ lot, ∀ j, look fin one = some j → k - 1 ≤ j
theorem loop_law : ∀ (f : Nat) (kn : Tab) (lf : Lef) (tk : Int), LfOk kn lf → (∀ r k, look kn r = some k → k ≤ tk) → (∀ r ∈ lf, ∀ lot ∈ r.2, ∃ one ∈ lot, ∀ j, look kn one = some j → tk ≤ j) → LoopLaw kn (loopM f kn lf tk) lf tk
  | 0, kn, lf, tk, ok, hk, hl => ⟨fun _ _ h => h, fun r k h1 h2 => (by rw [show loopM 0 kn lf tk = kn from rfl, h1] at h2; cases h2), fun r hr k h => (by rw [show loopM 0 kn lf tk = kn from rfl, ok.dj r hr] at h; cases h)⟩
  | f + 1, kn, lf, tk, ok, hk, hl => by
    by_cases he : lostM kn lf = []
    · have e : loopM (f + 1) kn lf tk = kn := by rw [loopM, if_pos he]
      rw [e]
      exact ⟨fun _ _ h => h, fun r k h1 h2 => (by rw [h1] at h2; cases h2), fun r hr k h => (by rw [ok.dj r hr] at h; cases h)⟩
    · have e : loopM (f + 1) kn lf tk = loopM f (kn ++ (lostM kn lf).map (·, tk + 1)) (lf.filter fun r => decide (r.1 ∉ lostM kn lf)) (tk + 1) := by rw [loopM, if_neg he]
      rw [e]
      have lk : ∀ r, look (kn ++ (lostM kn lf).map (·, tk + 1)) r = match look kn r with | some k => some k | none => if r ∈ lostM kn lf then some (tk + 1) else none := fun r => by rw [look_app, look_const]
      have I := loop_law f (kn ++ (lostM kn lf).map (·, tk + 1)) (lf.filter fun r => decide (r.1 ∉ lostM kn lf)) (tk + 1) ok.step (fun r k h => by
        rw [lk] at h
        cases e2 : look kn r with
        | some j =>
          rw [e2] at h
          cases h
          have := hk r k e2
          omega
        | none =>
          rw [e2] at h
          simp only at h
          split at h
          · cases h; omega
          · cases h) (fun r hr lot hlot => by
        obtain ⟨hr1, hr2⟩ := List.mem_filter.mp hr
        have hno : lostB kn r = false := by
          cases e2 : lostB kn r with
          | false => rfl
          | true => exact absurd (List.mem_map.mpr ⟨r, List.mem_filter.mpr ⟨hr1, e2⟩, rfl⟩) (of_decide_eq_true hr2)
        have h1 := List.any_eq_false.mp hno lot hlot
        obtain ⟨one, ho, hn⟩ : ∃ one ∈ lot, look kn one = none := by
          have h2 : lot.all (fun one => (look kn one).isSome) = false := by simpa using h1
          obtain ⟨one, ho, h3⟩ := List.all_eq_false.mp h2
          exact ⟨one, ho, by simpa using h3⟩
        refine ⟨one, ho, fun j hj => ?_⟩
        rw [lk, hn] at hj
        simp only at hj
        split at hj
        · cases hj; exact Int.le_refl _
        · cases hj)
      have nw : ∀ r k, look kn r = none → look (loopM f (kn ++ (lostM kn lf).map (·, tk + 1)) (lf.filter fun r => decide (r.1 ∉ lostM kn lf)) (tk + 1)) r = some k → tk + 1 ≤ k := fun r k h1 h2 => by
        cases e2 : look (kn ++ (lostM kn lf).map (·, tk + 1)) r with
        | none =>
          have := I.new r k e2 h2
          omega
        | some j =>
          have e3 := I.old r j e2
          rw [e3] at h2
          cases h2
          rw [lk, h1] at e2
          simp only at e2
          split at e2
          · cases e2; exact Int.le_refl _
          · cases e2
      have old : ∀ r k, look kn r = some k → look (loopM f (kn ++ (lostM kn lf).map (·, tk + 1)) (lf.filter fun r => decide (r.1 ∉ lostM kn lf)) (tk + 1)) r = some k := fun r k h => I.old r k (by rw [lk, h])
      refine ⟨old, nw, fun r hr k h => ?_⟩
      by_cases hlost : r.1 ∈ lostM kn lf
      · have ek : k = tk + 1 := by
          have := I.old r.1 (tk + 1) (by rw [lk, ok.dj r hr]; simp only; rw [if_pos hlost])
          rw [this] at h
          cases h
          rfl
        subst ek
        obtain ⟨r', hr', e'⟩ := List.mem_map.mp hlost
        obtain ⟨hr1, hr2⟩ := List.mem_filter.mp hr'
        have er : r' = r := by
          obtain ⟨i, hi, rfl⟩ := List.mem_iff_getElem.mp hr1
          obtain ⟨j, hj, rfl⟩ := List.mem_iff_getElem.mp hr
          have h1 : (lf.map (·.1))[i]? = (lf.map (·.1))[j]? := by rw [List.getElem?_map, List.getElem?_map, List.getElem?_eq_getElem hi, List.getElem?_eq_getElem hj]; exact congrArg some e'
          have := (List.getElem?_inj (i := i) (j := j) (by rw [List.length_map]; exact hi) ok.nd).mp h1
          subst this
          rfl
        subst er
        refine ⟨?_, fun lot hlot => ?_⟩
        · obtain ⟨lot, hlot, hall⟩ := List.any_eq_true.mp hr2
          refine ⟨lot, hlot, fun one ho => ?_⟩
          have h1 := List.all_eq_true.mp hall one ho
          obtain ⟨j, hj⟩ := Option.isSome_iff_exists.mp h1
          have := hk one j hj
          exact ⟨j, old one j hj, by omega⟩
        · obtain ⟨one, ho, h1⟩ := hl r' hr lot hlot
          refine ⟨one, ho, fun j hj => ?_⟩
          cases e2 : look kn one with
          | some i =>
            rw [old one i e2] at hj
            cases hj
            have := h1 j e2
            omega
          | none =>
            have := nw one j e2 hj
            omega
      · exact I.one r (List.mem_filter.mpr ⟨hr, decide_eq_true hlost⟩) k h
/-! ### permutations -/
theorem perm_zip {r bs : List Int} (p : r.Perm bs) : ∀ {d : List Int}, d.length = r.length → ∃ d', (r.zip d).Perm (bs.zip d') ∧ d.Perm d' ∧ d'.length = bs.length := by
  induction p with
  | nil => exact fun {d} h => ⟨[], by simp, by rw [List.eq_nil_of_length_eq_zero h], rfl⟩
  | cons x p ih =>
    intro d h
    cases d with
    | nil => cases h
    | cons y d =>
      obtain ⟨d', h1, h2, h3⟩ := ih (d := d) (by simpa using h)
      exact ⟨y :: d', by simpa using h1, by simpa using h2, by simpa using h3⟩
  | swap x y l =>
    intro d h
    match d, h with
    | u :: v :: d, h => exact ⟨v :: u :: d, by simpa using List.Perm.swap _ _ _, List.Perm.swap _ _ _, by simpa using h⟩
  | trans p q ih1 ih2 =>
    intro d h
    obtain ⟨d1, a1, a2, a3⟩ := ih1 h
    obtain ⟨d2, b1, b2, b3⟩ := ih2 a3
    exact ⟨d2, a1.trans b1, a2.trans b2, b3⟩
theorem perm_sum {a b : List Int} (p : a.Perm b) : a.sum = b.sum := by
  induction p with
  | nil => rfl
  | cons x p ih => rw [List.sum_cons, List.sum_cons, ih]
  | swap x y l => simp only [List.sum_cons]; omega
  | trans p q h1 h2 => exact h1.trans h2
theorem isort_perm_eq {a b : List Int} (p : a.Perm b) : isort a = isort b := isort_eq ((isort_perm a).trans p) (isort_sorted a)
end G
/-! GH: a def that calls repr on a list: its promise where no repr is under way (guards = some []); after HandS.Call.fn_of and HandS.Ends.law_call, walk_of. -/
namespace L2
open PySem PySem.Spec PyProof.Rows
structure FnG (P : Program) (w : World) (K : PySem.W.Frag) (mg : Str → Option Value) (base : Heap) (k : Nat) (f : Addr) (fd : FuncData) (ps : List Str) (sp : Sp) : Prop where
  run : ∀ (A : Around) (outer : List Env) (s : Shared) (H : Hp) (args : Args) (us : List Value) (vs : List V) (Q : VK) (E : XK), A.guards = some [] → Room k A → Env0 P w K mg base A outer s H → BindsTo s fd args (ps.zip us) → Vals vs us → sp vs H Q E →
    codeAny (model P w) A (.call (.ref f) args) (CR CX0 outer P w H s Q E) s
theorem fnG_of {P : Program} {w : World} {K : PySem.W.Frag} {mg : Str → Option Value} {base : Heap} {k : Nat} {f : Addr} {name qual : Str} {params : Arguments} {body : List Stmt} {scope : Scope} {dV kV doc pm cdv ct oc : Value} {an od : Option Addr}
    {osl : Array (Option Value)} {N ps : List Str} {sp : Sp} (lk : K.lookup f = some ⟨oc, od, .func (PySem.W.fnOf name qual params body scope dV kV doc pm an cdv ct), osl⟩) (hcd : PySem.W.codeIn K cdv qual = true) (S : FnScope N ps scope)
    (len : ∀ vs H Q E, sp vs H Q E → vs.length = ps.length)
    (hbody : ∀ (A : Around) (outer : List Env) (s : Shared) (H : Hp) (vs : List V) (Q : VK) (E : XK), A.guards = some [] → Room k (A.deeper (envOfC qual scope s.heap.objs.size f cdv)) → sp vs H Q E →
      ∃ t, PSs (cxOf CX0 P w K mg base N qual scope f cdv A outer s H E) body t ∧ t { nx := fun _ H' => Q .non H', rt := Q } (start N vs) H) :
    FnG P w K mg base (k + 1) f (PySem.W.fnOf name qual params body scope dV kV doc pm an cdv ct) ps sp := by
  refine ⟨fun A outer s H args us vs Q E hgu hr e0 hb r hsp => ?_⟩
  have hl := len _ _ _ _ hsp
  have KX : K.In s.heap := e0.mod.kin.keeps fun b o e => (e0.bs b o e).1
  have lim : s.heap.NoLimit := e0.mod.nolimit.keeps fun b o e => (e0.bs b o e).1
  have hkind : ∀ y ∈ ps.zip us, scope.names.lookup y.1 = some .local ∨ (scope.names.lookup y.1 = some .cell ∧ ((cellsFrom (s.heap.objs.size + 1) scope.names []).lookup y.1).isSome = true) := fun ⟨n, v⟩ hy => by
    rcases S.par n (List.of_mem_zip hy).1 with q | q
    · exact .inl q
    · exact .inr ⟨q, PySem.W.cellsFrom_some _ _ _ (.inl q)⟩
  refine codeAny_call_function hr.depth (KX _ _ lk) rfl S.co S.gen rfl (PySem.W.codeRec_of KX hcd) (hb _ _ _ _ ?_)
  refine wpAny_newFunctionEnv_cells S.kind hkind fun env he s1 x => ?_
  subst he
  refine ⟨lim.keeps x.toInCall.keep, codeAny_func ?_⟩
  obtain ⟨t, ht, hq⟩ := hbody A outer s H vs Q E hgu (hr.deeper _) hsp
  have I : Inv (cxOf CX0 P w K mg base N qual scope f cdv A outer s H E) [] (start N vs) H s1 := inv_start S hr.hd e0 hl r x
  refine wpAny_mono (ht.run [] s1 (start N vs) H _ I hq) (fun fl s' hs => ?_) fun e s' hs => hs
  have fin : ∀ {σ' : St} {H' : Hp} {v : V} {u : Value}, Inv (cxOf CX0 P w K mg base N qual scope f cdv A outer s H E) [] σ' H' s' → RelV v u → Q v H' → CE outer P w H s Q u s' :=
    fun {σ' H' v u} J rv q => ⟨v, H', J.os, J.bare, J.base, J.hok, rv, q⟩
  cases fl with
  | ret u =>
    obtain ⟨v, σ', H', J, rv, q⟩ := hs
    exact fin J rv q
  | next =>
    obtain ⟨σ', H', J, q⟩ := hs
    exact fin (v := V.non) (u := Value.none) J rfl q
  | brk =>
    obtain ⟨_, _, _, q⟩ := hs
    exact False.elim q
  | cont =>
    obtain ⟨_, _, _, q⟩ := hs
    exact False.elim q
theorem Fun.okG {P : Program} {w : World} {K : PySem.W.Frag} {mg : Str → Option Value} {base : Heap} {x qual : Str} {st : Stmt} {f : Addr} {fd : FuncData} {N ps : List Str} {k : Nat} {sp : Sp} (F : Fun K x qual st f fd) (S : FnScope N ps (defScope st)) (len : ∀ vs H Q E, sp vs H Q E → vs.length = ps.length)
    (hbody : ∀ (cdv : Value) (A : Around) (outer : List Env) (s : Shared) (H : Hp) (vs : List V) (Q : VK) (E : XK), A.guards = some [] → Room k (A.deeper (envOfC qual (defScope st) s.heap.objs.size f cdv)) → sp vs H Q E →
      ∃ t, PSs (cxOf CX0 P w K mg base N qual (defScope st) f cdv A outer s H E).nox (defBody st) t ∧ t { nx := fun _ H' => Q .non H', rt := Q } (start N vs) H) : FnG P w K mg base (k + 1) f fd ps sp := by
  obtain ⟨oc, od, kV, doc, pm, an, cdv, ct, osl, rfl, lk, hcd⟩ := F.ex
  refine fnG_of lk hcd S len fun A outer s H vs Q E hg hr hsp => ?_
  obtain ⟨t, h, q⟩ := hbody cdv A outer s H vs Q E hg hr hsp
  exact ⟨t, h.nox, q⟩
theorem law_callG {P : Program} {w : World} {K : PySem.W.Frag} {mg mb : Str → Option Value} {k : Nat} {fa a : Addr} {fd : FuncData} {x : Str} {sp : Sp} {s₁ : Shared} {vs : List Value} {ns : List Int}
    (KX : K.In s₁.heap) (hns : s₁.heap.Ns mainGlobals mg) (hb : s₁.heap.Ns builtinsNs mb) (hbb : ∀ x : Str, x ≠ "__name__" → mb x = bootBuiltins x) (hlim : s₁.heap.NoLimit) (hg : s₁.gens = #[])
    (ha : s₁.heap.get? a = some { cls := .type "list", data := .seq vs.toArray }) (hi : IntsAre vs ns) (hl : ns.length ≤ sizeLine) (hr : Room k callerA)
    (F : ∀ base : Heap, K.In base → base.Ns mainGlobals mg → FnG P w K mg base k fa fd [x] sp) (hbind : ∀ (s : Shared) (u : Value), BindsTo s fd ⟨[u], []⟩ [(x, u)])
    (hsp : ∀ H : Hp, Only H → SqL K H a (ns.map V.int) → sp [.ref a] H (fun v _ => v = .bl true) fun _ _ _ => False) :
    codeAny (model P w) callerA (.call (.ref fa) ⟨[.ref a], []⟩) (fun r s' => r = .ok (.ret (.bool true)) ∧ OldK s₁.heap s'.heap ∧ s'.os = s₁.os ∧ AllBare s'.gens) s₁ := by
  have rv := vals_ints hi
  have lenV := hi.length
  -- from an abstract heap in which nothing but the script may be tracked
  have core : ∀ H : Hp, Only H → SqL K H a (ns.map V.int) → HOk P w H s₁.heap → (∀ b, H b ≠ none → b = a) → (H a ≠ none → K.lookup a = none) →
      codeAny (model P w) callerA (.call (.ref fa) ⟨[.ref a], []⟩) (fun r s' => r = .ok (.ret (.bool true)) ∧ OldK s₁.heap s'.heap ∧ s'.os = s₁.os ∧ AllBare s'.gens) s₁ := by
    intro H hO hS hok hA hK
    have base_of : ∀ {b : Addr} {o : Obj}, s₁.heap.get? b = some o → H b = none → (hidT s₁.heap H).get? b = some o := fun e n => hidT_get e n
    have noA : ∀ {b : Addr} {o : Obj} {es : Array DictEntry} {ep : Nat}, s₁.heap.get? b = some o → o.data = .dict es ep → H b = none := fun {b o es ep} e d => by
      cases q : H b with
      | none => rfl
      | some u =>
        have e' : b = a := hA b (by rw [q]; simp)
        subst e'
        rw [ha] at e; cases e
        have d' : Data.seq vs.toArray _ = Data.dict es ep := d
        cases d'
    have nsK : ∀ {b : Addr} {m : Str → Option Value}, s₁.heap.Ns b m → (hidT s₁.heap H).Ns b m := fun {b m} ⟨o, es, ep, e, d, r⟩ => ⟨o, es, ep, base_of e (noA e d), d, r⟩
    have hKb : K.In (hidT s₁.heap H) := fun b o e => base_of (KX b o e) (by
      cases q : H b with
      | none => rfl
      | some u =>
        have e' : b = a := hA b (by rw [q]; simp)
        subst e'
        rw [hK (by rw [q]; simp)] at e; cases e)
    have hM : Mod K mg (hidT s₁.heap H) := ⟨hKb, nsK hns, ⟨mb, nsK hb, hbb⟩, let ⟨mc, h1, h2⟩ := hlim; ⟨mc, nsK h1, h2⟩⟩
    have e0 : Env0 P w K mg (hidT s₁.heap H) callerA [] s₁ H := ⟨rfl, hM, fun b o e => of_hidT e, Nat.le_of_eq (hidT_size _ _), trivial, fun b hb => absurd (show b ∈ ([] : List Addr) from hb) (by simp), hok, .of_eq hg⟩
    refine codeAny_mono ((F _ hKb (nsK hns)).run callerA [] s₁ H ⟨[.ref a], []⟩ [.ref a] [.ref a] _ _ rfl hr e0 (hbind s₁ (.ref a)) (.cons rfl .nil) (hsp H hO hS)) fun r s' h => ?_
    cases r with
    | error e => exact False.elim h
    | ok fl =>
      cases fl with
      | next => exact False.elim h
      | brk => exact False.elim h
      | cont => exact False.elim h
      | ret u =>
        obtain ⟨v, H', os, bare, un, hok', r', q⟩ := h
        have q' : v = .bl true := q
        subst q'
        obtain rfl : u = Value.bool true := r'
        refine ⟨rfl, OldK.of_keep fun b o e => ?_, os, bare⟩
        cases q : H b with
        | none => exact un.keep b o e q (by intro z; exact absurd (show b ∈ ([] : List Addr) from z) (by simp)) (by simp)
        | some u =>
          rcases hO b with z | ⟨ob, xs, z⟩
          · rw [q] at z; cases z
          · have z2 := un.frzs b ob _ z
            obtain ⟨e1, _⟩ := hok b _ z
            obtain ⟨e2, _⟩ := hok' b _ z2
            rw [e] at e1; cases e1
            exact e2
  cases hk : K.lookup a with
  | some o =>
    -- the script is one of the module's own objects
    have e := KX a o hk
    rw [ha] at e
    cases e
    refine core (fun _ => none) (fun _ => .inl rfl) (.inr ⟨_, vs.toArray, _, hk, rfl, rfl, rfl, by rw [List.size_toArray, lenV]; exact hl, by simpa using rv⟩) (fun b u z => by have z' : (none : Option HO) = some u := z; cases z') (fun b z => absurd rfl z) fun z => absurd rfl z
  | none =>
    refine core (fun b => if b = a then some (.frz { cls := .type "list", data := .seq vs.toArray } (.lst (ns.map V.int))) else none) (fun b => ?_) (.inl (.inr ⟨{ cls := .type "list", data := .seq vs.toArray }, if_pos rfl⟩)) (fun b u z => ?_) (fun b z => ?_) fun _ => hk
    · by_cases hb : b = a
      · exact .inr ⟨_, _, if_pos hb⟩
      · exact .inl (if_neg hb)
    · by_cases hb : b = a
      · have z' := (if_pos hb).symm.trans z
        cases z'
        subst hb
        exact ⟨ha, by rw [List.length_map]; exact hl, vs, _, rv, ha⟩
      · have z' := (if_neg hb).symm.trans z
        cases z'
    · by_cases hb : b = a
      · exact hb
      · exact absurd (if_neg hb) z
theorem walk_ofG {l : PySem.W.OpenLaw} {n k : Nat} {q : Program} {loose : List Str} {XP : (Str → Option Value) → Heap → Prop} {YP : World → Heap → Prop} {d : DefRec} {K : Params → PySem.W.Frag} {sp : World → Sp} {x : Str}
    (hn : l.most = some n) (hn2 : n ≤ sizeLine) (hdf : d.params.defaults = []) (hr : Room k callerA)
    (hY : ∀ (w : World) (h : Heap), YP w h → (K w.params).In h)
    (F : ∀ (w : World) (mg : Str → Option Value) (fa : Addr) (h : Heap), (K w.params).In h → h.Ns mainGlobals mg → mg d.name = some (.ref fa) →
      ∃ fd : FuncData, (∀ (s : Shared) (u : Value), BindsTo s fd ⟨[u], []⟩ [(x, u)]) ∧
        ∀ base : Heap, (K w.params).In base → base.Ns mainGlobals mg → FnG l.prog w (K w.params) mg base k fa fd [x] (sp w))
    (hsp : ∀ (w : World) (H : Hp) (a : Addr) (ns : List Int), ns.length ≤ n → Only H → SqL (K w.params) H a (ns.map V.int) → sp w [.ref a] H (fun v _ => v = .bl true) fun _ _ _ => False) :
    PySem.W.WalkO q loose XP YP l.row.toRowW d [] (fun f vs => PySem.call f vs) := by
  refine Att.attach_call hn hdf fun w s₀ s₁ mg mb fa o pm cd doc a vs ns G Y ho hd hcd hmg hobj hints hlen hg => ?_
  have KX := hY w _ Y
  obtain ⟨fd, hb, hF⟩ := F w mg fa _ KX G.T.g hmg
  exact law_callG KX G.T.g G.T.b G.T.builtins G.T.nolimit hg hobj hints (Nat.le_trans hlen hn2) hr hF hb fun H hO hS => hsp w H a ns hlen hO hS
end L2
namespace K78
open PySem PySem.Spec PyProof.Rows L2 Evl G
def topS (i : Nat) : Stmt := PySem.Challenge.pw_creditfloor_k78_whole_the_greatest_games.main.body.getD i (.Pass ⟨0, 0, 0, 0⟩)
section
variable {P : Program} {w : World} {K : PySem.W.Frag} {mg : Str → Option Value} {base : Heap}
/-! ### changed -/
abbrev s_changed : Stmt := topS 8
theorem sc_changed : FnScope ["balances", "sender", "amount"] ["balances", "sender", "amount"] (defScope s_changed) := ⟨rfl, rfl, rfl, by decide +kernel, rfl, by decide +kernel, by decide +kernel⟩
-- slots: 0 balances, 1 sender, 2 amount; cells: 
def changedM (ns : List Int) (i : Nat) (k : Int) : List Int := ns.take i ++ (ns.getD i 0 + k) :: ns.drop (i + 1)
theorem changed_len {ns : List Int} {i : Nat} {k : Int} (h : i < ns.length) : (changedM ns i k).length = ns.length := by
  unfold changedM
  rw [List.length_append, List.length_cons, List.length_take, List.length_drop]
  omega
def preChanged (B : Hp) (vs : List V) (R : RelH) : Prop := ∃ (ns : List Int) (i : Nat) (k : Int), RpA B vs [tI ns, .int (i : Nat), .int k] ∧ i < ns.length ∧ ns.length ≤ 1000 ∧ R = rp (tI (changedM ns i k))
theorem ok_changed {f : Addr} {fd : FuncData} (F : Fun K "changed" "changed" s_changed f fd) : FnOk P w K mg base CX0 1 f fd ["balances", "sender", "amount"] (spD preChanged) := by
  refine F.ok sc_changed (fun vs H Q E h => ?_) (fun cdv A outer s H vs Q E hr h => ?_)
  · obtain ⟨F, B, R, o, ⟨ns, i, k, r, _⟩, _⟩ := h
    exact r.length
  · obtain ⟨F, B, R, o, ⟨ns, i, k, r, hi, hn, rfl⟩, q⟩ := h
    obtain ⟨v0, v1, v2, rfl, r0, r1, r2⟩ := rpa3 r
    refine ⟨_, (pss_one (ps_ret (pe_op (k_catT K) (pe_op (k_catT K) (pe_slice (k_slT K) (pv 0) po_none (po_some (pv 1))) (pe_tup (pa_cons (pe_op op_add (pe_ix (k_ixT K) (pv 0) (pv 1) (fun _ _ => rfl)) (pv 2)) pa_nil))) (pe_slice (k_slT K) (pv 0) (po_some (pe_op op_add (pv 1) (pe_int))) po_none)))), ?_⟩
    refine fn_run (B := B) (e_ret ?_) o q
    have hg : atI (ns.map PyData.int) ((i : Nat) : Int) = some (.int (ns.getD i 0)) := atI_nat (by rw [List.getElem?_map, List.getD_eq_getElem?_getD, List.getElem?_eq_getElem hi]; rfl)
    refine as_eq (dop (dop (d_slT (d_v r0) p_none (p_some (d_v r1)) _ (sl_pre (by rw [List.length_map]; omega))) (d_tup (d_cons (dop (dop (d_v r0) (d_v r1) (o_ixT hg)) (d_v r2) o_add) d_nil) (by show 1 ≤ 100000; decide)) (o_catT (by simp; omega)))
      (d_slT (d_v r0) (p_some (dop (d_v r1) d_int o_add)) p_none _ sl_post) (o_catT (by simp; omega))) ?_
    simp [changedM, tI, List.map_take, List.map_drop]
/-! ### stalled, where nobody stalls -/
abbrev s_stalled : Stmt := topS 6
theorem sc_stalled : FnScope ["balances", "demand", "at", "balance"] ["balances", "demand"] (defScope s_stalled) := ⟨rfl, rfl, rfl, by decide +kernel, rfl, by decide +kernel, by decide +kernel⟩
-- slots: 0 balances, 1 demand, 2 at, 3 balance; cells: demand
def preStalled (B : Hp) (vs : List V) (R : RelH) : Prop := ∃ bs ds : List Int, RpA B vs [tI bs, tI ds] ∧ bs.length = ds.length ∧ bs.length ≤ 1000 ∧ (∀ i, i < bs.length → ds.getD i 0 ≤ bs.getD i 0) ∧ R = rp (.tuple [])
theorem ok_stalled (T : Zs mg) {f : Addr} {fd : FuncData} (F : Fun K "stalled" "stalled" s_stalled f fd) : FnOk P w K mg base CX0 1 f fd ["balances", "demand"] (spD preStalled) := by
  refine F.ok sc_stalled (fun vs H Q E h => ?_) (fun cdv A outer s H vs Q E hr h => ?_)
  · obtain ⟨F, B, R, o, ⟨bs, ds, r, _⟩, _⟩ := h
    exact r.length
  · obtain ⟨F, B, R, o, ⟨bs, ds, r, hl, hn, hs, rfl⟩, q⟩ := h
    obtain ⟨v0, v1, rfl, r0, r1⟩ := rpa2 r
    refine ⟨_, (pss_one (ps_ret (pe_callTy (k_tuple K) (by rfl) T.z_tuple (by decide +kernel) (pa_cons (pe_lc (own := [("at", 2), ("balance", 3)]) rfl sc_stalled.nd (k_enumT K (by rfl) T.z_enumerate (pa_cons (pv 0) pa_nil)) (blkOk_by (by kernel_rfl)) (fun _ _ _ _ _ => (k_pg K (n := 2) (hc := rfl) (hs := (pgs_cons (pg_name (i := 2) sc_stalled.nd rfl (Or.inl rfl)) (pgs_cons (pg_name (i := 3) sc_stalled.nd rfl (Or.inl rfl)) pgs_nil))))) (fun _ _ _ _ _ => (pts_one (pt_cmpR op_gt (pe_ix (k_ixT K) (pv 1) (pv 2) (fun _ _ => rfl)) (pv 3) (nomark _)))) (fun _ _ _ _ _ => (pv 2))) pa_nil)))), ?_⟩
    refine fn_run (B := B) (e_ret ?_) o q
    refine as_eq (dcb (d_cons (d_lcF bs.zipIdx (fun p => .tuple [.int (p.2 : Nat), .int p.1]) (fun p => decide (p.1 < ds.getD p.2 0)) (fun p => .int (p.2 : Nat)) (by rw [List.length_zipIdx]; omega) (i_enumT' (d_cons (d_v r0) d_nil)) fun p hp v B' e rv => ?_) d_nil) c_tupL) ?_
    · obtain ⟨x, y, rx, ry, ht⟩ := tg_pair (K := K) (i := 2) (j := 3) rv
      have hm := List.mem_zipIdx' hp
      refine ⟨_, ht, rfl, b_cmp (dop (dop (d_v (r1.mono e)) (d_v rx) (o_ixT (d := .int (ds.getD p.2 0)) ?_)) (d_v ry) o_gt), fun _ => d_v rx⟩
      exact atI_nat (by rw [List.getElem?_map, List.getD_eq_getElem?_getD, List.getElem?_eq_getElem (by omega)]; rfl)
    · rw [List.filter_eq_nil_iff.mpr]
      · rfl
      · intro p hp
        have hm := List.mem_zipIdx' hp
        have := hs p.2 hm.1
        rw [List.getD_eq_getElem?_getD (l := bs), List.getElem?_eq_getElem hm.1] at this
        simp only [Option.getD_some] at this
        rw [decide_eq_true_eq, hm.2]
        omega
/-! ### less_demand -/
abbrev s_less_demand : Stmt := topS 7
theorem sc_less_demand : FnScope ["balances", "demand", "senders", "balance", "amount"] ["balances", "demand"] (defScope s_less_demand) := ⟨rfl, rfl, rfl, by decide +kernel, rfl, by decide +kernel, by decide +kernel⟩
-- slots: 0 balances, 1 demand, 2 senders, 3 balance, 4 amount; cells: 
def lessM (bs ds : List Int) : List Int := (bs.zip ds).map fun p => p.1 - p.2
theorem less_len {bs ds : List Int} (h : bs.length = ds.length) : (lessM bs ds).length = bs.length := by
  unfold lessM
  rw [List.length_map, List.length_zip]
  omega
def preLess (B : Hp) (vs : List V) (R : RelH) : Prop := ∃ bs ds : List Int, RpA B vs [tI bs, tI ds] ∧ bs.length = ds.length ∧ bs.length ≤ 1000 ∧ (∀ i, i < bs.length → ds.getD i 0 ≤ bs.getD i 0) ∧ R = rp (tI (lessM bs ds))
theorem ok_less (T : Zs mg) (c_stalled : Cal P w K mg base 1 "stalled" ["balances", "demand"] [] (spD preStalled)) {f : Addr} {fd : FuncData} (F : Fun K "less_demand" "less_demand" s_less_demand f fd) : FnOk P w K mg base CX0 2 f fd ["balances", "demand"] (spD preLess) := by
  refine F.ok sc_less_demand (fun vs H Q E h => ?_) (fun cdv A outer s H vs Q E hr h => ?_)
  · obtain ⟨F, B, R, o, ⟨bs, ds, r, _⟩, _⟩ := h
    exact r.length
  · obtain ⟨F, B, R, o, ⟨bs, ds, r, hl, hn, hs, rfl⟩, q⟩ := h
    obtain ⟨v0, v1, rfl, r0, r1⟩ := rpa2 r
    refine ⟨_, (pss_cons (ps_set (i := 2) sc_less_demand.nd rfl (Or.inl rfl) (pe_call c_stalled.ok (hr.mono (by first | decide | omega)) (by rfl) c_stalled.m c_stalled.kp c_stalled.b c_stalled.hv pass0 (pa_cons (pv 0) (pa_cons (pv 1) pa_nil))))
    (pss_cons (ps_if (pt_cmpR (k_neD K (hu := hr.units)) (pv 2) (pe_tup pa_nil) (nomark _)) (pss_one (ps_never)) pss_nil)
    (pss_one (ps_ret (pe_callTy (k_tuple K) (by rfl) T.z_tuple (by decide +kernel) (pa_cons (pe_lc (own := [("balance", 3), ("amount", 4)]) rfl sc_less_demand.nd (k_zip K (by rfl) T.z_zip (pa_cons (pv 0) (pa_cons (pv 1) pa_nil))) (blkOk_by (by kernel_rfl)) (fun _ _ _ _ _ => (k_pg K (n := 2) (hc := rfl) (hs := (pgs_cons (pg_name (i := 3) sc_less_demand.nd rfl (Or.inl rfl)) (pgs_cons (pg_name (i := 4) sc_less_demand.nd rfl (Or.inl rfl)) pgs_nil))))) (fun _ _ _ _ _ => pts_nil) (fun _ _ _ _ _ => (pe_op op_sub (pv 3) (pv 4)))) pa_nil)))))), ?_⟩
    refine fn_run (B := B) ?_ o q
    refine e_asgD (dcall (d_cons (d_v r0) (d_cons (d_v r1) d_nil)) fun B' vs e ra => ⟨bs, ds, ra, hl, hn, hs, rfl⟩) fun v B1 e1 rv => ?_
    refine e_if (b := false) (b_cmp (as_eq (dop (d_v rv) (d_tup d_nil (Nat.zero_le _)) (o_neD rfl rfl)) rfl)) (fun h => nomatch h) fun _ => e_ret ?_
    refine as_eq (dcb (d_cons (d_lc (bs.zip ds) (fun p => .tuple [.int p.1, .int p.2]) (fun p => .int (p.1 - p.2)) (by rw [List.length_zip]; omega) (i_zipT' (d_cons (d_v (r0.mono e1)) (d_cons (d_v (r1.mono e1)) d_nil))) fun p hp v B' e rv => ?_) d_nil) c_tupL) ?_
    · obtain ⟨x, y, rx, ry, ht⟩ := tg_pair (K := K) (i := 3) (j := 4) rv
      exact ⟨_, ht, rfl, dop (d_v rx) (d_v ry) o_sub⟩
    · unfold lessM tI
      rw [List.map_map]
      rfl
end
end K78
namespace K78
open PySem PySem.Spec PyProof.Rows L2 Evl G
section
variable {P : Program} {w : World} {K : PySem.W.Frag} {mg : Str → Option Value} {base : Heap}
/-! ### results -/
abbrev s_results : Stmt := topS 13
theorem sc_results : FnScope ["balances", "demand", "budget", "left", "sender"] ["balances", "demand", "budget"] (defScope s_results) := ⟨rfl, rfl, rfl, by decide +kernel, rfl, by decide +kernel, by decide +kernel⟩
-- slots: 0 balances, 1 demand, 2 budget, 3 left, 4 sender; cells: budget, left
def resultsM (bs ds : List Int) (b : Int) : List (List Int) := ssort ((List.range bs.length).map fun i => isort (changedM (lessM bs ds) i b))
structure Fits (bs ds : List Int) (b : Int) : Prop where
  len : bs.length = ds.length
  one : 1 ≤ bs.length
  few : bs.length ≤ 60
  no : ∀ i, i < bs.length → ds.getD i 0 ≤ bs.getD i 0
  bd : ∀ x ∈ lessM bs ds, 0 ≤ x ∧ x + b < 64
  b0 : 0 ≤ b
theorem mem_changed {ns : List Int} {i : Nat} {k x : Int} (h : i < ns.length) (hx : x ∈ changedM ns i k) : x ∈ ns ∨ ∃ y ∈ ns, x = y + k := by
  unfold changedM at hx
  rcases List.mem_append.mp hx with hx | hx
  · exact .inl (List.mem_of_mem_take hx)
  · rcases List.mem_cons.mp hx with hx | hx
    · refine .inr ⟨ns[i], List.getElem_mem h, ?_⟩
      rw [hx, List.getD_eq_getElem?_getD, List.getElem?_eq_getElem h]
      rfl
    · exact .inl (List.mem_of_mem_drop hx)
theorem Fits.ok {bs ds : List Int} {b : Int} (F : Fits bs ds b) : ∀ ks ∈ (List.range bs.length).map (fun i => isort (changedM (lessM bs ds) i b)), ks.length = bs.length ∧ TS.Bd 64 ks := by
  intro ks hk
  obtain ⟨i, hi, rfl⟩ := List.mem_map.mp hk
  have hi' : i < (lessM bs ds).length := by rw [less_len F.len]; exact List.mem_range.mp hi
  refine ⟨by rw [isort_length, changed_len hi', less_len F.len], fun m hm => ?_⟩
  have := (isort_perm _).mem_iff.mp hm
  rcases mem_changed hi' this with h | ⟨y, hy, rfl⟩
  · have := F.bd m h
    have := F.b0
    omega
  · have := F.bd y hy
    have := F.b0
    omega
def preResults (B : Hp) (vs : List V) (R : RelH) : Prop := ∃ (bs ds : List Int) (b : Int), RpA B vs [tI bs, tI ds, .int b] ∧ Fits bs ds b ∧ R = rp (lT (resultsM bs ds b))
theorem ok_results (T : Zs mg) (c_less_demand : Cal P w K mg base 2 "less_demand" ["balances", "demand"] [] (spD preLess)) (c_changed : Cal P w K mg base 1 "changed" ["balances", "sender", "amount"] [] (spD preChanged))
    {f : Addr} {fd : FuncData} (F : Fun K "results" "results" s_results f fd) : FnOk P w K mg base CX0 3 f fd ["balances", "demand", "budget"] (spD preResults) := by
  refine F.ok sc_results (fun vs H Q E h => ?_) (fun cdv A outer s H vs Q E hr h => ?_)
  · obtain ⟨F, B, R, o, ⟨bs, ds, b, r, _⟩, _⟩ := h
    exact r.length
  · obtain ⟨F, B, R, o, ⟨bs, ds, b, r, hF, rfl⟩, q⟩ := h
    obtain ⟨v0, v1, v2, rfl, r0, r1, r2⟩ := rpa3 r
    refine ⟨_, (pss_cons (ps_set (i := 3) sc_results.nd rfl (Or.inr rfl) (pe_call c_less_demand.ok (hr.mono (by first | decide | omega)) (by rfl) c_less_demand.m c_less_demand.kp c_less_demand.b c_less_demand.hv pass0 (pa_cons (pv 0) (pa_cons (pv 1) pa_nil))))
    (pss_one (ps_ret (pe_callB (k_sortS K P w (hc := rfl)) (by rfl) T.z_sorted (by decide +kernel) (pa_cons (pe_callTy (k_set K P w (hc := rfl) (hu := hr.units)) (by rfl) T.z_set (by decide +kernel) (pa_cons (pe_lc (own := [("sender", 4)]) rfl sc_results.nd (pi_range1 (by rfl) T.z_range (pa_cons (pe_callB (k_len K) (by rfl) T.z_len (by decide +kernel) (pa_cons (pv 0) pa_nil)) pa_nil)) (blkOk_by (by kernel_rfl)) (fun _ _ _ _ _ => (pg_name (i := 4) sc_results.nd rfl (Or.inl rfl))) (fun _ _ _ _ _ => pts_nil) (fun _ _ _ _ _ => (pe_callTy (k_tuple K) (by rfl) T.z_tuple (by decide +kernel) (pa_cons (pe_callB (k_sortT K) (by rfl) T.z_sorted (by decide +kernel) (pa_cons (pe_call c_changed.ok (hr.mono (by first | decide | omega)) (by rfl) c_changed.m c_changed.kp c_changed.b c_changed.hv pass0 (pa_cons (pv 3) (pa_cons (pv 4) (pa_cons (pv 2) pa_nil)))) pa_nil)) pa_nil)))) pa_nil)) pa_nil))))), ?_⟩
    refine fn_run (B := B) ?_ o q
    have hlen := hF.len
    have hone := hF.one
    have hfew := hF.few
    refine e_asgD (dcall (d_cons (d_v r0) (d_cons (d_v r1) d_nil)) fun B' vs e ra => ⟨bs, ds, ra, hF.len, by omega, hF.no, rfl⟩) fun v B1 e1 rv => ?_
    refine e_ret (d_sortSet (kss := (List.range bs.length).map fun i => isort (changedM (lessM bs ds) i b)) (n := bs.length) (as_eq (d_lc (List.range bs.length) (fun i => .int ((i : Nat) : Int)) (fun i => tI (isort (changedM (lessM bs ds) i b))) (by rw [List.length_range]; omega) ?_ fun i hi v B' e rv' => ?_) ?_) hF.one hF.ok (by rw [List.length_map, List.length_range]; omega))
    · exact i_rng1' (d_cons (dcb (d_cons (d_v (r0.mono e1)) d_nil) c_lenT) d_nil) (by rw [List.length_map]) (by omega)
    · have hi' := List.mem_range.mp hi
      have hl := less_len hF.len
      refine ⟨_, tg_name, rfl, ?_⟩
      refine dcb (d_cons (dcb (d_cons (dcall (d_cons (d_v (rv.mono e)) (d_cons (d_v rv') (d_cons (d_v (r2.mono (e1.trans e))) d_nil))) fun B' vs e' ra => ⟨lessM bs ds, i, b, ra, by omega, by omega, rfl⟩) d_nil) (c_sortT (by rw [changed_len (by omega)]; omega))) d_nil) c_tupL
    · rw [List.map_map]
      rfl
/-! ### demands_of -/
abbrev s_demands_of : Stmt := topS 11
theorem sc_demands_of : FnScope ["count", "budget", "found", "first", "others"] ["count", "budget"] (defScope s_demands_of) := ⟨rfl, rfl, rfl, by decide +kernel, rfl, by decide +kernel, by decide +kernel⟩
-- slots: 0 count, 1 budget, 2 found, 3 first, 4 others; cells: first
/-- all demands of the whole budget of n + 1 senders -/
def demandsM : Nat → Nat → List (List Int)
  | 0, b => [[(b : Int)]]
  | n + 1, b => (List.range (b + 1)).flatMap fun f => (demandsM n (b - f)).map fun o => (f : Int) :: o
theorem demands_len : ∀ (n b : Nat), ∀ d ∈ demandsM n b, d.length = n + 1
  | 0, b, d, h => by
    rw [List.mem_singleton.mp h]
    rfl
  | n + 1, b, d, h => by
    obtain ⟨f, hf, hd⟩ := List.mem_flatMap.mp h
    obtain ⟨o, ho, rfl⟩ := List.mem_map.mp hd
    rw [List.length_cons, demands_len n _ o ho]
theorem demands_few : ∀ n, n ≤ 3 → ∀ b, b ≤ 4 → (demandsM n b).length ≤ 1000 := by decide +kernel
def preDemands (m : Nat) (B : Hp) (vs : List V) (R : RelH) : Prop := ∃ n b : Nat, RpA B vs [.int ((n + 1 : Nat) : Int), .int (b : Nat)] ∧ n < m ∧ n ≤ 3 ∧ b ≤ 4 ∧ R = rp (lT (demandsM n b))
theorem demands_step (T : Zs mg) {m : Nat} {f : Addr} {fd : FuncData} (F : Fun K "demands_of" "demands_of" s_demands_of f fd) (c_demands_of : Cal P w K mg base m "demands_of" ["count", "budget"] [] (spD (preDemands m))) :
    FnOk P w K mg base CX0 (m + 1) f fd ["count", "budget"] (spD (preDemands (m + 1))) := by
  refine F.ok sc_demands_of (fun vs H Q E h => ?_) (fun cdv A outer s H vs Q E hr h => ?_)
  · obtain ⟨F, B, R, o, ⟨n, b, r, _⟩, _⟩ := h
    exact r.length
  · obtain ⟨F, B, R, o, ⟨n, b, r, hm, hn, hb, rfl⟩, q⟩ := h
    obtain ⟨v0, v1, rfl, r0, r1⟩ := rpa2 r
    refine ⟨_, (pss_cons (ps_if (pt_cmpR op_eq (pv 0) (pe_int) (nomark _)) (pss_one (ps_ret (pe_lst (pa_cons (pe_tup (pa_cons (pv 1) pa_nil)) pa_nil)))) pss_nil)
    (pss_cons (ps_set (i := 2) sc_demands_of.nd rfl (Or.inl rfl) (pe_lst pa_nil))
    (pss_cons (ps_for PassesOwn.never rfl (pi_range1 (by rfl) T.z_range (pa_cons (pe_op op_add (pv 1) (pe_int)) pa_nil)) (pg_name (i := 3) sc_demands_of.nd rfl (Or.inr rfl))
    (pss_one (ps_expr (k_bm K PySem.F.plainAttrs_list PySem.F.slot_list_extend PySem.F.type_list_extend mt_extend (pv 2) (pa_cons (pe_lc (own := [("others", 4)]) rfl sc_demands_of.nd (k_iList K (hl := (pe_call c_demands_of.ok (hr.mono (by first | decide | omega)) (by rfl) c_demands_of.m c_demands_of.kp c_demands_of.b c_demands_of.hv pass0 (pa_cons (pe_op op_sub (pv 0) (pe_int)) (pa_cons (pe_op op_sub (pv 1) (pv 3)) pa_nil))))) (blkOk_by (by kernel_rfl)) (fun _ _ _ _ _ => (pg_name (i := 4) sc_demands_of.nd rfl (Or.inl rfl))) (fun _ _ _ _ _ => pts_nil) (fun _ _ _ _ _ => (pe_op (k_catT K) (pe_tup (pa_cons (pv 3) pa_nil)) (pv 4)))) pa_nil)))))
    (pss_one (ps_ret (pv 2)))))), ?_⟩
    refine fn_run (B := B) ?_ o q
    refine e_if (b := decide (((n + 1 : Nat) : Int) = 1)) (b_cmp (dop (d_v r0) d_int o_eqI)) (fun h => ?_) (fun h => ?_)
    · have hn0 : n = 0 := by have := of_decide_eq_true h; omega
      subst hn0
      exact e_ret (d_lst (d_cons (d_tup (d_cons (d_v r1) d_nil) (by show 1 ≤ 100000; decide)) d_nil) (by show 1 ≤ 100000; decide))
    · obtain ⟨n, rfl⟩ : ∃ k, n = k + 1 := ⟨n - 1, by have := of_decide_eq_false h; omega⟩
      have hlen := demands_few (n + 1) hn b hb
      have ee : (List.range (b + 1)).flatMap (fun f => ((demandsM n (b - f)).map fun o => (f : Int) :: o).map tI) = (demandsM (n + 1) b).map tI := by
        show _ = ((List.range (b + 1)).flatMap fun f => (demandsM n (b - f)).map fun o => (f : Int) :: o).map tI
        rw [List.map_flatMap]
      have := e_extend (K := K) (σ := L2.start ["count", "budget", "found", "first", "others"] [v0, v1]) (B := B) (i := 2) (j := 3) (by decide) (by show 2 < 5; decide) (List.range (b + 1)) (fun i => .int ((i : Nat) : Int)) (fun f => ((demandsM n (b - f)).map fun o => (f : Int) :: o).map tI)
        (wi := iRng1 (tCons (tOp (rI0 fun i j => .int (i + j)) (tVar 1) (tC (.int 1))) tNil))
        (te := tLc (iList K (tCall (spD (preDemands m)) [] E0 (tCons (tOp (rI0 fun i j => .int (i - j)) (tVar 0) (tC (.int 1))) (tCons (tOp (rI0 fun i j => .int (i - j)) (tVar 1) (tVar 3)) tNil)))) (gName 4) tYes (tOp (rCatA K) (tTup (tCons (tVar 3) tNil)) (tVar 4)) [4])
        (by rw [ee, List.length_map]; omega) (fun p => ?_) (fun f hf p v B' e rv => ?_)
      · rw [ee] at this
        exact this
      · exact i_rng1' (d_cons (dop (d_v r1) d_int o_add) d_nil) (by omega) (by omega)
      · have hf' := List.mem_range.mp hf
        refine as_eq (d_lc (demandsM n (b - f)) tI (fun o => tI ((f : Int) :: o)) (Nat.le_trans (demands_few n (by omega) (b - f) (by omega)) (by decide)) (i_list (dcall (d_cons (dop (d_v (r0.mono e)) d_int o_sub) (d_cons (dop (d_v (r1.mono e)) (d_v rv) o_sub) d_nil)) fun B' vs e' ra => ⟨n, b - f, ?_, by omega, by omega, by omega, rfl⟩)) fun d hd v B'' e' rv' => ?_) ?_
        · rw [show (((n + 1 + 1 : Nat) : Int) - 1) = ((n + 1 : Nat) : Int) by omega, show ((b : Int) - (f : Int)) = ((b - f : Nat) : Int) by omega] at ra
          exact ra
        · refine ⟨_, tg_name, rfl, ?_⟩
          exact dop (d_tup (d_cons (d_v (rv.mono e')) d_nil) (by show 1 ≤ 100000; decide)) (d_v rv') (o_catT (by have := demands_len n _ d hd; simp; omega))
        · rw [List.map_map]
          rfl
/-! ### choices -/
abbrev s_choices : Stmt := topS 14
theorem sc_choices : FnScope ["balances", "budget", "demand"] ["balances", "budget"] (defScope s_choices) := ⟨rfl, rfl, rfl, by decide +kernel, rfl, by decide +kernel, by decide +kernel⟩
-- slots: 0 balances, 1 budget, 2 demand; cells: balances, budget
def choicesM (n : Nat) (bs : List Int) (b : Nat) : List (List (List Int)) := (demandsM n b).map fun d => resultsM bs d b
def preChoices (B : Hp) (vs : List V) (R : RelH) : Prop := ∃ (n : Nat) (bs : List Int) (b : Nat), RpA B vs [tI bs, .int (b : Nat)] ∧ bs.length = n + 1 ∧ n ≤ 3 ∧ b ≤ 4 ∧ (∀ d ∈ demandsM n b, Fits bs d b) ∧ R = rp (.list ((choicesM n bs b).map lT))
theorem ok_choices (T : Zs mg) (c_demands_of : Cal P w K mg base 4 "demands_of" ["count", "budget"] [] (spD (preDemands 4))) (c_results : Cal P w K mg base 3 "results" ["balances", "demand", "budget"] [] (spD preResults))
    {f : Addr} {fd : FuncData} (F : Fun K "choices" "choices" s_choices f fd) : FnOk P w K mg base CX0 5 f fd ["balances", "budget"] (spD preChoices) := by
  refine F.ok sc_choices (fun vs H Q E h => ?_) (fun cdv A outer s H vs Q E hr h => ?_)
  · obtain ⟨F, B, R, o, ⟨n, bs, b, r, _⟩, _⟩ := h
    exact r.length
  · obtain ⟨F, B, R, o, ⟨n, bs, b, r, hl, hn, hb, hF, rfl⟩, q⟩ := h
    obtain ⟨v0, v1, rfl, r0, r1⟩ := rpa2 r
    refine ⟨_, (pss_one (ps_ret (pe_lc (own := [("demand", 2)]) rfl sc_choices.nd (k_iList K (hl := (pe_call c_demands_of.ok (hr.mono (by first | decide | omega)) (by rfl) c_demands_of.m c_demands_of.kp c_demands_of.b c_demands_of.hv pass0 (pa_cons (pe_callB (k_len K) (by rfl) T.z_len (by decide +kernel) (pa_cons (pv 0) pa_nil)) (pa_cons (pv 1) pa_nil))))) (blkOk_by (by kernel_rfl)) (fun _ _ _ _ _ => (pg_name (i := 2) sc_choices.nd rfl (Or.inl rfl))) (fun _ _ _ _ _ => pts_nil) (fun _ _ _ _ _ => (pe_call c_results.ok (hr.mono (by first | decide | omega)) (by rfl) c_results.m c_results.kp c_results.b c_results.hv pass0 (pa_cons (pv 0) (pa_cons (pv 2) (pa_cons (pv 1) pa_nil)))))))), ?_⟩
    refine fn_run (B := B) (e_ret ?_) o q
    refine as_eq (d_lc (demandsM n b) tI (fun d => lT (resultsM bs d b)) (Nat.le_trans (demands_few n hn b hb) (by decide)) (i_list (dcall (d_cons (dcb (d_cons (d_v r0) d_nil) c_lenT) (d_cons (d_v r1) d_nil)) fun B' vs e ra => ⟨n, b, ?_, by omega, hn, hb, rfl⟩)) fun d hd v B' e rv => ?_) ?_
    · rw [List.length_map, hl] at ra
      exact ra
    · refine ⟨_, tg_name, rfl, dcall (d_cons (d_v (r0.mono e)) (d_cons (d_v rv) (d_cons (d_v (r1.mono e)) d_nil))) fun B' vs e' ra => ⟨bs, d, b, ra, hF d hd, rfl⟩⟩
    · unfold choicesM
      rw [List.map_map]
      rfl
end
end K78
namespace K78
open PySem PySem.Spec PyProof.Rows L2 Evl G
section
variable {P : Program} {w : World} {K : PySem.W.Frag} {mg : Str → Option Value} {base : Heap}
/-! ### sorted_balances -/
abbrev s_sorted_balances : Stmt := topS 12
theorem sc_sorted_balances : FnScope ["count", "total", "least", "found", "first", "others"] ["count", "total", "least"] (defScope s_sorted_balances) := ⟨rfl, rfl, rfl, by decide +kernel, rfl, by decide +kernel, by decide +kernel⟩
-- slots: 0 count, 1 total, 2 least, 3 found, 4 first, 5 others; cells: first
/-- all rows of n + 1 numbers from l on that do not fall, with the sum t -/
def sortedM : Nat → Nat → Nat → List (List Int)
  | 0, t, l => if l ≤ t then [[(t : Int)]] else []
  | n + 1, t, l => (List.range (t / (n + 2) + 1 - l)).flatMap fun i => (sortedM n (t - (l + i)) (l + i)).map fun o => ((l + i : Nat) : Int) :: o
theorem sorted_len : ∀ (n t l : Nat), ∀ d ∈ sortedM n t l, d.length = n + 1
  | 0, t, l, d, h => by
    unfold sortedM at h
    split at h
    · rw [List.mem_singleton.mp h]
      rfl
    · cases h
  | n + 1, t, l, d, h => by
    obtain ⟨i, hi, hd⟩ := List.mem_flatMap.mp h
    obtain ⟨o, ho, rfl⟩ := List.mem_map.mp hd
    rw [List.length_cons, sorted_len n _ _ o ho]
theorem sorted_nodup : ∀ (n t l : Nat), (sortedM n t l).Nodup
  | 0, t, l => by
    unfold sortedM
    split
    · exact List.pairwise_singleton _ _
    · exact List.nodup_nil
  | n + 1, t, l => by
    show List.Pairwise _ (List.flatMap _ _)
    refine List.pairwise_flatMap.mpr ⟨fun i hi => ?_, ?_⟩
    · refine List.pairwise_map.mpr ((sorted_nodup n _ _).imp fun h e => h ?_)
      exact (List.cons.inj e).2
    · refine List.pairwise_lt_range.imp fun {i j} h x hx y hy e => ?_
      obtain ⟨a, _, rfl⟩ := List.mem_map.mp hx
      obtain ⟨b, _, rfl⟩ := List.mem_map.mp hy
      have := (List.cons.inj e).1
      omega
theorem sorted_few : ∀ n, n ≤ 3 → ∀ t, t ≤ 24 → ∀ l, l ≤ 24 → (sortedM n t l).length ≤ 1000 := by decide +kernel
def preSorted (m : Nat) (B : Hp) (vs : List V) (R : RelH) : Prop := ∃ n t l : Nat, RpA B vs [.int ((n + 1 : Nat) : Int), .int (t : Nat), .int (l : Nat)] ∧ n < m ∧ n ≤ 3 ∧ t ≤ 24 ∧ l ≤ 24 ∧ R = rp (lT (sortedM n t l))
theorem sorted_step (T : Zs mg) {m : Nat} {dvs : List V} {f : Addr} {fd : FuncData} (F : FunD K "sorted_balances" "sorted_balances" (defArgs s_sorted_balances) (defBody s_sorted_balances) (defScope s_sorted_balances) dvs [] f fd) (c_sorted_balances3 : Cal P w K mg base m "sorted_balances" ["count", "total", "least"] [] (spD (preSorted m))) :
    FnOk P w K mg base CX0 (m + 1) f fd ["count", "total", "least"] (spD (preSorted (m + 1))) := by
  refine F.ok sc_sorted_balances (fun vs H Q E h => ?_) (fun cdv A outer s H vs Q E hr h => ?_)
  · obtain ⟨F, B, R, o, ⟨n, t, l, r, _⟩, _⟩ := h
    exact r.length
  · obtain ⟨F, B, R, o, ⟨n, t, l, r, hm, hn, ht, hl, rfl⟩, q⟩ := h
    obtain ⟨v0, v1, v2, rfl, r0, r1, r2⟩ := rpa3 r
    refine ⟨_, L2.PSs.nox (pss_cons (ps_if (pt_cmpR op_eq (pv 0) (pe_int) (nomark _)) (pss_one (ps_ret (pe_ifExp (pt_cmpR op_ge (pv 1) (pv 2) (nomark _)) (pe_lst (pa_cons (pe_tup (pa_cons (pv 1) pa_nil)) pa_nil)) (pe_lst pa_nil)))) pss_nil)
    (pss_cons (ps_set (i := 3) sc_sorted_balances.nd rfl (Or.inl rfl) (pe_lst pa_nil))
    (pss_cons (ps_for PassesOwn.never rfl (pi_range2 (by rfl) T.z_range (pa_cons (pv 2) (pa_cons (pe_op op_add (pe_op op_fdivN (pv 1) (pv 0)) (pe_int)) pa_nil))) (pg_name (i := 4) sc_sorted_balances.nd rfl (Or.inr rfl))
    (pss_one (ps_expr (k_bm K PySem.F.plainAttrs_list PySem.F.slot_list_extend PySem.F.type_list_extend mt_extend (pv 3) (pa_cons (pe_lc (own := [("others", 5)]) rfl sc_sorted_balances.nd (k_iList K (hl := (pe_call c_sorted_balances3.ok (hr.mono (by first | decide | omega)) (by rfl) c_sorted_balances3.m c_sorted_balances3.kp c_sorted_balances3.b c_sorted_balances3.hv pass0 (pa_cons (pe_op op_sub (pv 0) (pe_int)) (pa_cons (pe_op op_sub (pv 1) (pv 4)) (pa_cons (pv 4) pa_nil)))))) (blkOk_by (by kernel_rfl)) (fun _ _ _ _ _ => (pg_name (i := 5) sc_sorted_balances.nd rfl (Or.inl rfl))) (fun _ _ _ _ _ => pts_nil) (fun _ _ _ _ _ => (pe_op (k_catT K) (pe_tup (pa_cons (pv 4) pa_nil)) (pv 5)))) pa_nil)))))
    (pss_one (ps_ret (pv 3)))))), ?_⟩
    refine fn_run (B := B) ?_ o q
    refine e_if (b := decide (((n + 1 : Nat) : Int) = 1)) (b_cmp (dop (d_v r0) d_int o_eqI)) (fun h => ?_) (fun h => ?_)
    · have hn0 : n = 0 := by have := of_decide_eq_true h; omega
      subst hn0
      refine e_ret (d_if (b := decide ((l : Int) ≤ (t : Int))) (b_cmp (dop (d_v r1) (d_v r2) o_ge)) (fun h => ?_) (fun h => ?_))
      · have h' : l ≤ t := by have := of_decide_eq_true h; omega
        unfold sortedM
        rw [if_pos h']
        exact d_lst (d_cons (d_tup (d_cons (d_v r1) d_nil) (by show 1 ≤ 100000; decide)) d_nil) (by show 1 ≤ 100000; decide)
      · have h' : ¬ l ≤ t := by have := of_decide_eq_false h; omega
        unfold sortedM
        rw [if_neg h']
        exact d_lst d_nil (Nat.zero_le _)
    · obtain ⟨n, rfl⟩ : ∃ k, n = k + 1 := ⟨n - 1, by have := of_decide_eq_false h; omega⟩
      have hlen := sorted_few (n + 1) hn t ht l hl
      have hdiv : t / (n + 2) ≤ t := Nat.div_le_self _ _
      have hfd : ((t : Nat) : Int).fdiv ((n + 1 + 1 : Nat) : Int) = ((t / (n + 2) : Nat) : Int) := by
        rw [Int.fdiv_eq_ediv_of_nonneg _ (by omega)]
        exact (Int.natCast_ediv t (n + 2)).symm
      have ee : (List.range (t / (n + 2) + 1 - l)).flatMap (fun i => ((sortedM n (t - (l + i)) (l + i)).map fun o => ((l + i : Nat) : Int) :: o).map tI) = (sortedM (n + 1) t l).map tI := by
        show _ = ((List.range (t / (n + 2) + 1 - l)).flatMap fun i => (sortedM n (t - (l + i)) (l + i)).map fun o => ((l + i : Nat) : Int) :: o).map tI
        rw [List.map_flatMap]
      obtain ⟨z, hz⟩ : ∃ z, t / (n + 2) = z := ⟨_, rfl⟩
      rw [hz] at hdiv hfd ee
      have := e_extend (K := K) (σ := L2.start ["count", "total", "least", "found", "first", "others"] [v0, v1, v2]) (B := B) (i := 3) (j := 4) (by decide) (by show 3 < 6; decide) (List.range (z + 1 - l)) (fun i => .int ((l : Int) + ((i : Nat) : Int))) (fun i => ((sortedM n (t - (l + i)) (l + i)).map fun o => ((l + i : Nat) : Int) :: o).map tI)
        (wi := iRng2 (tCons (tVar 2) (tCons (tOp (rI0 fun i j => .int (i + j)) (tOp (rI CDivN fun i j => .int (i.fdiv j)) (tVar 1) (tVar 0)) (tC (.int 1))) tNil)))
        (te := tLc (iList K (tCall (spD (preSorted m)) [] E0 (tCons (tOp (rI0 fun i j => .int (i - j)) (tVar 0) (tC (.int 1))) (tCons (tOp (rI0 fun i j => .int (i - j)) (tVar 1) (tVar 4)) (tCons (tVar 4) tNil))))) (gName 5) tYes (tOp (rCatA K) (tTup (tCons (tVar 4) tNil)) (tVar 5)) [5])
        (by rw [ee, List.length_map]; omega) (fun p => ?_) (fun i hi p v B' e rv => ?_)
      · rw [ee] at this
        exact this
      · have hfd' : EvD (tOp (rI CDivN fun i j => .int (i.fdiv j)) (tVar 1) (tVar 0)) ((L2.start ["count", "total", "least", "found", "first", "others"] [v0, v1, v2]).set 3 (some (.ref p))) B (.int (z : Int)) := as_eq (dop (d_v r1) (d_v r0) (o_I ⟨by omega, by omega⟩ fun _ => .int _)) (by rw [hfd])
        exact i_rng2n (d_cons (d_v r2) (d_cons (dop hfd' d_int o_add) d_nil)) (by omega) (by omega)
      · have hi' := List.mem_range.mp hi
        have rv' : Rp B' v (.int ((l + i : Nat) : Int)) := by rw [Int.natCast_add]; exact rv
        refine as_eq (d_lc (sortedM n (t - (l + i)) (l + i)) tI (fun o => tI (((l + i : Nat) : Int) :: o)) (Nat.le_trans (sorted_few n (by omega) (t - (l + i)) (by omega) (l + i) (by omega)) (by decide)) (i_list (dcall (d_cons (dop (d_v (r0.mono e)) d_int o_sub) (d_cons (dop (d_v (r1.mono e)) (d_v rv') o_sub) (d_cons (d_v rv') d_nil))) fun B' vs e' ra => ⟨n, t - (l + i), l + i, ?_, by omega, by omega, by omega, by omega, rfl⟩)) fun d hd v B'' e' rv2 => ?_) ?_
        · rw [show (((n + 1 + 1 : Nat) : Int) - 1) = ((n + 1 : Nat) : Int) by omega, show ((t : Int) - ((l + i : Nat) : Int)) = ((t - (l + i) : Nat) : Int) by omega] at ra
          exact ra
        · refine ⟨_, tg_name, rfl, ?_⟩
          exact dop (d_tup (d_cons (d_v (rv'.mono e')) d_nil) (by show 1 ≤ 100000; decide)) (d_v rv2) (o_catT (by have := sorted_len n _ _ d hd; simp; omega))
        · rw [List.map_map]
          rfl
end
end K78
namespace K78
open PySem PySem.Spec PyProof.Rows L2 Evl G
theorem sorted_bd : ∀ (n t l : Nat), ∀ r ∈ sortedM n t l, ∀ x ∈ r, (l : Int) ≤ x ∧ x ≤ (t : Int)
  | 0, t, l, r, h, x, hx => by
    unfold sortedM at h
    split at h
    · rw [List.mem_singleton.mp h] at hx
      rw [List.mem_singleton.mp hx]
      exact ⟨by omega, Int.le_refl _⟩
    · cases h
  | n + 1, t, l, r, h, x, hx => by
    obtain ⟨i, hi, hd⟩ := List.mem_flatMap.mp h
    obtain ⟨o, ho, rfl⟩ := List.mem_map.mp hd
    have hi := List.mem_range.mp hi
    have hdiv : t / (n + 2) ≤ t := Nat.div_le_self _ _
    rcases List.mem_cons.mp hx with rfl | hx
    · exact ⟨by omega, by omega⟩
    · have := sorted_bd n _ _ o ho x hx
      exact ⟨by omega, by omega⟩
theorem sorted_head : ∀ (n t l : Nat), ∀ r ∈ sortedM n t l, ∀ x ∈ r, r.getD 0 0 ≤ x
  | 0, t, l, r, h, x, hx => by
    unfold sortedM at h
    split at h
    · rw [List.mem_singleton.mp h] at hx ⊢
      rw [List.mem_singleton.mp hx]
      exact Int.le_refl _
    · cases h
  | n + 1, t, l, r, h, x, hx => by
    obtain ⟨i, hi, hd⟩ := List.mem_flatMap.mp h
    obtain ⟨o, ho, rfl⟩ := List.mem_map.mp hd
    show ((l + i : Nat) : Int) ≤ x
    rcases List.mem_cons.mp hx with rfl | hx
    · exact Int.le_refl _
    · exact (sorted_bd n _ _ o ho x hx).1
theorem demands_bd : ∀ (n b : Nat), ∀ d ∈ demandsM n b, ∀ x ∈ d, 0 ≤ x ∧ x ≤ (b : Int)
  | 0, b, d, h, x, hx => by
    rw [List.mem_singleton.mp h] at hx
    rw [List.mem_singleton.mp hx]
    exact ⟨by omega, Int.le_refl _⟩
  | n + 1, b, d, h, x, hx => by
    obtain ⟨f, hf, hd⟩ := List.mem_flatMap.mp h
    obtain ⟨o, ho, rfl⟩ := List.mem_map.mp hd
    have hf := List.mem_range.mp hf
    rcases List.mem_cons.mp hx with rfl | hx
    · exact ⟨by omega, by omega⟩
    · have := demands_bd n _ o ho x hx
      exact ⟨by omega, by omega⟩
theorem getD_mem {l : List Int} {i : Nat} (h : i < l.length) : l.getD i 0 ∈ l := by
  rw [List.getD_eq_getElem?_getD, List.getElem?_eq_getElem h]
  exact List.getElem_mem h
theorem less_mem {bs ds : List Int} {x : Int} (h : x ∈ lessM bs ds) : ∃ y ∈ bs, ∃ z ∈ ds, x = y - z := by
  obtain ⟨p, hp, rfl⟩ := List.mem_map.mp h
  exact ⟨p.1, (List.of_mem_zip hp).1, p.2, (List.of_mem_zip hp).2, rfl⟩
theorem fits_of {n t b : Nat} {r d : List Int} (hn : n ≤ 3) (ht : t ≤ 24) (hb : b ≤ 4) (hr : r ∈ sortedM n t 0) (hge : (b : Int) ≤ r.getD 0 0) (hd : d ∈ demandsM n b) : Fits r d b := by
  have l1 := sorted_len n t 0 r hr
  have l2 := demands_len n b d hd
  refine ⟨by omega, by omega, by omega, fun i hi => ?_, fun x hx => ?_, by omega⟩
  · have h1 := sorted_head n t 0 r hr _ (getD_mem hi)
    have h2 := demands_bd n b d hd _ (getD_mem (l := d) (i := i) (by omega))
    omega
  · obtain ⟨y, hy, z, hz, rfl⟩ := less_mem hx
    have h1 := sorted_head n t 0 r hr _ hy
    have h2 := sorted_bd n t 0 r hr _ hy
    have h3 := demands_bd n b d hd _ hz
    omega
theorem insU_le (x : List Int) : ∀ l : List (List Int), (insU x l).length ≤ l.length + 1
  | [] => Nat.le_refl _
  | y :: l => by
    have := insU_le x l
    unfold insU
    split
    · exact Nat.le_refl _
    · split
      · exact Nat.le_succ _
      · rw [List.length_cons, List.length_cons]; omega
theorem ssort_le : ∀ l : List (List Int), (ssort l).length ≤ l.length
  | [] => Nat.le_refl _
  | x :: l => by
    have h1 := ssort_le l
    have h2 := insU_le x (ssort l)
    show (insU x (ssort l)).length ≤ l.length + 1
    omega
theorem results_le (bs ds : List Int) (b : Int) : (resultsM bs ds b).length ≤ bs.length := by
  have := ssort_le ((List.range bs.length).map fun i => isort (changedM (lessM bs ds) i b))
  rw [List.length_map, List.length_range] at this
  exact this
theorem choices_ok {n : Nat} {r : List Int} {b : Nat} (hn : n ≤ 3) (hb : b ≤ 4) (hl : r.length ≤ 1000) : (choicesM n r b).length ≤ 100000 ∧ ∀ lot ∈ choicesM n r b, lot.length ≤ 100000 := by
  refine ⟨?_, fun lot h => ?_⟩
  · unfold choicesM
    rw [List.length_map]
    exact Nat.le_trans (demands_few n hn b hb) (by decide)
  · obtain ⟨d, _, rfl⟩ := List.mem_map.mp h
    have := results_le r d b
    omega
def known0 (rows : List (List Int)) (b : Nat) : Tab := (rows.filter fun r => decide (r.getD 0 0 < (b : Int))).map fun r => (r, 1)
def left0 (n : Nat) (rows : List (List Int)) (b : Nat) : Lef := (rows.filter fun r => !(look (known0 rows b) r).isSome).map fun r => (r, choicesM n r b)
def numbersM (n b t : Nat) : Tab := loopM ((left0 n (sortedM n t 0) b).length + 1) (known0 (sortedM n t 0) b) (left0 n (sortedM n t 0) b) 1
theorem look_known0 {rows : List (List Int)} {b : Nat} {r : List Int} (hr : r ∈ rows) (h : (look (known0 rows b) r).isSome = false) : (b : Int) ≤ r.getD 0 0 := by
  rw [Option.isSome_eq_false_iff, Option.isNone_iff_eq_none] at h
  have h := look_none.mp h
  rw [known0, List.map_map] at h
  refine Int.not_lt.mp fun z => h ?_
  exact List.mem_map.mpr ⟨r, List.mem_filter.mpr ⟨hr, decide_eq_true z⟩, rfl⟩
theorem start_ok {n b t : Nat} (hn : n ≤ 3) (hb : b ≤ 4) (ht : t ≤ 24) : LfOk (known0 (sortedM n t 0) b) (left0 n (sortedM n t 0) b) := by
  have hfew := sorted_few n hn t ht 0 (by omega)
  refine ⟨?_, fun r hr => ?_, ?_, fun r hr => ?_⟩
  · rw [left0, List.map_map]
    have : (((sortedM n t 0).filter fun r => !(look (known0 (sortedM n t 0) b) r).isSome).map ((fun r => r.1) ∘ fun r => (r, choicesM n r b))) = ((sortedM n t 0).filter fun r => !(look (known0 (sortedM n t 0) b) r).isSome) := by
      exact List.map_id _
    rw [this]
    exact (sorted_nodup n t 0).sublist List.filter_sublist
  · obtain ⟨a, ha, rfl⟩ := List.mem_map.mp hr
    have := (List.mem_filter.mp ha).2
    show look _ a = none
    cases e : look (known0 (sortedM n t 0) b) a with
    | none => rfl
    | some c => rw [e] at this; cases this
  · rw [left0, known0, List.length_map, List.length_map]
    have h1 := List.length_filter_le (fun r => decide (r.getD 0 0 < (b : Int))) (sortedM n t 0)
    have h2 := List.length_filter_le (fun r => !(look (known0 (sortedM n t 0) b) r).isSome) (sortedM n t 0)
    rw [known0] at h2
    omega
  · obtain ⟨a, ha, rfl⟩ := List.mem_map.mp hr
    have hl := sorted_len n t 0 a (List.mem_filter.mp ha).1
    exact choices_ok hn hb (by omega)
section
variable {P : Program} {w : World} {K : PySem.W.Frag} {mg : Str → Option Value} {base : Heap}
/-! ### numbers_of -/
abbrev s_numbers_of : Stmt := topS 15
theorem sc_numbers_of : FnScope ["count", "budget", "total", "rows", "known", "left", "ticks", "has_new", "lost", "row", "balances", "lots", "lot", "one"] ["count", "budget", "total"] (defScope s_numbers_of) := ⟨rfl, rfl, rfl, by decide +kernel, rfl, by decide +kernel, by decide +kernel⟩
-- slots: 0 count, 1 budget, 2 total, 3 rows, 4 known, 5 left, 6 ticks, 7 has_new, 8 lost, 9 row, 10 balances, 11 lots, 12 lot, 13 one; cells: budget, known
def preNumbers (B : Hp) (vs : List V) (R : RelH) : Prop := ∃ n b t : Nat, RpA B vs [.int ((n + 1 : Nat) : Int), .int (b : Nat), .int (t : Nat)] ∧ n ≤ 3 ∧ b ≤ 4 ∧ t ≤ 24 ∧ R = rd (knD (numbersM n b t))
theorem ok_numbers (T : Zs mg) (c_sorted_balances2 : Cal P w K mg base 4 "sorted_balances" ["count", "total", "least"] [.int 0] (spD (preSorted 4))) (c_choices : Cal P w K mg base 5 "choices" ["balances", "budget"] [] (spD preChoices))
    {f : Addr} {fd : FuncData} (F : Fun K "numbers_of" "numbers_of" s_numbers_of f fd) : FnOk P w K mg base CX0 6 f fd ["count", "budget", "total"] (spD preNumbers) := by
  refine F.ok sc_numbers_of (fun vs H Q E h => ?_) (fun cdv A outer s H vs Q E hr h => ?_)
  · obtain ⟨F, B, R, o, ⟨n, b, t, r, _⟩, _⟩ := h
    exact r.length
  · obtain ⟨F, B, R, o, ⟨n, b, t, r, hn, hb, ht, rfl⟩, q⟩ := h
    obtain ⟨v0, v1, v2, rfl, r0, r1, r2⟩ := rpa3 r
    refine ⟨_, (pss_cons (ps_set (i := 3) sc_numbers_of.nd rfl (Or.inl rfl) (pe_call c_sorted_balances2.ok (hr.mono (by first | decide | omega)) (by rfl) c_sorted_balances2.m c_sorted_balances2.kp c_sorted_balances2.b c_sorted_balances2.hv pass0 (pa_cons (pv 0) (pa_cons (pv 2) pa_nil))))
    (pss_cons (ps_set (i := 4) sc_numbers_of.nd rfl (Or.inr rfl) (pe_dcT (hu_of hr) (own := [("balances", 10)]) rfl sc_numbers_of.nd (k_iList K (hl := (pv 3))) (blkOk_by (by kernel_rfl)) (fun _ _ _ _ _ => (pg_name (i := 10) sc_numbers_of.nd rfl (Or.inl rfl))) (fun _ _ _ _ _ => (pts_one (pt_cmpR op_lt (pe_ix (k_ixT K) (pv 10) (pe_int) (fun _ _ => rfl)) (pv 1) (nomark _)))) (fun _ _ _ _ _ => (pv 10)) (fun _ _ _ _ _ => (pe_int))))
    (pss_cons (ps_setDcT (i := 5) (hu_of hr) (own := [("balances", 10)]) rfl sc_numbers_of.nd rfl rfl (sw_trueD rfl rfl rfl (by kernel_rfl)) (k_iList K (hl := (pv 3))) (blkOk_by (by kernel_rfl)) (fun _ _ _ _ _ => (pg_name (i := 10) sc_numbers_of.nd rfl (Or.inl rfl))) (fun _ _ _ _ _ => (pts_one (pt_cmp (pc_dnotin (hu_of hr) (pv 10) (pv 4)) (by rfl)))) (fun _ _ _ _ _ => (pv 10)) (fun _ _ _ _ _ => (pe_call c_choices.ok (hr.mono (by first | decide | omega)) (by rfl) c_choices.m c_choices.kp c_choices.b c_choices.hv pass0 (pa_cons (pv 10) (pa_cons (pv 1) pa_nil)))))
    (pss_cons (ps_asg (pe_tup (pa_cons (pe_int) (pa_cons (pe_bl) pa_nil))) (k_pg K (n := 2) (hc := rfl) (hs := (pgs_cons (pg_name (i := 6) sc_numbers_of.nd rfl (Or.inl rfl)) (pgs_cons (pg_name (i := 7) sc_numbers_of.nd rfl (Or.inl rfl)) pgs_nil)))))
    (pss_cons (ps_while PassesOwn.never (pt_val (pv 7)) (pss_cons (ps_aug (i := 6) sc_numbers_of.nd rfl (Or.inl rfl) (pe_int) ip_add)
    (pss_cons (ps_lock (ps_setLc (i := 8) (own := [("row", 9), ("lots", 11)]) rfl sc_numbers_of.nd rfl rfl (sw_true rfl rfl rfl (by kernel_rfl)) (pi_itemsT (pv 5)) (blkOk_by (by kernel_rfl)) (fun _ _ _ _ _ => (k_pg K (n := 2) (hc := rfl) (hs := (pgs_cons (pg_name (i := 9) sc_numbers_of.nd rfl (Or.inl rfl)) (pgs_cons (pg_name (i := 11) sc_numbers_of.nd rfl (Or.inl rfl)) pgs_nil))))) (fun _ _ _ _ _ => (pts_one (pt_val (pe_callB (k_any K (hc := rfl)) (by rfl) T.z_any (by decide +kernel) (pa_cons (pe_lc (own := [("lot", 12)]) rfl sc_numbers_of.nd (k_iList K (hl := (pv 11))) (blkOk_by (by kernel_rfl)) (fun _ _ _ _ _ => (pg_name (i := 12) sc_numbers_of.nd rfl (Or.inl rfl))) (fun _ _ _ _ _ => pts_nil) (fun _ _ _ _ _ => (pe_callB (k_all K (hc := rfl)) (by rfl) T.z_all (by decide +kernel) (pa_cons (pe_lc (own := [("one", 13)]) rfl sc_numbers_of.nd (k_iList K (hl := (pv 12))) (blkOk_by (by kernel_rfl)) (fun _ _ _ _ _ => (pg_name (i := 13) sc_numbers_of.nd rfl (Or.inl rfl))) (fun _ _ _ _ _ => pts_nil) (fun _ _ _ _ _ => (pe_cmp (pc_din (hu_of hr) (pv 13) (pv 4)) rfl))) pa_nil)))) pa_nil))))) (fun _ _ _ _ _ => (pv 9))))
    (pss_cons (ps_for PassesOwn.never rfl (k_iList K (hl := (pv 8))) (pg_name (i := 9) sc_numbers_of.nd rfl (Or.inl rfl))
    (pss_cons (ps_dput (hu_of hr) (pv 4) (pv 9) (pv 6) (by rfl))
    (pss_one (ps_expr (k_bm K PySem.F.plainAttrs_dict PySem.F.slot_dict_pop PySem.F.type_dict_pop (mt_popT1 (hu_of hr)) (pv 5) (pa_cons (pv 9) pa_nil))))))
    (pss_one (ps_set (i := 7) sc_numbers_of.nd rfl (Or.inl rfl) (pe_cmpR (k_neD K (hu := hr.units)) (pv 8) (pe_lst pa_nil) (nomark _))))))))
    (pss_one (ps_ret (pv 4)))))))), ?_⟩
    refine fn_run (B := B) ?_ o q
    have hfew := sorted_few n hn t ht 0 (by omega)
    refine e_asgD (dcall0 (d_cons (d_v r0) (d_cons (d_v r2) d_nil)) fun B' vs e ra => ⟨n, t, 0, ra, by omega, hn, ht, by omega, rfl⟩) fun v3 B1 e1 r3 => ?_
    intro F H0 o D q
    have k0 : ((sortedM n t 0).filter fun r => decide (r.getD 0 0 < (b : Int))).map (fun a => (id a, PyData.int 1)) = knD (known0 (sortedM n t 0) b) := by
      rw [knD, known0, List.map_map]
      rfl
    have ev4 : EvN (tDcT (iList K (tVar 3)) (gName 10) (tTest (tOp (rI0 fun i j => .bl (decide (i < j))) (tOp (rIxT K) (tVar 10) (tC (.int 0))) (tVar 1))) (tVar 10) (tC (.int 1)) [10])
        [some v0, some v1, some v2, some v3, none, none, none, none, none, none, none, none, none, none] B1 (rd (knD (known0 (sortedM n t 0) b))) := by
      rw [← k0]
      refine d_dcT (sortedM n t 0) tI (fun r => decide (r.getD 0 0 < (b : Int))) id (fun _ => .int 1) (by omega) (i_list (d_v r3)) (by rw [List.map_id]; exact sorted_nodup n t 0) fun r hr v B' e rv => ?_
      refine ⟨_, tg_name, rfl, b_cmp (dop (dop (d_v rv) d_int (o_ixT (d := .int (r.getD 0 0)) ?_)) (d_v (r1.mono (e1.trans e))) o_lt), fun _ => ⟨d_v rv, d_int⟩⟩
      have hl := sorted_len n t 0 r hr
      cases r with
      | nil => cases hl
      | cons x r => exact atI_nat (show ((x :: r).map PyData.int)[0]? = _ from rfl)
    refine n_asg ev4 o fun p4 H1 f4 e2 r4 => ?_
    have o1 : Off F (cut F H1) H1 := o.next e2
    have eB1 := (o.go e2).cut
    have k1 : ((sortedM n t 0).filter fun r => !(look (known0 (sortedM n t 0) b) r).isSome).map (fun a => (id a, PyData.list ((choicesM n a b).map lT))) = lfD (left0 n (sortedM n t 0) b) := by
      rw [lfD, left0, List.map_map]
      rfl
    have ev5 : EvN (tDcT (iList K (tVar 3)) (gName 10) (tB (tDNotIn (tVar 10) (tVar 4))) (tVar 10) (tCall (spD preChoices) [] E0 (tCons (tVar 10) (tCons (tVar 1) tNil))) [10])
        [some v0, some v1, some v2, some v3, some (.ref p4), none, none, none, none, none, none, none, none, none] (cut F H1) (rd (lfD (left0 n (sortedM n t 0) b))) := by
      rw [← k1]
      refine d_dcT (sortedM n t 0) tI (fun r => !(look (known0 (sortedM n t 0) b) r).isSome) id (fun a => PyData.list ((choicesM n a b).map lT)) (by omega) (i_list (d_v (r3.mono eB1))) (by rw [List.map_id]; exact sorted_nodup n t 0) fun r hr v B' e rv => ?_
      refine ⟨_, tg_name, rfl, b_val (as_eq (d_dnotin (ks := r) (d_v rv) (d_var (mono_rd _) (v := .ref p4) rfl (mono_rd _ e r4))) (by rw [look_map]; simp)), fun hp => ⟨d_v rv, ?_⟩⟩
      have hl := sorted_len n t 0 r hr
      have hge := look_known0 (b := b) hr (by simpa using hp)
      exact dcall (d_cons (d_v rv) (d_cons (d_v (r1.mono ((e1.trans eB1).trans e))) d_nil)) fun B'' vs e' ra => ⟨n, r, b, ra, hl, hn, hb, fun d hd => fits_of hn ht hb hr hge hd, rfl⟩
    refine n_asg ev5 o1 fun p5 H2 f5 e3 r5 => ?_
    refine ⟨by decide, fun p6 f6 => ?_⟩
    refine ⟨p6, _, rfl, st_of upd_same, rfl, _, _, rfl, _, _, rfl, rfl, ?_⟩
    have hne : p4 ≠ p5 := fun z => by
      obtain ⟨p, kvs, e1, h1, _⟩ := r4
      cases e1
      rw [z] at h1
      rw [cut_ex _ _ h1] at f5
      cases f5
    have n4 : ¬ F p4 := o.free f4
    have n5 : ¬ F p5 := o1.free f5
    have e6 : Ex H2 (upd H2 p6 (.tup [.int 1, .bl true])) := Ex.new f6
    obtain ⟨H6, hH6⟩ : ∃ H6, upd H2 p6 (.tup [.int 1, .bl true]) = H6 := ⟨_, rfl⟩
    rw [hH6] at e6 ⊢
    have dF : ∀ b, F b → ∃ u, H2 b = some u ∧ isTup u = false := (o1.go e3).dom
    have hd0 : Hd F H2 p4 p5 H6 (known0 (sortedM n t 0) b) (left0 n (sortedM n t 0) b) := by
      obtain ⟨p, kvs4, z1, h4, s4⟩ := r4
      cases z1
      obtain ⟨p, kvs5, z1, h5, s5⟩ := r5
      cases z1
      have g4 : H6 p4 = some (.dT kvs4) := e6 _ _ (e3 _ _ (cut_ex _ _ h4))
      have g5 : H6 p5 = some (.dT kvs5) := e6 _ _ (cut_ex _ _ h5)
      exact ⟨fun b u _ _ z => e6 _ _ z, ⟨kvs4, g4, ((s4.mono (cut_mono (e3.trans e6))).addF g4 rfl).addF g5 rfl⟩, ⟨kvs5, g5, ((s5.mono (cut_mono e6)).addF g4 rfl).addF g5 rfl⟩⟩
    refine rounds (x8 := none) (x9 := none) hne n4 n5 dF hd0 (start_ok hn hb ht) rfl fun H' lf hd => ?_
    obtain ⟨kvs, h4, s4⟩ := hd.t4
    refine q _ H' (Ex.two e2 e3 f4 f5 hd.a) ⟨p4, kvs, rfl, cut_at n4 h4, s4.mono (cut_more.trans cut_more)⟩
end
end K78
namespace K78
open PySem PySem.Spec PyProof.Rows L2 Evl G
abbrev Tb := List (List Int × Option Int)
abbrev tabD (t : Tb) : List (List Int × D) := t.map fun r => (r.1, oD r.2)
abbrev tabP (t : Tb) : List D := t.map fun r => PyData.tuple [tI r.1, oD r.2]
def lookO (t : Tb) (r : List Int) : Option Int := (look t r).getD none
section
variable {P : Program} {w : World} {K : PySem.W.Frag} {mg : Str → Option Value} {base : Heap}
/-! ### is_integer -/
abbrev s_is_integer : Stmt := topS 5
theorem sc_is_integer : FnScope ["thing"] ["thing"] (defScope s_is_integer) := ⟨rfl, rfl, rfl, by decide +kernel, rfl, by decide +kernel, by decide +kernel⟩
-- slots: 0 thing; cells: 
def preInt (B : Hp) (vs : List V) (R : RelH) : Prop := ∃ i : Int, RpA B vs [.int i] ∧ R = rp (.bool true)
theorem ok_int (T : Zs mg) {f : Addr} {fd : FuncData} (F : Fun K "is_integer" "is_integer" s_is_integer f fd) : FnOk P w K mg base CX0 1 f fd ["thing"] (spD preInt) := by
  refine F.ok sc_is_integer (fun vs H Q E h => ?_) (fun cdv A outer s H vs Q E hr h => ?_)
  · obtain ⟨F, B, R, o, ⟨i, r, _⟩, _⟩ := h
    exact r.length
  · obtain ⟨F, B, R, o, ⟨i, r, rfl⟩, q⟩ := h
    obtain ⟨v0, rfl, r0⟩ := rpa1 r
    refine ⟨_, (pss_one (ps_ret (pe_and (pe_callB (k_isi K) (by rfl) T.z_isinstance (by decide +kernel) (pa_cons (pv 0) (pa_cons (pe_bltn (v := .ty "int") (u := .type "int") (by rfl) T.z_int (by decide +kernel) rfl) pa_nil))) (pe_one (pe_not (pe_callB (k_isi K) (by rfl) T.z_isinstance (by decide +kernel) (pa_cons (pv 0) (pa_cons (pe_bltn (v := .ty "bool") (u := .type "bool") (by rfl) T.z_bool (by decide +kernel) rfl) pa_nil)))))))), ?_⟩
    exact fn_run (B := B) (e_ret (d_andV (d_isiI (r := true) (d_v r0) (by decide +kernel)) fun _ => d_notV (d_isiI (r := false) (d_v r0) (by decide +kernel)))) o q
/-! ### game_table -/
abbrev s_game_table : Stmt := topS 16
theorem sc_game_table : FnScope ["count", "budget", "total", "known", "balances"] ["count", "budget", "total"] (defScope s_game_table) := ⟨rfl, rfl, rfl, by decide +kernel, rfl, by decide +kernel, by decide +kernel⟩
-- slots: 0 count, 1 budget, 2 total, 3 known, 4 balances; cells: known
def tableM (n b t : Nat) : Tb := (sortedM n t 0).map fun r => (r, look (numbersM n b t) r)
def preTable (B : Hp) (vs : List V) (R : RelH) : Prop := ∃ n b t : Nat, RpA B vs [.int ((n + 1 : Nat) : Int), .int (b : Nat), .int (t : Nat)] ∧ n ≤ 3 ∧ b ≤ 4 ∧ t ≤ 24 ∧ R = rtab (tabP (tableM n b t))
theorem ok_table (T : Zs mg) (c_sorted_balances2 : Cal P w K mg base 4 "sorted_balances" ["count", "total", "least"] [.int 0] (spD (preSorted 4))) (c_numbers_of : Cal P w K mg base 6 "numbers_of" ["count", "budget", "total"] [] (spD preNumbers))
    {f : Addr} {fd : FuncData} (F : Fun K "game_table" "game_table" s_game_table f fd) : FnOk P w K mg base CX0 7 f fd ["count", "budget", "total"] (spD preTable) := by
  refine F.ok sc_game_table (fun vs H Q E h => ?_) (fun cdv A outer s H vs Q E hr h => ?_)
  · obtain ⟨F, B, R, o, ⟨n, b, t, r, _⟩, _⟩ := h
    exact r.length
  · obtain ⟨F, B, R, o, ⟨n, b, t, r, hn, hb, ht, rfl⟩, q⟩ := h
    obtain ⟨v0, v1, v2, rfl, r0, r1, r2⟩ := rpa3 r
    refine ⟨_, (pss_cons (ps_set (i := 3) sc_game_table.nd rfl (Or.inr rfl) (pe_call c_numbers_of.ok (hr.mono (by first | decide | omega)) (by rfl) c_numbers_of.m c_numbers_of.kp c_numbers_of.b c_numbers_of.hv pass0 (pa_cons (pv 0) (pa_cons (pv 1) (pa_cons (pv 2) pa_nil)))))
    (pss_one (ps_ret (pe_callTy (k_tupF (K := K)) (by rfl) T.z_tuple (by decide +kernel) (pa_cons (pe_lc (own := [("balances", 4)]) rfl sc_game_table.nd (k_iList K (hl := (pe_call c_sorted_balances2.ok (hr.mono (by first | decide | omega)) (by rfl) c_sorted_balances2.m c_sorted_balances2.kp c_sorted_balances2.b c_sorted_balances2.hv pass0 (pa_cons (pv 0) (pa_cons (pv 2) pa_nil))))) (blkOk_by (by kernel_rfl)) (fun _ _ _ _ _ => (pg_name (i := 4) sc_game_table.nd rfl (Or.inl rfl))) (fun _ _ _ _ _ => pts_nil) (fun _ _ _ _ _ => (pe_tup (pa_cons (pv 4) (pa_cons (pe_dget1 (hu_of hr) (pv 3) (pv 4) ⟨by rfl, by rfl, by rfl, by rfl⟩) pa_nil))))) pa_nil))))), ?_⟩
    refine fn_run (B := B) ?_ o q
    have hfew := sorted_few n hn t ht 0 (by omega)
    refine e_asg (d_callP (RA := rps [.int ((n + 1 : Nat) : Int), .int (b : Nat), .int (t : Nat)]) (d_cons (d_v r0) (d_cons (d_v r1) (d_cons (d_v r2) d_nil))) fun B' vs e ra => ⟨n, b, t, ra, hn, hb, ht, rfl⟩) fun v3 B1 e1 r3 => ?_
    have e2 : tabP (tableM n b t) = (sortedM n t 0).map fun r => PyData.tuple [tI r, oD (look (numbersM n b t) r)] := by
      rw [tabP, tableM, List.map_map]
      rfl
    rw [e2]
    refine e_ret (d_tupF (d_lc (sortedM n t 0) tI (fun r => PyData.tuple [tI r, oD (look (numbersM n b t) r)]) (by omega) (i_list (dcall0 (d_cons (d_v (r0.mono e1)) (d_cons (d_v (r2.mono e1)) d_nil)) fun B' vs e ra => ⟨n, t, 0, ra, by omega, hn, ht, by omega, rfl⟩)) fun r hr v B' e rv => ⟨_, tg_name, rfl, d_tup (d_cons (d_v rv) (d_cons (as_eq (d_dget1 (d_var (mono_rd _) (v := v3) rfl (mono_rd _ e r3)) (d_v rv)) (look_oD _ _)) d_nil)) (by show 2 ≤ 100000; decide)⟩))
/-! ### holding_grant -/
abbrev s_holding_grant : Stmt := topS 18
theorem sc_holding_grant : FnScope ["balances", "budget", "known", "best", "most", "sender", "number"] ["balances", "budget"] (defScope s_holding_grant) := ⟨rfl, rfl, rfl, by decide +kernel, rfl, by decide +kernel, by decide +kernel⟩
-- slots: 0 balances, 1 budget, 2 known, 3 best, 4 most, 5 sender, 6 number; cells: 
/-- the first sender with the greatest number, and the number -/
def holdM (f : Nat → Int) : Nat → Int × Int
  | 0 => (0, 0)
  | k + 1 => if f k > (holdM f k).2 then ((k : Int), f k) else holdM f k
structure Holds (bs : List Int) (n b t : Nat) : Prop where
  len : bs.length = n + 1
  n3 : n ≤ 3
  b4 : b ≤ 4
  sum : bs.sum + (b : Int) = (t : Int)
  t24 : t ≤ 24
  all : ∀ i, i < bs.length → ∃ l, look (numbersM n b t) (isort (changedM bs i b)) = some l
def preHold (B : Hp) (vs : List V) (R : RelH) : Prop := ∃ (bs : List Int) (n b t : Nat), RpA B vs [tI bs, .int (b : Nat)] ∧ Holds bs n b t ∧ R = rp (.int (holdM (fun i => (look (numbersM n b t) (isort (changedM bs i b))).getD 0) bs.length).1)
theorem ok_hold (T : Zs mg) (c_changed : Cal P w K mg base 1 "changed" ["balances", "sender", "amount"] [] (spD preChanged)) (c_numbers_of : Cal P w K mg base 6 "numbers_of" ["count", "budget", "total"] [] (spD preNumbers))
    {f : Addr} {fd : FuncData} (F : Fun K "holding_grant" "holding_grant" s_holding_grant f fd) : FnOk P w K mg base CX0 7 f fd ["balances", "budget"] (spD preHold) := by
  refine F.ok sc_holding_grant (fun vs H Q E h => ?_) (fun cdv A outer s H vs Q E hr h => ?_)
  · obtain ⟨F, B, R, o, ⟨bs, n, b, t, r, _⟩, _⟩ := h
    exact r.length
  · obtain ⟨F, B, R, o, ⟨bs, n, b, t, r, h, rfl⟩, q⟩ := h
    obtain ⟨v0, v1, rfl, r0, r1⟩ := rpa2 r
    refine ⟨_, (pss_cons (ps_set (i := 2) sc_holding_grant.nd rfl (Or.inl rfl) (pe_call c_numbers_of.ok (hr.mono (by first | decide | omega)) (by rfl) c_numbers_of.m c_numbers_of.kp c_numbers_of.b c_numbers_of.hv pass0 (pa_cons (pe_callB (k_len K) (by rfl) T.z_len (by decide +kernel) (pa_cons (pv 0) pa_nil)) (pa_cons (pv 1) (pa_cons (pe_op op_add (pe_callB (k_sumT K (hc := rfl)) (by rfl) T.z_sum (by decide +kernel) (pa_cons (pv 0) pa_nil)) (pv 1)) pa_nil)))))
    (pss_cons (ps_asg (pe_tup (pa_cons (pe_int) (pa_cons (pe_int) pa_nil))) (k_pg K (n := 2) (hc := rfl) (hs := (pgs_cons (pg_name (i := 3) sc_holding_grant.nd rfl (Or.inl rfl)) (pgs_cons (pg_name (i := 4) sc_holding_grant.nd rfl (Or.inl rfl)) pgs_nil)))))
    (pss_cons (ps_for PassesOwn.never rfl (pi_range1 (by rfl) T.z_range (pa_cons (pe_callB (k_len K) (by rfl) T.z_len (by decide +kernel) (pa_cons (pv 0) pa_nil)) pa_nil)) (pg_name (i := 5) sc_holding_grant.nd rfl (Or.inl rfl))
    (pss_cons (ps_set (i := 6) sc_holding_grant.nd rfl (Or.inl rfl) (pe_dget1 (hu_of hr) (pv 2) (pe_callTy (k_tuple K) (by rfl) T.z_tuple (by decide +kernel) (pa_cons (pe_callB (k_sortT K) (by rfl) T.z_sorted (by decide +kernel) (pa_cons (pe_call c_changed.ok (hr.mono (by first | decide | omega)) (by rfl) c_changed.m c_changed.kp c_changed.b c_changed.hv pass0 (pa_cons (pv 0) (pa_cons (pv 5) (pa_cons (pv 1) pa_nil)))) pa_nil)) pa_nil)) ⟨by rfl, by rfl, by rfl, by rfl⟩))
    (pss_cons (ps_if (pt_cmp (pc_isN (pv 6)) (by rfl)) (pss_one (ps_ret (pv 5))) pss_nil)
    (pss_one (ps_if (pt_cmpR op_gt (pv 6) (pv 4) (nomark _)) (pss_one (ps_par (i := 3) (j := 4) (by rfl) sc_holding_grant.nd rfl rfl (by decide) rfl rfl (pa_cons (pv 5) (pa_cons (pv 6) pa_nil)) (by rfl))) pss_nil)))))
    (pss_one (ps_ret (pv 3)))))), ?_⟩
    refine fn_run (B := B) ?_ o q
    clear q o
    have hl := h.len
    have hn3 := h.n3
    refine e_asg (d_callP (RA := rps [.int ((n + 1 : Nat) : Int), .int (b : Nat), .int (t : Nat)]) (d_cons (as_eq (dcb (d_cons (d_v r0) d_nil) c_lenT) (show PyData.int ((bs.map PyData.int).length : Nat) = _ by rw [List.length_map, hl])) (d_cons (d_v r1) (d_cons (as_eq (dop (dcb (d_cons (d_v r0) d_nil) c_sumT) (d_v r1) o_add) (by rw [h.sum])) d_nil))) fun B' vs e ra => ⟨n, b, t, ra, hn3, h.b4, h.t24, rfl⟩) fun v2 B1 e1 r2 => ?_
    intro F H o D' q
    refine ⟨by decide, fun p6 f6 => ?_⟩
    refine ⟨p6, _, rfl, st_of upd_same, rfl, _, _, rfl, _, _, rfl, rfl, ?_⟩
    have e6 : Ex H (upd H p6 (.tup [.int 0, .int 0])) := Ex.new f6
    have o6 := o.go e6
    have q : ∀ v H', Ex (upd H p6 (.tup [.int 0, .int 0])) H' → rp (.int (holdM (fun i => (look (numbersM n b t) (isort (changedM bs i b))).getD 0) bs.length).1) (cut F H') v → D'.rt v H' := fun v H' e r => q v H' (e6.trans e) r
    generalize upd H p6 (.tup [.int 0, .int 0]) = H6 at o6 q ⊢
    have r1' := r1
    obtain rfl := r1'.int_inv
    refine s_for (σ := [some v0, some (.int b), some v2, some (.int 0), some (.int 0), none, none]) (B := B1) (List.range bs.length) (fun i => PyData.int ((i : Nat) : Int)) (i_rng1' (d_cons (dcb (d_cons (d_v (r0.mono e1)) d_nil) c_lenT) d_nil) (by rw [List.length_map]) (by omega)) o6
      (fun B2 k σ' H' => Off F B2 H' ∧ Ex H6 H' ∧ ∃ x5 x6, σ' = [some v0, some (.int b), some v2, some (.int (holdM (fun i => (look (numbersM n b t) (isort (changedM bs i b))).getD 0) k).1), some (.int (holdM (fun i => (look (numbersM n b t) (isort (changedM bs i b))).getD 0) k).2), x5, x6])
      (fun H1 e1 => ⟨o6.next e1, e1, none, none, rfl⟩) (fun B1 k σ' H' _ h => h.1) (fun B2 k i v σ' H' H'' eB hi hP eH rv => ?_) (fun B2 σ' H' eB hP => ?_)
    · obtain ⟨oH, eH0, x5, x6, rfl⟩ := hP
      obtain ⟨hk, rfl⟩ := List.getElem?_eq_some_iff.mp hi
      rw [List.length_range] at hk
      rw [List.getElem_range] at rv
      obtain rfl := rv.int_inv
      have o1 := oH.next eH
      have eB1 : Ex B1 (cut F H'') := eB.trans (oH.go eH).cut
      have r0' := r0.mono (e1.trans eB1)
      obtain ⟨l, hl1⟩ := h.all k hk
      generalize hgh : holdM (fun i => (look (numbersM n b t) (isort (changedM bs i b))).getD 0) k = bm
      have hstep : holdM (fun i => (look (numbersM n b t) (isort (changedM bs i b))).getD 0) (k + 1) = if l > bm.2 then ((k : Int), l) else bm := by
        have fk : (look (numbersM n b t) (isort (changedM bs k b))).getD 0 = l := by
          rw [hl1]
          rfl
        show (if (look (numbersM n b t) (isort (changedM bs k b))).getD 0 > (holdM (fun i => (look (numbersM n b t) (isort (changedM bs i b))).getD 0) k).2 then ((k : Int), (look (numbersM n b t) (isort (changedM bs k b))).getD 0) else holdM (fun i => (look (numbersM n b t) (isort (changedM bs i b))).getD 0) k) = _
        rw [fk, hgh]
      refine h_asgD (σ := [some v0, some (.int b), some v2, some (.int bm.1), some (.int bm.2), some (.int (k : Int)), x6]) (d := oD (look (numbersM n b t) (isort (changedM bs k b)))) (as_eq (d_dget1 (d_var (mono_rd _) (v := v2) rfl (mono_rd _ eB1 r2)) (dcb (d_cons (dcb (d_cons (dcall (d_cons (d_v r0') (d_cons (d_v (.int (k : Int))) (d_cons (d_v (.int (b : Int))) d_nil))) fun B' vs e ra => ⟨bs, k, b, ra, hk, by omega, rfl⟩) d_nil) (c_sortT (by rw [changed_len hk]; omega))) d_nil) c_tupL)) (look_oD _ _)) o1 fun v6 H3 e3 o3 x3 r6 => ?_
      rw [hl1] at r6
      obtain rfl := r6.int_inv
      refine h_if (b := false) (b_val (d_isN (d_v (i := 6) (.int l)) rfl)) o3 (fun z => by cases z) (fun _ H4 e4 o4 => ?_)
      have fin : ∀ H5, Ex H4 H5 → Off F B2 H5 ∧ Ex H6 H5 := fun H5 e5 => ⟨(((oH.go eH).go e3).go e4).go e5, (((eH0.trans eH).trans e3).trans e4).trans e5⟩
      refine (b_cmp (dop (d_v (i := 6) (.int l)) (d_v (i := 4) (.int bm.2)) o_gt) : EvB _ [some v0, some (.int b), some v2, some (.int bm.1), some (.int bm.2), some (.int (k : Int)), some (.int l)] (cut F H3) _) F H4 o4 _ fun H5 e5 => ?_
      by_cases hg : bm.2 < l
      · show if decide (bm.2 < l) = true then _ else _
        rw [if_pos (decide_eq_true hg)]
        refine ⟨.int (k : Int), rfl, .int l, rfl, _, _, rfl, ?_⟩
        rw [if_pos hg] at hstep
        exact ⟨(fin H5 e5).1, (fin H5 e5).2, some (.int (k : Int)), some (.int l), by rw [hstep]; rfl⟩
      · show if decide (bm.2 < l) = true then _ else _
        rw [if_neg (by simpa using hg)]
        rw [if_neg hg] at hstep
        exact ⟨(fin H5 e5).1, (fin H5 e5).2, some (.int (k : Int)), some (.int l), by rw [hstep]; rfl⟩
    · obtain ⟨oH, eH0, x5, x6, rfl⟩ := hP
      rw [List.length_range]
      exact ⟨_, rfl, q _ H' eH0 (.int _)⟩
end
end K78
namespace K78
open PySem PySem.Spec PyProof.Rows L2 Evl G
section
variable {P : Program} {w : World} {K : PySem.W.Frag} {mg : Str → Option Value} {base : Heap}
/-! ### is_right_number -/
abbrev s_is_right_number : Stmt := topS 19
theorem sc_is_right_number : FnScope ["number", "lots", "known", "sums", "whole", "lot", "row"] ["number", "lots", "known"] (defScope s_is_right_number) := ⟨rfl, rfl, rfl, by decide +kernel, rfl, by decide +kernel, by decide +kernel⟩
-- slots: 0 number, 1 lots, 2 known, 3 sums, 4 whole, 5 lot, 6 row; cells: known
def wholeM (sums : List (List (Option Int))) : List Int := (sums.filter fun lot => !lot.any Option.isNone).map fun lot => maxI (lot.map (·.getD 0))
def irnM (num : Option Int) (sums : List (List (Option Int))) : Bool :=
  match num with
  | none => sums.all fun lot => lot.any Option.isNone
  | some k => !(wholeM sums).isEmpty && decide (minI (wholeM sums) = k - 1)
def sumsM (tab : Tb) (lots : List (List (List Int))) : List (List (Option Int)) := lots.map fun lot => lot.map (lookO tab)
structure LotsOk (tab : Tb) (lots : List (List (List Int))) : Prop where
  few : lots.length ≤ 100000
  one : ∀ lot ∈ lots, lot ≠ [] ∧ lot.length ≤ 100000 ∧ ∀ r ∈ lot, (look tab r).isSome = true
def preRight (B : Hp) (vs : List V) (R : RelH) : Prop := ∃ (num : Option Int) (tab : Tb) (lots : List (List (List Int))) (v0 v1 v2 : V), vs = [v0, v1, v2] ∧ Rp B v0 (oD num) ∧ Rp B v1 (.list (lots.map lT)) ∧ rd (tabD tab) B v2 ∧ LotsOk tab lots ∧ R = rp (.bool (irnM num (sumsM tab lots)))
theorem look_tab {tab : Tb} {r : List Int} (h : (look tab r).isSome = true) : look (tabD tab) r = some (oD (lookO tab r)) := by
  rw [look_map]
  unfold lookO
  cases e : look tab r with
  | none => rw [e] at h; cases h
  | some x => rfl
theorem oD_ints : ∀ {os : List (Option Int)}, os.any Option.isNone = false → os.map oD = (os.map (·.getD 0)).map PyData.int
  | [], _ => rfl
  | none :: os, h => by cases h
  | some i :: os, h => by
    rw [List.map_cons, List.map_cons, List.map_cons, oD_ints (os := os) h]
    rfl
theorem ok_irn (T : Zs mg) {f : Addr} {fd : FuncData} (F : Fun K "is_right_number" "is_right_number" s_is_right_number f fd) : FnOk P w K mg base CX0 1 f fd ["number", "lots", "known"] (spD preRight) := by
  refine F.ok sc_is_right_number (fun vs H Q E h => ?_) (fun cdv A outer s H vs Q E hr h => ?_)
  · obtain ⟨F, B, R, o, ⟨num, tab, lots, v0, v1, v2, rfl, _⟩, _⟩ := h
    rfl
  · obtain ⟨F, B, R, o, ⟨num, tab, lots, v0, v1, v2, rfl, r0, r1, r2, ok, rfl⟩, q⟩ := h
    refine ⟨_, (pss_cons (ps_setLc (i := 3) (own := [("lot", 5)]) rfl sc_is_right_number.nd rfl rfl (sw_true rfl rfl rfl (by kernel_rfl)) (k_iList K (hl := (pv 1))) (blkOk_by (by kernel_rfl)) (fun _ _ _ _ _ => (pg_name (i := 5) sc_is_right_number.nd rfl (Or.inl rfl))) (fun _ _ _ _ _ => pts_nil) (fun _ _ _ _ _ => (pe_lc (own := [("row", 6)]) rfl sc_is_right_number.nd (k_iList K (hl := (pv 5))) (blkOk_by (by kernel_rfl)) (fun _ _ _ _ _ => (pg_name (i := 6) sc_is_right_number.nd rfl (Or.inl rfl))) (fun _ _ _ _ _ => pts_nil) (fun _ _ _ _ _ => (pe_dget (hu_of hr) (pv 2) (pv 6) (fun _ _ => rfl))))))
    (pss_cons (ps_if (pt_cmp (pc_isN (pv 0)) (by rfl)) (pss_one (ps_ret (pe_callB (k_all K (hc := rfl)) (by rfl) T.z_all (by decide +kernel) (pa_cons (pe_lc (own := [("lot", 5)]) rfl sc_is_right_number.nd (k_iList K (hl := (pv 3))) (blkOk_by (by kernel_rfl)) (fun _ _ _ _ _ => (pg_name (i := 5) sc_is_right_number.nd rfl (Or.inl rfl))) (fun _ _ _ _ _ => pts_nil) (fun _ _ _ _ _ => (pe_cmpR (k_inD (K := K) (hu := G.Room.u65 hr)) (pe_non) (pv 5) (by rfl)))) pa_nil)))) pss_nil)
    (pss_cons (ps_setLc (i := 4) (own := [("lot", 5)]) rfl sc_is_right_number.nd rfl rfl (sw_true rfl rfl rfl (by kernel_rfl)) (k_iList K (hl := (pv 3))) (blkOk_by (by kernel_rfl)) (fun _ _ _ _ _ => (pg_name (i := 5) sc_is_right_number.nd rfl (Or.inl rfl))) (fun _ _ _ _ _ => (pts_one (pt_cmpR (k_notInD (K := K) (hu := G.Room.u65 hr)) (pe_non) (pv 5) (by rfl)))) (fun _ _ _ _ _ => (pe_callB (k_max K (hc := rfl)) (by rfl) T.z_max (by decide +kernel) (pa_cons (pv 5) pa_nil))))
    (pss_one (ps_ret (pe_and (pe_cmpR (k_neD K (hu := hr.units)) (pv 4) (pe_lst pa_nil) (nomark _)) (pe_one (pe_cmpR op_eq (pe_callB (k_min K (hc := rfl)) (by rfl) T.z_min (by decide +kernel) (pa_cons (pv 4) pa_nil)) (pe_op op_sub (pv 0) (pe_int)) (nomark _))))))))), ?_⟩
    refine fn_run (B := B) ?_ o q
    have hsum : (PyData.list (lots.map fun lot => PyData.list (lot.map fun r => oD (lookO tab r)))) = .list ((sumsM tab lots).map fun lot => PyData.list (lot.map oD)) := by
      rw [sumsM, List.map_map]
      congr 1
      refine List.map_congr_left fun lot _ => ?_
      show _ = PyData.list ((lot.map (lookO tab)).map oD)
      rw [List.map_map]
      rfl
    have hsl : (sumsM tab lots).length ≤ 100000 := by rw [sumsM, List.length_map]; exact ok.few
    refine e_asgD (d := .list ((sumsM tab lots).map fun lot => PyData.list (lot.map oD))) (as_eq (d_lc lots lT (fun lot => .list (lot.map fun r => oD (lookO tab r))) ok.few (i_list (d_v r1)) fun lot hlot v5 B1 e1 r5 => ?_) hsum) fun v3 B1 e1 r3 => ?_
    · obtain ⟨_, h2, h3⟩ := ok.one lot hlot
      refine ⟨_, tg_name, rfl, d_lc lot tI (fun r => oD (lookO tab r)) h2 (i_list (d_v r5)) fun r hr v6 B2 e2 r6 => ?_⟩
      exact ⟨_, tg_name, rfl, d_dget (ks := r) (l := tabD tab) (d_var (mono_rd _) (v := v2) rfl (mono_rd _ (e1.trans e2) r2)) (d_v r6) (look_tab (h3 r hr))⟩
    · refine e_if (b := num.isNone) (b_val (d_isNO (d_v (r0.mono e1)))) (fun hn => ?_) (fun hn => ?_)
      · obtain rfl : num = none := Option.isNone_iff_eq_none.mp hn
        refine e_ret (as_eq (dcb (d_cons (as_eq (d_lc (sumsM tab lots) (fun lot => PyData.list (lot.map oD)) (fun lot => .bool (lot.any Option.isNone)) hsl (i_list (d_v r3)) fun lot hlot v5 B2 e2 r5 => ⟨_, tg_name, rfl, dop d_non (d_v r5) o_noneIn⟩) (d' := .list (((sumsM tab lots).map fun lot => lot.any Option.isNone).map PyData.bool)) (by rw [List.map_map]; rfl)) d_nil) c_all) ?_)
        rw [List.all_map]
        rfl
      · obtain ⟨k, rfl⟩ : ∃ k, num = some k := by
          cases num with
          | none => cases hn
          | some k => exact ⟨k, rfl⟩
        refine e_asgD (d := lI (wholeM (sumsM tab lots))) (as_eq (d_lcF (sumsM tab lots) (fun lot => PyData.list (lot.map oD)) (fun lot => !lot.any Option.isNone) (fun lot => .int (maxI (lot.map (·.getD 0)))) hsl (i_list (d_v r3)) fun lot hlot v5 B2 e2 r5 => ?_) ?_) fun v4 B2 e2 r4 => ?_
        · refine ⟨_, tg_name, rfl, b_cmp (dop d_non (d_v r5) o_noneNotIn), fun hno => ?_⟩
          have hno : lot.any Option.isNone = false := by simpa using hno
          have r5' := r5
          rw [oD_ints hno] at r5'
          obtain ⟨lot0, hl0, rfl⟩ := List.mem_map.mp hlot
          exact dcb (d_cons (d_v (d := lI ((lot0.map (lookO tab)).map (·.getD 0))) r5') d_nil) (c_maxL (fun z => (ok.one lot0 hl0).1 (List.map_eq_nil_iff.mp (List.map_eq_nil_iff.mp z))))
        · show _ = PyData.list _
          unfold wholeM
          rw [List.map_map]
          rfl
        · refine e_ret (as_eq (d_andV (a := !(wholeM (sumsM tab lots)).isEmpty) (b := decide (minI (wholeM (sumsM tab lots)) = k - 1)) (as_eq (dop (d_v r4) (d_lst d_nil (Nat.zero_le _)) (o_neD (shaped_lI _) rfl)) (by rw [eqv_nil, List.isEmpty_map])) fun hw => ?_) rfl)
          have hne : wholeM (sumsM tab lots) ≠ [] := fun z => by rw [z] at hw; cases hw
          have r0' : Rp B2 v0 (.int k) := r0.mono (e1.trans e2)
          exact dop (dcb (d_cons (d_v r4) d_nil) (c_minL hne)) (dop (d_v r0') d_int o_sub) o_eqI
/-! ### has_rows -/
abbrev s_has_rows : Stmt := topS 20
theorem sc_has_rows : FnScope ["count", "total", "thing", "rows", "row", "part"] ["count", "total", "thing"] (defScope s_has_rows) := ⟨rfl, rfl, rfl, by decide +kernel, rfl, by decide +kernel, by decide +kernel⟩
-- slots: 0 count, 1 total, 2 thing, 3 rows, 4 row, 5 part; cells: 
def preHas (B : Hp) (vs : List V) (R : RelH) : Prop := ∃ (n t : Nat) (tab : Tb) (v0 v1 v2 : V), vs = [v0, v1, v2] ∧ Rp B v0 (.int ((n + 1 : Nat) : Int)) ∧ Rp B v1 (.int (t : Nat)) ∧ rtab (tabP tab) B v2 ∧ n ≤ 3 ∧ t ≤ 24 ∧ tab.map (·.1) = sortedM n t 0 ∧ (∀ r ∈ tab, ∀ k, r.2 = some k → 0 < k) ∧ R = rp (.bool true)
theorem isi_pair {σ : L2.St} {B : Hp} {te : TE} {d1 d2 : D} (h : EvD te σ B (.tuple [d1, d2])) : EvD (tCB (rIsi K) (tCons te (tCons (tC (.ty "tuple")) tNil))) σ B (.bool true) := d_isiT h (by decide +kernel)
theorem ok_has (T : Zs mg) {tk : Tok} (hRP : mg "ROW_PARTS" = some (.int 2 tk)) (c_is_integer : Cal P w K mg base 1 "is_integer" ["thing"] [] (spD preInt)) (c_sorted_balances2 : Cal P w K mg base 4 "sorted_balances" ["count", "total", "least"] [.int 0] (spD (preSorted 4)))
    {f : Addr} {fd : FuncData} (F : Fun K "has_rows" "has_rows" s_has_rows f fd) : FnOk P w K mg base CX0 5 f fd ["count", "total", "thing"] (spD preHas) := by
  refine F.ok sc_has_rows (fun vs H Q E h => ?_) (fun cdv A outer s H vs Q E hr h => ?_)
  · obtain ⟨F, B, R, o, ⟨n, t, tab, v0, v1, v2, rfl, _⟩, _⟩ := h
    rfl
  · obtain ⟨F, B, R, o, ⟨n, t, tab, v0, v1, v2, rfl, r0, r1, r2, hn, ht, hrows, hpos, rfl⟩, q⟩ := h
    refine ⟨_, (pss_cons (ps_if (PW.pt (pw_or (pt_not (pt_val (pe_callB (k_isi K) (by rfl) T.z_isinstance (by decide +kernel) (pa_cons (pv 2) (pa_cons (pe_bltn (v := .ty "tuple") (u := .type "tuple") (by rfl) T.z_tuple (by decide +kernel) rfl) pa_nil))))) (pw_or1 (pt_not (pt_val (pe_callB (k_all K (hc := rfl)) (by rfl) T.z_all (by decide +kernel) (pa_cons (pe_lc (own := [("row", 4)]) rfl sc_has_rows.nd (k_iTup K (hl := (pv 2))) (blkOk_by (by kernel_rfl)) (fun _ _ _ _ _ => (pg_name (i := 4) sc_has_rows.nd rfl (Or.inl rfl))) (fun _ _ _ _ _ => pts_nil) (fun _ _ _ _ _ => (pe_and (pe_callB (k_isi K) (by rfl) T.z_isinstance (by decide +kernel) (pa_cons (pv 4) (pa_cons (pe_bltn (v := .ty "tuple") (u := .type "tuple") (by rfl) T.z_tuple (by decide +kernel) rfl) pa_nil))) (pe_one (pe_cmpR op_eq (pe_callB (k_len K) (by rfl) T.z_len (by decide +kernel) (pa_cons (pv 4) pa_nil)) (pe_glob (v := .int 2) (by rfl) hRP ⟨_, rfl⟩) (nomark _)))))) pa_nil))))))) (pss_one (ps_ret (pe_bl))) pss_nil)
    (pss_cons (ps_if (pt_not (pt_val (pe_callB (k_all K (hc := rfl)) (by rfl) T.z_all (by decide +kernel) (pa_cons (pe_lc (own := [("row", 4)]) rfl sc_has_rows.nd (k_iTup K (hl := (pv 2))) (blkOk_by (by kernel_rfl)) (fun _ _ _ _ _ => (pg_name (i := 4) sc_has_rows.nd rfl (Or.inl rfl))) (fun _ _ _ _ _ => pts_nil) (fun _ _ _ _ _ => (pe_or (pe_cmp (pc_isN (pe_ix (k_ixT K) (pv 4) (pe_int) (fun _ _ => rfl))) rfl) (pe_one (pe_and (pe_call c_is_integer.ok (hr.mono (by first | decide | omega)) (by rfl) c_is_integer.m c_is_integer.kp c_is_integer.b c_is_integer.hv pass0 (pa_cons (pe_ix (k_ixT K) (pv 4) (pe_int) (fun _ _ => rfl)) pa_nil)) (pe_one (pe_cmpR op_gt (pe_ix (k_ixT K) (pv 4) (pe_int) (fun _ _ => rfl)) (pe_int) (nomark _)))))))) pa_nil)))) (pss_one (ps_ret (pe_bl))) pss_nil)
    (pss_cons (ps_setLc (i := 3) (own := [("row", 4)]) rfl sc_has_rows.nd rfl rfl (sw_true rfl rfl rfl (by kernel_rfl)) (k_iTup K (hl := (pv 2))) (blkOk_by (by kernel_rfl)) (fun _ _ _ _ _ => (pg_name (i := 4) sc_has_rows.nd rfl (Or.inl rfl))) (fun _ _ _ _ _ => pts_nil) (fun _ _ _ _ _ => (pe_ix (k_ixT K) (pv 4) (pe_int) (fun _ _ => rfl))))
    (pss_cons (ps_if (pt_not (pt_val (pe_callB (k_all K (hc := rfl)) (by rfl) T.z_all (by decide +kernel) (pa_cons (pe_lc (own := [("row", 4)]) rfl sc_has_rows.nd (k_iList K (hl := (pv 3))) (blkOk_by (by kernel_rfl)) (fun _ _ _ _ _ => (pg_name (i := 4) sc_has_rows.nd rfl (Or.inl rfl))) (fun _ _ _ _ _ => pts_nil) (fun _ _ _ _ _ => (pe_and (pe_callB (k_isi K) (by rfl) T.z_isinstance (by decide +kernel) (pa_cons (pv 4) (pa_cons (pe_bltn (v := .ty "tuple") (u := .type "tuple") (by rfl) T.z_tuple (by decide +kernel) rfl) pa_nil))) (pe_one (pe_callB (k_all K (hc := rfl)) (by rfl) T.z_all (by decide +kernel) (pa_cons (pe_lc (own := [("part", 5)]) rfl sc_has_rows.nd (k_iTup K (hl := (pv 4))) (blkOk_by (by kernel_rfl)) (fun _ _ _ _ _ => (pg_name (i := 5) sc_has_rows.nd rfl (Or.inl rfl))) (fun _ _ _ _ _ => pts_nil) (fun _ _ _ _ _ => (pe_call c_is_integer.ok (hr.mono (by first | decide | omega)) (by rfl) c_is_integer.m c_is_integer.kp c_is_integer.b c_is_integer.hv pass0 (pa_cons (pv 5) pa_nil)))) pa_nil)))))) pa_nil)))) (pss_one (ps_ret (pe_bl))) pss_nil)
    (pss_one (ps_ret (pe_cmpR (k_eqD K (hu := hr.units)) (pv 3) (pe_call c_sorted_balances2.ok (hr.mono (by first | decide | omega)) (by rfl) c_sorted_balances2.m c_sorted_balances2.kp c_sorted_balances2.b c_sorted_balances2.hv pass0 (pa_cons (pv 0) (pa_cons (pv 1) pa_nil))) (nomark _)))))))), ?_⟩
    refine fn_run (B := B) ?_ o q
    have hfew := sorted_few n hn t ht 0 (by omega)
    have hlen : tab.length ≤ 100000 := by
      have : (tab.map (·.1)).length ≤ 1000 := by rw [hrows]; exact hfew
      rw [List.length_map] at this
      omega
    have thing : ∀ {B' : Hp} {σ : L2.St}, Ex B B' → σ[2]? = some (some v2) → EvR (tVar 2) σ B' (rtab (tabP tab)) := fun e h => d_var (mono_rtab _) (v := v2) h (mono_rtab _ e r2)
    have allT : ∀ l : List (List Int × Option Int), ((l.map fun _ => true).map PyData.bool) = l.map fun _ => PyData.bool true := fun l => by rw [List.map_map]; rfl
    refine e_if (b := false) (b_eq (b_or (b_not (b_val (d_isiF (r := true) (thing (Ex.refl _) rfl) (by decide +kernel)))) fun _ => b_not (b_val (dcb (d_cons (as_eq (d_lc tab (fun r => PyData.tuple [tI r.1, oD r.2]) (fun _ => .bool true) hlen (i_tupF (thing (Ex.refl _) rfl)) fun r hr v4 B2 e2 r4 => ⟨_, tg_name, rfl, ?_⟩) (d' := .list ((tab.map fun _ => true).map PyData.bool)) (by rw [allT])) d_nil) c_all))) ?_) (fun h => by cases h) fun _ => ?_
    · exact d_andV (a := true) (b := true) (isi_pair (d_v r4)) fun _ => dop (dcb (d_cons (d_v r4) d_nil) c_lenT) d_int o_eqI
    · rw [List.all_map]
      simp
    refine e_if (b := false) (b_eq (b_not (b_val (dcb (d_cons (as_eq (d_lc tab (fun r => PyData.tuple [tI r.1, oD r.2]) (fun _ => .bool true) hlen (i_tupF (thing (Ex.refl _) rfl)) fun r hr v4 B2 e2 r4 => ⟨_, tg_name, rfl, ?_⟩) (d' := .list ((tab.map fun _ => true).map PyData.bool)) (by rw [allT])) d_nil) c_all))) ?_) (fun h => by cases h) fun _ => ?_
    · have ix : ∀ {σ : L2.St}, σ[4]? = some (some v4) → EvD (tOp (rIxT K) (tVar 4) (tC (.int 1))) σ B2 (oD r.2) := fun h => dop (d_v r4 h) d_int (o_ixT (atI_nat rfl))
      refine as_eq (d_orV (a := r.2.isNone) (b := true) (d_isNO (ix rfl)) fun hno => ?_) (by cases r.2 <;> rfl)
      obtain ⟨k, hk⟩ : ∃ k, r.2 = some k := by
        cases e : r.2 with
        | none => rw [e] at hno; cases hno
        | some k => exact ⟨k, rfl⟩
      have hk0 := hpos r hr k hk
      have ix' : ∀ {σ : L2.St}, σ[4]? = some (some v4) → EvD (tOp (rIxT K) (tVar 4) (tC (.int 1))) σ B2 (.int k) := fun h => as_eq (ix h) (by rw [hk]; rfl)
      exact d_andV (a := true) (b := true) (dcall (d_cons (ix' rfl) d_nil) fun B' vs e ra => ⟨k, ra, rfl⟩) fun _ => as_eq (dop (ix' rfl) d_int o_gt) (by rw [decide_eq_true hk0])
    · rw [List.all_map]
      simp
    refine e_asgD (d := lT (sortedM n t 0)) (as_eq (d_lc tab (fun r => PyData.tuple [tI r.1, oD r.2]) (fun r => tI r.1) hlen (i_tupF (thing (Ex.refl _) rfl)) fun r hr v4 B2 e2 r4 => ⟨_, tg_name, rfl, dop (d_v r4) d_int (o_ixT (atI_nat rfl))⟩) (by show PyData.list _ = PyData.list ((sortedM n t 0).map tI); rw [← hrows, List.map_map]; rfl)) fun v3 B1 e1 r3 => ?_
    refine e_if (b := false) (b_eq (b_not (b_val (dcb (d_cons (as_eq (d_lc (sortedM n t 0) tI (fun _ => .bool true) (by omega) (i_list (d_v r3)) fun r hr v4 B2 e2 r4 => ⟨_, tg_name, rfl, ?_⟩) (d' := .list (((sortedM n t 0).map fun _ => true).map PyData.bool)) (by rw [List.map_map]; rfl)) d_nil) c_all))) ?_) (fun h => by cases h) fun _ => ?_
    · have hl := sorted_len n t 0 r hr
      refine d_andV (a := true) (b := true) (d_isiT (d_v r4) (by decide +kernel)) fun _ => as_eq (dcb (d_cons (as_eq (d_lc r PyData.int (fun _ => .bool true) (by omega) (i_tup (d_v r4)) fun x hx v5 B3 e3 r5 => ⟨_, tg_name, rfl, dcall (d_cons (d_v r5) d_nil) fun B' vs e ra => ⟨x, ra, rfl⟩⟩) (d' := .list ((r.map fun _ => true).map PyData.bool)) (by rw [List.map_map]; rfl)) d_nil) c_all) ?_
      rw [List.all_map]
      simp
    · rw [List.all_map]
      simp
    refine e_ret (as_eq (dop (d_v r3) (dcall0 (d_cons (d_v (r0.mono e1)) (d_cons (d_v (r1.mono e1)) d_nil)) fun B' vs e ra => ⟨n, t, 0, ra, by omega, hn, ht, by omega, rfl⟩) (o_eqD (shaped_tI _) (shaped_tI _))) ?_)
    exact congrArg PyData.bool (SeqAt.eqv_refl _ (SeqAt.canLay_of_shaped (shaped_tI _)))
/-! ### shows_game_table -/
abbrev s_shows_game_table : Stmt := topS 21
theorem sc_shows_game_table : FnScope ["count", "budget", "total", "thing", "known", "balances", "number"] ["count", "budget", "total", "thing"] (defScope s_shows_game_table) := ⟨rfl, rfl, rfl, by decide +kernel, rfl, by decide +kernel, by decide +kernel⟩
-- slots: 0 count, 1 budget, 2 total, 3 thing, 4 known, 5 balances, 6 number; cells: 
def badRow (n b : Nat) (tab : Tb) (q : List Int × Option Int) : Bool := (!decide (decide (q.1.getD 0 0 < (b : Int)) = decide (q.2 = some 1))) || (decide ((b : Int) ≤ q.1.getD 0 0) && !irnM q.2 (sumsM tab (choicesM n q.1 b)))
def showsM (n b : Nat) (tab : Tb) : Bool := (tab.find? (badRow n b tab)).isNone
structure ShowOk (n b t : Nat) (tab : Tb) : Prop where
  n3 : n ≤ 3
  b4 : b ≤ 4
  t24 : t ≤ 24
  rows : tab.map (·.1) = sortedM n t 0
  pos : ∀ r ∈ tab, ∀ k, r.2 = some k → 0 < k
  lots : ∀ q ∈ tab, (b : Int) ≤ q.1.getD 0 0 → LotsOk tab (choicesM n q.1 b)
def preShows (B : Hp) (vs : List V) (R : RelH) : Prop := ∃ (n b t : Nat) (tab : Tb) (v0 v1 v2 v3 : V), vs = [v0, v1, v2, v3] ∧ Rp B v0 (.int ((n + 1 : Nat) : Int)) ∧ Rp B v1 (.int (b : Nat)) ∧ Rp B v2 (.int (t : Nat)) ∧ rtab (tabP tab) B v3 ∧ ShowOk n b t tab ∧ R = rp (.bool (showsM n b tab))
theorem ok_shows (T : Zs mg) (c_has_rows : Cal P w K mg base 5 "has_rows" ["count", "total", "thing"] [] (spD preHas)) (c_choices : Cal P w K mg base 5 "choices" ["balances", "budget"] [] (spD preChoices)) (c_is_right_number : Cal P w K mg base 1 "is_right_number" ["number", "lots", "known"] [] (spD preRight))
    {f : Addr} {fd : FuncData} (F : Fun K "shows_game_table" "shows_game_table" s_shows_game_table f fd) : FnOk P w K mg base CX0 6 f fd ["count", "budget", "total", "thing"] (spD preShows) := by
  refine F.ok sc_shows_game_table (fun vs H Q E h => ?_) (fun cdv A outer s H vs Q E hr h => ?_)
  · obtain ⟨F, B, R, o, ⟨n, b, t, tab, v0, v1, v2, v3, rfl, _⟩, _⟩ := h
    rfl
  · obtain ⟨F, B, R, o, ⟨n, b, t, tab, v0, v1, v2, v3, rfl, r0, r1, r2, r3, ok, rfl⟩, q⟩ := h
    refine ⟨_, (pss_cons (ps_if (pt_not (pt_val (pe_call c_has_rows.ok (hr.mono (by first | decide | omega)) (by rfl) c_has_rows.m c_has_rows.kp c_has_rows.b c_has_rows.hv pass0 (pa_cons (pv 0) (pa_cons (pv 2) (pa_cons (pv 3) pa_nil)))))) (pss_one (ps_ret (pe_bl))) pss_nil)
    (pss_cons (ps_set (i := 4) sc_shows_game_table.nd rfl (Or.inl rfl) (pe_callTy (k_dictF (hc := rfl) (hu := hr.units)) (by rfl) T.z_dict (by decide +kernel) (pa_cons (pv 3) pa_nil)))
    (pss_cons (ps_for PassesOwn.never rfl (k_iTup K (hl := (pv 3))) (k_pg K (n := 2) (hc := rfl) (hs := (pgs_cons (pg_name (i := 5) sc_shows_game_table.nd rfl (Or.inl rfl)) (pgs_cons (pg_name (i := 6) sc_shows_game_table.nd rfl (Or.inl rfl)) pgs_nil))))
    (pss_cons (ps_if (pt_cmpR op_ne (pe_cmpR op_lt (pe_ix (k_ixT K) (pv 5) (pe_int) (fun _ _ => rfl)) (pv 1) (nomark _)) (pe_cmpR op_eq (pv 6) (pe_int) (nomark _)) (nomark _)) (pss_one (ps_ret (pe_bl))) pss_nil)
    (pss_one (ps_if (PW.pt (pw_and (pt_cmpR op_ge (pe_ix (k_ixT K) (pv 5) (pe_int) (fun _ _ => rfl)) (pv 1) (nomark _)) (pw_and1 (pt_not (pt_val (pe_call c_is_right_number.ok (hr.mono (by first | decide | omega)) (by rfl) c_is_right_number.m c_is_right_number.kp c_is_right_number.b c_is_right_number.hv pass0 (pa_cons (pv 6) (pa_cons (pe_call c_choices.ok (hr.mono (by first | decide | omega)) (by rfl) c_choices.m c_choices.kp c_choices.b c_choices.hv pass0 (pa_cons (pv 5) (pa_cons (pv 1) pa_nil))) (pa_cons (pv 4) pa_nil))))))))) (pss_one (ps_ret (pe_bl))) pss_nil))))
    (pss_one (ps_ret (pe_bl)))))), ?_⟩
    refine fn_run (B := B) ?_ o q
    have hn := ok.n3
    have hrow : ∀ q ∈ tab, q.1 ∈ sortedM n t 0 := fun q hq => by rw [← ok.rows]; exact List.mem_map.mpr ⟨q, hq, rfl⟩
    have thing : ∀ {B' : Hp} {σ : L2.St}, Ex B B' → σ[3]? = some (some v3) → EvR (tVar 3) σ B' (rtab (tabP tab)) := fun e h => d_var (mono_rtab _) (v := v3) h (mono_rtab _ e r3)
    refine e_if (b := false) (b_not (b_val (d_callP (R := rp (.bool true)) (RA := fun B' vs => ∃ w0 w1 w2, vs = [w0, w1, w2] ∧ Rp B' w0 (.int ((n + 1 : Nat) : Int)) ∧ Rp B' w1 (.int (t : Nat)) ∧ rtab (tabP tab) B' w2) ?_ fun B' vs e ra => ?_))) (fun h => by cases h) fun _ => ?_
    · exact fun F H o Q q => d_v (i := 0) r0 rfl F H o _ fun w0 H1 e1 q0 => d_v (i := 2) r2 rfl F H1 (o.go e1) _ fun w1 H2 e2 q1 => thing (B' := B) (Ex.refl _) rfl F H2 (o.go (e1.trans e2)) _ fun w2 H3 e3 q2 =>
        q _ H3 ((e1.trans e2).trans e3) ⟨w0, w1, w2, rfl, q0.mono (cut_mono (e2.trans e3)), q1.mono (cut_mono e3), q2⟩
    · obtain ⟨w0, w1, w2, rfl, q0, q1, q2⟩ := ra
      exact ⟨n, t, tab, w0, w1, w2, rfl, q0, q1, q2, ok.n3, ok.t24, ok.rows, ok.pos, rfl⟩
    · have hnd : ((tabD tab).map (·.1)).Nodup := by
        have e1 : (tabD tab).map (·.1) = tab.map (·.1) := by rw [tabD, List.map_map]; rfl
        rw [e1, ok.rows]
        exact sorted_nodup n t 0
      have e0 : tabP tab = (tabD tab).map fun r => PyData.tuple [tI r.1, r.2] := by rw [tabD, List.map_map]; rfl
      refine e_asg (EvN.ev (d_dictF (l := tabD tab) (by rw [← e0]; exact thing (Ex.refl _) rfl) hnd)) fun v4 B1 e1 r4 => ?_
      refine e_for2 tab (fun q => PyData.tuple [tI q.1, oD q.2]) (badRow n b tab) (fun σ' => ∃ x5 x6, σ' = [some v0, some v1, some v2, some v3, some v4, x5, x6]) (i_tupF (thing e1 rfl)) ⟨none, none, rfl⟩ (fun q hq v σ' B' hS e rv => ?_) (fun hz σ' B' hS e => ?_)
      · obtain ⟨x5, x6, rfl⟩ := hS
        obtain ⟨y5, y6, t5, t6, tg⟩ := tg_pair (K := K) (i := 5) (j := 6) (σ := [some v0, some v1, some v2, some v3, some v4, x5, x6]) rv
        have hl := sorted_len n t 0 q.1 (hrow q hq)
        have hd0 : atI (q.1.map PyData.int) 0 = some (.int (q.1.getD 0 0)) := by
          cases e : q.1 with
          | nil => rw [e] at hl; cases hl
          | cons x r => exact atI_nat (show ((x :: r).map PyData.int)[0]? = _ from rfl)
        have hd : EvD (tOp (rIxT K) (tVar 5) (tC (.int 0))) [some v0, some v1, some v2, some v3, some v4, some y5, some y6] B' (.int (q.1.getD 0 0)) := dop (d_v t5) d_int (o_ixT hd0)
        have r1' := r1.mono (e1.trans e)
        have fnd : tab.find? (badRow n b tab) = some q → EvR (tC (.bl false)) [some v0, some v1, some v2, some v3, some v4, some y5, some y6] B' (rp (.bool (showsM n b tab))) := fun hf => by
          unfold showsM
          rw [hf]
          exact d_bl
        refine ⟨_, _, _, tg, ⟨_, _, rfl⟩, rfl, b_cmp (dop (dop hd (d_v r1') o_lt) (dop (d_v t6) d_int o_eqO) o_neB), fun _ hf => fnd hf, fun _ => b_and (b_cmp (dop hd (d_v r1') o_ge)) fun hge => b_not (b_val ?_), fun _ hf => fnd hf⟩
        have hge := of_decide_eq_true hge
        have hfit : ∀ d ∈ demandsM n b, Fits q.1 d b := fun d hd => fits_of hn ok.t24 ok.b4 (hrow q hq) hge hd
        refine d_callP (RA := fun B' vs => ∃ w0 w1 w2, vs = [w0, w1, w2] ∧ Rp B' w0 (oD q.2) ∧ Rp B' w1 (.list ((choicesM n q.1 b).map lT)) ∧ rd (tabD tab) B' w2) ?_ fun B'' vs e'' ra => ?_
        · exact fun F H o Q k => d_v (i := 6) t6 rfl F H o _ fun w0 H1 g1 q0 => dcall (d_cons (d_v t5) (d_cons (d_v r1') d_nil)) (fun B'' vs e'' ra => ⟨n, q.1, b, ra, hl, hn, ok.b4, hfit, rfl⟩) F H1 (o.go g1) _ fun w1 H2 g2 q1 =>
            d_var (R := rd (tabD tab)) (mono_rd _) (i := 4) (v := v4) rfl (mono_rd _ e r4) F H2 (o.go (g1.trans g2)) _ fun w2 H3 g3 q2 => k _ H3 ((g1.trans g2).trans g3) ⟨w0, w1, w2, rfl, q0.mono (cut_mono (g2.trans g3)), q1.mono (cut_mono g3), q2⟩
        · obtain ⟨w0, w1, w2, rfl, q0, q1, q2⟩ := ra
          exact ⟨q.2, tab, choicesM n q.1 b, w0, w1, w2, rfl, q0, q1, q2, ok.lots q hq hge, rfl⟩
      · obtain ⟨x5, x6, rfl⟩ := hS
        have hs : showsM n b tab = true := by
          unfold showsM
          rw [hz]
          rfl
        rw [hs]
        exact e_ret d_bl
end
end K78
namespace K78
open PySem PySem.Spec PyProof.Rows L2 Evl G
theorem erase_perm {α : Type} {l : List α} {k : Nat} (h : k < l.length) : ([l[k]] ++ l.eraseIdx k).Perm l := by
  rw [List.eraseIdx_eq_take_drop_succ]
  have e : l = l.take k ++ l[k] :: l.drop (k + 1) := by rw [← List.drop_eq_getElem_cons h, List.take_append_drop]
  refine List.Perm.trans ?_ (List.Perm.of_eq e.symm)
  show (l[k] :: (l.take k ++ l.drop (k + 1))).Perm _
  exact List.perm_middle.symm
theorem erase_map {α β : Type} {f : α → β} {l : List α} {k : Nat} : (l.map f).eraseIdx k = (l.eraseIdx k).map f := by
  rw [List.eraseIdx_eq_take_drop_succ, List.eraseIdx_eq_take_drop_succ, List.map_append, List.map_take, List.map_drop]
theorem b01 (b : Bool) : -(2 ^ 64) < (if b = true then (1 : Int) else 0) ∧ (if b = true then (1 : Int) else 0) < 2 ^ 64 := by cases b <;> decide
section
variable {P : Program} {w : World} {K : PySem.W.Frag} {mg : Str → Option Value} {base : Heap}
/-! ### _law_hand -/
abbrev s__law_hand : Stmt := topS 23
theorem sc__law_hand : FnScope ["script", "k", "cell", "great"] ["script", "k"] (defScope s__law_hand) := ⟨rfl, rfl, rfl, by decide +kernel, rfl, by decide +kernel, by decide +kernel⟩
-- slots: 0 script, 1 k, 2 cell, 3 great; cells: 
def spHand (K : PySem.W.Frag) : Sp := fun vs H Q E => ∃ (F : Addr → Prop) (B : Hp) (a : Addr) (ns : List Int) (k : Nat), Off F B H ∧ vs = [.ref a, .int (k : Nat)] ∧ SqL K B a (ns.map V.int) ∧ k ≤ 1000 ∧
  ∀ p H', H p = none → Ex H H' → HandAt H' p 0 → Q (.ref p) H'
theorem ok_hand (T : Zs mg) {f : Addr} {fd : FuncData} (F : Fun K "_law_hand" "_law_hand" s__law_hand f fd) : FnOk P w K mg base CX0 1 f fd ["script", "k"] (spHand K) := by
  refine F.ok sc__law_hand (fun vs H Q E h => ?_) (fun cdv A outer s H vs Q E hr h => ?_)
  · obtain ⟨F, B, a, ns, k, o, rfl, _⟩ := h
    rfl
  · obtain ⟨F, B, a, ns, k, o, rfl, r0, hk, q⟩ := h
    obtain ⟨v1, r1, hv1⟩ : ∃ v1, Rp B v1 (.int (k : Nat)) ∧ V.int (k : Nat) = v1 := ⟨_, .int _, rfl⟩
    rw [hv1]
    refine ⟨_, (pss_cons (ps_set (i := 2) sc__law_hand.nd rfl (Or.inl rfl) (pe_ifExp (pt_cmpR op_lt (pv 1) (pe_callB (k_len K) (by rfl) T.z_len (by decide +kernel) (pa_cons (pv 0) pa_nil)) (nomark _)) (pe_ix (k_ixL K) (pv 0) (pv 1) (fun _ _ => rfl)) (pe_int)))
    (pss_cons (ps_set (i := 3) sc__law_hand.nd rfl (Or.inl rfl) (pe_op op_mul (pe_op op_modN (pe_callB call_abs (by rfl) T.z_abs (by decide +kernel) (pa_cons (pv 2) pa_nil)) (pe_op op_mulW (pe_op op_mulW (pe_op op_pow (pe_int) (pe_int)) (pe_op op_pow (pe_int) (pe_int))) (pe_op op_pow (pe_int) (pe_int)))) (pe_callTy call_int1 (by rfl) T.z_int (by decide +kernel) (pa_cons (pe_cmpR op_ge (pe_callB call_abs (by rfl) T.z_abs (by decide +kernel) (pa_cons (pv 2) pa_nil)) (pe_op op_pow (pe_int) (pe_int)) (nomark _)) pa_nil))))
    (pss_one (ps_ret (pe_lst (pa_cons (pv 3) (pa_cons (pe_op op_modN (pe_op op_mul (pe_op op_add (pe_op op_add (pe_op op_modN (pv 2) (pe_int)) (pe_op op_mul (pe_int) (pv 1))) (pe_int)) (pe_int)) (pe_int)) (pa_cons (pe_int) pa_nil)))))))), ?_⟩
    refine h_asgD (d := .int (if k < ns.length then ns.getD k 0 else 0)) (d_if (b := decide (((k : Nat) : Int) < ((ns.length : Nat) : Int))) (b_cmp (as_eq (dop (d_v r1) (d_lenS r0) o_lt) (by rw [List.length_map]))) (fun h => ?_) (fun h => ?_)) o fun v2 H1 e1 o1 x1 r2 => ?_
    · have h' : k < ns.length := by have := of_decide_eq_true h; omega
      rw [if_pos h']
      exact d_ixS r0 (d_v r1) (atI_nat (by rw [List.getElem?_map, List.getD_eq_getElem?_getD, List.getElem?_eq_getElem h']; rfl))
    · have h' : ¬ k < ns.length := by have := of_decide_eq_false h; omega
      rw [if_neg h']
      exact d_int
    · generalize (if k < ns.length then ns.getD k 0 else 0) = cell at r2
      have ab : EvD _ _ _ _ := dcb (d_cons (d_v (i := 2) (σ := [some (.ref a), some v1, some v2, none]) r2) d_nil) c_abs
      have r1' := r1.mono x1
      obtain rfl := r1'.int_inv
      clear hv1
      refine h_asgD (dop (dop ab (dop (dop (dop d_int d_int (o_pow (by unfold CPow; decide +kernel))) (dop d_int d_int (o_pow (by unfold CPow; decide +kernel))) (o_mulW (by unfold CMulW; decide +kernel))) (dop d_int d_int (o_pow (by unfold CPow; decide +kernel))) (o_mulW (by unfold CMulW; decide +kernel))) (o_modN (by decide +kernel)))
        (dcb (d_cons (dop ab (dop d_int d_int (o_pow (by unfold CPow; decide +kernel))) o_ge) d_nil) c_intb) (o_mul (Or.inr ?_))) o1 fun v3 H2 e2 o2 x2 r3 => ?_
      · exact b01 _
      · have c1 := fmod_lo (i := cell) (j := 2147483629) (by decide)
        refine h_retL (d_cons (d_v (i := 3) r3) (d_cons (dop (dop (dop (dop (dop (d_v (i := 2) (r2.mono x2)) (d_int (i := 2147483629)) (o_modN (by decide))) (dop (d_int (i := 8075)) (d_v (i := 1) (.int _)) (o_mul (Or.inl (by decide)))) o_add) (d_int (i := 91)) o_add) (d_int (i := 48271)) (o_mul (Or.inr (by decide)))) (d_int (i := 2147483647)) (o_modN (by decide))) (d_cons d_int d_nil))) o2 (by show 3 ≤ 100000; decide) fun p vs H3 hp0 e3 hp rA => ?_
        obtain ⟨a', b, c, rfl, ra, rb, rc⟩ := rpa3 rA
        obtain rfl := rb.int_inv
        obtain rfl := rc.int_inv
        obtain rfl := ra.int_inv
        have e13 := (e1.trans e2).trans e3
        refine q p _ (fresh_back e13 hp) (e13.trans (Ex.new hp)) ⟨_, _, _, upd_same, ?_⟩
        have c2 := fmod_lo (i := (cell.fmod 2147483629 + 8075 * (k : Int) + 91) * 48271) (j := 2147483647) (by decide)
        exact ⟨c2.1, c2.2, Int.le_refl _, Int.le_refl _⟩
/-! ### _law_take -/
abbrev s__law_take : Stmt := topS 24
theorem sc__law_take : FnScope ["hand", "many", "digit", "prime", "drawn"] ["hand", "many"] (defScope s__law_take) := ⟨rfl, rfl, rfl, by decide +kernel, rfl, by decide +kernel, by decide +kernel⟩
-- slots: 0 hand, 1 many, 2 digit, 3 prime, 4 drawn; cells: 
theorem ix_at {K : PySem.W.Frag} {σ : L2.St} {H : Hp} {p : Addr} {xs : List V} {i : Int} {v : V} {Q : VK} {j : Nat} (h0 : σ[j]? = some (some (.ref p))) (h : H p = some (.lst xs)) (e : atI xs i = some v) (q : Q v H) : tOp (rIxL K) (tVar j) (tC (.int i)) σ H Q :=
  ⟨.ref p, h0, p, xs, i, v, rfl, rfl, sq_of h, e, q⟩
theorem primes {r : Int} (h0 : 0 ≤ r) (h5 : r < 5) : ∃ v, atI [V.int 2147483647, V.int 2147483629, V.int 2147483587, V.int 2147483579, V.int 2147483563] r = some (V.int v) ∧ 2147483563 ≤ v ∧ v ≤ 2147483647 := by
  obtain rfl | rfl | rfl | rfl | rfl : r = 0 ∨ r = 1 ∨ r = 2 ∨ r = 3 ∨ r = 4 := by omega
  · exact ⟨_, rfl, by decide, by decide⟩
  · exact ⟨_, rfl, by decide, by decide⟩
  · exact ⟨_, rfl, by decide, by decide⟩
  · exact ⟨_, rfl, by decide, by decide⟩
  · exact ⟨_, rfl, by decide, by decide⟩
def spTake : Sp := fun vs H Q E => ∃ (p : Addr) (m : Nat) (many : Int), vs = [.ref p, .int many] ∧ HandAt H p m ∧ m ≤ 100000 ∧ 1 ≤ many ∧ many ≤ 1000 ∧ ∀ i H', 0 ≤ i → i < many → But p H H' → HandAt H' p (m + 1) → Q (.int i) H'
theorem ok_take (T : Zs mg) {f : Addr} {fd : FuncData} (F : Fun K "_law_take" "_law_take" s__law_take f fd) : FnOk P w K mg base CX0 1 f fd ["hand", "many"] spTake := by
  refine F.ok sc__law_take (fun vs H Q E h => ?_) (fun cdv A outer s H vs Q E hr h => ?_)
  · obtain ⟨p, m, many, rfl, _⟩ := h
    rfl
  · obtain ⟨p, m, many, rfl, hh, hm, h1m, hm2, q⟩ := h
    refine ⟨_, (pss_cons (ps_if (pt_cmpR op_gt (pe_ix (k_ixL K) (pv 0) (pe_int) (fun _ _ => rfl)) (pe_int) (nomark _)) (pss_cons (ps_set (i := 2) sc__law_take.nd rfl (Or.inl rfl) (pe_op op_modN (pe_ix (k_ixL K) (pv 0) (pe_int) (fun _ _ => rfl)) (pv 1)))
    (pss_cons (ps_asg (pe_op op_fdivN (pe_ix (k_ixL K) (pv 0) (pe_int) (fun _ _ => rfl)) (pv 1)) (pg_sub (pv 0) (pe_int) set_list))
    (pss_one (ps_ret (pv 2))))) pss_nil)
    (pss_cons (ps_asg (pe_op op_add (pe_ix (k_ixL K) (pv 0) (pe_int) (fun _ _ => rfl)) (pe_int)) (pg_sub (pv 0) (pe_int) set_list))
    (pss_cons (ps_set (i := 3) sc__law_take.nd rfl (Or.inl rfl) (pe_ix (k_ixL K) (pe_lst (pa_cons (pe_int) (pa_cons (pe_int) (pa_cons (pe_int) (pa_cons (pe_int) (pa_cons (pe_int) pa_nil)))))) (pe_op op_modN (pe_ix (k_ixL K) (pv 0) (pe_int) (fun _ _ => rfl)) (pe_int)) (fun _ _ => rfl)))
    (pss_cons (ps_set (i := 4) sc__law_take.nd rfl (Or.inl rfl) (pe_op op_modN (pe_op op_pow (pe_op op_add (pe_ix (k_ixL K) (pv 0) (pe_int) (fun _ _ => rfl)) (pe_op op_mul (pe_int) (pe_ix (k_ixL K) (pv 0) (pe_int) (fun _ _ => rfl)))) (pe_int)) (pv 3)))
    (pss_one (ps_ret (pe_op op_modN (pe_op op_fdivN (pe_op op_modN (pe_op op_mul (pv 4) (pe_op op_add (pe_op op_modN (pv 4) (pe_int)) (pe_ix (k_ixL K) (pv 0) (pe_int) (fun _ _ => rfl)))) (pv 3)) (pe_int)) (pv 1)))))))), ?_⟩
    obtain ⟨g, h1, h2, hp, b1, b2, b3, b4⟩ := hh.at_
    refine ix_at (p := p) rfl hp rfl ⟨g, 0, rfl, rfl, _, rfl, ?_⟩
    by_cases hg : 0 < g
    · show if decide (0 < g) = true then _ else _
      rw [if_pos (decide_eq_true hg)]
      refine ix_at (p := p) rfl hp rfl ⟨.int many, rfl, g, many, rfl, rfl, by omega, ?_⟩
      refine ix_at (p := p) rfl hp rfl ⟨.int many, rfl, g, many, rfl, rfl, ⟨by omega, by omega⟩, ?_⟩
      refine ⟨.ref p, rfl, p, _, 0, 0, rfl, rfl, hp, rfl, ?_⟩
      have c := fmod_lo (i := g) (j := many) (by omega)
      exact ⟨_, rfl, q _ _ c.1 c.2 But.upd ⟨_, _, _, upd_same, b1, b2, b3, by omega⟩⟩
    · show if decide (0 < g) = true then _ else _
      rw [if_neg (by simpa using hg)]
      refine ix_at (p := p) rfl hp rfl ⟨h2, 1, rfl, rfl, ?_⟩
      refine ⟨.ref p, rfl, p, _, 2, 2, rfl, rfl, hp, rfl, ?_⟩
      obtain ⟨H1, hH1⟩ : ∃ H1, upd H p (.lst [.int g, .int h1, .int (h2 + 1)]) = H1 := ⟨_, rfl⟩
      have hp1 : H1 p = some (.lst [.int g, .int h1, .int (h2 + 1)]) := by rw [← hH1]; exact upd_same
      have bt : But p H H1 := by rw [← hH1]; exact But.upd
      show tSeq _ _ _ _ (upd H p (.lst [.int g, .int h1, .int (h2 + 1)]))
      rw [hH1]
      refine ⟨by show 5 ≤ sizeLine; decide, fun l hl => ?_⟩
      have e1 : Ex H1 (upd H1 l (.lst [.int 2147483647, .int 2147483629, .int 2147483587, .int 2147483579, .int 2147483563])) := Ex.new hl
      have hl2 : (upd H1 l (.lst [V.int 2147483647, V.int 2147483629, V.int 2147483587, V.int 2147483579, V.int 2147483563])) l = some (.lst [V.int 2147483647, V.int 2147483629, V.int 2147483587, V.int 2147483579, V.int 2147483563]) := upd_same
      generalize upd H1 l (.lst [V.int 2147483647, V.int 2147483629, V.int 2147483587, V.int 2147483579, V.int 2147483563]) = H2 at e1 hl2 ⊢
      have hp2 := e1 _ _ hp1
      have c5 := fmod_lo (i := h2 + 1) (j := 5) (by decide)
      obtain ⟨pr, hpr, p1, p2⟩ := primes c5.1 c5.2
      refine ix_at (p := p) rfl hp2 rfl ⟨h2 + 1, 5, rfl, rfl, (by show (5 : Int) ≠ 0; decide), l, _, _, _, rfl, rfl, sq_of hl2, hpr, ?_⟩
      refine ix_at (p := p) rfl hp2 rfl (ix_at (p := p) rfl hp2 rfl ⟨7919, h2 + 1, rfl, rfl, Or.inl (by decide), h1, _, rfl, rfl, _, 3, rfl, rfl, ⟨by decide, by decide, by omega⟩, .int pr, rfl, _, pr, rfl, rfl, by omega, ?_⟩)
      obtain ⟨dr, hdr⟩ : ∃ dr, ((h1 + 7919 * (h2 + 1)) ^ (3 : Int).toNat).fmod pr = dr := ⟨_, rfl⟩
      have cd := fmod_lo (i := (h1 + 7919 * (h2 + 1)) ^ (3 : Int).toNat) (j := pr) (by omega)
      rw [hdr] at cd
      simp only [hdr]
      have c3 := fmod_lo (i := dr) (j := 1009) (by decide)
      refine ⟨.int dr, rfl, .int dr, rfl, dr, 1009, rfl, rfl, (by show (1009 : Int) ≠ 0; decide), ix_at (p := p) rfl hp2 rfl ⟨_, h2 + 1, rfl, rfl, dr, _, rfl, rfl, Or.inl ⟨by omega, by omega⟩, .int pr, rfl, _, pr, rfl, rfl, by omega, _, 11, rfl, rfl, ⟨by decide, by decide⟩, .int many, rfl, _, many, rfl, rfl, by omega, ?_⟩⟩
      have c := fmod_lo (i := (((dr * (dr.fmod 1009 + (h2 + 1))).fmod pr).fdiv 11)) (j := many) (by omega)
      exact q _ _ c.1 c.2 (bt.trans (But.ex e1)) ⟨_, _, _, hp2, b1, b2, by omega, by omega⟩
/-! ### _law_of -/
abbrev s__law_of : Stmt := topS 25
theorem sc__law_of : FnScope ["hand", "some"] ["hand", "some"] (defScope s__law_of) := ⟨rfl, rfl, rfl, by decide +kernel, rfl, by decide +kernel, by decide +kernel⟩
-- slots: 0 hand, 1 some; cells: 
def spOf : Sp := fun vs H Q E => ∃ (p l : Addr) (m : Nat) (xs : List V), vs = [.ref p, .ref l] ∧ HandAt H p m ∧ m ≤ 100000 ∧ l ≠ p ∧ H l = some (.lst xs) ∧ 1 ≤ xs.length ∧ xs.length ≤ 1000 ∧ ∀ v H', v ∈ xs → But p H H' → HandAt H' p (m + 1) → Q v H'
theorem ok_of (T : Zs mg) (c__law_take : Cal P w K mg base 1 "_law_take" ["hand", "many"] [] spTake) {f : Addr} {fd : FuncData} (F : Fun K "_law_of" "_law_of" s__law_of f fd) : FnOk P w K mg base CX0 2 f fd ["hand", "some"] spOf := by
  refine F.ok sc__law_of (fun vs H Q E h => ?_) (fun cdv A outer s H vs Q E hr h => ?_)
  · obtain ⟨p, l, m, ns, rfl, _⟩ := h
    rfl
  · obtain ⟨p, l, m, xs, rfl, hh, hm, hne, hl, h1, h2, q⟩ := h
    refine ⟨_, (pss_one (ps_ret (pe_ix (k_ixL K) (pv 1) (pe_call c__law_take.ok (hr.mono (by first | decide | omega)) (by rfl) c__law_take.m c__law_take.kp c__law_take.b c__law_take.hv pass0 (pa_cons (pv 0) (pa_cons (pe_callB (k_len K) (by rfl) T.z_len (by decide +kernel) (pa_cons (pv 1) pa_nil)) pa_nil))) (fun _ _ => rfl)))), ?_⟩
    refine ⟨.ref l, rfl, .ref p, rfl, .ref l, rfl, l, _, rfl, .inl (sq_of hl), p, m, _, rfl, hh, hm, by omega, by omega, fun i H' i0 i1 bt hh' => ?_⟩
    obtain ⟨k, rfl⟩ : ∃ k : Nat, i = (k : Int) := ⟨i.toNat, by omega⟩
    have hk : k < xs.length := by omega
    exact ⟨l, _, _, _, rfl, rfl, sq_of (bt l _ hne hl), atI_nat (List.getElem?_eq_getElem hk), q _ H' (List.getElem_mem hk) bt hh'⟩
/-! ### _law_mixed -/
abbrev s__law_mixed : Stmt := topS 26
theorem sc__law_mixed : FnScope ["hand", "some", "left", "found"] ["hand", "some"] (defScope s__law_mixed) := ⟨rfl, rfl, rfl, by decide +kernel, rfl, by decide +kernel, by decide +kernel⟩
-- slots: 0 hand, 1 some, 2 left, 3 found; cells: 
def spMixed : Sp := fun vs H Q E => ∃ (p a : Addr) (m : Nat) (ns : List Int), vs = [.ref p, .ref a] ∧ HandAt H p m ∧ m ≤ 90000 ∧ H a = some (.tup (ns.map V.int)) ∧ ns.length ≤ 60 ∧ ∀ (l : Addr) (H' : Hp) (ms : List Int), ms.Perm ns → But p H H' → HandAt H' p (m + ns.length) → H' l = some (.lst (ms.map V.int)) → l ≠ p → H l = none → Q (.ref l) H'
theorem ok_mixed (T : Zs mg) (c__law_take : Cal P w K mg base 1 "_law_take" ["hand", "many"] [] spTake) {f : Addr} {fd : FuncData} (F : Fun K "_law_mixed" "_law_mixed" s__law_mixed f fd) : FnOk P w K mg base CX0 2 f fd ["hand", "some"] spMixed := by
  refine F.ok sc__law_mixed (fun vs H Q E h => ?_) (fun cdv A outer s H vs Q E hr h => ?_)
  · obtain ⟨p, a, m, ns, rfl, _⟩ := h
    rfl
  · obtain ⟨p, a, m, ns, rfl, hh, hm, ha, hn, q⟩ := h
    refine ⟨_, (pss_cons (ps_par (i := 2) (j := 3) (by rfl) sc__law_mixed.nd rfl rfl (by decide) rfl rfl (pa_cons (pe_callTy (k_list K) (by rfl) T.z_list (by decide +kernel) (pa_cons (pv 1) pa_nil)) (pa_cons (pe_lst pa_nil) pa_nil)) (by rfl))
    (pss_cons (ps_while PassesOwn.never (pt_cmpR (k_neD K (hu := hr.units)) (pv 2) (pe_lst pa_nil) (nomark _)) (pss_one (ps_expr (k_bm K PySem.F.plainAttrs_list PySem.F.slot_list_append PySem.F.type_list_append mt_append (pv 3) (pa_cons (k_bm K PySem.F.plainAttrs_list PySem.F.slot_list_pop PySem.F.type_list_pop mt_popAt (pv 2) (pa_cons (pe_call c__law_take.ok (hr.mono (by first | decide | omega)) (by rfl) c__law_take.m c__law_take.kp c__law_take.b c__law_take.hv pass0 (pa_cons (pv 0) (pa_cons (pe_callB (k_len K) (by rfl) T.z_len (by decide +kernel) (pa_cons (pv 2) pa_nil)) pa_nil))) pa_nil)) pa_nil)))))
    (pss_one (ps_ret (pv 3))))), ?_⟩
    have hap : ∀ {x : Addr} {h : Hp}, HandAt h p m → h x = none → x ≠ p := fun hh e z => by
      obtain ⟨u, hu, _⟩ := hh.dom
      rw [z, hu] at e
      cases e
    refine ⟨.ref a, rfl, a, ns.map V.int, rfl, .inr (st_of ha), fun l2 hl2 => ⟨Nat.zero_le _, fun f3 hf3 => ⟨_, _, rfl, ?_⟩⟩⟩
    have n2 : l2 ≠ p := hap hh hl2
    have e1 : Ex H (upd H l2 (.lst (ns.map V.int))) := Ex.new hl2
    have n3 : f3 ≠ p := hap (hh.mono e1) hf3
    have n23 : f3 ≠ l2 := fun z => by rw [z, upd_same] at hf3; cases hf3
    have hf0 : H f3 = none := by rw [upd_ne n23] at hf3; exact hf3
    have e2 : Ex (upd H l2 (.lst (ns.map V.int))) (upd (upd H l2 (.lst (ns.map V.int))) f3 (.lst [])) := Ex.new hf3
    have g2 : (upd (upd H l2 (.lst (ns.map V.int))) f3 (.lst [])) l2 = some (.lst (ns.map V.int)) := e2 _ _ upd_same
    have g3 : (upd (upd H l2 (.lst (ns.map V.int))) f3 (.lst [])) f3 = some (.lst []) := upd_same
    have e12 := e1.trans e2
    generalize upd (upd H l2 (.lst (ns.map V.int))) f3 (.lst []) = H2 at e12 g2 g3 ⊢
    refine ⟨fun mm σ' H' => ∃ left found : List Int, σ' = [some (.ref p), some (.ref a), some (.ref l2), some (.ref f3)] ∧ mm = left.length ∧ (found ++ left).Perm ns ∧ But p H H' ∧ HandAt H' p (m + found.length) ∧ H' l2 = some (.lst (left.map V.int)) ∧ H' f3 = some (.lst (found.map V.int)),
      ⟨_, ns, [], rfl, rfl, List.Perm.refl _, But.ex e12, hh.mono e12, g2, g3⟩, ?_⟩
    rintro mm σ' H' ⟨left, found, rfl, rfl, pm, bt, hh', k2, k3⟩
    have oF : Off (fun c => c = p) (cut (fun c => c = p) H') H' := Off.of fun c hc => by rw [hc]; exact hh'.dom
    refine (b_eq (b_cmp (dop (d_v (i := 2) (d := lI left) (.lI_mk (cut_at n2 k2))) (d_lst d_nil (Nat.zero_le _)) (o_neD (shaped_lI left) rfl))) (show _ = !left.isEmpty by rw [eqv_nil, List.isEmpty_map]) : EvB _ [some (.ref p), some (.ref a), some (.ref l2), some (.ref f3)] (cut (fun c => c = p) H') _) _ H' oF _ fun H3 e3 => ?_
    have lens := pm.length_eq
    rw [List.length_append] at lens
    have j2 := e3 _ _ k2
    have j3 := e3 _ _ k3
    have hh3 := hh'.mono e3
    cases hle : left with
    | nil =>
      rw [if_neg (by decide)]
      rw [hle, List.append_nil] at pm
      refine ⟨.ref f3, rfl, q f3 H3 found pm (bt.trans (But.ex e3)) (hh3.le (by rw [hle] at lens; simp at lens; omega)) j3 n3 hf0⟩
    | cons x r =>
      rw [if_pos (show (!(x :: r).isEmpty) = true from rfl)]
      rw [← hle]
      have hpos : 0 < left.length := by rw [hle]; exact Nat.succ_pos _
      refine ⟨_, fun _ _ h => h, ?_⟩
      refine ⟨.ref f3, rfl, tyV_l j3, .ref l2, rfl, tyV_l j2, .ref p, rfl, .ref l2, rfl, l2, _, rfl, .inl (sq_of j2), p, m + found.length, _, rfl, hh3, by omega, by rw [List.length_map]; omega, by rw [List.length_map]; omega, fun i H4 i0 i1 bt4 hh4 => ?_⟩
      rw [List.length_map] at i1
      obtain ⟨k, rfl⟩ : ∃ k : Nat, i = (k : Int) := ⟨i.toNat, by omega⟩
      have hk : k < left.length := by omega
      have m2 := bt4 l2 _ n2 j2
      have m3 := bt4 f3 _ n3 j3
      refine ⟨l2, _, (k : Int), k, .int left[k], rfl, rfl, m2, by omega, by omega, by rw [seqIndex_of (by omega) (by rw [List.length_map]; omega)]; rfl, by rw [List.getElem?_map, List.getElem?_eq_getElem hk]; rfl, ?_⟩
      refine ⟨f3, _, _, rfl, rfl, by rw [upd_ne n23]; exact m3, sz_lt (by rw [List.length_map]; omega), ?_⟩
      have hel : (left.eraseIdx k).length = left.length - 1 := List.length_eraseIdx_of_lt hk
      refine ⟨_, ?_, left.eraseIdx k, found ++ [left[k]], rfl, rfl, ?_, fun b u nb h => ?_, ?_, ?_, ?_⟩
      · rw [hel]
        omega
      · refine List.Perm.trans ?_ pm
        rw [List.append_assoc]
        exact List.Perm.append_left _ (erase_perm hk)
      · rw [upd_ne (fun z => by rw [z, hf0] at h; cases h), upd_ne (fun z => by rw [z, hl2] at h; cases h)]
        exact bt4 b u nb (e3 _ _ (bt b u nb h))
      · obtain ⟨g, h1, h2, hp, z⟩ := hh4.at_
        rw [List.length_append]
        exact ⟨g, h1, h2, by rw [upd_ne n3.symm, upd_ne n2.symm]; exact hp, z.1, z.2.1, z.2.2.1, by have := z.2.2.2; show h2 ≤ ((m + (found.length + 1) : Nat) : Int); omega⟩
      · rw [upd_ne n23.symm, upd_same, erase_map]
      · rw [upd_same, List.map_append]
        rfl
end
end K78
namespace K78
open PySem PySem.Spec PyProof.Rows L2 Evl G
theorem changed_set {ns : List Int} {i : Nat} {k : Int} (h : i < ns.length) : ns.set i (ns.getD i 0 + k) = changedM ns i k := by
  rw [List.set_eq_take_append_cons_drop, if_pos h]
  rfl
structure Posn (bs : List Int) (n b t : Nat) : Prop where
  len : bs.length = n + 1
  n3 : n ≤ 3
  b4 : b ≤ 4
  sum : bs.sum = (t : Int)
  t24 : t ≤ 24
  bd : ∀ x ∈ bs, 0 ≤ x ∧ x ≤ 24
def ticksM (bs : List Int) (b : Nat) : Option Int := look (numbersM (bs.length - 1) b bs.sum.toNat) (isort bs)
def forceM (bs : List Int) (b : Nat) (here : Int) : Option (List Int) :=
  match bs.zipIdx.find? fun p => decide (p.1 < (b : Int)) with
  | some p => some ((List.replicate p.2 0 ++ [p.1 + 1]) ++ List.replicate (bs.length - p.2 - 1) 0)
  | none => (demandsM (bs.length - 1) b).find? fun d => (resultsM bs d b).all fun later => decide ((look (numbersM (bs.length - 1) b bs.sum.toNat) later).getD here < here)
def oT : Option (List Int) → D
  | none => .none
  | some l => tI l
section
variable {P : Program} {w : World} {K : PySem.W.Frag} {mg : Str → Option Value} {base : Heap}
theorem ev_numbers {σ : L2.St} {B : Hp} {v0 v1 : V} {E : XK} {bs : List Int} {n b t : Nat} (p : Posn bs n b t) (h0 : σ[0]? = some (some v0)) (h1 : σ[1]? = some (some v1)) (r0 : Rp B v0 (tI bs)) (r1 : Rp B v1 (.int (b : Nat))) :
    EvR (tCall (spD preNumbers) [] E (tCons (tCB (G.rLenS K) (tCons (tVar 0) tNil)) (tCons (tVar 1) (tCons (tCB (rSumT K) (tCons (tVar 0) tNil)) tNil)))) σ B (rd (knD (numbersM (bs.length - 1) b bs.sum.toNat))) := by
  refine d_callP (RA := rps [.int ((n + 1 : Nat) : Int), .int (b : Nat), .int (t : Nat)]) (d_cons (as_eq (dcb (d_cons (d_v r0 h0) d_nil) c_lenT) (show PyData.int ((bs.map PyData.int).length : Nat) = _ by rw [List.length_map, p.len])) (d_cons (d_v r1 h1) (d_cons (as_eq (dcb (d_cons (d_v r0 h0) d_nil) c_sumT) (by rw [p.sum])) d_nil))) fun B' vs e ra => ⟨n, b, t, ra, p.n3, p.b4, p.t24, ?_⟩
  rw [p.len, p.sum]
  rfl
theorem ev_sorted {σ : L2.St} {B : Hp} {v0 : V} {bs : List Int} {n b t : Nat} (p : Posn bs n b t) (h0 : σ[0]? = some (some v0)) (r0 : Rp B v0 (tI bs)) :
    EvD (tCB (rTupleOf K) (tCons (tCB (rSortTI K) (tCons (tVar 0) tNil)) tNil)) σ B (tI (isort bs)) :=
  dcb (d_cons (dcb (d_cons (d_v r0 h0) d_nil) (c_sortT (by have := p.len; have := p.n3; omega))) d_nil) c_tupL
/-! ### forcing_demand (a number stands) -/
abbrev s_forcing_demand : Stmt := topS 17
theorem sc_forcing_demand : FnScope ["balances", "budget", "known", "here", "at", "balance", "demand", "later"] ["balances", "budget"] (defScope s_forcing_demand) := ⟨rfl, rfl, rfl, by decide +kernel, rfl, by decide +kernel, by decide +kernel⟩
-- slots: 0 balances, 1 budget, 2 known, 3 here, 4 at, 5 balance, 6 demand, 7 later; cells: here, known
theorem fits_ge {bs d : List Int} {n b t : Nat} (p : Posn bs n b t) (hge : ∀ x ∈ bs, (b : Int) ≤ x) (hd : d ∈ demandsM n b) : Fits bs d b := by
  have l1 := p.len
  have l2 := demands_len n b d hd
  have hn := p.n3
  have hb := p.b4
  refine ⟨by omega, by omega, by omega, fun i hi => ?_, fun x hx => ?_, by omega⟩
  · have h1 := hge _ (getD_mem hi)
    have h2 := demands_bd n b d hd _ (getD_mem (l := d) (i := i) (by omega))
    omega
  · obtain ⟨y, hy, z, hz, rfl⟩ := less_mem hx
    have h1 := hge _ hy
    have h2 := p.bd _ hy
    have h3 := demands_bd n b d hd _ hz
    omega
def preForce (B : Hp) (vs : List V) (R : RelH) : Prop := ∃ (bs : List Int) (n b t : Nat) (here : Int), RpA B vs [tI bs, .int (b : Nat)] ∧ Posn bs n b t ∧ ticksM bs b = some here ∧ R = rp (oT (forceM bs b here))
theorem ok_force (T : Zs mg) (c_numbers_of : Cal P w K mg base 6 "numbers_of" ["count", "budget", "total"] [] (spD preNumbers)) (c_demands_of : Cal P w K mg base 4 "demands_of" ["count", "budget"] [] (spD (preDemands 4))) (c_results : Cal P w K mg base 3 "results" ["balances", "demand", "budget"] [] (spD preResults))
    {f : Addr} {fd : FuncData} (F : Fun K "forcing_demand" "forcing_demand" s_forcing_demand f fd) : FnOk P w K mg base CX0 7 f fd ["balances", "budget"] (spD preForce) := by
  refine F.ok sc_forcing_demand (fun vs H Q E h => ?_) (fun cdv A outer s H vs Q E hr h => ?_)
  · obtain ⟨F, B, R, o, ⟨bs, n, b, t, here, r, _⟩, _⟩ := h
    exact r.length
  · obtain ⟨F, B, R, o, ⟨bs, n, b, t, here, r, p, hh, rfl⟩, q⟩ := h
    obtain ⟨v0, v1, rfl, r0, r1⟩ := rpa2 r
    refine ⟨_, (pss_cons (ps_set (i := 2) sc_forcing_demand.nd rfl (Or.inr rfl) (pe_call c_numbers_of.ok (hr.mono (by first | decide | omega)) (by rfl) c_numbers_of.m c_numbers_of.kp c_numbers_of.b c_numbers_of.hv pass0 (pa_cons (pe_callB (k_len K) (by rfl) T.z_len (by decide +kernel) (pa_cons (pv 0) pa_nil)) (pa_cons (pv 1) (pa_cons (pe_callB (k_sumT K (hc := rfl)) (by rfl) T.z_sum (by decide +kernel) (pa_cons (pv 0) pa_nil)) pa_nil)))))
    (pss_cons (ps_set (i := 3) sc_forcing_demand.nd rfl (Or.inr rfl) (pe_dget1 (hu_of hr) (pv 2) (pe_callTy (k_tuple K) (by rfl) T.z_tuple (by decide +kernel) (pa_cons (pe_callB (k_sortT K) (by rfl) T.z_sorted (by decide +kernel) (pa_cons (pv 0) pa_nil)) pa_nil)) ⟨by rfl, by rfl, by rfl, by rfl⟩))
    (pss_cons (ps_if (pt_cmp (pc_isN (pv 3)) (by rfl)) (pss_one (ps_never)) pss_nil)
    (pss_cons (ps_for PassesOwn.never rfl (k_enumT K (by rfl) T.z_enumerate (pa_cons (pv 0) pa_nil)) (k_pg K (n := 2) (hc := rfl) (hs := (pgs_cons (pg_name (i := 4) sc_forcing_demand.nd rfl (Or.inl rfl)) (pgs_cons (pg_name (i := 5) sc_forcing_demand.nd rfl (Or.inl rfl)) pgs_nil))))
    (pss_one (ps_if (pt_cmpR op_lt (pv 5) (pv 1) (nomark _)) (pss_one (ps_ret (pe_op (k_catT K) (pe_op (k_catT K) (pe_op (k_rep K) (pe_tup (pa_cons (pe_int) pa_nil)) (pv 4)) (pe_tup (pa_cons (pe_op op_add (pv 5) (pe_int)) pa_nil))) (pe_op (k_rep K) (pe_tup (pa_cons (pe_int) pa_nil)) (pe_op op_sub (pe_op op_sub (pe_callB (k_len K) (by rfl) T.z_len (by decide +kernel) (pa_cons (pv 0) pa_nil)) (pv 4)) (pe_int)))))) pss_nil)))
    (pss_cons (ps_for PassesOwn.never rfl (k_iList K (hl := (pe_call c_demands_of.ok (hr.mono (by first | decide | omega)) (by rfl) c_demands_of.m c_demands_of.kp c_demands_of.b c_demands_of.hv pass0 (pa_cons (pe_callB (k_len K) (by rfl) T.z_len (by decide +kernel) (pa_cons (pv 0) pa_nil)) (pa_cons (pv 1) pa_nil))))) (pg_name (i := 6) sc_forcing_demand.nd rfl (Or.inl rfl))
    (pss_one (ps_if (pt_val (pe_callB (k_all K (hc := rfl)) (by rfl) T.z_all (by decide +kernel) (pa_cons (pe_lc (own := [("later", 7)]) rfl sc_forcing_demand.nd (k_iList K (hl := (pe_call c_results.ok (hr.mono (by first | decide | omega)) (by rfl) c_results.m c_results.kp c_results.b c_results.hv pass0 (pa_cons (pv 0) (pa_cons (pv 6) (pa_cons (pv 1) pa_nil)))))) (blkOk_by (by kernel_rfl)) (fun _ _ _ _ _ => (pg_name (i := 7) sc_forcing_demand.nd rfl (Or.inl rfl))) (fun _ _ _ _ _ => pts_nil) (fun _ _ _ _ _ => (pe_cmpR op_lt (pe_dget2 (hu_of hr) (pv 2) (pv 7) (pv 3) ⟨by rfl, by rfl, by rfl, by rfl⟩) (pv 3) (nomark _)))) pa_nil))) (pss_one (ps_ret (pv 6))) pss_nil)))
    (pss_one (ps_ret (pe_non)))))))), ?_⟩
    refine fn_run (B := B) ?_ o q
    clear q o
    refine e_asg (ev_numbers p rfl rfl r0 r1) fun vk B1 x1 rk => ?_
    refine e_asgD (d := .int here) (as_eq (d_dget1 (d_var (mono_rd _) (v := vk) rfl rk) (ev_sorted p rfl (r0.mono x1))) (by rw [look_oD]; show oD (ticksM bs b) = _; rw [hh]; rfl)) fun vh B2 x2 rh => ?_
    have x02 : Ex B B2 := x1.trans x2
    have rk2 := mono_rd _ x2 rk
    refine e_if (b := false) (b_val (d_isN (d_v rh) rfl)) (fun z => by cases z) fun _ => ?_
    refine e_forRet bs.zipIdx (fun p => .tuple [.int (p.2 : Nat), .int p.1]) (fun p => decide (p.1 < (b : Int))) (fun σ' => ∃ x y, σ' = [some v0, some v1, some vk, some vh, x, y, none, none]) (i_enumT' (d_cons (d_v (r0.mono x02)) d_nil)) ⟨none, none, rfl⟩
      (fun x hx v σ' B' hS e rv => ?_) (fun hz σ' B' hS e => ?_)
    · obtain ⟨x4, x5, rfl⟩ := hS
      obtain ⟨y4, y5, t4, t5, tg⟩ := tg_pair (K := K) (i := 4) (j := 5) (σ := [some v0, some v1, some vk, some vh, x4, x5, none, none]) rv
      have hlt : x.2 < bs.length := by
        have := List.snd_lt_of_mem_zipIdx hx
        omega
      have hl := p.len
      have hn3 := p.n3
      refine ⟨_, tg, ⟨_, _, rfl⟩, b_cmp (dop (d_v t5) (d_v (r1.mono (x02.trans e))) o_lt), fun hf => ?_⟩
      have ev : EvD (tOp (rCatA K) (tOp (rCatA K) (tOp (rRepA K) (tTup (tCons (tC (.int 0)) tNil)) (tVar 4)) (tTup (tCons (tOp (rI0 fun i j => .int (i + j)) (tVar 5) (tC (.int 1))) tNil))) (tOp (rRepA K) (tTup (tCons (tC (.int 0)) tNil)) (tOp (rI0 fun i j => .int (i - j)) (tOp (rI0 fun i j => .int (i - j)) (tCB (G.rLenS K) (tCons (tVar 0) tNil)) (tVar 4)) (tC (.int 1)))))
          [some v0, some v1, some vk, some vh, some y4, some y5, none, none] B' (oT (forceM bs b here)) := by
        refine as_eq (dop (dop (dop (d_tup (d_cons d_int d_nil) (by show 1 ≤ 100000; decide)) (d_v t4) (o_repT (by omega) (by omega))) (d_tup (d_cons (dop (d_v t5) d_int o_add) d_nil) (by show 1 ≤ 100000; decide)) (o_catT (by rw [List.length_replicate]; show _ + 1 ≤ _; omega)))
          (dop (d_tup (d_cons d_int d_nil) (by show 1 ≤ 100000; decide)) (dop (dop (dcb (d_cons (d_v (r0.mono (x02.trans e))) d_nil) c_lenT) (d_v t4) o_sub) d_int o_sub) (o_repT (by rw [List.length_map]; omega) (by rw [List.length_map]; omega))) (o_catT (by rw [List.length_append, List.length_replicate, List.length_replicate, List.length_map]; show _ + 1 + _ ≤ _; omega))) ?_
        unfold forceM
        rw [hf]
        show _ = tI _
        have e1 : (((bs.map PyData.int).length : Int) - (x.2 : Int) - 1).toNat = bs.length - x.2 - 1 := by rw [List.length_map]; omega
        rw [e1]
        simp [tI]
      exact ev
    · obtain ⟨x4, x5, rfl⟩ := hS
      have hge : ∀ x ∈ bs, (b : Int) ≤ x := fun x hx => by
        obtain ⟨i, hi, rfl⟩ := List.mem_iff_getElem.mp hx
        have := List.find?_eq_none.mp hz (bs[i], i) (List.mem_zipIdx_iff_getElem?.mpr (by rw [List.getElem?_eq_getElem hi]))
        simpa using this
      have hfm : forceM bs b here = (demandsM n b).find? fun d => (resultsM bs d b).all fun later => decide ((look (numbersM (bs.length - 1) b bs.sum.toNat) later).getD here < here) := by
        unfold forceM
        rw [hz, p.len]
        rfl
      rw [hfm]
      have x0 := x02.trans e
      refine e_forRet (demandsM n b) tI (fun d => (resultsM bs d b).all fun later => decide ((look (numbersM (bs.length - 1) b bs.sum.toNat) later).getD here < here)) (fun σ' => ∃ z, σ' = [some v0, some v1, some vk, some vh, x4, x5, z, none])
        (i_list (dcall (d_cons (as_eq (dcb (d_cons (d_v (r0.mono x0)) d_nil) c_lenT) (show PyData.int ((bs.map PyData.int).length : Nat) = .int ((n + 1 : Nat) : Int) by rw [List.length_map, p.len])) (d_cons (d_v (r1.mono x0)) d_nil)) fun B'' vs e' ra => ⟨n, b, ra, by have := p.n3; omega, p.n3, p.b4, rfl⟩)) ⟨none, rfl⟩
        (fun d hd v σ' B'' hS e' rv => ?_) (fun hz2 σ' B'' hS e' => ?_)
      · obtain ⟨x6, rfl⟩ := hS
        refine ⟨_, tg_name, ⟨_, rfl⟩, ?_, fun hf => ?_⟩
        · have x00 := x0.trans e'
          have xk := e.trans e'
          refine b_val (as_eq (dcb (d_cons (as_eq (d_lc (resultsM bs d b) tI (fun later => .bool (decide ((look (numbersM (bs.length - 1) b bs.sum.toNat) later).getD here < here))) (by have := results_le bs d b; have := p.len; have := p.n3; omega)
            (i_list (dcall (d_cons (d_v (r0.mono x00)) (d_cons (d_v rv) (d_cons (d_v (r1.mono x00)) d_nil))) fun B3 vs e3 ra => ⟨bs, d, b, ra, fits_ge p hge hd, rfl⟩)) fun later hl v7 B3 e3 r7 => ?_) (d' := .list (((resultsM bs d b).map fun later => decide ((look (numbersM (bs.length - 1) b bs.sum.toNat) later).getD here < here)).map PyData.bool)) (by rw [List.map_map]; rfl)) d_nil) c_all) ?_)
          · refine ⟨_, tg_name, rfl, dop (as_eq (d_dget2 (d_var (mono_rd _) (v := vk) rfl (mono_rd _ (xk.trans e3) rk2)) (d_v r7) (d_v (rh.mono (xk.trans e3)))) (look_oD2 _ _ _)) (d_v (rh.mono (xk.trans e3))) o_lt⟩
          · rw [List.all_map]
            rfl
        · rw [hf]
          exact d_v rv
      · obtain ⟨x6, rfl⟩ := hS
        rw [hz2]
        exact e_ret d_non
/-! ### _law_demands -/
abbrev s__law_demands : Stmt := topS 28
theorem sc__law_demands : FnScope ["count", "budget", "found", "first", "others"] ["count", "budget"] (defScope s__law_demands) := ⟨rfl, rfl, rfl, by decide +kernel, rfl, by decide +kernel, by decide +kernel⟩
-- slots: 0 count, 1 budget, 2 found, 3 first, 4 others; cells: first
theorem lawdem_step (T : Zs mg) {m : Nat} {f : Addr} {fd : FuncData} (F : Fun K "_law_demands" "_law_demands" s__law_demands f fd) (c__law_demands : Cal P w K mg base m "_law_demands" ["count", "budget"] [] (spD (preDemands m))) :
    FnOk P w K mg base CX0 (m + 1) f fd ["count", "budget"] (spD (preDemands (m + 1))) := by
  refine F.ok sc__law_demands (fun vs H Q E h => ?_) (fun cdv A outer s H vs Q E hr h => ?_)
  · obtain ⟨F, B, R, o, ⟨n, b, r, _⟩, _⟩ := h
    exact r.length
  · obtain ⟨F, B, R, o, ⟨n, b, r, hm, hn, hb, rfl⟩, q⟩ := h
    obtain ⟨v0, v1, rfl, r0, r1⟩ := rpa2 r
    refine ⟨_, (pss_cons (ps_if (pt_cmpR op_eq (pv 0) (pe_int) (nomark _)) (pss_one (ps_ret (pe_lst (pa_cons (pe_tup (pa_cons (pv 1) pa_nil)) pa_nil)))) pss_nil)
    (pss_cons (ps_set (i := 2) sc__law_demands.nd rfl (Or.inl rfl) (pe_lst pa_nil))
    (pss_cons (ps_for PassesOwn.never rfl (pi_range1 (by rfl) T.z_range (pa_cons (pe_op op_add (pv 1) (pe_int)) pa_nil)) (pg_name (i := 3) sc__law_demands.nd rfl (Or.inr rfl))
    (pss_one (ps_expr (k_bm K PySem.F.plainAttrs_list PySem.F.slot_list_extend PySem.F.type_list_extend mt_extend (pv 2) (pa_cons (pe_lc (own := [("others", 4)]) rfl sc__law_demands.nd (k_iList K (hl := (pe_call c__law_demands.ok (hr.mono (by first | decide | omega)) (by rfl) c__law_demands.m c__law_demands.kp c__law_demands.b c__law_demands.hv pass0 (pa_cons (pe_op op_sub (pv 0) (pe_int)) (pa_cons (pe_op op_sub (pv 1) (pv 3)) pa_nil))))) (blkOk_by (by kernel_rfl)) (fun _ _ _ _ _ => (pg_name (i := 4) sc__law_demands.nd rfl (Or.inl rfl))) (fun _ _ _ _ _ => pts_nil) (fun _ _ _ _ _ => (pe_op (k_catT K) (pe_tup (pa_cons (pv 3) pa_nil)) (pv 4)))) pa_nil)))))
    (pss_one (ps_ret (pv 2)))))), ?_⟩
    refine fn_run (B := B) ?_ o q
    refine e_if (b := decide (((n + 1 : Nat) : Int) = 1)) (b_cmp (dop (d_v r0) d_int o_eqI)) (fun h => ?_) (fun h => ?_)
    · have hn0 : n = 0 := by have := of_decide_eq_true h; omega
      subst hn0
      exact e_ret (d_lst (d_cons (d_tup (d_cons (d_v r1) d_nil) (by show 1 ≤ 100000; decide)) d_nil) (by show 1 ≤ 100000; decide))
    · obtain ⟨n, rfl⟩ : ∃ k, n = k + 1 := ⟨n - 1, by have := of_decide_eq_false h; omega⟩
      have hlen := demands_few (n + 1) hn b hb
      have ee : (List.range (b + 1)).flatMap (fun f => ((demandsM n (b - f)).map fun o => (f : Int) :: o).map tI) = (demandsM (n + 1) b).map tI := by
        show _ = ((List.range (b + 1)).flatMap fun f => (demandsM n (b - f)).map fun o => (f : Int) :: o).map tI
        rw [List.map_flatMap]
      have := e_extend (K := K) (σ := L2.start ["count", "budget", "found", "first", "others"] [v0, v1]) (B := B) (i := 2) (j := 3) (by decide) (by show 2 < 5; decide) (List.range (b + 1)) (fun i => .int ((i : Nat) : Int)) (fun f => ((demandsM n (b - f)).map fun o => (f : Int) :: o).map tI)
        (wi := iRng1 (tCons (tOp (rI0 fun i j => .int (i + j)) (tVar 1) (tC (.int 1))) tNil))
        (te := tLc (iList K (tCall (spD (preDemands m)) [] E0 (tCons (tOp (rI0 fun i j => .int (i - j)) (tVar 0) (tC (.int 1))) (tCons (tOp (rI0 fun i j => .int (i - j)) (tVar 1) (tVar 3)) tNil)))) (gName 4) tYes (tOp (rCatA K) (tTup (tCons (tVar 3) tNil)) (tVar 4)) [4])
        (by rw [ee, List.length_map]; omega) (fun p => ?_) (fun f hf p v B' e rv => ?_)
      · rw [ee] at this
        exact this
      · exact i_rng1' (d_cons (dop (d_v r1) d_int o_add) d_nil) (by omega) (by omega)
      · have hf' := List.mem_range.mp hf
        refine as_eq (d_lc (demandsM n (b - f)) tI (fun o => tI ((f : Int) :: o)) (Nat.le_trans (demands_few n (by omega) (b - f) (by omega)) (by decide)) (i_list (dcall (d_cons (dop (d_v (r0.mono e)) d_int o_sub) (d_cons (dop (d_v (r1.mono e)) (d_v rv) o_sub) d_nil)) fun B' vs e' ra => ⟨n, b - f, ?_, by omega, by omega, by omega, rfl⟩)) fun d hd v B'' e' rv' => ?_) ?_
        · rw [show (((n + 1 + 1 : Nat) : Int) - 1) = ((n + 1 : Nat) : Int) by omega, show ((b : Int) - (f : Int)) = ((b - f : Nat) : Int) by omega] at ra
          exact ra
        · refine ⟨_, tg_name, rfl, ?_⟩
          exact dop (d_tup (d_cons (d_v (rv.mono e')) d_nil) (by show 1 ≤ 100000; decide)) (d_v rv') (o_catT (by have := demands_len n _ d hd; simp; omega))
        · rw [List.map_map]
          rfl
/-! ### _law_left -/
abbrev s__law_left : Stmt := topS 30
theorem sc__law_left : FnScope ["balances", "demand", "balance", "amount"] ["balances", "demand"] (defScope s__law_left) := ⟨rfl, rfl, rfl, by decide +kernel, rfl, by decide +kernel, by decide +kernel⟩
-- slots: 0 balances, 1 demand, 2 balance, 3 amount; cells: 
def preLeft (B : Hp) (vs : List V) (R : RelH) : Prop := ∃ bs ds : List Int, (RpA B vs [tI bs, tI ds] ∨ RpA B vs [lI bs, tI ds]) ∧ bs.length ≤ 1000 ∧ R = rp (lI (lessM bs ds))
theorem less_d (bs ds : List Int) : PyData.list ((bs.zip ds).map fun p => PyData.int (p.1 - p.2)) = lI (lessM bs ds) := by
  show _ = PyData.list _
  unfold lessM
  rw [List.map_map]
  rfl
theorem ok_left (T : Zs mg) {f : Addr} {fd : FuncData} (F : Fun K "_law_left" "_law_left" s__law_left f fd) : FnOk P w K mg base CX0 1 f fd ["balances", "demand"] (spD preLeft) := by
  refine F.ok sc__law_left (fun vs H Q E h => ?_) (fun cdv A outer s H vs Q E hr h => ?_)
  · obtain ⟨F, B, R, o, ⟨bs, ds, r | r, _⟩, _⟩ := h
    · exact r.length
    · exact r.length
  · obtain ⟨F, B, R, o, ⟨bs, ds, r | r, hl, rfl⟩, q⟩ := h
    · obtain ⟨v0, v1, rfl, r0, r1⟩ := rpa2 r
      refine ⟨_, (pss_one (ps_ret (pe_lc (own := [("balance", 2), ("amount", 3)]) rfl sc__law_left.nd (k_zip K (by rfl) T.z_zip (pa_cons (pv 0) (pa_cons (pv 1) pa_nil))) (blkOk_by (by kernel_rfl)) (fun _ _ _ _ _ => (k_pg K (n := 2) (hc := rfl) (hs := (pgs_cons (pg_name (i := 2) sc__law_left.nd rfl (Or.inl rfl)) (pgs_cons (pg_name (i := 3) sc__law_left.nd rfl (Or.inl rfl)) pgs_nil))))) (fun _ _ _ _ _ => pts_nil) (fun _ _ _ _ _ => (pe_op op_sub (pv 2) (pv 3)))))), ?_⟩
      refine fn_run (B := B) (e_ret (as_eq (d_lc (bs.zip ds) (fun p => PyData.tuple [.int p.1, .int p.2]) (fun p => .int (p.1 - p.2)) (by rw [List.length_zip]; omega) (i_zipT' (d_cons (d_v r0) (d_cons (d_v r1) d_nil))) fun p hp v B' e rv => ?_) (less_d bs ds))) o q
      obtain ⟨y2, y3, t2, t3, tg⟩ := tg_pair (K := K) (i := 2) (j := 3) (σ := wipe [some v0, some v1, none, none] [2, 3]) rv
      exact ⟨_, tg, rfl, dop (d_v t2) (d_v t3) o_sub⟩
    · obtain ⟨v0, v1, rfl, r0, r1⟩ := rpa2 r
      refine ⟨_, (pss_one (ps_ret (pe_lc (own := [("balance", 2), ("amount", 3)]) rfl sc__law_left.nd (k_zipM K (by rfl) T.z_zip (pa_cons (pv 0) (pa_cons (pv 1) pa_nil))) (blkOk_by (by kernel_rfl)) (fun _ _ _ _ _ => (k_pg K (n := 2) (hc := rfl) (hs := (pgs_cons (pg_name (i := 2) sc__law_left.nd rfl (Or.inl rfl)) (pgs_cons (pg_name (i := 3) sc__law_left.nd rfl (Or.inl rfl)) pgs_nil))))) (fun _ _ _ _ _ => pts_nil) (fun _ _ _ _ _ => (pe_op op_sub (pv 2) (pv 3)))))), ?_⟩
      refine fn_run (B := B) (e_ret (as_eq (d_lc (bs.zip ds) (fun p => PyData.tuple [.int p.1, .int p.2]) (fun p => .int (p.1 - p.2)) (by rw [List.length_zip]; omega) (i_zipM' (d_cons (d_v r0) (d_cons (d_v r1) d_nil))) fun p hp v B' e rv => ?_) (less_d bs ds))) o q
      obtain ⟨y2, y3, t2, t3, tg⟩ := tg_pair (K := K) (i := 2) (j := 3) (σ := wipe [some v0, some v1, none, none] [2, 3]) rv
      exact ⟨_, tg, rfl, dop (d_v t2) (d_v t3) o_sub⟩
/-! ### _law_numbers -/
abbrev s__law_numbers : Stmt := topS 29
theorem sc__law_numbers : FnScope ["known", "left", "budget", "found", "sender", "later", "number", "at", "balance"] ["known", "left", "budget"] (defScope s__law_numbers) := ⟨rfl, rfl, rfl, by decide +kernel, rfl, by decide +kernel, by decide +kernel⟩
-- slots: 0 known, 1 left, 2 budget, 3 found, 4 sender, 5 later, 6 number, 7 at, 8 balance; cells: budget, sender
def numsM (tab : Tb) (left : List Int) (b : Int) : List Int := (List.range left.length).map fun i => (lookO tab (isort (changedM left i b))).getD 0
structure NumsOk (tab : Tb) (left : List Int) (b : Int) : Prop where
  few : left.length ≤ 60
  all : ∀ i, i < left.length → ∃ k, look tab (isort (changedM left i b)) = some (some k)
def preNums (B : Hp) (vs : List V) (R : RelH) : Prop := ∃ (tab : Tb) (left : List Int) (b : Int) (v0 v1 v2 : V), vs = [v0, v1, v2] ∧ rd (tabD tab) B v0 ∧ Rp B v1 (lI left) ∧ Rp B v2 (.int b) ∧ NumsOk tab left b ∧ R = rp (lI (numsM tab left b))
theorem later_eq {left : List Int} {i : Nat} {b : Int} (h : i < left.length) : (left.zipIdx.map fun p => p.1 + b * (if decide (((p.2 : Nat) : Int) = ((i : Nat) : Int)) = true then 1 else 0)) = changedM left i b := by
  rw [← changed_set h]
  refine List.ext_getElem (by simp) fun j h1 h2 => ?_
  simp only [List.getElem_map, List.getElem_zipIdx, List.getElem_set, decide_eq_true_eq]
  by_cases e : i = j
  · subst e
    rw [if_pos (by omega), if_pos rfl, List.getD_eq_getElem?_getD, List.getElem?_eq_getElem h]
    simp
  · rw [if_neg (by omega), if_neg e]
    simp
theorem ok_nums (T : Zs mg) {f : Addr} {fd : FuncData} (F : Fun K "_law_numbers" "_law_numbers" s__law_numbers f fd) : FnOk P w K mg base CX0 1 f fd ["known", "left", "budget"] (spD preNums) := by
  refine F.ok sc__law_numbers (fun vs H Q E h => ?_) (fun cdv A outer s H vs Q E hr h => ?_)
  · obtain ⟨F, B, R, o, ⟨tab, left, b, v0, v1, v2, rfl, _⟩, _⟩ := h
    rfl
  · obtain ⟨F, B, R, o, ⟨tab, left, b, v0, v1, v2, rfl, r0, r1, r2, ok, rfl⟩, q⟩ := h
    refine ⟨_, (pss_cons (ps_set (i := 3) sc__law_numbers.nd rfl (Or.inl rfl) (pe_lst pa_nil))
    (pss_cons (ps_for PassesOwn.never rfl (pi_range1 (by rfl) T.z_range (pa_cons (pe_callB (k_len K) (by rfl) T.z_len (by decide +kernel) (pa_cons (pv 1) pa_nil)) pa_nil)) (pg_name (i := 4) sc__law_numbers.nd rfl (Or.inr rfl))
    (pss_cons (ps_setLc (i := 5) (own := [("at", 7), ("balance", 8)]) rfl sc__law_numbers.nd rfl rfl (sw_true rfl rfl rfl (by kernel_rfl)) (k_enum K (by rfl) T.z_enumerate (pa_cons (pv 1) pa_nil)) (blkOk_by (by kernel_rfl)) (fun _ _ _ _ _ => (k_pg K (n := 2) (hc := rfl) (hs := (pgs_cons (pg_name (i := 7) sc__law_numbers.nd rfl (Or.inl rfl)) (pgs_cons (pg_name (i := 8) sc__law_numbers.nd rfl (Or.inl rfl)) pgs_nil))))) (fun _ _ _ _ _ => pts_nil) (fun _ _ _ _ _ => (pe_op op_add (pv 8) (pe_op op_mul (pv 2) (pe_callTy call_int1 (by rfl) T.z_int (by decide +kernel) (pa_cons (pe_cmpR op_eq (pv 7) (pv 4) (nomark _)) pa_nil))))))
    (pss_cons (ps_set (i := 6) sc__law_numbers.nd rfl (Or.inl rfl) (pe_dget (hu_of hr) (pv 0) (pe_callTy (k_tuple K) (by rfl) T.z_tuple (by decide +kernel) (pa_cons (pe_callB (k_sort K) (by rfl) T.z_sorted (by decide +kernel) (pa_cons (pv 5) pa_nil)) pa_nil)) (fun _ _ => rfl)))
    (pss_one (ps_expr (k_bm K PySem.F.plainAttrs_list PySem.F.slot_list_append PySem.F.type_list_append mt_append (pv 3) (pa_cons (pe_ifExp (pt_cmp (pc_isN (pv 6)) (by rfl)) (pe_op op_pow (pe_int) (pe_int)) (pv 6)) pa_nil)))))))
    (pss_one (ps_ret (pv 3))))), ?_⟩
    refine fn_run (B := B) ?_ o q
    clear q o
    intro F H o D' q
    have hfew := ok.few
    refine ⟨Nat.zero_le _, fun p hp => ?_⟩
    have o1 := o.new (u := .lst []) hp
    refine s_for (σ := [some v0, some v1, some v2, some (.ref p), none, none, none, none, none]) (List.range left.length) (fun i => PyData.int ((i : Nat) : Int)) (i_rng1' (d_cons (dcb (d_cons (d_v r1) d_nil) c_lenL) d_nil) (by rw [List.length_map]) (by omega)) o1
      (fun B1 k σ' H' => Off (fun c => F c ∨ c = p) B1 H' ∧ Ex H H' ∧ (∃ x4 x5 x6, σ' = [some v0, some v1, some v2, some (.ref p), x4, x5, x6, none, none]) ∧ H' p = some (.lst (((numsM tab left b).take k).map V.int)))
      (fun H1 e1 => ⟨o1.next e1, (Ex.new hp).trans e1, ⟨none, none, none, rfl⟩, by rw [List.take_zero]; exact e1 _ _ upd_same⟩) (fun B1 k σ' H' _ h => h.1) (fun B1 k i v σ' H' H'' eB hi hP eH rv => ?_) (fun B1 σ' H' eB hP => ?_)
    · obtain ⟨oH, eH0, ⟨x4, x5, x6, rfl⟩, hacc⟩ := hP
      obtain ⟨hk, rfl⟩ := List.getElem?_eq_some_iff.mp hi
      rw [List.length_range] at hk
      rw [List.getElem_range] at rv
      obtain rfl := rv.int_inv
      have o2 := oH.next eH
      have eB1 : Ex B (cut (fun c => F c ∨ c = p) H'') := eB.trans (oH.go eH).cut
      have hacc2 := eH _ _ hacc
      obtain ⟨num, hnum⟩ := ok.all k hk
      refine h_asgD (σ := [some v0, some v1, some v2, some (.ref p), some (.int (k : Int)), x5, x6, none, none]) (d := lI (changedM left k b)) (as_eq (d_lc left.zipIdx (fun p => PyData.tuple [.int (p.2 : Nat), .int p.1]) (fun p => .int (p.1 + b * (if decide (((p.2 : Nat) : Int) = ((k : Nat) : Int)) = true then 1 else 0))) (by simp; omega) (i_enum' (d_cons (d_v (r1.mono eB1)) d_nil)) fun x hx v B' e rv => ?_) ?_) o2 fun v5 H3 e3 o3 x3 r5 => ?_
      · obtain ⟨y7, y8, t7, t8, tg⟩ := tg_pair (K := K) (i := 7) (j := 8) (σ := wipe [some v0, some v1, some v2, some (.ref p), some (.int (k : Int)), x5, x6, none, none] [7, 8]) rv
        refine ⟨_, tg, rfl, dop (d_v t8) (dop (d_v (r2.mono (eB1.trans e))) (dcb (d_cons (dop (d_v t7) (d_v (i := 4) (.int (k : Int))) o_eqI) d_nil) c_intb) (o_mul (Or.inr (b01 _)))) o_add⟩
      · show PyData.list _ = PyData.list _
        rw [← later_eq hk, List.map_map]
        rfl
      · refine h_asgD (d := .int num) (d_dget (ks := isort (changedM left k b)) (l := tabD tab) (d_var (R := rd (tabD tab)) (mono_rd _) (v := v0) rfl (mono_rd _ (eB1.trans x3) r0)) (dcb (d_cons (dcb (d_cons (d_v r5) d_nil) c_sortL) d_nil) c_tupL) (by rw [look_map, hnum]; rfl)) o3 fun v6 H4 e4 o4 x4 r6 => ?_
        obtain rfl := r6.int_inv
        have hacc4 := e4 _ _ (e3 _ _ hacc2)
        refine ⟨.ref p, rfl, tyV_l hacc4, .int num, rfl, false, rfl, ?_⟩
        show (tVar 6) _ H4 _
        refine ⟨.int num, rfl, p, _, _, rfl, rfl, hacc4, sz_lt (by rw [List.length_map, List.length_take]; omega), ?_⟩
        have eF : Ex H (upd H4 p (.lst (((numsM tab left b).take k).map V.int ++ [.int num]))) := Ex.mut ((((eH0.trans eH).trans e3).trans e4)) hp
        have hlen : (numsM tab left b).length = left.length := by rw [numsM, List.length_map, List.length_range]
        have hnk : (numsM tab left b)[k]'(by rw [hlen]; exact hk) = num := by
          simp only [numsM, List.getElem_map, List.getElem_range, lookO]
          rw [hnum]
          rfl
        refine ⟨(((oH.go eH).go e3).go e4).upd (Or.inr rfl), eF, ⟨_, _, _, rfl⟩, ?_⟩
        rw [upd_same, List.take_succ_eq_append_getElem (by rw [hlen]; exact hk), hnk, List.map_append]
        rfl
    · obtain ⟨oH, eH0, ⟨x4, x5, x6, rfl⟩, hacc⟩ := hP
      rw [List.length_range, List.take_of_length_le (by rw [numsM, List.length_map, List.length_range]; exact Nat.le_refl _)] at hacc
      exact ⟨.ref p, rfl, q _ H' eH0 (.lI_mk (cut_at (o.free hp) hacc))⟩
end
end K78
namespace K78
open PySem PySem.Spec PyProof.Rows L2 Evl G
/-! ### the plain law -/
theorem insU_ne (x : List Int) : ∀ l : List (List Int), insU x l ≠ []
  | [] => List.cons_ne_nil _ _
  | y :: l => by
    unfold insU
    split
    · exact List.cons_ne_nil _ _
    · split
      · exact List.cons_ne_nil _ _
      · exact List.cons_ne_nil _ _
theorem results_ne {bs ds : List Int} {b : Int} (h : 1 ≤ bs.length) : resultsM bs ds b ≠ [] := by
  unfold resultsM
  obtain ⟨m, hm⟩ : ∃ m, bs.length = m + 1 := ⟨bs.length - 1, by omega⟩
  rw [hm, List.range_succ_eq_map]
  exact insU_ne _ _
theorem look_known {rows : List (List Int)} {b : Nat} {r : List Int} {k : Int} (h : look (known0 rows b) r = some k) : k = 1 := by
  unfold look known0 at h
  obtain ⟨q, hq, rfl⟩ := Option.map_eq_some_iff.mp h
  obtain ⟨a, _, rfl⟩ := List.mem_map.mp (List.mem_of_find?_eq_some hq)
  rfl
theorem numbers_ll {n b t : Nat} (hn : n ≤ 3) (hb : b ≤ 4) (ht : t ≤ 24) : LoopLaw (known0 (sortedM n t 0) b) (numbersM n b t) (left0 n (sortedM n t 0) b) 1 := by
  refine loop_law _ _ _ _ (start_ok hn hb ht) (fun r k h => by rw [look_known h]; exact Int.le_refl _) fun r hr lot hlot => ?_
  obtain ⟨a, ha, rfl⟩ := List.mem_map.mp hr
  obtain ⟨d, hd, rfl⟩ := List.mem_map.mp hlot
  have hl := sorted_len n t 0 a (List.mem_filter.mp ha).1
  obtain ⟨one, ho⟩ := List.exists_mem_of_ne_nil _ (results_ne (bs := a) (ds := d) (b := b) (by omega))
  exact ⟨one, ho, fun j hj => by rw [look_known hj]; exact Int.le_refl _⟩
/-- the law of one row's number -/
theorem numbers_law {n b t : Nat} (hn : n ≤ 3) (hb : b ≤ 4) (ht : t ≤ 24) {r : List Int} (hr : r ∈ sortedM n t 0) (hge : (b : Int) ≤ r.getD 0 0) {k : Int} (h : look (numbersM n b t) r = some k) :
    (∃ d ∈ demandsM n b, ∀ one ∈ resultsM r d b, ∃ j, look (numbersM n b t) one = some j ∧ j < k) ∧ ∀ d ∈ demandsM n b, ∃ one ∈ resultsM r d b, ∀ j, look (numbersM n b t) one = some j → k - 1 ≤ j := by
  have hno : look (known0 (sortedM n t 0) b) r = none := by
    refine look_none.mpr fun z => ?_
    rw [known0, List.map_map] at z
    obtain ⟨a, ha, rfl⟩ := List.mem_map.mp z
    have := of_decide_eq_true (List.mem_filter.mp ha).2
    exact absurd hge (by show ¬ (b : Int) ≤ a.getD 0 0; omega)
  have hmem : (r, choicesM n r b) ∈ left0 n (sortedM n t 0) b := List.mem_map.mpr ⟨r, List.mem_filter.mpr ⟨hr, by rw [hno]; rfl⟩, rfl⟩
  obtain ⟨⟨lot, hlot, h1⟩, h2⟩ := (numbers_ll hn hb ht).one _ hmem k h
  obtain ⟨d, hd, rfl⟩ := List.mem_map.mp hlot
  exact ⟨⟨d, hd, h1⟩, fun d hd => h2 _ (List.mem_map.mpr ⟨d, hd, rfl⟩)⟩
theorem numbers_one {n b t : Nat} (hn : n ≤ 3) (hb : b ≤ 4) (ht : t ≤ 24) {r : List Int} (hr : r ∈ sortedM n t 0) (hlt : r.getD 0 0 < (b : Int)) : look (numbersM n b t) r = some 1 := by
  refine (numbers_ll hn hb ht).old r 1 ?_
  cases e : look (known0 (sortedM n t 0) b) r with
  | none =>
    refine absurd ?_ (look_none.mp e)
    rw [known0, List.map_map]
    exact List.mem_map.mpr ⟨r, List.mem_filter.mpr ⟨hr, decide_eq_true hlt⟩, rfl⟩
  | some k => rw [look_known e]
theorem numbers_ge {n b t : Nat} (hn : n ≤ 3) (hb : b ≤ 4) (ht : t ≤ 24) {r : List Int} {k : Int} (h : look (numbersM n b t) r = some k) : 1 ≤ k := by
  cases e : look (known0 (sortedM n t 0) b) r with
  | some j =>
    have := (numbers_ll hn hb ht).old r j e
    rw [this] at h
    cases h
    rw [look_known e]
    exact Int.le_refl _
  | none =>
    have := (numbers_ll hn hb ht).new r k e h
    omega
/-- a row that does not fall stands in the table -/
theorem sorted_mem : ∀ (n t l : Nat) (r : List Int), r.length = n + 1 → r.Pairwise (· ≤ ·) → (∀ x ∈ r, (l : Int) ≤ x) → r.sum = (t : Int) → r ∈ sortedM n t l
  | 0, t, l, r, hl, hp, hg, hs => by
    match r, hl with
    | [x], _ =>
      have hx : x = (t : Int) := by simpa using hs
      have := hg x (List.mem_singleton.mpr rfl)
      unfold sortedM
      rw [if_pos (by omega), hx]
      exact List.mem_singleton.mpr rfl
  | n + 1, t, l, x :: o, hl, hp, hg, hs => by
    have hx := hg x List.mem_cons_self
    obtain ⟨k, rfl⟩ : ∃ k : Nat, x = ((l + k : Nat) : Int) := ⟨(x - l).toNat, by omega⟩
    rw [List.pairwise_cons] at hp
    rw [List.sum_cons] at hs
    have hlo : o.length = n + 1 := by simpa using hl
    have hsum : ((o.length : Nat) : Int) * ((l + k : Nat) : Int) ≤ o.sum := by
      have h1 := hp.1
      clear hs hl hlo hg hp
      induction o with
      | nil => simp
      | cons y o ih =>
        have h2 := h1 y List.mem_cons_self
        have h3 := ih fun z hz => h1 z (List.mem_cons_of_mem _ hz)
        rw [List.sum_cons, List.length_cons]
        have : ((o.length + 1 : Nat) : Int) * ((l + k : Nat) : Int) = (o.length : Int) * ((l + k : Nat) : Int) + ((l + k : Nat) : Int) := by
          rw [Int.natCast_add, Int.add_mul]
          simp
        omega
    have hle : (l + k) * (n + 2) ≤ t := by
      rw [hlo] at hsum
      have e : (((l + k) * (n + 2) : Nat) : Int) = ((n + 1 : Nat) : Int) * ((l + k : Nat) : Int) + ((l + k : Nat) : Int) := by
        have e2 : (l + k) * (n + 2) = (n + 1) * (l + k) + (l + k) := by rw [Nat.mul_comm]; exact Nat.succ_mul _ _
        rw [e2]
        simp
      omega
    have hdiv : l + k ≤ t / (n + 2) := (Nat.le_div_iff_mul_le (by omega)).mpr hle
    have hkt : l + k ≤ t := Nat.le_trans hdiv (Nat.div_le_self _ _)
    refine List.mem_flatMap.mpr ⟨k, List.mem_range.mpr (by omega), List.mem_map.mpr ⟨o, ?_, rfl⟩⟩
    exact sorted_mem n (t - (l + k)) (l + k) o hlo hp.2 (fun y hy => hp.1 y hy) (by omega)
theorem isort_mem {n t : Nat} {ls : List Int} (hl : ls.length = n + 1) (hg : ∀ x ∈ ls, 0 ≤ x) (hs : ls.sum = (t : Int)) : isort ls ∈ sortedM n t 0 :=
  sorted_mem n t 0 _ (by rw [isort_length, hl]) (isort_sorted ls) (fun x hx => by have := hg x ((isort_perm ls).mem_iff.mp hx); simpa using this) (by rw [perm_sum (isort_perm ls), hs])
theorem sorted_sum : ∀ (n t l : Nat), ∀ r ∈ sortedM n t l, r.sum = (t : Int)
  | 0, t, l, r, h => by
    unfold sortedM at h
    split at h
    · rw [List.mem_singleton.mp h]
      simp
    · cases h
  | n + 1, t, l, r, h => by
    obtain ⟨i, hi, hd⟩ := List.mem_flatMap.mp h
    obtain ⟨o, ho, rfl⟩ := List.mem_map.mp hd
    have hi := List.mem_range.mp hi
    have hdiv : t / (n + 2) ≤ t := Nat.div_le_self _ _
    rw [List.sum_cons, sorted_sum n _ _ o ho]
    omega
theorem demands_sum : ∀ (n b : Nat), ∀ d ∈ demandsM n b, d.sum = (b : Int)
  | 0, b, d, h => by
    rw [List.mem_singleton.mp h]
    simp
  | n + 1, b, d, h => by
    obtain ⟨f, hf, hd⟩ := List.mem_flatMap.mp h
    obtain ⟨o, ho, rfl⟩ := List.mem_map.mp hd
    have hf := List.mem_range.mp hf
    rw [List.sum_cons, demands_sum n _ o ho]
    omega
theorem demands_mem : ∀ (n t : Nat) (bs : List Int), bs.length = n + 1 → (∀ x ∈ bs, 0 ≤ x) → bs.sum = (t : Int) → bs ∈ demandsM n t
  | 0, t, bs, hl, h0, hs => by
    match bs, hl with
    | [x], _ =>
      have : x = (t : Int) := by simpa using hs
      rw [this]
      exact List.mem_singleton.mpr rfl
  | n + 1, t, x :: bs, hl, h0, hs => by
    have hx := h0 x List.mem_cons_self
    have h0' : ∀ y ∈ bs, 0 ≤ y := fun y hy => h0 y (List.mem_cons_of_mem _ hy)
    rw [List.sum_cons] at hs
    have hsum := (mem_le_sum h0').1
    obtain ⟨k, rfl⟩ : ∃ k : Nat, x = (k : Int) := ⟨x.toNat, by omega⟩
    refine List.mem_flatMap.mpr ⟨k, List.mem_range.mpr (by omega), List.mem_map.mpr ⟨bs, ?_, rfl⟩⟩
    exact demands_mem n (t - k) bs (by simpa using hl) h0' (by omega)
theorem less_sum : ∀ {bs ds : List Int}, bs.length = ds.length → (lessM bs ds).sum = bs.sum - ds.sum
  | [], [], _ => rfl
  | b :: bs, d :: ds, h => by
    have ih := less_sum (bs := bs) (ds := ds) (by simpa using h)
    show (b - d) + (lessM bs ds).sum = _
    rw [ih, List.sum_cons, List.sum_cons]
    omega
theorem changed_sum : ∀ {ns : List Int} {i : Nat} {k : Int}, i < ns.length → (changedM ns i k).sum = ns.sum + k
  | x :: ns, 0, k, _ => by
    show ((x + k) :: ns).sum = _
    rw [List.sum_cons, List.sum_cons]
    omega
  | x :: ns, i + 1, k, h => by
    have ih := changed_sum (ns := ns) (i := i) (k := k) (by simpa using h)
    show (x :: changedM ns i k).sum = _
    rw [List.sum_cons, List.sum_cons, ih]
    omega
/-- what is left of four balances, with 4 granted to one, is a row -/
theorem grant_mem {t : Nat} {ls : List Int} (hl : ls.length = 4) (hg : ∀ x ∈ ls, 0 ≤ x) (hs : ls.sum + 4 = (t : Int)) {i : Nat} (hi : i < ls.length) : isort (changedM ls i 4) ∈ sortedM 3 t 0 := by
  refine isort_mem (by rw [changed_len hi, hl]) (fun x hx => ?_) (by rw [changed_sum hi]; omega)
  rcases mem_changed hi hx with h | ⟨y, hy, rfl⟩
  · exact hg x h
  · have := hg y hy
    omega
def someB (t : Nat) : Bool := (sortedM 3 t 0).all fun r => match look (numbersM 3 4 t) r with | some k => decide (k ≤ 1000) | none => false
theorem some_20 : someB 20 = true := by decide +kernel
theorem some_21 : someB 21 = true := by decide +kernel
theorem some_22 : someB 22 = true := by decide +kernel
theorem some_23 : someB 23 = true := by decide +kernel
theorem some_24 : someB 24 = true := by decide +kernel
theorem known_all {t : Nat} (h1 : 20 ≤ t) (h2 : t ≤ 24) {r : List Int} (hr : r ∈ sortedM 3 t 0) : ∃ k, look (numbersM 3 4 t) r = some k ∧ 1 ≤ k ∧ k ≤ 1000 := by
  have hs : someB t = true := by
    obtain rfl | rfl | rfl | rfl | rfl : t = 20 ∨ t = 21 ∨ t = 22 ∨ t = 23 ∨ t = 24 := by omega
    · exact some_20
    · exact some_21
    · exact some_22
    · exact some_23
    · exact some_24
  have hb := List.all_eq_true.mp hs r hr
  cases hk : look (numbersM 3 4 t) r with
  | none => rw [hk] at hb; cases hb
  | some k =>
    rw [hk] at hb
    exact ⟨k, rfl, numbers_ge (by omega) (by omega) h2 hk, of_decide_eq_true hb⟩
end K78
namespace K78
open PySem PySem.Spec PyProof.Rows L2 Evl G
theorem look_fun {f : List Int → Option Int} : ∀ {rows : List (List Int)} {r : List Int}, r ∈ rows → look (rows.map fun r => (r, f r)) r = some (f r)
  | x :: rows, r, h => by
    by_cases e : x = r
    · subst e
      simp [look, List.find?_cons]
    · have h' : r ∈ rows := by
        rcases List.mem_cons.mp h with z | z
        · exact absurd z.symm e
        · exact z
      have ih := look_fun (f := f) h'
      simp only [look, List.map_cons, List.find?_cons, e, decide_false] at ih ⊢
      exact ih
abbrev tb (t : Nat) : Tb := tableM 3 4 t
theorem look_tb {t : Nat} {r : List Int} (hr : r ∈ sortedM 3 t 0) : look (tb t) r = some (look (numbersM 3 4 t) r) := look_fun hr
theorem lookO_tb {t : Nat} {r : List Int} (hr : r ∈ sortedM 3 t 0) : lookO (tb t) r = look (numbersM 3 4 t) r := by
  unfold lookO
  rw [look_tb hr]
  rfl
theorem tb_rows (t : Nat) : (tb t).map (·.1) = sortedM 3 t 0 := by
  unfold tb tableM
  rw [List.map_map]
  exact List.map_id _
section
variable {t : Nat} (h1 : 20 ≤ t) (h2 : t ≤ 24)
include h1 h2
/-- a lot's rows: by the sender that gets the grant -/
theorem res_iff {r d one : List Int} (hr : r ∈ sortedM 3 t 0) (hge : (4 : Int) ≤ r.getD 0 0) (hd : d ∈ demandsM 3 4) : (one ∈ resultsM r d (4 : Nat) ↔ ∃ i, i < (lessM r d).length ∧ one = isort (changedM (lessM r d) i 4)) ∧ (lessM r d).length = 4 ∧ (∀ x ∈ lessM r d, 0 ≤ x) ∧ (lessM r d).sum + 4 = (t : Int) := by
  have fit := fits_of (n := 3) (t := t) (b := 4) (by omega) h2 (by omega) hr hge hd
  have hl := less_len fit.len
  have l4 := sorted_len 3 t 0 r hr
  refine ⟨⟨fun h => ?_, fun ⟨i, hi, e⟩ => ?_⟩, by omega, fun x hx => (fit.bd x hx).1, by rw [less_sum fit.len, sorted_sum 3 t 0 r hr, demands_sum 3 4 d hd]; omega⟩
  · have h := (ssort_mem (d := r.length) fit.ok _).mp h
    obtain ⟨i, hi, rfl⟩ := List.mem_map.mp h
    exact ⟨i, by rw [hl]; exact List.mem_range.mp hi, rfl⟩
  · rw [e]
    exact (ssort_mem (d := r.length) fit.ok _).mpr (List.mem_map.mpr ⟨i, List.mem_range.mpr (by omega), rfl⟩)
theorem res_mem {r d one : List Int} (hr : r ∈ sortedM 3 t 0) (hge : (4 : Int) ≤ r.getD 0 0) (hd : d ∈ demandsM 3 4) (h : one ∈ resultsM r d (4 : Nat)) : one ∈ sortedM 3 t 0 := by
  obtain ⟨hi, hl, hg, hs⟩ := res_iff h1 h2 (one := one) hr hge hd
  obtain ⟨i, hi', rfl⟩ := hi.mp h
  exact grant_mem hl hg hs hi'
theorem lots_ok {tab : Tb} (ht : tab.map (·.1) = sortedM 3 t 0) {r : List Int} (hr : r ∈ sortedM 3 t 0) (hge : (4 : Int) ≤ r.getD 0 0) : LotsOk tab (choicesM 3 r 4) := by
  have l4 := sorted_len 3 t 0 r hr
  obtain ⟨c1, c2⟩ := choices_ok (n := 3) (r := r) (b := 4) (by omega) (by omega) (by omega)
  refine ⟨c1, fun lot hlot => ⟨?_, c2 lot hlot, fun one ho => ?_⟩⟩
  · obtain ⟨d, hd, rfl⟩ := List.mem_map.mp hlot
    exact results_ne (by omega)
  · obtain ⟨d, hd, rfl⟩ := List.mem_map.mp hlot
    have hm := res_mem h1 h2 hr hge hd ho
    cases e : look tab one with
    | some _ => rfl
    | none => exact absurd (by rw [ht]; exact hm) (look_none.mp e)
theorem max_lot {r d : List Int} (hr : r ∈ sortedM 3 t 0) (hge : (4 : Int) ≤ r.getD 0 0) (hd : d ∈ demandsM 3 4) {k : Int} (hk : look (numbersM 3 4 t) r = some k) {vs : List Int} (hv : ∀ v, v ∈ vs ↔ ∃ one ∈ resultsM r d (4 : Nat), look (numbersM 3 4 t) one = some v) :
    k - 1 ≤ maxI vs ∧ ((∀ one ∈ resultsM r d (4 : Nat), ∃ j, look (numbersM 3 4 t) one = some j ∧ j < k) → maxI vs = k - 1) := by
  obtain ⟨one, ho, h3⟩ := (numbers_law (n := 3) (b := 4) (by omega) (by omega) h2 hr hge hk).2 d hd
  obtain ⟨j, hj, _⟩ := known_all h1 h2 (res_mem h1 h2 hr hge hd ho)
  have hjk := h3 j hj
  have hjv : j ∈ vs := (hv j).mpr ⟨one, ho, hj⟩
  have hne : vs ≠ [] := fun z => by rw [z] at hjv; cases hjv
  obtain ⟨m1, m2⟩ := maxI_spec hne
  have := m2 j hjv
  refine ⟨by omega, fun hall => ?_⟩
  obtain ⟨o2, ho2, hv2⟩ := (hv _).mp m1
  obtain ⟨j2, hj2, hlt⟩ := hall o2 ho2
  rw [hv2] at hj2
  cases hj2
  omega
/-- the number is one more than the least of the tops -/
theorem min_tops {r : List Int} (hr : r ∈ sortedM 3 t 0) (hge : (4 : Int) ≤ r.getD 0 0) {k : Int} (hk : look (numbersM 3 4 t) r = some k) {top : List Int → Int} (htop : ∀ d ∈ demandsM 3 4, ∃ vs : List Int, top d = maxI vs ∧ ∀ v, v ∈ vs ↔ ∃ one ∈ resultsM r d (4 : Nat), look (numbersM 3 4 t) one = some v) :
    minI ((demandsM 3 4).map top) = k - 1 := by
  obtain ⟨d, hd, hall⟩ := (numbers_law (n := 3) (b := 4) (by omega) (by omega) h2 hr hge hk).1
  refine (minI_eq (List.mem_map.mpr ⟨d, hd, ?_⟩) fun y hy => ?_).symm
  · obtain ⟨vs, e, hv⟩ := htop d hd
    rw [e]
    exact (max_lot h1 h2 hr hge hd hk hv).2 hall
  · obtain ⟨d', hd', rfl⟩ := List.mem_map.mp hy
    obtain ⟨vs, e, hv⟩ := htop d' hd'
    rw [e]
    exact (max_lot h1 h2 hr hge hd' hk hv).1
theorem irn_true {r : List Int} (hr : r ∈ sortedM 3 t 0) (hge : (4 : Int) ≤ r.getD 0 0) {k : Int} (hk : look (numbersM 3 4 t) r = some k) : irnM (some k) (sumsM (tb t) (choicesM 3 r 4)) = true := by
  have hsome : ∀ d ∈ demandsM 3 4, ∀ one ∈ resultsM r d (4 : Nat), ∃ j, lookO (tb t) one = some j ∧ look (numbersM 3 4 t) one = some j := fun d hd one ho => by
    have hm := res_mem h1 h2 hr hge hd ho
    obtain ⟨j, hj, _⟩ := known_all h1 h2 hm
    exact ⟨j, by rw [lookO_tb hm, hj], hj⟩
  have hw : wholeM (sumsM (tb t) (choicesM 3 r 4)) = (demandsM 3 4).map fun d => maxI ((resultsM r d (4 : Nat)).map fun one => (lookO (tb t) one).getD 0) := by
    unfold wholeM sumsM choicesM
    rw [List.filter_eq_self.mpr, List.map_map, List.map_map]
    · refine List.map_congr_left fun d _ => ?_
      show maxI (List.map _ (List.map _ _)) = _
      rw [List.map_map]
      rfl
    · intro lot hlot
      obtain ⟨l0, hl0, rfl⟩ := List.mem_map.mp hlot
      obtain ⟨d, hd, rfl⟩ := List.mem_map.mp hl0
      rw [Bool.not_eq_true', List.any_eq_false]
      intro o ho
      obtain ⟨one, hone, rfl⟩ := List.mem_map.mp ho
      obtain ⟨j, hj, _⟩ := hsome d hd one hone
      rw [hj]
      simp
  have hmin : minI (wholeM (sumsM (tb t) (choicesM 3 r 4))) = k - 1 := by
    rw [hw]
    refine min_tops h1 h2 hr hge hk fun d hd => ⟨_, rfl, fun v => ⟨fun hv => ?_, fun ⟨one, ho, hv⟩ => ?_⟩⟩
    · obtain ⟨one, ho, rfl⟩ := List.mem_map.mp hv
      obtain ⟨j, hj, hj2⟩ := hsome d hd one ho
      exact ⟨one, ho, by rw [hj2, hj]; rfl⟩
    · obtain ⟨j, hj, hj2⟩ := hsome d hd one ho
      rw [hv] at hj2
      cases hj2
      exact List.mem_map.mpr ⟨one, ho, by rw [hj]; rfl⟩
  have hne : (wholeM (sumsM (tb t) (choicesM 3 r 4))).isEmpty = false := by rw [hw]; rfl
  show (!(wholeM (sumsM (tb t) (choicesM 3 r 4))).isEmpty && decide (minI (wholeM (sumsM (tb t) (choicesM 3 r 4))) = k - 1)) = true
  rw [hne, hmin, decide_eq_true rfl]
  rfl
theorem shows_true : showsM 3 4 (tb t) = true := by
  unfold showsM
  rw [Option.isNone_iff_eq_none, List.find?_eq_none]
  intro q hq
  obtain ⟨r, hr, rfl⟩ := List.mem_map.mp hq
  obtain ⟨k, hk, hk1⟩ := known_all h1 h2 hr
  unfold badRow
  simp only [hk]
  by_cases hlt : r.getD 0 0 < ((4 : Nat) : Int)
  · have := numbers_one (n := 3) (b := 4) (by omega) (by omega) h2 hr hlt
    rw [hk] at this
    cases this
    rw [decide_eq_true hlt, decide_eq_false (show ¬ ((4 : Nat) : Int) ≤ r.getD 0 0 by omega)]
    simp
  · have hge : ((4 : Nat) : Int) ≤ r.getD 0 0 := by omega
    rw [irn_true h1 h2 hr hge hk, decide_eq_false hlt]
    obtain ⟨one, ho, h3⟩ : ∃ one ∈ resultsM r ((demandsM 3 4).getD 0 []) (4 : Nat), ∀ j, look (numbersM 3 4 t) one = some j → k - 1 ≤ j := (numbers_law (n := 3) (b := 4) (by omega) (by omega) h2 hr hge hk).2 _ (by decide)
    obtain ⟨d, hd, hall⟩ := (numbers_law (n := 3) (b := 4) (by omega) (by omega) h2 hr hge hk).1
    have hl4 := sorted_len 3 t 0 r hr
    obtain ⟨o2, ho2⟩ := List.exists_mem_of_ne_nil _ (results_ne (bs := r) (ds := d) (b := ((4 : Nat) : Int)) (by omega))
    obtain ⟨j, hj, hjk⟩ := hall o2 ho2
    have := numbers_ge (n := 3) (b := 4) (by omega) (by omega) h2 hj
    have hk2 : k ≠ 1 := by omega
    simp [hk2]
end
end K78
namespace K78
open PySem PySem.Spec PyProof.Rows L2 Evl G
def bentM (tab : Tb) (i : Nat) : Tb := tab.take i ++ [((tab.getD i ([], none)).1, none)] ++ tab.drop (i + 1)
theorem look_skip {A B : Tb} {r one : List Int} {x : Option Int} (h : r ≠ one) : look (A ++ (r, x) :: B) one = look (A ++ B) one := by
  unfold look
  rw [List.find?_append, List.find?_append, List.find?_cons, decide_eq_false h]
theorem bent_look {tab : Tb} {i : Nat} (hi : i < tab.length) {one : List Int} (h : (tab[i]).1 ≠ one) : look (bentM tab i) one = look tab one := by
  have e1 : bentM tab i = tab.take i ++ ((tab[i]).1, none) :: tab.drop (i + 1) := by
    unfold bentM
    rw [List.append_assoc, List.getD_eq_getElem?_getD, List.getElem?_eq_getElem hi]
    rfl
  have e2 : tab = tab.take i ++ ((tab[i]).1, (tab[i]).2) :: tab.drop (i + 1) := by
    show tab = tab.take i ++ tab[i] :: tab.drop (i + 1)
    rw [← List.drop_eq_getElem_cons hi, List.take_append_drop]
  rw [e1, look_skip h]
  conv => rhs; rw [e2]
  rw [look_skip h]
theorem bent_rows {tab : Tb} {i : Nat} (hi : i < tab.length) : (bentM tab i).map (·.1) = tab.map (·.1) := by
  unfold bentM
  rw [List.getD_eq_getElem?_getD, List.getElem?_eq_getElem hi, List.map_append, List.map_append]
  show _ ++ [(tab[i]).1] ++ _ = _
  have e2 : tab = tab.take i ++ tab[i] :: tab.drop (i + 1) := by rw [← List.drop_eq_getElem_cons hi, List.take_append_drop]
  conv => rhs; rw [e2]
  rw [List.map_append, List.map_cons, List.append_assoc]
  rfl
section
variable {t : Nat} (h1 : 20 ≤ t) (h2 : t ≤ 24)
include h1 h2
theorem shows_bent {i : Nat} (hi : i < (tb t).length) : showsM 3 4 (bentM (tb t) i) = false := by
  have hi' : i < (sortedM 3 t 0).length := by rw [← tb_rows t, List.length_map]; exact hi
  obtain ⟨r, hr0⟩ : ∃ r, ((tb t)[i]).1 = r := ⟨_, rfl⟩
  have hr : r ∈ sortedM 3 t 0 := by rw [← hr0, ← tb_rows t]; exact List.mem_map.mpr ⟨_, List.getElem_mem hi, rfl⟩
  have hq : (r, none) ∈ bentM (tb t) i := by
    unfold bentM
    rw [List.getD_eq_getElem?_getD, List.getElem?_eq_getElem hi]
    show (r, none) ∈ _ ++ [(((tb t)[i]).1, none)] ++ _
    rw [hr0]
    simp
  obtain ⟨k, hk, hk1⟩ := known_all h1 h2 hr
  have hbad : badRow 3 4 (bentM (tb t) i) (r, none) = true := by
    unfold badRow
    by_cases hlt : r.getD 0 0 < ((4 : Nat) : Int)
    · show (!decide (decide (r.getD 0 0 < ((4 : Nat) : Int)) = decide ((none : Option Int) = some 1)) || _) = true
      rw [decide_eq_true hlt]
      rfl
    · have hge : ((4 : Nat) : Int) ≤ r.getD 0 0 := by omega
      obtain ⟨d, hd, hall⟩ := (numbers_law (n := 3) (b := 4) (by omega) (by omega) h2 hr hge hk).1
      have hirn : irnM none (sumsM (bentM (tb t) i) (choicesM 3 r 4)) = false := by
        unfold irnM
        rw [List.all_eq_false]
        refine ⟨(resultsM r d (4 : Nat)).map (lookO (bentM (tb t) i)), List.mem_map.mpr ⟨_, List.mem_map.mpr ⟨d, hd, rfl⟩, rfl⟩, ?_⟩
        intro z
        obtain ⟨o, ho, hz⟩ := List.any_eq_true.mp z
        obtain ⟨one, hone, rfl⟩ := List.mem_map.mp ho
        obtain ⟨j, hj, hjk⟩ := hall one hone
        have hne : ((tb t)[i]).1 ≠ one := fun e => by
          rw [hr0] at e
          subst e
          rw [hk] at hj
          cases hj
          omega
        have hm := res_mem h1 h2 hr hge hd hone
        unfold lookO at hz
        rw [bent_look hi hne, look_tb hm, hj] at hz
        cases hz
      show (_ || (decide (((4 : Nat) : Int) ≤ r.getD 0 0) && !irnM none (sumsM (bentM (tb t) i) (choicesM 3 r 4)))) = true
      rw [hirn, decide_eq_true hge]
      simp
  unfold showsM
  cases e : (bentM (tb t) i).find? (badRow 3 4 (bentM (tb t) i)) with
  | none => exact absurd hbad (List.find?_eq_none.mp e _ hq)
  | some q => rfl
/-- what the law's own numbers are: of balances and a demand whose rest is a row for every grant -/
theorem nums_ok {ls : List Int} (hl : ls.length = 4) (hg : ∀ x ∈ ls, 0 ≤ x) (hs : ls.sum + 4 = (t : Int)) : NumsOk (tb t) ls 4 ∧ ∀ v, v ∈ numsM (tb t) ls 4 ↔ ∃ i, i < ls.length ∧ look (numbersM 3 4 t) (isort (changedM ls i 4)) = some v := by
  have key : ∀ i, i < ls.length → ∃ k, look (numbersM 3 4 t) (isort (changedM ls i 4)) = some k ∧ look (tb t) (isort (changedM ls i 4)) = some (some k) := fun i hi => by
    have hm := grant_mem hl hg hs hi
    obtain ⟨k, hk, _⟩ := known_all h1 h2 hm
    exact ⟨k, hk, by rw [look_tb hm, hk]⟩
  refine ⟨⟨by omega, fun i hi => let ⟨k, _, hk⟩ := key i hi; ⟨k, hk⟩⟩, fun v => ⟨fun hv => ?_, fun ⟨i, hi, hv⟩ => ?_⟩⟩
  · obtain ⟨i, hi, rfl⟩ := List.mem_map.mp hv
    have hi := List.mem_range.mp hi
    obtain ⟨k, hk, hk2⟩ := key i hi
    refine ⟨i, hi, ?_⟩
    unfold lookO
    rw [hk2, hk]
    rfl
  · obtain ⟨k, hk, hk2⟩ := key i hi
    rw [hv] at hk
    cases hk
    refine List.mem_map.mpr ⟨i, List.mem_range.mpr hi, ?_⟩
    unfold lookO
    rw [hk2]
    rfl
theorem right_row {r : List Int} (hr : r ∈ sortedM 3 t 0) (hge : (4 : Int) ≤ r.getD 0 0) {k : Int} (hk : look (numbersM 3 4 t) r = some k) :
    (∀ d ∈ demandsM 3 4, NumsOk (tb t) (lessM r d) 4 ∧ numsM (tb t) (lessM r d) 4 ≠ []) ∧ minI ((demandsM 3 4).map fun d => maxI (numsM (tb t) (lessM r d) 4)) = k - 1 := by
  refine ⟨fun d hd => ?_, min_tops h1 h2 hr hge hk fun d hd => ⟨_, rfl, fun v => ?_⟩⟩
  · obtain ⟨_, hl, hg, hs⟩ := res_iff h1 h2 (one := []) hr hge hd
    refine ⟨(nums_ok h1 h2 hl hg hs).1, fun z => ?_⟩
    have : (numsM (tb t) (lessM r d) 4).length = 4 := by rw [numsM, List.length_map, List.length_range, hl]
    rw [z] at this
    cases this
  · obtain ⟨_, hl, hg, hs⟩ := res_iff h1 h2 (one := []) hr hge hd
    rw [(nums_ok h1 h2 hl hg hs).2 v]
    constructor
    · rintro ⟨i, hi, hv⟩
      exact ⟨_, (res_iff h1 h2 hr hge hd).1.mpr ⟨i, hi, rfl⟩, hv⟩
    · rintro ⟨one, ho, hv⟩
      obtain ⟨i, hi, rfl⟩ := (res_iff h1 h2 hr hge hd).1.mp ho
      exact ⟨i, hi, hv⟩
end
theorem changed_perm {ns : List Int} {i : Nat} {k : Int} (h : i < ns.length) : (changedM ns i k).Perm ((ns[i] + k) :: ns.eraseIdx i) := by
  unfold changedM
  rw [List.eraseIdx_eq_take_drop_succ, List.getD_eq_getElem?_getD, List.getElem?_eq_getElem h]
  exact List.perm_middle
/-- the results of balances in another order -/
theorem grant_perm {a b : List Int} (p : a.Perm b) {i : Nat} (hi : i < a.length) {k : Int} : ∃ j, j < b.length ∧ isort (changedM a i k) = isort (changedM b j k) := by
  obtain ⟨j, hj, e⟩ := List.mem_iff_getElem.mp (p.mem_iff.mp (List.getElem_mem hi))
  refine ⟨j, hj, isort_perm_eq ((changed_perm hi).trans (List.Perm.trans ?_ (changed_perm hj).symm))⟩
  rw [e]
  refine List.Perm.cons _ (List.Perm.cons_inv (a := b[j]) ?_)
  have h1 : (a[i] :: a.eraseIdx i).Perm a := erase_perm hi
  have h2 : (b[j] :: b.eraseIdx j).Perm b := erase_perm hj
  rw [← e] at h1
  exact h1.trans (p.trans h2.symm)
section
variable {t : Nat} (h1 : 20 ≤ t) (h2 : t ≤ 24)
include h1 h2
/-- what forcing_demand comes to -/
theorem force_78 {bs r : List Int} (hr : r ∈ sortedM 3 t 0) (hge : (4 : Int) ≤ r.getD 0 0) (p : bs.Perm r) {k : Int} (hk : look (numbersM 3 4 t) r = some k) :
    Posn bs 3 4 t ∧ ticksM bs 4 = some k ∧ ∃ d, forceM bs 4 k = some d ∧ d.length = 4 ∧ (∀ x ∈ d, 0 ≤ x) ∧ d.sum = 4 ∧ (lessM bs d).length = 4 ∧ (∀ x ∈ lessM bs d, 0 ≤ x) ∧ (lessM bs d).sum + 4 = (t : Int) ∧ ∀ i, i < 4 → ∃ j, look (numbersM 3 4 t) (isort (changedM (lessM bs d) i 4)) = some j ∧ j < k := by
  have l4 := sorted_len 3 t 0 r hr
  have hlb : bs.length = 4 := by rw [p.length_eq, l4]
  have hsum : bs.sum = (t : Int) := by rw [perm_sum p, sorted_sum 3 t 0 r hr]
  have hbd : ∀ x ∈ bs, 4 ≤ x ∧ x ≤ 24 := fun x hx => by
    have hx := p.mem_iff.mp hx
    have a1 := sorted_head 3 t 0 r hr x hx
    have a2 := sorted_bd 3 t 0 r hr x hx
    omega
  have hib : isort bs = r := by
    have e1 := isort_perm_eq p
    rw [e1]
    refine (isort_eq (List.Perm.refl r) ?_).symm
    have key : ∀ (n t l : Nat), ∀ r ∈ sortedM n t l, r.Pairwise (· ≤ ·) := by
      intro n
      induction n with
      | zero =>
        intro t l r h
        unfold sortedM at h
        split at h
        · rw [List.mem_singleton.mp h]; exact List.pairwise_singleton _ _
        · cases h
      | succ n ih =>
        intro t l r h
        obtain ⟨i, hi, hd⟩ := List.mem_flatMap.mp h
        obtain ⟨o, ho, rfl⟩ := List.mem_map.mp hd
        exact List.pairwise_cons.mpr ⟨fun x hx => (sorted_bd n _ _ o ho x hx).1, ih _ _ o ho⟩
    exact key 3 t 0 r hr
  have hnb : bs.length - 1 = 3 := by omega
  have htn : bs.sum.toNat = t := by rw [hsum]; rfl
  refine ⟨⟨hlb, by omega, by omega, hsum, h2, fun x hx => by have := hbd x hx; omega⟩, by unfold ticksM; rw [hnb, htn, hib, hk], ?_⟩
  have hz : (bs.zipIdx.find? fun p => decide (p.1 < ((4 : Nat) : Int))) = none := List.find?_eq_none.mpr fun q hq => by
    have hi := List.mem_zipIdx_iff_getElem?.mp hq
    have := hbd q.1 (List.mem_of_getElem? hi)
    simp
    omega
  have hfm : forceM bs 4 k = (demandsM 3 4).find? fun d => (resultsM bs d (4 : Nat)).all fun later => decide ((look (numbersM 3 4 t) later).getD k < k) := by
    unfold forceM
    rw [hz, hnb, htn]
  have fit : ∀ d ∈ demandsM 3 4, Fits bs d (4 : Nat) := fun d hd => by
    have l2 := demands_len 3 4 d hd
    refine ⟨by omega, by omega, by omega, fun i hi => ?_, fun x hx => ?_, by omega⟩
    · have a1 := hbd _ (getD_mem hi)
      have a2 := demands_bd 3 4 d hd _ (getD_mem (l := d) (i := i) (by omega))
      omega
    · obtain ⟨y, hy, z, hz, rfl⟩ := less_mem hx
      have a1 := hbd _ hy
      have a2 := demands_bd 3 4 d hd _ hz
      omega
  obtain ⟨d0, hd0, hall⟩ := (numbers_law (n := 3) (b := 4) (by omega) (by omega) h2 hr hge hk).1
  have ld0 := demands_len 3 4 d0 hd0
  obtain ⟨d1, z1, z2, z3⟩ := perm_zip p.symm (d := d0) (by omega)
  have hd1 : d1 ∈ demandsM 3 4 := demands_mem 3 4 d1 (by omega) (fun x hx => (demands_bd 3 4 d0 hd0 x (z2.mem_iff.mpr hx)).1) (by rw [← perm_sum z2, demands_sum 3 4 d0 hd0])
  have lp : (lessM bs d1).Perm (lessM r d0) := (z1.map _).symm
  have good : ((resultsM bs d1 (4 : Nat)).all fun later => decide ((look (numbersM 3 4 t) later).getD k < k)) = true := by
    refine List.all_eq_true.mpr fun later hlater => decide_eq_true ?_
    have hlt := (ssort_mem (d := bs.length) (fit d1 hd1).ok _).mp hlater
    obtain ⟨i, hi, rfl⟩ := List.mem_map.mp hlt
    have hi := List.mem_range.mp hi
    have hll := less_len (fit d1 hd1).len
    obtain ⟨j, hj, e⟩ := grant_perm lp (i := i) (by omega) (k := ((4 : Nat) : Int))
    rw [e]
    obtain ⟨v, hv, hvk⟩ := hall _ ((res_iff h1 h2 hr hge hd0).1.mpr ⟨j, hj, rfl⟩)
    have hv : look (numbersM 3 4 t) (isort (changedM (lessM r d0) j ((4 : Nat) : Int))) = some v := hv
    rw [hv]
    exact hvk
  cases hd : (demandsM 3 4).find? fun d => (resultsM bs d (4 : Nat)).all fun later => decide ((look (numbersM 3 4 t) later).getD k < k) with
  | none => exact absurd good (by simpa using List.find?_eq_none.mp hd d1 hd1)
  | some d =>
    have hdm := List.mem_of_find?_eq_some hd
    have hdp := List.find?_some hd
    have l2 := demands_len 3 4 d hdm
    have hll := less_len (fit d hdm).len
    refine ⟨d, by rw [hfm, hd], by omega, fun x hx => (demands_bd 3 4 d hdm x hx).1, demands_sum 3 4 d hdm, by omega, fun x hx => ((fit d hdm).bd x hx).1, by rw [less_sum (fit d hdm).len, hsum, demands_sum 3 4 d hdm]; omega, fun i hi => ?_⟩
    have hmem : isort (changedM (lessM bs d) i 4) ∈ resultsM bs d (4 : Nat) := (ssort_mem (d := bs.length) (fit d hdm).ok _).mpr (List.mem_map.mpr ⟨i, List.mem_range.mpr (by omega), rfl⟩)
    have hlt := of_decide_eq_true (List.all_eq_true.mp hdp _ hmem)
    cases e : look (numbersM 3 4 t) (isort (changedM (lessM bs d) i 4)) with
    | none =>
      rw [e] at hlt
      exact absurd hlt (Int.lt_irrefl _)
    | some l =>
      rw [e] at hlt
      exact ⟨l, rfl, hlt⟩
end
/-- the first greatest -/
theorem hold_spec {f : Nat → Int} : ∀ {k : Nat}, (∀ i, i < k → 1 ≤ f i) → 0 < k → ∃ j, j < k ∧ holdM f k = ((j : Int), f j) ∧ (∀ i, i < k → f i ≤ f j) ∧ ∀ i, i < j → f i < f j
  | 0, _, h => absurd h (Nat.lt_irrefl _)
  | 1, hf, _ => by
    have h0 := hf 0 (by omega)
    refine ⟨0, by omega, ?_, fun i hi => ?_, fun i hi => absurd hi (Nat.not_lt_zero _)⟩
    · show (if f 0 > (0 : Int) then (((0 : Nat) : Int), f 0) else ((0 : Int), (0 : Int))) = _
      rw [if_pos (by omega)]
    · obtain rfl : i = 0 := by omega
      exact Int.le_refl _
  | k + 2, hf, _ => by
    obtain ⟨j, hj, e, g1, g2⟩ := hold_spec (f := f) (k := k + 1) (fun i hi => hf i (by omega)) (by omega)
    by_cases h : f (k + 1) > f j
    · refine ⟨k + 1, by omega, ?_, fun i hi => ?_, fun i hi => ?_⟩
      · show (if f (k + 1) > (holdM f (k + 1)).2 then (((k + 1 : Nat) : Int), f (k + 1)) else holdM f (k + 1)) = _
        rw [e, if_pos h]
      · by_cases hik : i = k + 1
        · subst hik; exact Int.le_refl _
        · have := g1 i (by omega)
          omega
      · have := g1 i (by omega)
        omega
    · refine ⟨j, by omega, ?_, fun i hi => ?_, g2⟩
      · show (if f (k + 1) > (holdM f (k + 1)).2 then (((k + 1 : Nat) : Int), f (k + 1)) else holdM f (k + 1)) = _
        rw [e, if_neg h]
      · by_cases hik : i = k + 1
        · subst hik; omega
        · exact g1 i (by omega)
end K78
namespace K78
open PySem PySem.Spec PyProof.Rows L2 Evl G
section
variable {P : Program} {w : World} {K : PySem.W.Frag} {mg : Str → Option Value} {base : Heap}
theorem log_small {k : Int} (h1 : 0 ≤ k) (h2 : k ≤ 1000) : k.natAbs.log2 < 1920 := Nat.lt_of_le_of_lt (Nat.log2_le_self _) (by omega)
theorem c_reprI {i : Int} (h : i.natAbs.log2 < 1920) : CallD (fun xs H Q => ∃ i : Int, xs = [.int i] ∧ i.natAbs.log2 < 1920 ∧ Q (.str (toString i)) H) (rps [.int i]) (rp (.str (toString i))) := fun {B xs} r F H o Q q => by
  obtain ⟨x, rfl, rx⟩ := rpa1 r
  obtain rfl := rx.int_inv
  exact ⟨i, rfl, h, q _ H (Ex.refl H) (.str _)⟩
theorem o_eqS {x y : Str} : OpD rEq (rp (.str x)) (rp (.str y)) (rp (.bool (decide (x = y)))) := fun r1 r2 F H o Q q => by
  cases r1
  cases r2
  refine ⟨rfl, ?_⟩
  have e : decide (V.str x = V.str y) = decide (x = y) := by
    by_cases h : x = y
    · subst h; simp
    · rw [decide_eq_false h, decide_eq_false fun z => h (V.str.inj z)]
  rw [e]
  exact q _ H (Ex.refl H) (.bl _)
theorem ev_nums {σ : L2.St} {B : Hp} {tab : Tb} {left : List Int} {b : Int} {t0 t1 t2 : TE} (h0 : EvR t0 σ B (rd (tabD tab))) (h1 : EvD t1 σ B (lI left)) (h2 : EvD t2 σ B (.int b)) (ok : NumsOk tab left b) : EvD (tCall (spD preNums) [] E0 (tCons t0 (tCons t1 (tCons t2 tNil)))) σ B (lI (numsM tab left b)) :=
  d_callP (R := rp (lI (numsM tab left b))) (RA := fun B' vs => ∃ w0 w1 w2, vs = [w0, w1, w2] ∧ rd (tabD tab) B' w0 ∧ Rp B' w1 (lI left) ∧ Rp B' w2 (.int b))
    (fun F H o Q q => h0 F H o _ fun w0 H1 e1 q0 => h1 F H1 (o.go e1) _ fun w1 H2 e2 q1 => h2 F H2 (o.go (e1.trans e2)) _ fun w2 H3 e3 q2 => q _ H3 ((e1.trans e2).trans e3) ⟨w0, w1, w2, rfl, mono_rd _ (cut_mono (e2.trans e3)) q0, q1.mono (cut_mono e3), q2⟩)
    fun B' vs e ra => by
      obtain ⟨w0, w1, w2, rfl, q0, q1, q2⟩ := ra
      exact ⟨tab, left, b, w0, w1, w2, rfl, q0, q1, q2, ok, rfl⟩
theorem ev_left {σ : L2.St} {B : Hp} {bs ds : List Int} {t0 t1 : TE} (h0 : EvD t0 σ B (tI bs)) (h1 : EvD t1 σ B (tI ds)) (hl : bs.length ≤ 1000) : EvD (tCall (spD preLeft) [] E0 (tCons t0 (tCons t1 tNil))) σ B (lI (lessM bs ds)) :=
  dcall (d_cons h0 (d_cons h1 d_nil)) fun B' vs e ra => ⟨bs, ds, .inl ra, hl, rfl⟩
theorem head_at {n t : Nat} {r : List Int} (hr : r ∈ sortedM n t 0) : atI (r.map PyData.int) 0 = some (.int (r.getD 0 0)) := by
  have hl := sorted_len n t 0 r hr
  cases e : r with
  | nil => rw [e] at hl; cases hl
  | cons x r => exact atI_nat (show ((x :: r).map PyData.int)[0]? = _ from rfl)
theorem tops_ne {f : List Int → Int} : (demandsM 3 4).map f ≠ [] := fun z => by
  have h := congrArg List.length z
  rw [List.length_map] at h
  exact absurd h (by decide +kernel)
/-! ### _law_is_number_right -/
abbrev s__law_is_number_right : Stmt := topS 31
theorem sc__law_is_number_right : FnScope ["known", "row", "budget", "tops", "least", "demand"] ["known", "row", "budget"] (defScope s__law_is_number_right) := ⟨rfl, rfl, rfl, by decide +kernel, rfl, by decide +kernel, by decide +kernel⟩
-- slots: 0 known, 1 row, 2 budget, 3 tops, 4 least, 5 demand; cells: budget, known, row
def preNR (B : Hp) (vs : List V) (R : RelH) : Prop := ∃ (t : Nat) (r : List Int) (v0 v1 v2 : V), vs = [v0, v1, v2] ∧ rd (tabD (tb t)) B v0 ∧ Rp B v1 (tI r) ∧ Rp B v2 (.int ((4 : Nat) : Int)) ∧ 20 ≤ t ∧ t ≤ 24 ∧ r ∈ sortedM 3 t 0 ∧ R = rp (.bool true)
theorem ok_nr (T : Zs mg) (c__law_demands : Cal P w K mg base 4 "_law_demands" ["count", "budget"] [] (spD (preDemands 4))) (c__law_left : Cal P w K mg base 1 "_law_left" ["balances", "demand"] [] (spD preLeft)) (c__law_numbers : Cal P w K mg base 1 "_law_numbers" ["known", "left", "budget"] [] (spD preNums))
    {f : Addr} {fd : FuncData} (F : Fun K "_law_is_number_right" "_law_is_number_right" s__law_is_number_right f fd) : FnOk P w K mg base CX0 5 f fd ["known", "row", "budget"] (spD preNR) := by
  refine F.ok sc__law_is_number_right (fun vs H Q E h => ?_) (fun cdv A outer s H vs Q E hr h => ?_)
  · obtain ⟨F, B, R, o, ⟨t, r, v0, v1, v2, rfl, _⟩, _⟩ := h
    rfl
  · obtain ⟨F, B, R, o, ⟨t, r, v0, v1, v2, rfl, r0, r1, r2, h1, h2, hrow, rfl⟩, q⟩ := h
    refine ⟨_, (pss_cons (ps_if (pt_cmpR op_lt (pe_ix (k_ixT K) (pv 1) (pe_int) (fun _ _ => rfl)) (pv 2) (nomark _)) (pss_one (ps_ret (pe_cmpR op_eq (pe_callB SkE.call_repr_int (by rfl) T.z_repr (by decide +kernel) (pa_cons (pe_dget (hu_of hr) (pv 0) (pv 1) (fun _ _ => rfl)) pa_nil)) (pe_str) (nomark _)))) pss_nil)
    (pss_cons (ps_setLc (i := 3) (own := [("demand", 5)]) rfl sc__law_is_number_right.nd rfl rfl (sw_true rfl rfl rfl (by kernel_rfl)) (k_iList K (hl := (pe_call c__law_demands.ok (hr.mono (by first | decide | omega)) (by rfl) c__law_demands.m c__law_demands.kp c__law_demands.b c__law_demands.hv pass0 (pa_cons (pe_callB (k_len K) (by rfl) T.z_len (by decide +kernel) (pa_cons (pv 1) pa_nil)) (pa_cons (pv 2) pa_nil))))) (blkOk_by (by kernel_rfl)) (fun _ _ _ _ _ => (pg_name (i := 5) sc__law_is_number_right.nd rfl (Or.inl rfl))) (fun _ _ _ _ _ => pts_nil) (fun _ _ _ _ _ => (pe_callB (k_max K (hc := rfl)) (by rfl) T.z_max (by decide +kernel) (pa_cons (pe_call c__law_numbers.ok (hr.mono (by first | decide | omega)) (by rfl) c__law_numbers.m c__law_numbers.kp c__law_numbers.b c__law_numbers.hv pass0 (pa_cons (pv 0) (pa_cons (pe_call c__law_left.ok (hr.mono (by first | decide | omega)) (by rfl) c__law_left.m c__law_left.kp c__law_left.b c__law_left.hv pass0 (pa_cons (pv 1) (pa_cons (pv 5) pa_nil))) (pa_cons (pv 2) pa_nil)))) pa_nil))))
    (pss_cons (ps_set (i := 4) sc__law_is_number_right.nd rfl (Or.inl rfl) (pe_callB (k_min K (hc := rfl)) (by rfl) T.z_min (by decide +kernel) (pa_cons (pv 3) pa_nil)))
    (pss_one (ps_ret (pe_cmpR op_eq (pe_callB SkE.call_repr_int (by rfl) T.z_repr (by decide +kernel) (pa_cons (pe_dget (hu_of hr) (pv 0) (pv 1) (fun _ _ => rfl)) pa_nil)) (pe_callB SkE.call_repr_int (by rfl) T.z_repr (by decide +kernel) (pa_cons (pe_ifExp (pt_cmpR op_eq (pv 4) (pe_op op_pow (pe_int) (pe_int)) (nomark _)) (pe_non) (pe_op op_add (pv 4) (pe_int))) pa_nil)) (nomark _))))))), ?_⟩
    refine fn_run (B := B) ?_ o q
    clear q o
    obtain ⟨k, hk, hk1, hk2⟩ := known_all h1 h2 hrow
    have l4 := sorted_len 3 t 0 r hrow
    have lk : ∀ {B' : Hp} {σ : L2.St}, Ex B B' → σ[0]? = some (some v0) → σ[1]? = some (some v1) → EvD (tDGet (tVar 0) (tVar 1)) σ B' (.int k) := fun e g0 g1 =>
      d_dget (ks := r) (l := tabD (tb t)) (d_var (R := rd (tabD (tb t))) (mono_rd _) (v := v0) g0 (mono_rd _ e r0)) (d_v (r1.mono e) g1) (by rw [look_map, look_tb hrow, hk]; rfl)
    refine e_if (b := decide (r.getD 0 0 < ((4 : Nat) : Int))) (b_cmp (dop (dop (d_v r1) d_int (o_ixT (head_at hrow))) (d_v r2) o_lt)) (fun hlt => ?_) (fun hlt => ?_)
    · have h1k := numbers_one (n := 3) (b := 4) (by omega) (by omega) h2 hrow (of_decide_eq_true hlt)
      rw [hk] at h1k
      cases h1k
      exact e_ret (as_eq (dop (dcb (d_cons (lk (Ex.refl _) rfl rfl) d_nil) (c_reprI (by decide))) d_str o_eqS) (congrArg PyData.bool (decide_eq_true (by decide +kernel))))
    · have hge : ((4 : Nat) : Int) ≤ r.getD 0 0 := by have := of_decide_eq_false hlt; omega
      obtain ⟨g1, g2⟩ := right_row h1 h2 hrow hge hk
      have hdl := demands_few 3 (by omega) 4 (by omega)
      refine e_asgD (d := lI ((demandsM 3 4).map fun d => maxI (numsM (tb t) (lessM r d) 4))) (as_eq (d_lc (demandsM 3 4) tI (fun d => .int (maxI (numsM (tb t) (lessM r d) 4))) (by omega) (i_list (dcall (d_cons (as_eq (dcb (d_cons (d_v r1) d_nil) c_lenT) (show PyData.int ((r.map PyData.int).length : Nat) = .int ((3 + 1 : Nat) : Int) by rw [List.length_map, l4])) (d_cons (d_v r2) d_nil)) fun B' vs e ra => ⟨3, 4, ra, by omega, by omega, by omega, rfl⟩)) fun d hd v5 B1 e1 r5 => ?_) (by show PyData.list _ = PyData.list _; rw [List.map_map]; rfl)) fun v3 B1 e1 r3 => ?_
      · refine ⟨_, tg_name, rfl, dcb (d_cons (ev_nums (d_var (R := rd (tabD (tb t))) (mono_rd _) (v := v0) rfl (mono_rd _ e1 r0)) (ev_left (d_v (r1.mono e1)) (d_v r5) (by omega)) (d_v (r2.mono e1)) (g1 d hd).1) d_nil) (c_maxL (g1 d hd).2)⟩
      · refine e_asgD (d := .int (k - 1)) (as_eq (dcb (d_cons (d_v r3) d_nil) (c_minL tops_ne)) (by rw [g2])) fun v4 B2 e2 r4 => ?_
        have hne : ¬ (k - 1 = 10 ^ (9 : Int).toNat) := by
          have : (10 : Int) ^ (9 : Int).toNat = 1000000000 := by decide
          omega
        refine e_ret (as_eq (dop (dcb (d_cons (lk (e1.trans e2) rfl rfl) d_nil) (c_reprI (log_small (by omega) hk2))) (dcb (d_cons (d_if (b := false) (b_eq (b_cmp (dop (d_v r4) (dop d_int d_int (o_pow (by unfold CPow; decide +kernel))) o_eqI)) (decide_eq_false hne)) (fun z => by cases z) fun _ => dop (d_v r4) d_int o_add) d_nil) (c_reprI (i := k - 1 + 1) (log_small (by omega) (by omega)))) o_eqS) ?_)
        rw [show k - 1 + 1 = k by omega, decide_eq_true rfl]
/-! ### _law_is_forced_right -/
abbrev s__law_is_forced_right : Stmt := topS 32
theorem sc__law_is_forced_right : FnScope ["hand", "known", "row", "balances", "caught", "demand", "error", "amount", "balance"] ["hand", "known", "row"] (defScope s__law_is_forced_right) := ⟨rfl, rfl, rfl, by decide +kernel, rfl, by decide +kernel, by decide +kernel⟩
-- slots: 0 hand, 1 known, 2 row, 3 balances, 4 caught, 5 demand, 6 error, 7 amount, 8 balance; cells: 
def spForced : Sp := fun vs H Q E => ∃ (p : Addr) (m t : Nat) (r : List Int) (v1 v2 : V), vs = [.ref p, v1, v2] ∧ HandAt H p m ∧ m ≤ 80000 ∧ rd (tabD (tb t)) (cut (fun c => c = p) H) v1 ∧ Rp (cut (fun c => c = p) H) v2 (tI r) ∧ 20 ≤ t ∧ t ≤ 24 ∧ r ∈ sortedM 3 t 0 ∧ (4 : Int) ≤ r.getD 0 0 ∧
  ∀ H', But p H H' → HandAt H' p (m + 4) → Q (.bl true) H'
theorem but_cut {p : Addr} {H H' : Hp} (h : But p H H') : Ex (cut (fun c => c = p) H) (cut (fun c => c = p) H') := fun b u z => by
  obtain ⟨z1, z2⟩ := cut_some.mp z
  exact cut_at z1 (h b u z1 z2)
theorem off_hand {H : Hp} {p : Addr} {m : Nat} (h : HandAt H p m) : Off (fun c => c = p) (cut (fun c => c = p) H) H := Off.of fun c hc => by rw [hc]; exact h.dom
theorem ok_forced (T : Zs mg) (c__law_mixed : Cal P w K mg base 2 "_law_mixed" ["hand", "some"] [] spMixed) (c_forcing_demand : Cal P w K mg base 7 "forcing_demand" ["balances", "budget"] [] (spD preForce)) (c__law_left : Cal P w K mg base 1 "_law_left" ["balances", "demand"] [] (spD preLeft)) (c__law_numbers : Cal P w K mg base 1 "_law_numbers" ["known", "left", "budget"] [] (spD preNums))
    {f : Addr} {fd : FuncData} (F : Fun K "_law_is_forced_right" "_law_is_forced_right" s__law_is_forced_right f fd) : FnOk P w K mg base CX0 8 f fd ["hand", "known", "row"] spForced := by
  refine F.ok sc__law_is_forced_right (fun vs H Q E h => ?_) (fun cdv A outer s H vs Q E hr h => ?_)
  · obtain ⟨p, m, t, r, v1, v2, rfl, _⟩ := h
    rfl
  · obtain ⟨p, m, t, r, v1, v2, rfl, hh, hm, r1, r2, h1, h2, hrow, hge, q⟩ := h
    refine ⟨_, (pss_cons (ps_par3 (i := 3) (j := 4) (l := 5) (by rfl) sc__law_is_forced_right.nd rfl rfl rfl (by decide) (by decide) (by decide) rfl rfl rfl (pa_cons (pe_callTy (k_tuple K) (by rfl) T.z_tuple (by decide +kernel) (pa_cons (pe_call c__law_mixed.ok (hr.mono (by first | decide | omega)) (by rfl) c__law_mixed.m c__law_mixed.kp c__law_mixed.b c__law_mixed.hv pass0 (pa_cons (pv 0) (pa_cons (pv 2) pa_nil))) pa_nil)) (pa_cons (pe_non) (pa_cons (pe_non) pa_nil))) (by rfl))
    (pss_cons (ps_try_thru0 (pss_one (ps_set (i := 5) sc__law_is_forced_right.nd rfl (Or.inl rfl) (pe_call c_forcing_demand.ok (hr.mono (by first | decide | omega)) (by rfl) c_forcing_demand.m c_forcing_demand.kp c_forcing_demand.b c_forcing_demand.hv pass0 (pa_cons (pv 3) (pa_cons (pe_int) pa_nil))))))
    (pss_cons (ps_if (PW.pt (pw_or (pt_cmp (pc_isN (pe_dget (hu_of hr) (pv 1) (pv 2) (fun _ _ => rfl))) (by rfl)) (pw_or1 (pt_cmp (pc_notN (pv 4)) (by rfl))))) (pss_one (ps_ret (pe_and (pe_cmp (pc_isN (pe_dget (hu_of hr) (pv 1) (pv 2) (fun _ _ => rfl))) rfl) (pe_one (pe_cmp (pc_notN (pv 4)) rfl))))) pss_nil)
    (pss_cons (ps_if (PW.pt (pw_or (pt_not (pt_val (pe_callB (k_isi K) (by rfl) T.z_isinstance (by decide +kernel) (pa_cons (pv 5) (pa_cons (pe_bltn (v := .ty "tuple") (u := .type "tuple") (by rfl) T.z_tuple (by decide +kernel) rfl) pa_nil))))) (pw_or (pt_cmpR op_ne (pe_callB (k_len K) (by rfl) T.z_len (by decide +kernel) (pa_cons (pv 5) pa_nil)) (pe_int) (nomark _)) (pw_or (pt_cmpR op_lt (pe_callB (k_minT K (hc := rfl)) (by rfl) T.z_min (by decide +kernel) (pa_cons (pv 5) pa_nil)) (pe_int) (nomark _)) (pw_or1 (pt_cmpR op_gt (pe_callB (k_sumT K (hc := rfl)) (by rfl) T.z_sum (by decide +kernel) (pa_cons (pv 5) pa_nil)) (pe_int) (nomark _))))))) (pss_one (ps_ret (pe_bl))) pss_nil)
    (pss_cons (ps_if (pt_val (pe_callB (k_any K (hc := rfl)) (by rfl) T.z_any (by decide +kernel) (pa_cons (pe_lc (own := [("amount", 7), ("balance", 8)]) rfl sc__law_is_forced_right.nd (k_zip K (by rfl) T.z_zip (pa_cons (pv 5) (pa_cons (pv 3) pa_nil))) (blkOk_by (by kernel_rfl)) (fun _ _ _ _ _ => (k_pg K (n := 2) (hc := rfl) (hs := (pgs_cons (pg_name (i := 7) sc__law_is_forced_right.nd rfl (Or.inl rfl)) (pgs_cons (pg_name (i := 8) sc__law_is_forced_right.nd rfl (Or.inl rfl)) pgs_nil))))) (fun _ _ _ _ _ => pts_nil) (fun _ _ _ _ _ => (pe_cmpR op_gt (pv 7) (pv 8) (nomark _)))) pa_nil))) (pss_one (ps_ret (pe_bl))) pss_nil)
    (pss_one (ps_ret (pe_and (pe_cmpR op_eq (pe_callB (k_sumT K (hc := rfl)) (by rfl) T.z_sum (by decide +kernel) (pa_cons (pv 5) pa_nil)) (pe_int) (nomark _)) (pe_one (pe_cmpR op_lt (pe_callB (k_max K (hc := rfl)) (by rfl) T.z_max (by decide +kernel) (pa_cons (pe_call c__law_numbers.ok (hr.mono (by first | decide | omega)) (by rfl) c__law_numbers.m c__law_numbers.kp c__law_numbers.b c__law_numbers.hv pass0 (pa_cons (pv 1) (pa_cons (pe_call c__law_left.ok (hr.mono (by first | decide | omega)) (by rfl) c__law_left.m c__law_left.kp c__law_left.b c__law_left.hv pass0 (pa_cons (pv 3) (pa_cons (pv 5) pa_nil))) (pa_cons (pe_int) pa_nil)))) pa_nil)) (pe_dget (hu_of hr) (pv 1) (pv 2) (fun _ _ => rfl)) (nomark _))))))))))), ?_⟩
    have l4 := sorted_len 3 t 0 r hrow
    obtain ⟨k, hk, hk1, hk2⟩ := known_all h1 h2 hrow
    obtain ⟨a, rfl, ha⟩ := r2.tI_inv
    refine ⟨.ref p, rfl, .ref a, rfl, p, a, m, r, rfl, hh, by omega, cut_ex _ _ ha, by omega, fun l H1 ms pm bt hh1 hl nl fl => ⟨l, _, rfl, .inl ⟨sq_of hl, fun b3 hb3 => ⟨_, _, _, rfl, ?_⟩⟩⟩⟩
    have e1 : Ex H1 (upd H1 b3 (.tup (ms.map V.int))) := Ex.new hb3
    have g3 : (upd H1 b3 (.tup (ms.map V.int))) b3 = some (.tup (ms.map V.int)) := upd_same
    generalize upd H1 b3 (.tup (ms.map V.int)) = H2 at e1 g3 ⊢
    have hh2 := hh1.mono e1
    have bt2 : But p H H2 := bt.trans (But.ex e1)
    have o2 := off_hand hh2
    have x2 := but_cut bt2
    have r1' := mono_rd _ x2 r1
    have r2' := r2.mono x2
    have r3 : Rp (cut (fun c => c = p) H2) (.ref b3) (tI ms) := .tI_mk (cut_at (o2.tupOff g3) g3)
    obtain ⟨ps, tk, d, hd, dl, dn, ds, ll, ln, ls, hall⟩ := force_78 h1 h2 hrow hge pm hk
    have lk : ∀ {B' : Hp} {σ : L2.St}, Ex (cut (fun c => c = p) H2) B' → σ[1]? = some (some v1) → σ[2]? = some (some (.ref a)) → EvD (tDGet (tVar 1) (tVar 2)) σ B' (.int k) := fun e g1 g2 =>
      d_dget (ks := r) (l := tabD (tb t)) (d_var (R := rd (tabD (tb t))) (mono_rd _) (v := v1) g1 (mono_rd _ e r1')) (d_v (r2'.mono e) g2) (by rw [look_map, look_tb hrow, hk]; rfl)
    obtain ⟨nok, nv⟩ := nums_ok h1 h2 ll ln ls
    show tSeq _ _ _ [some (.ref p), some v1, some (.ref a), some (.ref b3), some .non, some .non, none, none, none] H2
    refine EvS.run (R := rp (.bool true)) (B := cut (fun c => c = p) H2) ?_ o2 fun v H4 e4 r4 => ?_
    · refine e_asgD (d := tI d) (dcall (d_cons (d_v r3) (d_cons (d_int (i := ((4 : Nat) : Int))) d_nil)) fun B' vs e ra => ⟨ms, 3, 4, t, k, ra, ps, tk, by rw [hd]; rfl⟩) fun v5 B1 x1 r5 => ?_
      have hdne : d ≠ [] := fun z => by rw [z] at dl; cases dl
      have hmin0 := dn _ (minI_mem hdne)
      refine e_if (b := false) (b_eq (b_or (b_val (d_isN (lk x1 rfl rfl) rfl)) fun _ => b_val (d_notN (d_v .non) rfl)) rfl) (fun h => by cases h) fun _ => ?_
      refine e_if (b := false) (b_eq (b_or (b_not (b_val (d_isiT (r := true) (d_v r5) (by decide +kernel)))) fun _ => b_or (b_cmp (dop (dcb (d_cons (d_v r5) d_nil) c_lenT) d_int o_neI)) fun _ => b_or (b_cmp (dop (dcb (d_cons (d_v r5) d_nil) (c_minT hdne)) d_int o_lt)) fun _ => b_cmp (dop (dcb (d_cons (d_v r5) d_nil) c_sumT) d_int o_gt)) ?_) (fun h => by cases h) fun _ => ?_
      · rw [List.length_map, dl, ds, decide_eq_false (show ¬ minI d < 0 by omega)]
        rfl
      refine e_if (b := (d.zip ms).any fun p => decide (p.2 < p.1)) (b_eq (b_val (dcb (d_cons (as_eq (d_lc (d.zip ms) (fun p => PyData.tuple [.int p.1, .int p.2]) (fun p => .bool (decide (p.2 < p.1))) (by rw [List.length_zip]; omega) (i_zipT' (d_cons (d_v r5) (d_cons (d_v (r3.mono x1)) d_nil))) fun pq hp v B' e rv => ?_) (d' := .list (((d.zip ms).map fun p => decide (p.2 < p.1)).map PyData.bool)) (by rw [List.map_map]; rfl)) d_nil) c_any)) ?_) (fun _ => e_ret d_bl) fun _ => ?_
      · obtain ⟨y7, y8, t7, t8, tg⟩ := tg_pair (K := K) (i := 7) (j := 8) (σ := wipe [some (.ref p), some v1, some (.ref a), some (.ref b3), some .non, some v5, none, none, none] [7, 8]) rv
        exact ⟨_, tg, rfl, dop (d_v t7) (d_v t8) o_gt⟩
      · rw [List.any_map]
        rfl
      have hne : numsM (tb t) (lessM ms d) 4 ≠ [] := fun z => by
        have : (numsM (tb t) (lessM ms d) 4).length = 4 := by rw [numsM, List.length_map, List.length_range, ll]
        rw [z] at this
        cases this
      have hmax : maxI (numsM (tb t) (lessM ms d) 4) < k := by
        obtain ⟨m1, _⟩ := maxI_spec hne
        obtain ⟨i, hi, hv⟩ := (nv _).mp m1
        obtain ⟨j, hj, hjk⟩ := hall i (by omega)
        rw [hv] at hj
        cases hj
        exact hjk
      refine e_ret (as_eq (d_andV (b := true) (dop (dcb (d_cons (d_v r5) d_nil) c_sumT) d_int o_eqI) fun _ => as_eq (dop (dcb (d_cons (ev_nums (d_var (R := rd (tabD (tb t))) (mono_rd _) (v := v1) rfl (mono_rd _ x1 r1')) (ev_left (d_v (r3.mono x1)) (d_v r5) (by have := pm.length_eq; omega)) d_int nok) d_nil) (c_maxL hne)) (lk x1 rfl rfl) o_lt) (by rw [decide_eq_true hmax])) ?_)
      rw [ds]
      rfl
    · obtain rfl := r4.bl_inv
      exact q H4 (bt2.trans (But.ex e4)) ((hh2.mono e4).le (by omega))
end
end K78
namespace K78
open PySem PySem.Spec PyProof.Rows L2 Evl G
theorem rpa_mem {B : Hp} {xs : List V} {ds : List D} {v : V} (r : RpA B xs ds) (h : v ∈ xs) : ∃ d ∈ ds, Rp B v d := by
  induction ds generalizing xs with
  | nil => cases r; cases h
  | cons d ds ih =>
    cases r with
    | cons r1 r2 =>
      rcases List.mem_cons.mp h with rfl | h
      · exact ⟨d, List.mem_cons_self, r1⟩
      · obtain ⟨e, he, re⟩ := ih r2 h
        exact ⟨e, List.mem_cons_of_mem _ he, re⟩
section
variable {P : Program} {w : World} {K : PySem.W.Frag} {mg : Str → Option Value} {base : Heap}
theorem d_indexMax {σ : L2.St} {B : Hp} {i : Nat} {v : V} {ns : List Int} {j : Nat} (h : σ[i]? = some (some v)) (r : Rp B v (lI ns)) (hj : ns[j]? = some (maxI ns)) (hm : ∀ m x, m < j → ns[m]? = some x → x ≠ maxI ns) :
    EvD (tBM K "list" (rIndex K) (tVar i) (tCons (tCB (rMax K) (tCons (tVar i) tNil)) tNil)) σ B (.int (j : Nat)) := fun F H o Q q => by
  obtain ⟨a, rfl, ha⟩ := r.lI_inv
  have ha' := o.ex _ _ ha
  have hne : ns ≠ [] := fun z => by rw [z] at hj; cases hj
  refine ⟨.ref a, h, tyV_l ha', ?_⟩
  refine dcb (d_cons (d_v (d := lI ns) r h) d_nil) (c_maxL hne) F H o _ fun y H1 e1 r1 => ?_
  obtain rfl := r1.int_inv
  refine ⟨a, ns.map V.int, .int (maxI ns), j, .int (maxI ns), rfl, rfl, sq_of (e1 _ _ ha'), rfl, List.all_eq_true.mpr fun z hz => ?_, by rw [List.getElem?_map, hj]; rfl, by show (maxI ns == maxI ns) = true; simp, fun m z hmj hz => ?_, q _ H1 e1 (.int _)⟩
  · obtain ⟨x, _, rfl⟩ := List.mem_map.mp hz
    rfl
  · rw [List.getElem?_map] at hz
    cases hx : ns[m]? with
    | none => rw [hx] at hz; cases hz
    | some x =>
      rw [hx] at hz
      cases hz
      show (x == maxI ns) = false
      simpa using hm m x hmj hx
/-! ### _law_is_held_right -/
abbrev s__law_is_held_right : Stmt := topS 33
theorem sc__law_is_held_right : FnScope ["hand", "known", "row", "demand", "left", "numbers"] ["hand", "known", "row"] (defScope s__law_is_held_right) := ⟨rfl, rfl, rfl, by decide +kernel, rfl, by decide +kernel, by decide +kernel⟩
-- slots: 0 hand, 1 known, 2 row, 3 demand, 4 left, 5 numbers; cells: 
def spHeld : Sp := fun vs H Q E => ∃ (p : Addr) (m t : Nat) (r : List Int) (v1 v2 : V), vs = [.ref p, v1, v2] ∧ HandAt H p m ∧ m ≤ 80000 ∧ rd (tabD (tb t)) (cut (fun c => c = p) H) v1 ∧ Rp (cut (fun c => c = p) H) v2 (tI r) ∧ 20 ≤ t ∧ t ≤ 24 ∧ r ∈ sortedM 3 t 0 ∧ (4 : Int) ≤ r.getD 0 0 ∧
  ∀ H', But p H H' → HandAt H' p (m + 5) → Q (.bl true) H'
theorem ok_held (T : Zs mg) (c__law_of : Cal P w K mg base 2 "_law_of" ["hand", "some"] [] spOf) (c__law_mixed : Cal P w K mg base 2 "_law_mixed" ["hand", "some"] [] spMixed) (c__law_demands : Cal P w K mg base 4 "_law_demands" ["count", "budget"] [] (spD (preDemands 4)))
    (c_holding_grant : Cal P w K mg base 7 "holding_grant" ["balances", "budget"] [] (spD preHold)) (c__law_left : Cal P w K mg base 1 "_law_left" ["balances", "demand"] [] (spD preLeft)) (c__law_numbers : Cal P w K mg base 1 "_law_numbers" ["known", "left", "budget"] [] (spD preNums))
    {f : Addr} {fd : FuncData} (F : Fun K "_law_is_held_right" "_law_is_held_right" s__law_is_held_right f fd) : FnOk P w K mg base CX0 8 f fd ["hand", "known", "row"] spHeld := by
  refine F.ok sc__law_is_held_right (fun vs H Q E h => ?_) (fun cdv A outer s H vs Q E hr h => ?_)
  · obtain ⟨p, m, t, r, v1, v2, rfl, _⟩ := h
    rfl
  · obtain ⟨p, m, t, r, v1, v2, rfl, hh, hm, r1, r2, h1, h2, hrow, hge, q⟩ := h
    refine ⟨_, (pss_cons (ps_if (pt_cmpR op_lt (pe_ix (k_ixT K) (pv 2) (pe_int) (fun _ _ => rfl)) (pe_int) (nomark _)) (pss_one (ps_ret (pe_bl))) pss_nil)
    (pss_cons (ps_set (i := 3) sc__law_is_held_right.nd rfl (Or.inl rfl) (pe_call c__law_of.ok (hr.mono (by first | decide | omega)) (by rfl) c__law_of.m c__law_of.kp c__law_of.b c__law_of.hv pass0 (pa_cons (pv 0) (pa_cons (pe_call c__law_demands.ok (hr.mono (by first | decide | omega)) (by rfl) c__law_demands.m c__law_demands.kp c__law_demands.b c__law_demands.hv pass0 (pa_cons (pe_int) (pa_cons (pe_int) pa_nil))) pa_nil))))
    (pss_cons (ps_set (i := 4) sc__law_is_held_right.nd rfl (Or.inl rfl) (pe_call c__law_left.ok (hr.mono (by first | decide | omega)) (by rfl) c__law_left.m c__law_left.kp c__law_left.b c__law_left.hv pass0 (pa_cons (pe_call c__law_mixed.ok (hr.mono (by first | decide | omega)) (by rfl) c__law_mixed.m c__law_mixed.kp c__law_mixed.b c__law_mixed.hv pass0 (pa_cons (pv 0) (pa_cons (pv 2) pa_nil))) (pa_cons (pv 3) pa_nil))))
    (pss_cons (ps_set (i := 5) sc__law_is_held_right.nd rfl (Or.inl rfl) (pe_call c__law_numbers.ok (hr.mono (by first | decide | omega)) (by rfl) c__law_numbers.m c__law_numbers.kp c__law_numbers.b c__law_numbers.hv pass0 (pa_cons (pv 1) (pa_cons (pv 4) (pa_cons (pe_int) pa_nil)))))
    (pss_one (ps_ret (pe_cmpR op_eq (pe_callB SkE.call_repr_int (by rfl) T.z_repr (by decide +kernel) (pa_cons (pe_call c_holding_grant.ok (hr.mono (by first | decide | omega)) (by rfl) c_holding_grant.m c_holding_grant.kp c_holding_grant.b c_holding_grant.hv pass0 (pa_cons (pe_callTy (k_tuple K) (by rfl) T.z_tuple (by decide +kernel) (pa_cons (pv 4) pa_nil)) (pa_cons (pe_int) pa_nil))) pa_nil)) (pe_callB SkE.call_repr_int (by rfl) T.z_repr (by decide +kernel) (pa_cons (k_bm K PySem.F.plainAttrs_list PySem.F.slot_list_index PySem.F.type_list_index (k_index (K := K)) (pv 5) (pa_cons (pe_callB (k_max K (hc := rfl)) (by rfl) T.z_max (by decide +kernel) (pa_cons (pv 5) pa_nil)) pa_nil)) pa_nil)) (nomark _)))))))), ?_⟩
    have l4 := sorted_len 3 t 0 r hrow
    obtain ⟨a, rfl, ha⟩ := r2.tI_inv
    have o0 := off_hand hh
    refine h_if (σ := [some (.ref p), some v1, some (.ref a), none, none, none]) (b := false) (b_eq (b_cmp (dop (dop (d_v (i := 2) r2) d_int (o_ixT (head_at hrow))) d_int o_lt)) (decide_eq_false (by omega))) o0 (fun z => by cases z) (fun _ H1 e1 o1 => ?_)
    have hdl := demands_few 3 (by omega) 4 (by omega)
    have evd : EvD (tCall (spD (preDemands 4)) [] E0 (tCons (tC (.int 4)) (tCons (tC (.int 4)) tNil))) [some (.ref p), some v1, some (.ref a), none, none, none] (cut (fun c => c = p) H) (lT (demandsM 3 4)) :=
      dcall (d_cons (d_int (i := ((3 + 1 : Nat) : Int))) (d_cons (d_int (i := ((4 : Nat) : Int))) d_nil)) fun B' vs e ra => ⟨3, 4, ra, by omega, by omega, by omega, rfl⟩
    refine ⟨.ref p, rfl, evd _ H1 o1 _ fun vl H2 e2 rl => ?_⟩
    obtain ⟨l, xs, rfl, hl, rxs⟩ := rl.lst_inv
    have nl : l ≠ p := (cut_some.mp hl).1
    have lx := rxs.length
    rw [List.length_map] at lx
    have hh2 := (hh.mono e1).mono e2
    refine ⟨p, l, m, xs, rfl, hh2, by omega, nl, cut_ex _ _ hl, by rw [lx]; decide +kernel, by omega, fun v3 H3 hv bt3 hh3 => ?_⟩
    obtain ⟨dd, hdd, rv⟩ := rpa_mem rxs hv
    obtain ⟨d, hd, rfl⟩ := List.mem_map.mp hdd
    have bt03 : But p H H3 := (But.ex (e1.trans e2)).trans bt3
    have r3 := rv.mono (but_cut bt3)
    have ha3 := cut_ex _ _ (but_cut bt03 _ _ ha)
    refine ⟨.ref p, rfl, .ref a, rfl, p, a, m + 1, r, rfl, hh3, by omega, ha3, by omega, fun l4' H4 ms pm bt4 hh4 hl4 nl4 fl4 => ⟨v3, rfl, ?_⟩⟩
    have o4 := off_hand hh4
    have r3' := r3.mono (but_cut bt4)
    have bt04 := bt03.trans bt4
    have lms := pm.length_eq
    refine ⟨_, _, _, o4, ⟨ms, d, .inr (.cons (.lI_mk (cut_at nl4 hl4)) (.cons r3' .nil)), by omega, rfl⟩, fun v4 H5 e5 r4 => ?_⟩
    have o5 := o4.next e5
    have bt05 := bt04.trans (But.ex e5)
    have hh5 := hh4.mono e5
    have r1' := mono_rd _ (but_cut bt05) r1
    have hbd : ∀ x ∈ ms, 4 ≤ x ∧ x ≤ 24 := fun x hx => by
      have hx := pm.mem_iff.mp hx
      have a1 := sorted_head 3 t 0 r hrow x hx
      have a2 := sorted_bd 3 t 0 r hrow x hx
      omega
    have ld := demands_len 3 4 d hd
    have ll : (lessM ms d).length = 4 := by rw [less_len (by omega)]; omega
    have ln : ∀ x ∈ lessM ms d, 0 ≤ x := fun x hx => by
      obtain ⟨y, hy, z, hz, rfl⟩ := less_mem hx
      have a1 := hbd y hy
      have a2 := demands_bd 3 4 d hd z hz
      omega
    have ls : (lessM ms d).sum + 4 = (t : Int) := by rw [less_sum (by omega), perm_sum pm, sorted_sum 3 t 0 r hrow, demands_sum 3 4 d hd]; omega
    obtain ⟨nok, nv⟩ := nums_ok h1 h2 ll ln ls
    generalize hleft : lessM ms d = left at ll ln ls nok nv r4
    have key : ∀ i, i < 4 → ∃ k, look (numbersM 3 4 t) (isort (changedM left i ((4 : Nat) : Int))) = some k ∧ 1 ≤ k := fun i hi => by
      obtain ⟨k, hk, hk1, _⟩ := known_all h1 h2 (grant_mem ll ln ls (i := i) (by omega))
      exact ⟨k, hk, hk1⟩
    obtain ⟨j, hj, hold, mx, first⟩ := hold_spec (f := fun i => (look (numbersM 3 4 t) (isort (changedM left i ((4 : Nat) : Int)))).getD 0) (k := 4) (fun i hi => by obtain ⟨k, hk, hk1⟩ := key i hi; show 1 ≤ (look (numbersM 3 4 t) (isort (changedM left i ((4 : Nat) : Int)))).getD 0; rw [hk]; exact hk1) (by omega)
    have nget : ∀ i, i < 4 → (numsM (tb t) left 4)[i]? = some ((look (numbersM 3 4 t) (isort (changedM left i ((4 : Nat) : Int)))).getD 0) := fun i hi => by
      unfold numsM
      rw [List.getElem?_map, List.getElem?_range (by omega)]
      show some ((lookO (tb t) (isort (changedM left i ((4 : Nat) : Int)))).getD 0) = _
      have hlo : lookO (tb t) (isort (changedM left i ((4 : Nat) : Int))) = look (numbersM 3 4 t) (isort (changedM left i ((4 : Nat) : Int))) := lookO_tb (grant_mem ll ln ls (i := i) (by omega))
      rw [hlo]
    have nlen : (numsM (tb t) left 4).length = 4 := by rw [numsM, List.length_map, List.length_range, ll]
    have hmax : (look (numbersM 3 4 t) (isort (changedM left j ((4 : Nat) : Int)))).getD 0 = maxI (numsM (tb t) left 4) := by
      refine maxI_eq (List.mem_of_getElem? (nget j hj)) fun y hy => ?_
      obtain ⟨i, hi, rfl⟩ := List.mem_iff_getElem.mp hy
      have hg := nget i (by omega)
      rw [List.getElem?_eq_getElem hi] at hg
      rw [Option.some.inj hg]
      exact mx i (by omega)
    show tSeq _ _ _ [some (.ref p), some v1, some (.ref a), some v3, some v4, none] H5
    refine EvS.run (R := rp (.bool true)) (B := cut (fun c => c = p) H5) ?_ o5 fun v H6 e6 r6 => ?_
    · refine e_asgD (d := lI (numsM (tb t) left 4)) (ev_nums (d_var (R := rd (tabD (tb t))) (mono_rd _) (v := v1) rfl r1') (d_v r4) d_int nok) fun v5 B1 x1 r5 => ?_
      refine e_ret (as_eq (dop (dcb (d_cons (dcall (d := .int (j : Nat)) (d_cons (dcb (d_cons (d_v (r4.mono x1)) d_nil) c_tupL) (d_cons (d_int (i := ((4 : Nat) : Int))) d_nil)) fun B' vs e ra => ⟨left, 3, 4, t, ra, ⟨ll, by omega, by omega, ls, h2, fun i hi => by obtain ⟨k, hk, _⟩ := key i (by omega); exact ⟨k, hk⟩⟩, ?_⟩) d_nil) (c_reprI (i := ((j : Nat) : Int)) (log_small (by omega) (by omega)))) (dcb (d_cons (d_indexMax (j := j) rfl r5 (by rw [nget j hj, hmax]) fun m x hmj hx => ?_) d_nil) (c_reprI (i := ((j : Nat) : Int)) (log_small (by omega) (by omega)))) o_eqS) (congrArg PyData.bool (decide_eq_true rfl)))
      · show rp _ = rp _
        rw [ll, hold]
      · rw [nget m (by omega)] at hx
        cases hx
        rw [← hmax]
        have := first m hmj
        exact Int.ne_of_lt this
    · obtain rfl := r6.bl_inv
      exact q H6 (bt05.trans (But.ex e6)) ((hh5.mono e6).le (by omega))
end
end K78
namespace K78
open PySem PySem.Spec PyProof.Rows L2 Evl G
/-! ### _law_sorted_rows -/
def leastM (row : List Int) : Int := if row = [] then 0 else row.getD (row.length - 1) 0
def manyM (t : Int) (k : Nat) (row : List Int) : Nat := ((t - row.sum).fdiv (4 - (k : Int)) + 1 - leastM row).toNat
def longM (t : Int) (k : Nat) (row : List Int) : List (List Int) := (List.range (manyM t k row)).map fun i => row ++ [leastM row + ((i : Nat) : Int)]
def stM (t : Int) : Nat → List (List Int)
  | 0 => [[]]
  | k + 1 => (stM t k).flatMap (longM t k)
def rowOk (row : List Int) : Bool := decide (0 ≤ row.sum) && decide (row.sum ≤ 24) && decide (row.length ≤ 4) && decide (0 ≤ leastM row) && decide (leastM row ≤ 24)
def stagesB (t : Nat) : Bool := ((List.range 4).all fun k => decide ((stM t k).length ≤ 1000) && (stM t k).all rowOk) && decide ((stM t 3).map (fun row => row ++ [(t : Int) - row.sum]) = sortedM 3 t 0)
theorem stages : ∀ t, t < 25 → 20 ≤ t → stagesB t = true := by decide +kernel
theorem stage {t k : Nat} (h1 : 20 ≤ t) (h2 : t ≤ 24) (hk : k < 4) : (stM t k).length ≤ 1000 ∧ ∀ row ∈ stM t k, 0 ≤ row.sum ∧ row.sum ≤ 24 ∧ row.length ≤ 4 ∧ 0 ≤ leastM row ∧ leastM row ≤ 24 := by
  have h := stages t (by omega) h1
  unfold stagesB at h
  have h := (Bool.and_eq_true_iff.mp h).1
  have h := List.all_eq_true.mp h k (List.mem_range.mpr hk)
  obtain ⟨a, b⟩ := Bool.and_eq_true_iff.mp h
  refine ⟨of_decide_eq_true a, fun row hr => ?_⟩
  have c := List.all_eq_true.mp b row hr
  unfold rowOk at c
  simp only [Bool.and_eq_true, decide_eq_true_eq] at c
  omega
theorem stage_end {t : Nat} (h1 : 20 ≤ t) (h2 : t ≤ 24) : (stM t 3).map (fun row => row ++ [(t : Int) - row.sum]) = sortedM 3 t 0 := by
  have h := stages t (by omega) h1
  unfold stagesB at h
  exact of_decide_eq_true (Bool.and_eq_true_iff.mp h).2
section
variable {P : Program} {w : World} {K : PySem.W.Frag} {mg : Str → Option Value} {base : Heap}
theorem d_neg {σ : L2.St} {B : Hp} {te : TE} {i : Int} (h : EvD te σ B (.int i)) : EvD (tUn (rU fun i => .int (-i)) te) σ B (.int (-i)) := fun F H o Q q => h F H o _ fun v H1 e1 r1 => by
  obtain rfl := r1.int_inv
  exact ⟨i, rfl, q _ H1 e1 (.int _)⟩
theorem atI_last {ds : List D} {d : D} (h : ds[ds.length - 1]? = some d) : atI ds (-1) = some d := by
  have hl : 0 < ds.length := by
    cases ds with
    | nil => cases h
    | cons x ds => exact Nat.succ_pos _
  unfold atI ixN
  rw [if_neg (by decide), if_pos (by omega)]
  show ds[((-1 : Int) + (ds.length : Int)).toNat]? = _
  rw [show ((-1 : Int) + (ds.length : Int)).toNat = ds.length - 1 by omega]
  exact h
abbrev s__law_sorted_rows : Stmt := topS 27
theorem sc__law_sorted_rows : FnScope ["count", "total", "found", "at", "longer", "row", "least", "one"] ["count", "total"] (defScope s__law_sorted_rows) := ⟨rfl, rfl, rfl, by decide +kernel, rfl, by decide +kernel, by decide +kernel⟩
-- slots: 0 count, 1 total, 2 found, 3 at, 4 longer, 5 row, 6 least, 7 one; cells: row, total
def preSR (B : Hp) (vs : List V) (R : RelH) : Prop := ∃ t : Nat, RpA B vs [.int 4, .int (t : Nat)] ∧ 20 ≤ t ∧ t ≤ 24 ∧ R = rp (lT (sortedM 3 t 0))
theorem ok_sr (T : Zs mg) {f : Addr} {fd : FuncData} (F : Fun K "_law_sorted_rows" "_law_sorted_rows" s__law_sorted_rows f fd) : FnOk P w K mg base CX0 1 f fd ["count", "total"] (spD preSR) := by
  refine F.ok sc__law_sorted_rows (fun vs H Q E h => ?_) (fun cdv A outer s H vs Q E hr h => ?_)
  · obtain ⟨F, B, R, o, ⟨t, r, _⟩, _⟩ := h
    exact r.length
  · obtain ⟨F, B, R, o, ⟨t, r, h1, h2, rfl⟩, q⟩ := h
    obtain ⟨v0, v1, rfl, r0, r1⟩ := rpa2 r
    refine ⟨_, (pss_cons (ps_set (i := 2) sc__law_sorted_rows.nd rfl (Or.inl rfl) (pe_lst (pa_cons (pe_tup pa_nil) pa_nil)))
    (pss_cons (ps_for PassesOwn.never rfl (pi_range1 (by rfl) T.z_range (pa_cons (pe_op op_sub (pv 0) (pe_int)) pa_nil)) (pg_name (i := 3) sc__law_sorted_rows.nd rfl (Or.inl rfl))
    (pss_cons (ps_set (i := 4) sc__law_sorted_rows.nd rfl (Or.inl rfl) (pe_lst pa_nil))
    (pss_cons (ps_for PassesOwn.never rfl (k_iList K (hl := (pv 2))) (pg_name (i := 5) sc__law_sorted_rows.nd rfl (Or.inr rfl))
    (pss_cons (ps_set (i := 6) sc__law_sorted_rows.nd rfl (Or.inl rfl) (pe_ifExp (pt_cmpR (k_neD K (hu := hr.units)) (pv 5) (pe_tup pa_nil) (nomark _)) (pe_ix (k_ixT K) (pv 5) (pe_un un_neg (pe_int)) (fun _ _ => rfl)) (pe_int)))
    (pss_one (ps_expr (k_bm K PySem.F.plainAttrs_list PySem.F.slot_list_extend PySem.F.type_list_extend mt_extend (pv 4) (pa_cons (pe_lc (own := [("one", 7)]) rfl sc__law_sorted_rows.nd (pi_range2 (by rfl) T.z_range (pa_cons (pv 6) (pa_cons (pe_op op_add (pe_op op_fdivN (pe_op op_sub (pv 1) (pe_callB (k_sumT K (hc := rfl)) (by rfl) T.z_sum (by decide +kernel) (pa_cons (pv 5) pa_nil))) (pe_op op_sub (pv 0) (pv 3))) (pe_int)) pa_nil))) (blkOk_by (by kernel_rfl)) (fun _ _ _ _ _ => (pg_name (i := 7) sc__law_sorted_rows.nd rfl (Or.inl rfl))) (fun _ _ _ _ _ => pts_nil) (fun _ _ _ _ _ => (pe_op (k_catT K) (pv 5) (pe_tup (pa_cons (pv 7) pa_nil))))) pa_nil))))))
    (pss_one (ps_set (i := 2) sc__law_sorted_rows.nd rfl (Or.inl rfl) (pv 4))))))
    (pss_one (ps_ret (pe_lc (own := [("row", 5)]) rfl sc__law_sorted_rows.nd (k_iList K (hl := (pv 2))) (blkOk_by (by kernel_rfl)) (fun _ _ _ _ _ => (pg_name (i := 5) sc__law_sorted_rows.nd rfl (Or.inl rfl))) (fun _ _ _ _ _ => pts_nil) (fun _ _ _ _ _ => (pe_op (k_catT K) (pv 5) (pe_tup (pa_cons (pe_op op_sub (pv 1) (pe_callB (k_sumT K (hc := rfl)) (by rfl) T.z_sum (by decide +kernel) (pa_cons (pv 5) pa_nil))) pa_nil))))))))), ?_⟩
    refine fn_run (B := B) ?_ o q
    clear q o
    obtain rfl := r0.int_inv
    obtain rfl := r1.int_inv
    refine e_asgD (d := lT (stM t 0)) (d_lst (d_cons (d_tup d_nil (Nat.zero_le _)) d_nil) (by show 1 ≤ 100000; decide)) fun v2 B0 e0 r2 => ?_
    intro F H o D' q
    refine s_for (σ := [some (.int 4), some (.int (t : Int)), some v2, none, none, none, none, none]) (B := B0) (List.range 3) (fun i => PyData.int ((i : Nat) : Int)) (i_rng1' (d_cons (dop (d_v (i := 0) (.int 4)) d_int o_sub) d_nil) (by decide) (by decide)) o
      (fun B1 k σ' H' => Off F B1 H' ∧ Ex H H' ∧ ∃ x3 x4 x5 x6 v2, σ' = [some (.int 4), some (.int (t : Int)), some v2, x3, x4, x5, x6, none] ∧ Rp (cut F H') v2 (lT (stM t k)))
      (fun H1 e1 => ⟨o.next e1, e1, none, none, none, none, v2, rfl, r2.mono (o.cut.trans (cut_mono e1))⟩) (fun B1 k σ' H' _ h => h.1) (fun B1 k i v σ' H' H'' eB hi hP eH rv => ?_) (fun B1 σ' H' eB hP => ?_)
    · obtain ⟨oH, eH0, x3, x4, x5, x6, v2, rfl, rf⟩ := hP
      obtain ⟨hk, rfl⟩ := List.getElem?_eq_some_iff.mp hi
      rw [List.length_range] at hk
      rw [List.getElem_range] at rv
      obtain rfl := rv.int_inv
      have o1 := oH.next eH
      have rf1 := rf.mono (cut_mono eH)
      obtain ⟨sl, srow⟩ := stage h1 h2 (k := k) (by omega)
      have sl2 := (stage h1 h2 (k := k + 1) (by omega)).1
      refine ⟨Nat.zero_le _, fun p hp => ?_⟩
      have op := o1.new (u := .lst []) hp
      refine s_for (σ := [some (.int 4), some (.int (t : Int)), some v2, some (.int (k : Int)), some (.ref p), x5, x6, none]) (B := cut F H'') (stM t k) tI (i_list (d_v rf1)) op
        (fun B2 m σ' H3 => Off (fun c => F c ∨ c = p) B2 H3 ∧ Ex H'' H3 ∧ (∃ x5 x6, σ' = [some (.int 4), some (.int (t : Int)), some v2, some (.int (k : Int)), some (.ref p), x5, x6, none]) ∧ ∃ acc, H3 p = some (.lst acc) ∧ RpA (cut (fun c => F c ∨ c = p) H3) acc (((stM t k).take m).flatMap fun row => (longM t k row).map tI))
        (fun H1 e1 => ⟨op.next e1, (Ex.new hp).trans e1, ⟨x5, x6, rfl⟩, [], e1 _ _ upd_same, .nil⟩) (fun B1 k σ' H' _ h => h.1) (fun B2 m row v σ' H3 H4 eB2 hrow hP2 e34 rv => ?_) (fun B2 σ' H3 eB2 hP2 => ?_)
      · obtain ⟨o3, e3, ⟨y5, y6, rfl⟩, acc, hacc, ra⟩ := hP2
        obtain ⟨hm, rfl⟩ := List.getElem?_eq_some_iff.mp hrow
        have hin := List.getElem_mem hm
        generalize hrw : (stM t k)[m] = row at rv hin
        obtain ⟨g1, g2, g3, g4, g5⟩ := srow row hin
        have o4 := o3.next e34
        have hfd : ((t : Int) - row.sum).fdiv (4 - (k : Int)) ≤ 1000 ∧ 0 ≤ ((t : Int) - row.sum).fdiv (4 - (k : Int)) + 1000 := by
          rw [Int.fdiv_eq_ediv_of_nonneg _ (by omega)]
          obtain rfl | rfl | rfl : k = 0 ∨ k = 1 ∨ k = 2 := by omega
          · omega
          · omega
          · omega
        refine h_asgD (σ := [some (.int 4), some (.int (t : Int)), some v2, some (.int (k : Int)), some (.ref p), some v, y6, none]) (d := .int (leastM row)) (d_if (b := !decide (row = [])) (b_eq (b_cmp (dop (d_v rv) (d_tup d_nil (Nat.zero_le _)) (o_neD (shaped_tup row) rfl))) (by cases row <;> rfl)) (fun h => ?_) (fun h => ?_)) o4 fun v6 H5 e5 o5 x5 r6 => ?_
        · have hne : row ≠ [] := by simpa using h
          have hlen : 0 < row.length := List.length_pos_iff.mpr hne
          have hlast : (row.map PyData.int)[(row.map PyData.int).length - 1]? = some (.int (leastM row)) := by
            unfold leastM
            rw [if_neg hne, List.length_map, List.getElem?_map, List.getD_eq_getElem?_getD, List.getElem?_eq_getElem (by omega)]
            rfl
          exact dop (d_v rv) (d_neg d_int) (o_ixT (atI_last hlast))
        · have hnil : row = [] := by simpa using h
          subst hnil
          exact d_int
        · obtain rfl := r6.int_inv
          have hacc5 := e5 _ _ (e34 _ _ hacc)
          refine ⟨.ref p, rfl, tyV_l hacc5, ?_⟩
          have rv5 := rv.mono x5
          have hmany : manyM t k row ≤ 2000 := by unfold manyM; omega
          have ev : EvD (tLc (iRng2 (tCons (tVar 6) (tCons (tOp (rI0 fun i j => .int (i + j)) (tOp (rI CDivN fun i j => .int (i.fdiv j)) (tOp (rI0 fun i j => .int (i - j)) (tVar 1) (tCB (rSumT K) (tCons (tVar 5) tNil))) (tOp (rI0 fun i j => .int (i - j)) (tVar 0) (tVar 3))) (tC (.int 1))) tNil))) (gName 7) tYes (tOp (rCatA K) (tVar 5) (tTup (tCons (tVar 7) tNil))) [7])
              [some (.int 4), some (.int (t : Int)), some v2, some (.int (k : Int)), some (.ref p), some v, some (.int (leastM row)), none] (cut (fun c => F c ∨ c = p) H5) (.list ((longM t k row).map tI)) := by
            refine as_eq (d_lc (List.range (manyM t k row)) (fun i => .int (leastM row + ((i : Nat) : Int))) (fun i => tI (row ++ [leastM row + ((i : Nat) : Int)])) (by rw [List.length_range]; omega) (i_rng2n (d_cons (d_v (i := 6) (.int _)) (d_cons (dop (dop (dop (d_v (i := 1) (.int (t : Int))) (dcb (d_cons (d_v rv5) d_nil) c_sumT) o_sub) (dop (d_v (i := 0) (.int 4)) (d_v (i := 3) (.int (k : Int))) o_sub) (o_fdivN ⟨by omega, by omega⟩)) d_int o_add) d_nil)) rfl (by omega)) fun i hi v7 B7 e7 r7 => ?_) ?_
            · refine ⟨_, tg_name, rfl, as_eq (dop (d_v (rv5.mono e7)) (d_tup (d_cons (d_v r7) d_nil) (by show 1 ≤ 100000; decide)) (o_catT (by rw [List.length_map]; show _ + 1 ≤ _; omega))) ?_⟩
              show PyData.tuple _ = PyData.tuple _
              rw [List.map_append]
              rfl
            · unfold longM
              rw [List.map_map]
              rfl
          refine ev _ H5 o5 _ fun u H6 e6 ru => ?_
          obtain ⟨b, zs, rfl, hb, rz⟩ := ru.lst_inv
          have hacc6 := e6 _ _ hacc5
          have e36 := (e34.trans e5).trans e6
          have hlen := flatMap_le (stM t k) (fun row => (longM t k row).map tI) (m + 1)
          have htot : ((stM t k).flatMap fun row => (longM t k row).map tI).length ≤ 1000 := by
            have e : ((stM t k).flatMap fun row => (longM t k row).map tI) = (stM t (k + 1)).map tI := by
              show _ = ((stM t k).flatMap (longM t k)).map tI
              rw [List.map_flatMap]
            rw [e, List.length_map]
            exact sl2
          have hgm : (longM t k (stM t k)[m]).map tI = (longM t k row).map tI := by rw [hrw]
          rw [flatMap_take hm, List.length_append, hgm] at hlen
          refine ⟨p, b, acc, zs, rfl, rfl, hacc6, cut_ex _ _ hb, sz_of (by rw [ra.length, rz.length]; omega), ?_⟩
          refine ⟨(o3.go e36).upd (Or.inr rfl), Ex.mut (e3.trans e36) hp, ⟨_, _, rfl⟩, acc ++ zs, upd_same, ?_⟩
          rw [cut_upd (Or.inr rfl), flatMap_take hm, hgm]
          exact (ra.mono (cut_mono e36)).append rz
      · obtain ⟨o3, e3, ⟨y5, y6, rfl⟩, acc, hacc, ra⟩ := hP2
        rw [List.take_length] at ra
        have e : ((stM t k).flatMap fun row => (longM t k row).map tI) = (stM t (k + 1)).map tI := by
          show _ = ((stM t k).flatMap (longM t k)).map tI
          rw [List.map_flatMap]
        rw [e] at ra
        refine ⟨.ref p, rfl, (oH.go eH).go e3, (eH0.trans eH).trans e3, _, _, _, _, .ref p, rfl, .lst (cut_at (o1.free hp) hacc) (ra.mono cut_more)⟩
    · obtain ⟨oH, eH0, x3, x4, x5, x6, v2, rfl, rf⟩ := hP
      obtain ⟨sl, srow⟩ := stage h1 h2 (k := 3) (by omega)
      have rf : Rp (cut F H') v2 (lT (stM t 3)) := rf
      dsimp only
      refine (EvS.run (R := rp (lT (sortedM 3 t 0))) (B := cut F H') (e_ret ?_) (oH.self) fun v H2 e2 r2 => q v H2 (eH0.trans e2) r2)
      rw [← stage_end h1 h2]
      refine as_eq (d_lc (stM t 3) tI (fun row => tI (row ++ [(t : Int) - row.sum])) (by omega) (i_list (d_v rf)) fun row hrow v B2 e2 rv => ⟨_, tg_name, rfl, as_eq (dop (d_v rv) (d_tup (d_cons (dop (d_v (i := 1) (.int (t : Int))) (dcb (d_cons (d_v rv) d_nil) c_sumT) o_sub) d_nil) (by show 1 ≤ 100000; decide)) (o_catT (by have := (srow row hrow).2.2.1; rw [List.length_map]; show _ + 1 ≤ _; omega))) ?_⟩) ?_
      · show PyData.tuple _ = PyData.tuple _
        rw [List.map_append]
        rfl
      · show PyData.list _ = PyData.list _
        rw [List.map_map]
        rfl
end
end K78
namespace K78
open PySem PySem.Spec PyProof.Rows L2 Evl G
/-! ### what repr shows of the rows -/
theorem rows_show {n : Nat} {ls : List (List Int)} (hz : ls.length ≤ 1000) (h : ∀ r ∈ ls, r.length ≤ 4 ∧ ∀ x ∈ r, 0 ≤ x ∧ x ≤ 24) :
    (lT ls).showable = true ∧ (lT ls).hasDict = false ∧ (lT ls).depth ≤ 60 ∧ (lT ls).shown.length ≤ sizeLine := by
  have row : ∀ r : List Int, (∀ x ∈ r, 0 ≤ x ∧ x ≤ 24) → PyData.showableAll (r.map PyData.int) = true ∧ PyData.hasDictAll (r.map PyData.int) = false ∧ PyData.depthAll (r.map PyData.int) = 0 ∧ PyData.leavesShortAll 13 (r.map PyData.int) = true ∧ PyData.weightAll (r.map PyData.int) ≤ 6 * r.length := by
    intro r
    induction r with
    | nil => exact fun _ => ⟨by simp [PyData.showableAll], by simp [PyData.hasDictAll], by simp [PyData.depthAll], by simp [PyData.leavesShortAll], by simp [PyData.weightAll]⟩
    | cons x r ih =>
      intro h
      obtain ⟨a, b, c, d, e⟩ := ih fun y hy => h y (List.mem_cons_of_mem _ hy)
      obtain ⟨x0, x1⟩ := h x List.mem_cons_self
      have hw : (PyData.int x).weight ≤ 5 := by
        obtain ⟨k, rfl⟩ : ∃ k : Nat, x = (k : Int) := ⟨x.toNat, by omega⟩
        have hk : k < 25 := by omega
        simp only [PyData.weight]
        exact (by decide : ∀ k : Nat, k < 25 → (if ((k : Int) == 0) = true then 0 else (k : Int).natAbs.log2 + 1) ≤ 5) k hk
      have hlg : x.natAbs.log2 < 1920 := Nat.lt_of_le_of_lt (Nat.log2_le_self _) (by omega)
      refine ⟨?_, ?_, ?_, ?_, ?_⟩
      · simp only [List.map_cons, PyData.showableAll, PyData.showable, a, hlg, decide_true, Bool.and_true]
      · simp only [List.map_cons, PyData.hasDictAll, PyData.hasDict, b, Bool.or_false]
      · simp only [List.map_cons, PyData.depthAll, PyData.depth, c, Nat.max_self]
      · simp only [List.map_cons, PyData.leavesShortAll, PyData.leavesShort, d, Bool.and_true, decide_eq_true_eq]
        exact PyData.shown_int_le2 (by omega) (by omega)
      · simp only [List.map_cons, PyData.weightAll, List.length_cons]
        omega
  have all : PyData.showableAll (ls.map tI) = true ∧ PyData.hasDictAll (ls.map tI) = false ∧ PyData.depthAll (ls.map tI) ≤ 1 ∧ PyData.leavesShortAll 13 (ls.map tI) = true ∧ PyData.weightAll (ls.map tI) ≤ 25 * ls.length := by
    clear hz
    induction ls with
    | nil => exact ⟨by simp [PyData.showableAll], by simp [PyData.hasDictAll], by simp [PyData.depthAll], by simp [PyData.leavesShortAll], by simp [PyData.weightAll]⟩
    | cons r ls ih =>
      obtain ⟨a, b, c, d, e⟩ := ih fun y hy => h y (List.mem_cons_of_mem _ hy)
      obtain ⟨l4, hb⟩ := h r List.mem_cons_self
      obtain ⟨a1, b1, c1, d1, e1⟩ := row r hb
      refine ⟨?_, ?_, ?_, ?_, ?_⟩
      · simp only [List.map_cons, PyData.showableAll, PyData.showable, a, a1, Bool.and_self]
      · simp only [List.map_cons, PyData.hasDictAll, PyData.hasDict, b, b1, Bool.or_self]
      · simp only [List.map_cons, PyData.depthAll, PyData.depth, c1]
        omega
      · simp only [List.map_cons, PyData.leavesShortAll, PyData.leavesShort, d, d1, Bool.and_self]
      · simp only [List.map_cons, PyData.weightAll, PyData.weight, List.length_cons]
        omega
  obtain ⟨a, b, c, d, e⟩ := all
  have hs := PyData.shown_le 13 (by decide) (lT ls) (by show PyData.leavesShort 13 (.list _) = true; simp only [PyData.leavesShort]; exact d)
  have hw : (lT ls).weight ≤ 25000 := by show PyData.weight (.list _) ≤ _; simp only [PyData.weight]; omega
  refine ⟨?_, ?_, ?_, ?_⟩
  · show PyData.showable (.list _) = true
    simp only [PyData.showable]; exact a
  · show PyData.hasDict (.list _) = false
    simp only [PyData.hasDict]; exact b
  · show PyData.depth (.list _) ≤ 60
    simp only [PyData.depth]; omega
  · have : sizeLine = 16777216 := by decide
    omega
/-! ### the late rows -/
def lateM (t : Nat) : List (List Int) := (sortedM 3 t 0).filter fun r => decide ((4 : Int) ≤ r.getD 0 0)
theorem late_some : ∀ t, t < 25 → 20 ≤ t → 1 ≤ (lateM t).length := by decide +kernel
theorem late_mem {t : Nat} {r : List Int} (h : r ∈ lateM t) : r ∈ sortedM 3 t 0 ∧ (4 : Int) ≤ r.getD 0 0 := by
  obtain ⟨h1, h2⟩ := List.mem_filter.mp h
  exact ⟨h1, of_decide_eq_true h2⟩
theorem rows_some : ∀ t, t < 25 → 20 ≤ t → 2 ≤ (sortedM 3 t 0).length := by decide +kernel
theorem show_tb {t : Nat} (h1 : 20 ≤ t) (h2 : t ≤ 24) : ShowOk 3 4 t (tb t) := ⟨by omega, by omega, h2, tb_rows t, fun q hq k hk => by
  obtain ⟨r, hr, rfl⟩ := List.mem_map.mp hq
  obtain ⟨j, hj, hj1, _⟩ := known_all h1 h2 hr
  have e : some j = some k := hj.symm.trans hk
  cases e
  omega, fun q hq hge => by
  obtain ⟨r, hr, rfl⟩ := List.mem_map.mp hq
  exact lots_ok h1 h2 (tb_rows t) hr hge⟩
theorem bent_mem {tab : Tb} {i : Nat} (hi : i < tab.length) {q : List Int × Option Int} (h : q ∈ bentM tab i) : q ∈ tab ∨ q = ((tab[i]).1, none) := by
  unfold bentM at h
  rw [List.getD_eq_getElem?_getD, List.getElem?_eq_getElem hi] at h
  rcases List.mem_append.mp h with h | h
  · rcases List.mem_append.mp h with h | h
    · exact .inl (List.mem_of_mem_take h)
    · exact .inr (List.mem_singleton.mp h)
  · exact .inl (List.mem_of_mem_drop h)
theorem show_bent {t i : Nat} (h1 : 20 ≤ t) (h2 : t ≤ 24) (hi : i < (tb t).length) : ShowOk 3 4 t (bentM (tb t) i) := by
  have hrows : (bentM (tb t) i).map (·.1) = sortedM 3 t 0 := (bent_rows hi).trans (tb_rows t)
  refine ⟨by omega, by omega, h2, hrows, fun q hq k hk => ?_, fun q hq hge => ?_⟩
  · rcases bent_mem hi hq with h | h
    · exact (show_tb h1 h2).pos q h k hk
    · rw [h] at hk
      cases hk
  · have hm : q.1 ∈ sortedM 3 t 0 := by rw [← hrows]; exact List.mem_map.mpr ⟨q, hq, rfl⟩
    exact lots_ok h1 h2 hrows hm hge
theorem bent_P {tab : Tb} {i : Nat} (hi : i < tab.length) : (tabP tab).take i ++ [PyData.tuple [tI (tab[i]).1, .none]] ++ (tabP tab).drop (i + 1) = tabP (bentM tab i) := by
  unfold bentM
  rw [List.getD_eq_getElem?_getD, List.getElem?_eq_getElem hi]
  show _ = List.map _ (_ ++ [((tab[i]).1, none)] ++ _)
  rw [List.map_append, List.map_append, List.map_take, List.map_drop]
  rfl
theorem ex_but {p : Addr} {H H1 H2 : Hp} (hp : H p = none) (e : Ex H H1) (b : But p H1 H2) : Ex H H2 := fun a u h => b a u (fun z => by rw [z, hp] at h; cases h) (e a u h)
section
variable {P : Program} {w : World} {K : PySem.W.Frag} {mg : Str → Option Value} {base : Heap}
theorem d_repr {σ : L2.St} {B : Hp} {te : TE} {ds : List D} (h : EvD te σ B (.list ds)) (s : (PyData.list ds).showable = true ∧ (PyData.list ds).hasDict = false ∧ (PyData.list ds).depth ≤ 60 ∧ (PyData.list ds).shown.length ≤ sizeLine) :
    EvD (tCB (rRepr K) (tCons te tNil)) σ B (.str (PyData.list ds).shown) := fun F H o Q q => h F H o _ fun v H1 e1 r1 => by
  have dp := (r1.mono (fun b u z => cut_ex _ _ z : Ex (cut F H1) H1)).dp (K := K)
  obtain ⟨a, xs, rfl, ha, rxs⟩ := r1.lst_inv
  exact ⟨a, _, rfl, dp, s.1, s.2.1, s.2.2.1, s.2.2.2, q _ H1 e1 (.str _)⟩
theorem o_neS {x y : Str} : OpD rNe (rp (.str x)) (rp (.str y)) (rp (.bool (!decide (x = y)))) := fun r1 r2 F H o Q q => by
  cases r1
  cases r2
  refine ⟨rfl, ?_⟩
  have e : decide (V.str x = V.str y) = decide (x = y) := by
    by_cases h : x = y
    · subst h; simp
    · rw [decide_eq_false h, decide_eq_false fun z => h (V.str.inj z)]
  rw [e]
  exact q _ H (Ex.refl H) (.bl _)
theorem tabD_P {tab : Tb} : ((tabD tab).map fun r => PyData.tuple [tI r.1, r.2]) = tabP tab := by rw [List.map_map]; rfl
theorem tabD_keys {t : Nat} : (tabD (tb t)).map (·.1) = sortedM 3 t 0 := by rw [List.map_map, ← tb_rows t]; rfl
theorem ev_shows {σ : L2.St} {B : Hp} {n b t : Nat} {tab : Tb} {t0 t1 t2 t3 : TE} {x : Bool} (h0 : EvD t0 σ B (.int ((n + 1 : Nat) : Int))) (h1 : EvD t1 σ B (.int (b : Nat))) (h2 : EvD t2 σ B (.int (t : Nat))) (h3 : EvR t3 σ B (rtab (tabP tab))) (ok : ShowOk n b t tab) (hx : showsM n b tab = x) :
    EvD (tCall (spD preShows) [] E0 (tCons t0 (tCons t1 (tCons t2 (tCons t3 tNil))))) σ B (.bool x) :=
  d_callP (R := rp (.bool x)) (RA := fun B' vs => ∃ v0 v1 v2 v3, vs = [v0, v1, v2, v3] ∧ Rp B' v0 (.int ((n + 1 : Nat) : Int)) ∧ Rp B' v1 (.int (b : Nat)) ∧ Rp B' v2 (.int (t : Nat)) ∧ rtab (tabP tab) B' v3)
    (fun F H o Q q => h0 F H o _ fun v0 H1 e1 q0 => h1 F H1 (o.go e1) _ fun v1 H2 e2 q1 => h2 F H2 (o.go (e1.trans e2)) _ fun v2 H3 e3 q2 => h3 F H3 (o.go ((e1.trans e2).trans e3)) _ fun v3 H4 e4 q3 =>
      q _ H4 (((e1.trans e2).trans e3).trans e4) ⟨v0, v1, v2, v3, rfl, q0.mono (cut_mono ((e2.trans e3).trans e4)), q1.mono (cut_mono (e3.trans e4)), q2.mono (cut_mono e4), q3⟩)
    fun B' vs e ra => by
      obtain ⟨v0, v1, v2, v3, rfl, q0, q1, q2, q3⟩ := ra
      exact ⟨n, b, t, tab, v0, v1, v2, v3, rfl, q0, q1, q2, q3, ok, by rw [hx]⟩
theorem draw_in {p : Addr} {m : Nat} {l : Addr} {xs : List V} {ls : List (List Int)} {j : Nat} {σ : L2.St} {H : Hp} {Q : VK} {E : XK} (g1 : σ[1]? = some (some (.ref p))) (gj : σ[j]? = some (some (.ref l))) (hh : HandAt H p m) (hm : m ≤ 100000) (nl : l ≠ p) (hl : H l = some (.lst xs))
    (rx : RpA (cut (fun c => c = p) H) xs (ls.map tI)) (s1 : 1 ≤ ls.length) (s2 : ls.length ≤ 1000) (q : ∀ v H' r, r ∈ ls → Rp (cut (fun c => c = p) H') v (tI r) → But p H H' → HandAt H' p (m + 1) → Q v H') : tCall spOf [] E (tCons (tVar 1) (tCons (tVar j) tNil)) σ H Q := by
  have lx := rx.length
  rw [List.length_map] at lx
  refine ⟨.ref p, g1, .ref l, gj, p, l, m, xs, rfl, hh, hm, nl, hl, by omega, by omega, fun v H1 hv bt hh1 => ?_⟩
  obtain ⟨dd, hdd, rv⟩ := rpa_mem rx hv
  obtain ⟨r, hr, rfl⟩ := List.mem_map.mp hdd
  exact q v H1 r hr (rv.mono (but_cut bt)) bt hh1
theorem nr_step {p : Addr} {m t : Nat} {v5 : V} {l : Addr} {xs : List V} {ls : List (List Int)} {j : Nat} {σ : L2.St} {H : Hp} {Q : Bool → Hp → Prop} {E E' : XK} (h1 : 20 ≤ t) (h2 : t ≤ 24) (g5 : σ[5]? = some (some v5)) (g1 : σ[1]? = some (some (.ref p))) (gj : σ[j]? = some (some (.ref l))) (hh : HandAt H p m) (hm : m ≤ 70000) (nl : l ≠ p) (hl : H l = some (.lst xs))
    (rx : RpA (cut (fun c => c = p) H) xs (ls.map tI)) (r5 : rd (tabD (tb t)) (cut (fun c => c = p) H) v5) (s1 : 1 ≤ ls.length) (s2 : ls.length ≤ 1000) (hls : ∀ r ∈ ls, r ∈ sortedM 3 t 0) (q : ∀ H', But p H H' → HandAt H' p (m + 1) → Q true H') :
    tB (tCall (spD preNR) [] E (tCons (tVar 5) (tCons (tCall spOf [] E' (tCons (tVar 1) (tCons (tVar j) tNil))) (tCons (tC (.int 4)) tNil)))) σ H Q := by
  refine ⟨v5, g5, draw_in g1 gj hh (by omega) nl hl rx s1 s2 fun v H1 r hr rv bt hh1 => ?_⟩
  refine ⟨_, _, _, off_hand hh1, ⟨t, r, v5, v, .int 4, rfl, mono_rd _ (but_cut bt) r5, rv, .int _, h1, h2, hls r hr, rfl⟩, fun u H2 e2 ru => ?_⟩
  obtain rfl := ru.bl_inv
  exact ⟨true, rfl, q H2 (bt.trans (But.ex e2)) (hh1.mono e2)⟩
theorem forced_step {p : Addr} {m t : Nat} {v5 : V} {l : Addr} {xs : List V} {j : Nat} {σ : L2.St} {H : Hp} {Q : Bool → Hp → Prop} {E E' : XK} (h1 : 20 ≤ t) (h2 : t ≤ 24) (g5 : σ[5]? = some (some v5)) (g1 : σ[1]? = some (some (.ref p))) (gj : σ[j]? = some (some (.ref l))) (hh : HandAt H p m) (hm : m ≤ 70000) (nl : l ≠ p) (hl : H l = some (.lst xs))
    (rx : RpA (cut (fun c => c = p) H) xs ((lateM t).map tI)) (r5 : rd (tabD (tb t)) (cut (fun c => c = p) H) v5) (s1 : 1 ≤ (lateM t).length) (s2 : (lateM t).length ≤ 1000) (q : ∀ H', But p H H' → HandAt H' p (m + 5) → Q true H') :
    tB (tCall spForced [] E (tCons (tVar 1) (tCons (tVar 5) (tCons (tCall spOf [] E' (tCons (tVar 1) (tCons (tVar j) tNil))) tNil)))) σ H Q := by
  refine ⟨.ref p, g1, v5, g5, draw_in g1 gj hh (by omega) nl hl rx s1 s2 fun v H1 r hr rv bt hh1 => ?_⟩
  exact ⟨p, m + 1, t, r, v5, v, rfl, hh1, by omega, mono_rd _ (but_cut bt) r5, rv, h1, h2, (late_mem hr).1, (late_mem hr).2, fun H2 bt2 hh2 => ⟨true, rfl, q H2 (bt.trans bt2) hh2⟩⟩
theorem held_step {p : Addr} {m t : Nat} {v5 : V} {l : Addr} {xs : List V} {j : Nat} {σ : L2.St} {H : Hp} {Q : Bool → Hp → Prop} {E E' : XK} (h1 : 20 ≤ t) (h2 : t ≤ 24) (g5 : σ[5]? = some (some v5)) (g1 : σ[1]? = some (some (.ref p))) (gj : σ[j]? = some (some (.ref l))) (hh : HandAt H p m) (hm : m ≤ 70000) (nl : l ≠ p) (hl : H l = some (.lst xs))
    (rx : RpA (cut (fun c => c = p) H) xs ((lateM t).map tI)) (r5 : rd (tabD (tb t)) (cut (fun c => c = p) H) v5) (s1 : 1 ≤ (lateM t).length) (s2 : (lateM t).length ≤ 1000) (q : ∀ H', But p H H' → HandAt H' p (m + 6) → Q true H') :
    tB (tCall spHeld [] E (tCons (tVar 1) (tCons (tVar 5) (tCons (tCall spOf [] E' (tCons (tVar 1) (tCons (tVar j) tNil))) tNil)))) σ H Q := by
  refine ⟨.ref p, g1, v5, g5, draw_in g1 gj hh (by omega) nl hl rx s1 s2 fun v H1 r hr rv bt hh1 => ?_⟩
  exact ⟨p, m + 1, t, r, v5, v, rfl, hh1, by omega, mono_rd _ (but_cut bt) r5, rv, h1, h2, (late_mem hr).1, (late_mem hr).2, fun H2 bt2 hh2 => ⟨true, rfl, q H2 (bt.trans bt2) hh2⟩⟩
/-! ### law -/
abbrev s_law : Stmt := topS 34
theorem sc_law : FnScope ["script", "hand", "total", "rows", "table", "known", "late", "turn", "at", "row", "number", "bent"] ["script"] (defScope s_law) := ⟨rfl, rfl, rfl, by decide +kernel, rfl, by decide +kernel, by decide +kernel⟩
-- slots: 0 script, 1 hand, 2 total, 3 rows, 4 table, 5 known, 6 late, 7 turn, 8 at, 9 row, 10 number, 11 bent; cells: 
def spLaw (K : PySem.W.Frag) : Sp := fun vs H Q E => ∃ (F : Addr → Prop) (B : Hp) (a : Addr) (ns : List Int), Off F B H ∧ vs = [.ref a] ∧ SqL K B a (ns.map V.int) ∧ ∀ H', Ex H H' → Q (.bl true) H'
theorem ok_law (T : Zs mg) (c__law_hand : Cal P w K mg base 1 "_law_hand" ["script", "k"] [] (spHand K)) (c__law_take : Cal P w K mg base 1 "_law_take" ["hand", "many"] [] spTake) (c__law_of : Cal P w K mg base 2 "_law_of" ["hand", "some"] [] spOf)
    (c__law_sorted_rows : Cal P w K mg base 1 "_law_sorted_rows" ["count", "total"] [] (spD preSR)) (c_game_table : Cal P w K mg base 7 "game_table" ["count", "budget", "total"] [] (spD preTable)) (c_shows_game_table : Cal P w K mg base 6 "shows_game_table" ["count", "budget", "total", "thing"] [] (spD preShows))
    (c__law_is_number_right : Cal P w K mg base 5 "_law_is_number_right" ["known", "row", "budget"] [] (spD preNR)) (c__law_is_forced_right : Cal P w K mg base 8 "_law_is_forced_right" ["hand", "known", "row"] [] spForced) (c__law_is_held_right : Cal P w K mg base 8 "_law_is_held_right" ["hand", "known", "row"] [] spHeld)
    {f : Addr} {fd : FuncData} (F : Fun K "law" "law" s_law f fd) : FnG P w K mg base 9 f fd ["script"] (spLaw K) := by
  refine F.okG sc_law (fun vs H Q E h => ?_) (fun cdv A outer s H vs Q E hgu hr h => ?_)
  · obtain ⟨F, B, a, ns, o, rfl, _⟩ := h
    rfl
  · obtain ⟨F, B, a, ns, o, rfl, r0, q⟩ := h
    refine ⟨_, (pss_cons (ps_set (i := 1) sc_law.nd rfl (Or.inl rfl) (pe_call c__law_hand.ok (hr.mono (by first | decide | omega)) (by rfl) c__law_hand.m c__law_hand.kp c__law_hand.b c__law_hand.hv pass0 (pa_cons (pv 0) (pa_cons (pe_int) pa_nil))))
    (pss_cons (ps_set (i := 2) sc_law.nd rfl (Or.inl rfl) (pe_op op_add (pe_int) (pe_call c__law_take.ok (hr.mono (by first | decide | omega)) (by rfl) c__law_take.m c__law_take.kp c__law_take.b c__law_take.hv pass0 (pa_cons (pv 1) (pa_cons (pe_int) pa_nil)))))
    (pss_cons (ps_par (i := 3) (j := 4) (by rfl) sc_law.nd rfl rfl (by decide) rfl rfl (pa_cons (pe_call c__law_sorted_rows.ok (hr.mono (by first | decide | omega)) (by rfl) c__law_sorted_rows.m c__law_sorted_rows.kp c__law_sorted_rows.b c__law_sorted_rows.hv pass0 (pa_cons (pe_int) (pa_cons (pv 2) pa_nil))) (pa_cons (pe_call c_game_table.ok (hr.mono (by first | decide | omega)) (by rfl) c_game_table.m c_game_table.kp c_game_table.b c_game_table.hv pass0 (pa_cons (pe_int) (pa_cons (pe_int) (pa_cons (pv 2) pa_nil)))) pa_nil)) (by rfl))
    (pss_cons (ps_if (PW.pt (pw_or (pt_cmpR op_ne (pe_callB (k_repr (K := K) (hg := hgu) (hu := hr.units)) (by rfl) T.z_repr (by decide +kernel) (pa_cons (pe_lc (own := [("row", 9), ("number", 10)]) rfl sc_law.nd (k_iTup K (hl := (pv 4))) (blkOk_by (by kernel_rfl)) (fun _ _ _ _ _ => (k_pg K (n := 2) (hc := rfl) (hs := (pgs_cons (pg_name (i := 9) sc_law.nd rfl (Or.inl rfl)) (pgs_cons (pg_name (i := 10) sc_law.nd rfl (Or.inl rfl)) pgs_nil))))) (fun _ _ _ _ _ => pts_nil) (fun _ _ _ _ _ => (pv 9))) pa_nil)) (pe_callB (k_repr (K := K) (hg := hgu) (hu := hr.units)) (by rfl) T.z_repr (by decide +kernel) (pa_cons (pv 3) pa_nil)) (nomark _)) (pw_or1 (pt_cmpR op_notBl (pe_call c_shows_game_table.ok (hr.mono (by first | decide | omega)) (by rfl) c_shows_game_table.m c_shows_game_table.kp c_shows_game_table.b c_shows_game_table.hv pass0 (pa_cons (pe_int) (pa_cons (pe_int) (pa_cons (pv 2) (pa_cons (pv 4) pa_nil))))) (pe_bl) (nomark _))))) (pss_one (ps_ret (pe_bl))) pss_nil)
    (pss_cons (ps_set (i := 5) sc_law.nd rfl (Or.inl rfl) (pe_callTy (k_dictF (hc := rfl) (hu := hr.units)) (by rfl) T.z_dict (by decide +kernel) (pa_cons (pv 4) pa_nil)))
    (pss_cons (ps_setLc (i := 6) (own := [("row", 9)]) rfl sc_law.nd rfl rfl (sw_true rfl rfl rfl (by kernel_rfl)) (k_iList K (hl := (pv 3))) (blkOk_by (by kernel_rfl)) (fun _ _ _ _ _ => (pg_name (i := 9) sc_law.nd rfl (Or.inl rfl))) (fun _ _ _ _ _ => (pts_one (pt_cmpR op_ge (pe_ix (k_ixT K) (pv 9) (pe_int) (fun _ _ => rfl)) (pe_int) (nomark _)))) (fun _ _ _ _ _ => (pv 9)))
    (pss_cons (ps_for PassesOwn.never rfl (pi_range1 (by rfl) T.z_range (pa_cons (pe_int) pa_nil)) (pg_name (i := 7) sc_law.nd rfl (Or.inl rfl))
    (pss_cons (ps_if (pt_not (pt_val (pe_call c__law_is_number_right.ok (hr.mono (by first | decide | omega)) (by rfl) c__law_is_number_right.m c__law_is_number_right.kp c__law_is_number_right.b c__law_is_number_right.hv pass0 (pa_cons (pv 5) (pa_cons (pe_call c__law_of.ok (hr.mono (by first | decide | omega)) (by rfl) c__law_of.m c__law_of.kp c__law_of.b c__law_of.hv pass0 (pa_cons (pv 1) (pa_cons (pv 3) pa_nil))) (pa_cons (pe_int) pa_nil)))))) (pss_one (ps_ret (pe_bl))) pss_nil)
    (pss_one (ps_if (pt_not (pt_val (pe_call c__law_is_number_right.ok (hr.mono (by first | decide | omega)) (by rfl) c__law_is_number_right.m c__law_is_number_right.kp c__law_is_number_right.b c__law_is_number_right.hv pass0 (pa_cons (pv 5) (pa_cons (pe_call c__law_of.ok (hr.mono (by first | decide | omega)) (by rfl) c__law_of.m c__law_of.kp c__law_of.b c__law_of.hv pass0 (pa_cons (pv 1) (pa_cons (pv 6) pa_nil))) (pa_cons (pe_int) pa_nil)))))) (pss_one (ps_ret (pe_bl))) pss_nil))))
    (pss_cons (ps_for PassesOwn.never rfl (pi_range1 (by rfl) T.z_range (pa_cons (pe_int) pa_nil)) (pg_name (i := 7) sc_law.nd rfl (Or.inl rfl))
    (pss_cons (ps_if (pt_not (pt_val (pe_call c__law_is_forced_right.ok (hr.mono (by first | decide | omega)) (by rfl) c__law_is_forced_right.m c__law_is_forced_right.kp c__law_is_forced_right.b c__law_is_forced_right.hv pass0 (pa_cons (pv 1) (pa_cons (pv 5) (pa_cons (pe_call c__law_of.ok (hr.mono (by first | decide | omega)) (by rfl) c__law_of.m c__law_of.kp c__law_of.b c__law_of.hv pass0 (pa_cons (pv 1) (pa_cons (pv 6) pa_nil))) pa_nil)))))) (pss_one (ps_ret (pe_bl))) pss_nil)
    (pss_one (ps_if (pt_not (pt_val (pe_call c__law_is_held_right.ok (hr.mono (by first | decide | omega)) (by rfl) c__law_is_held_right.m c__law_is_held_right.kp c__law_is_held_right.b c__law_is_held_right.hv pass0 (pa_cons (pv 1) (pa_cons (pv 5) (pa_cons (pe_call c__law_of.ok (hr.mono (by first | decide | omega)) (by rfl) c__law_of.m c__law_of.kp c__law_of.b c__law_of.hv pass0 (pa_cons (pv 1) (pa_cons (pv 6) pa_nil))) pa_nil)))))) (pss_one (ps_ret (pe_bl))) pss_nil))))
    (pss_cons (ps_set (i := 8) sc_law.nd rfl (Or.inl rfl) (pe_call c__law_take.ok (hr.mono (by first | decide | omega)) (by rfl) c__law_take.m c__law_take.kp c__law_take.b c__law_take.hv pass0 (pa_cons (pv 1) (pa_cons (pe_callB (k_len K) (by rfl) T.z_len (by decide +kernel) (pa_cons (pv 4) pa_nil)) pa_nil))))
    (pss_cons (ps_asg (pe_ix (k_ixT K) (pv 4) (pv 8) (fun _ _ => rfl)) (k_pg K (n := 2) (hc := rfl) (hs := (pgs_cons (pg_name (i := 9) sc_law.nd rfl (Or.inl rfl)) (pgs_cons (pg_name (i := 10) sc_law.nd rfl (Or.inl rfl)) pgs_nil)))))
    (pss_cons (ps_set (i := 11) sc_law.nd rfl (Or.inl rfl) (pe_op (k_catU (K := K)) (pe_op (k_catU (K := K)) (pe_slice (k_slT K) (pv 4) po_none (po_some (pv 8))) (pe_tup (pa_cons (pe_tup (pa_cons (pv 9) (pa_cons (pe_ifExp (pt_cmp (pc_notN (pv 10)) (by rfl)) (pe_non) (pe_int)) pa_nil))) pa_nil))) (pe_slice (k_slT K) (pv 4) (po_some (pe_op op_add (pv 8) (pe_int))) po_none)))
    (pss_one (ps_ret (pe_cmpR op_isBl (pe_call c_shows_game_table.ok (hr.mono (by first | decide | omega)) (by rfl) c_shows_game_table.m c_shows_game_table.kp c_shows_game_table.b c_shows_game_table.hv pass0 (pa_cons (pe_int) (pa_cons (pe_int) (pa_cons (pv 2) (pa_cons (pv 11) pa_nil))))) (pe_bl) (nomark _))))))))))))))), ?_⟩
    refine ⟨.ref a, rfl, F, B, a, ns, 0, o, rfl, r0, by omega, fun p H1 hp e1 hh => ?_⟩
    refine ⟨.ref p, rfl, p, 0, 5, rfl, hh, by omega, by omega, by omega, fun i H2 i0 i5 bt2 hh2 => ⟨20, i, rfl, rfl, ?_⟩⟩
    obtain ⟨t, ht⟩ : ∃ t : Nat, 20 + i = (t : Int) := ⟨(20 + i).toNat, by omega⟩
    have h1 : 20 ≤ t := by omega
    have h2 : t ≤ 24 := by omega
    show tSeq _ _ _ [some (.ref a), some (.ref p), some (.int (20 + i)), none, none, none, none, none, none, none, none, none] H2
    rw [ht]
    have o2 := off_hand hh2
    have rows_sh := rows_show (n := t) (ls := sortedM 3 t 0) (sorted_few 3 (by omega) t (by omega) 0 (by omega)) fun r hr => ⟨by rw [sorted_len 3 t 0 r hr]; omega, fun x hx => by have := sorted_bd 3 t 0 r hr x hx; omega⟩
    have few := sorted_few 3 (by omega) t (by omega) 0 (by omega)
    have tbl : (tb t).length = (sortedM 3 t 0).length := by rw [← tb_rows t, List.length_map]
    have evSR : EvD (tCall (spD preSR) [] E0 (tCons (tC (.int 4)) (tCons (tVar 2) tNil))) [some (.ref a), some (.ref p), some (.int (t : Int)), none, none, none, none, none, none, none, none, none] (cut (fun c => c = p) H2) (lT (sortedM 3 t 0)) :=
      dcall (d_cons d_int (d_cons (d_v (.int t)) d_nil)) fun B' vs e ra => ⟨t, ra, h1, h2, rfl⟩
    have evTb : EvR (tCall (spD preTable) [] E0 (tCons (tC (.int 4)) (tCons (tC (.int 4)) (tCons (tVar 2) tNil)))) [some (.ref a), some (.ref p), some (.int (t : Int)), none, none, none, none, none, none, none, none, none] (cut (fun c => c = p) H2) (rtab (tabP (tb t))) :=
      d_callP (d_cons (d_int (i := ((3 + 1 : Nat) : Int))) (d_cons (d_int (i := ((4 : Nat) : Int))) (d_cons (d_v (.int t)) d_nil))) fun B' vs e ra => ⟨3, 4, t, ra, by omega, by omega, h2, rfl⟩
    refine evSR _ H2 o2 _ fun v3 H3 e3 r3 => evTb _ H3 (o2.go e3) _ fun v4 H4 e4 r4 => ⟨v3, v4, rfl, ?_⟩
    have o4 := o2.next (e3.trans e4)
    have r3 := r3.mono (cut_mono (F := fun c => c = p) e4)
    show tSeq _ _ _ [some (.ref a), some (.ref p), some (.int (t : Int)), some v3, some v4, none, none, none, none, none, none, none] H4
    have e24 := e3.trans e4
    have hh4 := hh2.mono e24
    -- the rows and the table
    refine h_if (B := cut (fun c => c = p) H4) (b := false) (b_eq (b_or (b_cmp (dop (d_repr (as_eq (d_lc (tb t) (fun r => PyData.tuple [tI r.1, oD r.2]) (fun r => tI r.1) (by omega) (i_tupF (d_var (mono_rtab _) (v := v4) rfl r4)) fun r hr v B' e rv => ?_) ?_) rows_sh) (d_repr (d_v (i := 3) r3) rows_sh) o_neS)) fun _ => b_cmp (d_op (R1 := rp (.bool true)) (R2 := rp (.bool true)) (R := rp (.bool false)) (mono_rp _) ?_ d_bl ?_)) ?_) o4 (fun z => by cases z) (fun _ H5 e5 o5 => ?_)
    · obtain ⟨y9, y10, t9, t10, tg⟩ := tg_pair (K := K) (i := 9) (j := 10) (σ := wipe [some (.ref a), some (.ref p), some (.int (t : Int)), some v3, some v4, none, none, none, none, none, none, none] [9, 10]) rv
      exact ⟨_, tg, rfl, d_v t9⟩
    · show PyData.list _ = PyData.list _
      rw [← tb_rows t, List.map_map]
      rfl
    · exact ev_shows (d_int (i := ((3 + 1 : Nat) : Int))) (d_int (i := ((4 : Nat) : Int))) (d_v (.int t)) (d_var (mono_rtab _) rfl r4) (show_tb h1 h2) (shows_true h1 h2)
    · exact o_notB
    · rw [decide_eq_true rfl]
      rfl
    have hh5 := hh4.mono e5
    have x5 : Ex (cut (fun c => c = p) H4) (cut (fun c => c = p) H5) := cut_mono e5
    refine h_asg (d_dictF (l := tabD (tb t)) (by rw [tabD_P]; exact d_var (i := 4) (σ := [some (.ref a), some (.ref p), some (.int (t : Int)), some v3, some v4, none, none, none, none, none, none, none]) (R := rtab (tabP (tb t))) (mono_rtab _) (v := v4) rfl r4) (by rw [tabD_keys]; exact sorted_nodup 3 t 0)).ev o5 fun v5 H6 e6 o6 x6 r5 => ?_
    have e46 := e5.trans e6
    have r3 := r3.mono x6
    have r4 := mono_rtab _ x6 r4
    refine h_asgD (d := lT (lateM t)) (d_lcF (sortedM 3 t 0) tI (fun r => decide ((4 : Int) ≤ r.getD 0 0)) tI (by omega) (i_list (d_v (i := 3) r3)) fun r hr v B' e rv => ⟨_, tg_name, rfl, b_cmp (dop (dop (d_v rv) d_int (o_ixT (head_at hr))) d_int o_ge), fun _ => d_v rv⟩) o6 fun v6 H7 e7 o7 x7 r6 => ?_
    have r3 := r3.mono x7
    have r4 := mono_rtab _ x7 r4
    have r5 := mono_rd _ x7 r5
    have hh7 := (hh4.mono e46).mono e7
    show tSeq _ _ _ [some (.ref a), some (.ref p), some (.int (t : Int)), some v3, some v4, some v5, some v6, none, none, none, none, none] H7
    have bt7 : Ex H H7 := (ex_but hp e1 bt2).trans ((e24.trans e46).trans e7)
    obtain ⟨l3, xs3, rfl, hl3, rx3⟩ := r3.lst_inv
    obtain ⟨l6, xs6, rfl, hl6, rx6⟩ := r6.lst_inv
    have n3 : l3 ≠ p := (cut_some.mp hl3).1
    have n6 : l6 ≠ p := (cut_some.mp hl6).1
    have hl3 := cut_ex _ _ hl3
    have hl6 := cut_ex _ _ hl6
    have len3 := rx3.length
    have len6 := rx6.length
    rw [List.length_map] at len3 len6
    have some3 := rows_some t (by omega) h1
    have some6 := late_some t (by omega) h1
    have few6 : (lateM t).length ≤ (sortedM 3 t 0).length := List.length_filter_le _ _
    clear r3 r6
    refine s_for (σ := [some (.ref a), some (.ref p), some (.int (t : Int)), some (.ref l3), some v4, some v5, some (.ref l6), none, none, none, none, none]) (List.range 12) (fun i => PyData.int ((i : Nat) : Int)) (i_rng1' (d_cons d_int d_nil) (by decide) (by omega)) o7
      (fun B1 k σ' H' => Off (fun c => c = p) B1 H' ∧ But p H7 H' ∧ HandAt H' p (1 + 2 * k) ∧ ∃ x7, σ' = [some (.ref a), some (.ref p), some (.int (t : Int)), some (.ref l3), some v4, some v5, some (.ref l6), x7, none, none, none, none]) (fun H1 e1 => ⟨o7.next e1, But.ex e1, hh7.mono e1, _, rfl⟩) (fun B1 k σ' H' _ h => h.1) (fun B1 k i v σ' H' H'' eB hi hP eH rv => ?_) (fun B1 σ' H' eB hP => ?_)
    · obtain ⟨oH, btH, hhH, x7, rfl⟩ := hP
      obtain ⟨hk, rfl⟩ := List.getElem?_eq_some_iff.mp hi
      rw [List.length_range] at hk
      have bt1 := btH.trans (But.ex eH)
      have hh1 := hhH.mono eH
      refine nr_step h1 h2 rfl rfl rfl hh1 (by omega) n3 (bt1 _ _ n3 hl3) (rx3.mono (but_cut bt1)) (mono_rd _ (but_cut bt1) r5) (by omega) (by omega) (fun r hr => hr) fun Ha ba hha => no_of ?_
      have bt2 := bt1.trans ba
      refine nr_step h1 h2 rfl rfl rfl hha (by omega) n6 (bt2 _ _ n6 hl6) (rx6.mono (but_cut bt2)) (mono_rd _ (but_cut bt2) r5) (by omega) (by omega) (fun r hr => (late_mem hr).1) fun Hb bb hhb => no_of ?_
      exact ⟨Off.but (oH.go eH) rfl (ba.trans bb) hhb.dom, bt2.trans bb, hhb.le (by omega), _, rfl⟩
    obtain ⟨o8, bt8, hh8, y8, rfl⟩ := hP
    rw [List.length_range] at hh8
    have hl6 := bt8 _ _ n6 hl6
    have r4 := mono_rtab _ (but_cut bt8) r4
    have r5 := mono_rd _ (but_cut bt8) r5
    have rx6 := rx6.mono (but_cut bt8)
    have o8' := off_hand hh8
    refine s_for (σ := [some (.ref a), some (.ref p), some (.int (t : Int)), some (.ref l3), some v4, some v5, some (.ref l6), y8, none, none, none, none]) (List.range 2) (fun i => PyData.int ((i : Nat) : Int)) (i_rng1' (d_cons d_int d_nil) (by decide) (by omega)) o8'
      (fun B1 k σ' Hn => Off (fun c => c = p) B1 Hn ∧ But p H' Hn ∧ HandAt Hn p (25 + 11 * k) ∧ ∃ x7, σ' = [some (.ref a), some (.ref p), some (.int (t : Int)), some (.ref l3), some v4, some v5, some (.ref l6), x7, none, none, none, none]) (fun H1 e1 => ⟨o8'.next e1, But.ex e1, hh8.mono e1, _, rfl⟩) (fun B1 k σ' Hx _ h => h.1) (fun B1 k i v σ' Hx H'' eB hi hP eH rv => ?_) (fun B2 σ' H9 eB2 hP => ?_)
    · obtain ⟨oH, btH, hhH, x7, rfl⟩ := hP
      obtain ⟨hk, rfl⟩ := List.getElem?_eq_some_iff.mp hi
      rw [List.length_range] at hk
      have bt1 := btH.trans (But.ex eH)
      have hh1 := hhH.mono eH
      refine forced_step h1 h2 rfl rfl rfl hh1 (by omega) n6 (bt1 _ _ n6 hl6) (rx6.mono (but_cut bt1)) (mono_rd _ (but_cut bt1) r5) (by omega) (by omega) fun Ha ba hha => no_of ?_
      have bt2 := bt1.trans ba
      refine held_step h1 h2 rfl rfl rfl hha (by omega) n6 (bt2 _ _ n6 hl6) (rx6.mono (but_cut bt2)) (mono_rd _ (but_cut bt2) r5) (by omega) (by omega) fun Hb bb hhb => no_of ?_
      exact ⟨Off.but (oH.go eH) rfl (ba.trans bb) hhb.dom, bt2.trans bb, hhb.le (by omega), _, rfl⟩
    obtain ⟨o9, bt9, hh9, y9, rfl⟩ := hP
    rw [List.length_range] at hh9
    have r4 := mono_rtab _ (but_cut bt9) r4
    have o9' := off_hand hh9
    dsimp only
    refine ⟨.ref p, rfl, d_lenF (d_var (i := 4) (σ := [some (.ref a), some (.ref p), some (.int (t : Int)), some (.ref l3), some v4, some v5, some (.ref l6), y9, none, none, none, none]) (R := rtab (tabP (tb t))) (mono_rtab _) (v := v4) rfl r4) _ H9 o9' _ fun y H10 e10 ry => ?_⟩
    obtain rfl := ry.int_inv
    rw [List.length_map]
    refine ⟨p, _, _, rfl, hh9.mono e10, by omega, by omega, by omega, fun i8 H11 i80 i81 bt11 hh11 => ?_⟩
    obtain ⟨k8, rfl⟩ : ∃ k : Nat, i8 = (k : Int) := ⟨i8.toNat, by omega⟩
    have hk8 : k8 < (tb t).length := by omega
    have bt911 := (But.ex e10).trans bt11
    have o11 := off_hand hh11
    have r4 := mono_rtab _ (but_cut bt911) r4
    show tSeq _ _ _ [some (.ref a), some (.ref p), some (.int (t : Int)), some (.ref l3), some v4, some v5, some (.ref l6), y9, some (.int k8), none, none, none] H11
    obtain ⟨row, num, hrn⟩ : ∃ row num, (tb t)[k8] = (row, num) := ⟨_, _, rfl⟩
    have hin := List.getElem_mem hk8
    rw [hrn] at hin
    obtain ⟨r, hr, er⟩ := List.mem_map.mp hin
    cases er
    obtain ⟨k, hk, hk1, hk2⟩ := known_all h1 h2 hr
    rw [hk] at hrn
    refine d_op (R1 := rtab (tabP (tb t))) (R2 := rp (.int (k8 : Nat))) (R := rp (.tuple [tI row, oD (some k)])) (mono_rtab _) (d_var (i := 4) (σ := [some (.ref a), some (.ref p), some (.int (t : Int)), some (.ref l3), some v4, some v5, some (.ref l6), y9, some (.int k8), none, none, none]) (mono_rtab _) (v := v4) rfl r4) (d_v (i := 8) (.int (k8 : Int))) (o_ixF (atI_nat (by rw [List.getElem?_map, List.getElem?_eq_getElem hk8, hrn]; rfl))) _ H11 o11 _ fun v Hx ex rx => ?_
    obtain ⟨v9, v10, r9, r10, tg⟩ := tg_pair (K := K) (i := 9) (j := 10) (σ := [some (.ref a), some (.ref p), some (.int (t : Int)), some (.ref l3), some v4, some v5, some (.ref l6), y9, some (.int k8), none, none, none]) rx
    obtain rfl := r10.int_inv
    have ox := o11.next ex
    refine tg _ Hx ox _ ?_
    have r4 := mono_rtab _ (cut_mono (F := fun c => c = p) ex) r4
    dsimp only
    show tSeq _ _ _ [some (.ref a), some (.ref p), some (.int (t : Int)), some (.ref l3), some v4, some v5, some (.ref l6), y9, some (.int k8), some v9, some (.int k), none] Hx
    have tpl : (tabP (tb t)).length = (tb t).length := List.length_map _
    refine EvS.run (R := rp (.bool true)) (B := cut (fun c => c = p) Hx) ?_ ox fun v Hz ez rz => ?_
    · refine e_asg (R1 := rtab (tabP (bentM (tb t) k8))) ?_ fun v11 B1 x11 r11 => ?_
      · rw [← bent_P hk8, hrn]
        refine d_cat3 (d_slF (d_var (i := 4) (mono_rtab _) (v := v4) rfl r4) p_none (p_some (d_v (i := 8) (.int (k8 : Int)))) _ ?_ (sl_pre (by omega))) (d_tup (d_cons (d_tup (d_cons (d_v (i := 9) r9) (d_cons (d_if (b_val (d_notN (d_v (i := 10) (d := .int k) (.int k)) rfl)) (fun _ => d_non) (fun z => by cases z)) d_nil)) (by show 2 ≤ 100000; decide)) d_nil) (by show 1 ≤ 100000; decide))
          (d_slF (d_var (i := 4) (mono_rtab _) (v := v4) rfl r4) (p_some (i := ((k8 + 1 : Nat) : Int)) (dop (d_v (i := 8) (.int (k8 : Int))) d_int o_add)) p_none _ ?_ sl_post) ?_ ?_
        · rw [HT.sIx_none, HT.sIx_nat, tpl, Nat.min_eq_left (Nat.le_of_lt hk8)]
          omega
        · rw [HT.sIx_nat, tpl]
          omega
        · by_cases hz : k8 = 0
          · refine .inr fun z => ?_
            have := congrArg List.length z
            rw [List.length_drop, tpl, List.length_nil] at this
            omega
          · refine .inl fun z => ?_
            have := congrArg List.length z
            rw [List.length_take, tpl, List.length_nil] at this
            omega
        · rw [List.length_take, List.length_drop, tpl]
          omega
      · exact e_ret (as_eq (d_op (R1 := rp (.bool false)) (R2 := rp (.bool false)) (R := rp (.bool (decide (false = false)))) (mono_rp _) (ev_shows (d_int (i := ((3 + 1 : Nat) : Int))) (d_int (i := ((4 : Nat) : Int))) (d_v (i := 2) (.int t)) (d_var (i := 11) (mono_rtab _) rfl r11) (show_bent h1 h2 hk8) (shows_bent h1 h2 hk8)) d_bl o_isB) rfl)
    · obtain rfl := rz.bl_inv
      exact q Hz (ex_but hp e1 (((((bt2.trans (But.ex ((e24.trans e46).trans e7))).trans bt8).trans bt9).trans bt911).trans (But.ex (ex.trans ez))))
end
end K78
namespace K78
open PySem PySem.Spec PyProof.Rows L2 Evl G
section
variable {P : Program} {w : World} {K : PySem.W.Frag} {mg : Str → Option Value} {base : Heap}
theorem demands_all (T : Zs mg) {f : Addr} {fd : FuncData} (F : Fun K "demands_of" "demands_of" s_demands_of f fd) (b : Binds K fd ["count", "budget"] []) (m : mg "demands_of" = some (.ref f)) (kp : PySem.W.keepIn K (.ref f) = true) :
    ∀ n, FnOk P w K mg base CX0 n f fd ["count", "budget"] (spD (preDemands n))
  | 0 => ⟨fun vs H Q E h => by obtain ⟨_, _, _, _, ⟨n, b, _, hn, _⟩, _⟩ := h; exact absurd hn (Nat.not_lt_zero _), fun A outer s H args us vs Q E hr he hb hv h => by obtain ⟨_, _, _, _, ⟨n, b, _, hn, _⟩, _⟩ := h; exact absurd hn (Nat.not_lt_zero _)⟩
  | n + 1 => demands_step T F ⟨f, fd, [], demands_all T F b m kp n, m, kp, b, .nil⟩
theorem sorted_all (T : Zs mg) {dvs : List V} {f : Addr} {fd : FuncData} (F : FunD K "sorted_balances" "sorted_balances" (defArgs s_sorted_balances) (defBody s_sorted_balances) (defScope s_sorted_balances) dvs [] f fd) (b : Binds K fd ["count", "total", "least"] []) (m : mg "sorted_balances" = some (.ref f)) :
    ∀ n, FnOk P w K mg base CX0 n f fd ["count", "total", "least"] (spD (preSorted n))
  | 0 => ⟨fun vs H Q E h => by obtain ⟨_, _, _, _, ⟨n, b, _, _, hn, _⟩, _⟩ := h; exact absurd hn (Nat.not_lt_zero _), fun A outer s H args us vs Q E hr he hb hv h => by obtain ⟨_, _, _, _, ⟨n, b, _, _, hn, _⟩, _⟩ := h; exact absurd hn (Nat.not_lt_zero _)⟩
  | n + 1 => sorted_step T F ⟨f, fd, [], sorted_all T F b m n, m, F.kp, b, .nil⟩
theorem lawdem_all (T : Zs mg) {f : Addr} {fd : FuncData} (F : Fun K "_law_demands" "_law_demands" s__law_demands f fd) (b : Binds K fd ["count", "budget"] []) (m : mg "_law_demands" = some (.ref f)) (kp : PySem.W.keepIn K (.ref f) = true) :
    ∀ n, FnOk P w K mg base CX0 n f fd ["count", "budget"] (spD (preDemands n))
  | 0 => ⟨fun vs H Q E h => by obtain ⟨_, _, _, _, ⟨n, b, _, hn, _⟩, _⟩ := h; exact absurd hn (Nat.not_lt_zero _), fun A outer s H args us vs Q E hr he hb hv h => by obtain ⟨_, _, _, _, ⟨n, b, _, hn, _⟩, _⟩ := h; exact absurd hn (Nat.not_lt_zero _)⟩
  | n + 1 => lawdem_step T F ⟨f, fd, [], lawdem_all T F b m kp n, m, kp, b, .nil⟩
end
theorem all_mk {l : PySem.W.OpenLaw} {w : World} {K : PySem.W.Frag} {h : Heap} {mg : Str → Option Value} {fa : Addr} (X : K.In h) (G : h.Ns mainGlobals mg) (hfa : mg "law" = some (.ref fa))
    {od1 an1 : Option Addr} {sl1 : Array (Option Value)} {oc1 kV1 dc1 pm1 cd1 ct1 : Value} {f1 : Addr}
    {od2 an2 : Option Addr} {sl2 : Array (Option Value)} {oc2 kV2 dc2 pm2 cd2 ct2 : Value} {f2 : Addr}
    {od3 an3 : Option Addr} {sl3 : Array (Option Value)} {oc3 kV3 dc3 pm3 cd3 ct3 : Value} {f3 : Addr}
    {od4 an4 : Option Addr} {sl4 : Array (Option Value)} {oc4 kV4 dc4 pm4 cd4 ct4 : Value} {f4 : Addr}
    {od5 an5 : Option Addr} {sl5 : Array (Option Value)} {oc5 kV5 dc5 pm5 cd5 ct5 : Value} {f5 : Addr}
    {od6 an6 : Option Addr} {sl6 : Array (Option Value)} {oc6 kV6 dc6 pm6 cd6 ct6 : Value} {f6 : Addr}
    {od7 an7 : Option Addr} {sl7 : Array (Option Value)} {oc7 kV7 dc7 pm7 cd7 ct7 : Value} {f7 : Addr}
    {od8 an8 : Option Addr} {sl8 : Array (Option Value)} {oc8 kV8 dc8 pm8 cd8 ct8 : Value} {f8 : Addr}
    {od9 an9 : Option Addr} {sl9 : Array (Option Value)} {oc9 kV9 dc9 pm9 cd9 ct9 : Value} {f9 : Addr}
    {od10 an10 : Option Addr} {sl10 : Array (Option Value)} {oc10 kV10 dc10 pm10 cd10 ct10 : Value} {f10 : Addr}
    {od11 an11 : Option Addr} {sl11 : Array (Option Value)} {oc11 kV11 dc11 pm11 cd11 ct11 : Value} {f11 : Addr}
    {od12 an12 : Option Addr} {sl12 : Array (Option Value)} {oc12 kV12 dc12 pm12 cd12 ct12 : Value} {f12 : Addr}
    {od13 an13 : Option Addr} {sl13 : Array (Option Value)} {oc13 kV13 dc13 pm13 cd13 ct13 : Value} {f13 : Addr}
    {od14 an14 : Option Addr} {sl14 : Array (Option Value)} {oc14 kV14 dc14 pm14 cd14 ct14 : Value} {f14 : Addr}
    {od15 an15 : Option Addr} {sl15 : Array (Option Value)} {oc15 kV15 dc15 pm15 cd15 ct15 : Value} {f15 : Addr}
    {od16 an16 : Option Addr} {sl16 : Array (Option Value)} {oc16 kV16 dc16 pm16 cd16 ct16 : Value} {f16 : Addr}
    {od17 an17 : Option Addr} {sl17 : Array (Option Value)} {oc17 kV17 dc17 pm17 cd17 ct17 : Value} {f17 : Addr}
    {od18 an18 : Option Addr} {sl18 : Array (Option Value)} {oc18 kV18 dc18 pm18 cd18 ct18 : Value} {f18 : Addr}
    {od19 an19 : Option Addr} {sl19 : Array (Option Value)} {oc19 kV19 dc19 pm19 cd19 ct19 : Value} {f19 : Addr}
    {od20 an20 : Option Addr} {sl20 : Array (Option Value)} {oc20 kV20 dc20 pm20 cd20 ct20 : Value} {f20 : Addr}
    {od21 an21 : Option Addr} {sl21 : Array (Option Value)} {oc21 kV21 dc21 pm21 cd21 ct21 : Value} {f21 : Addr}
    {od22 an22 : Option Addr} {sl22 : Array (Option Value)} {oc22 kV22 dc22 pm22 cd22 ct22 : Value} {f22 : Addr}
    {od23 an23 : Option Addr} {sl23 : Array (Option Value)} {oc23 kV23 dc23 pm23 cd23 ct23 : Value} {f23 : Addr}
    {od24 an24 : Option Addr} {sl24 : Array (Option Value)} {oc24 kV24 dc24 pm24 cd24 ct24 : Value} {f24 : Addr}
    {od25 an25 : Option Addr} {sl25 : Array (Option Value)} {oc25 kV25 dc25 pm25 cd25 ct25 : Value} {f25 : Addr}
    {od26 an26 : Option Addr} {sl26 : Array (Option Value)} {oc26 kV26 dc26 pm26 cd26 ct26 : Value} {f26 : Addr}
    {od0 an0 : Option Addr} {sl0 : Array (Option Value)} {oc0 kV0 dc0 pm0 cd0 ct0 : Value} {f0 fT : Addr} {tc : Value} {td : Option Addr} {tt : Tok} {tn : Nat} {tsl : Array (Option Value)}
    {tk : Tok}
    (a1 : PySem.W.nsIn K mainGlobals "changed" = some (some (.ref f1))) (l1 : K.lookup f1 = some ⟨oc1, od1, .func (PySem.W.fnOf "changed" "changed" (defArgs s_changed) (defBody s_changed) (defScope s_changed) .none kV1 dc1 pm1 an1 cd1 ct1), sl1⟩) (c1 : PySem.W.codeIn K cd1 "changed" = true) (k1 : PySem.W.keepIn K (.ref f1) = true)
    (a2 : PySem.W.nsIn K mainGlobals "stalled" = some (some (.ref f2))) (l2 : K.lookup f2 = some ⟨oc2, od2, .func (PySem.W.fnOf "stalled" "stalled" (defArgs s_stalled) (defBody s_stalled) (defScope s_stalled) .none kV2 dc2 pm2 an2 cd2 ct2), sl2⟩) (c2 : PySem.W.codeIn K cd2 "stalled" = true) (k2 : PySem.W.keepIn K (.ref f2) = true)
    (a3 : PySem.W.nsIn K mainGlobals "less_demand" = some (some (.ref f3))) (l3 : K.lookup f3 = some ⟨oc3, od3, .func (PySem.W.fnOf "less_demand" "less_demand" (defArgs s_less_demand) (defBody s_less_demand) (defScope s_less_demand) .none kV3 dc3 pm3 an3 cd3 ct3), sl3⟩) (c3 : PySem.W.codeIn K cd3 "less_demand" = true) (k3 : PySem.W.keepIn K (.ref f3) = true)
    (a4 : PySem.W.nsIn K mainGlobals "results" = some (some (.ref f4))) (l4 : K.lookup f4 = some ⟨oc4, od4, .func (PySem.W.fnOf "results" "results" (defArgs s_results) (defBody s_results) (defScope s_results) .none kV4 dc4 pm4 an4 cd4 ct4), sl4⟩) (c4 : PySem.W.codeIn K cd4 "results" = true) (k4 : PySem.W.keepIn K (.ref f4) = true)
    (a5 : PySem.W.nsIn K mainGlobals "demands_of" = some (some (.ref f5))) (l5 : K.lookup f5 = some ⟨oc5, od5, .func (PySem.W.fnOf "demands_of" "demands_of" (defArgs s_demands_of) (defBody s_demands_of) (defScope s_demands_of) .none kV5 dc5 pm5 an5 cd5 ct5), sl5⟩) (c5 : PySem.W.codeIn K cd5 "demands_of" = true) (k5 : PySem.W.keepIn K (.ref f5) = true)
    (a6 : PySem.W.nsIn K mainGlobals "choices" = some (some (.ref f6))) (l6 : K.lookup f6 = some ⟨oc6, od6, .func (PySem.W.fnOf "choices" "choices" (defArgs s_choices) (defBody s_choices) (defScope s_choices) .none kV6 dc6 pm6 an6 cd6 ct6), sl6⟩) (c6 : PySem.W.codeIn K cd6 "choices" = true) (k6 : PySem.W.keepIn K (.ref f6) = true)
    (a7 : PySem.W.nsIn K mainGlobals "numbers_of" = some (some (.ref f7))) (l7 : K.lookup f7 = some ⟨oc7, od7, .func (PySem.W.fnOf "numbers_of" "numbers_of" (defArgs s_numbers_of) (defBody s_numbers_of) (defScope s_numbers_of) .none kV7 dc7 pm7 an7 cd7 ct7), sl7⟩) (c7 : PySem.W.codeIn K cd7 "numbers_of" = true) (k7 : PySem.W.keepIn K (.ref f7) = true)
    (a8 : PySem.W.nsIn K mainGlobals "is_integer" = some (some (.ref f8))) (l8 : K.lookup f8 = some ⟨oc8, od8, .func (PySem.W.fnOf "is_integer" "is_integer" (defArgs s_is_integer) (defBody s_is_integer) (defScope s_is_integer) .none kV8 dc8 pm8 an8 cd8 ct8), sl8⟩) (c8 : PySem.W.codeIn K cd8 "is_integer" = true) (k8 : PySem.W.keepIn K (.ref f8) = true)
    (a9 : PySem.W.nsIn K mainGlobals "game_table" = some (some (.ref f9))) (l9 : K.lookup f9 = some ⟨oc9, od9, .func (PySem.W.fnOf "game_table" "game_table" (defArgs s_game_table) (defBody s_game_table) (defScope s_game_table) .none kV9 dc9 pm9 an9 cd9 ct9), sl9⟩) (c9 : PySem.W.codeIn K cd9 "game_table" = true) (k9 : PySem.W.keepIn K (.ref f9) = true)
    (a10 : PySem.W.nsIn K mainGlobals "forcing_demand" = some (some (.ref f10))) (l10 : K.lookup f10 = some ⟨oc10, od10, .func (PySem.W.fnOf "forcing_demand" "forcing_demand" (defArgs s_forcing_demand) (defBody s_forcing_demand) (defScope s_forcing_demand) .none kV10 dc10 pm10 an10 cd10 ct10), sl10⟩) (c10 : PySem.W.codeIn K cd10 "forcing_demand" = true) (k10 : PySem.W.keepIn K (.ref f10) = true)
    (a11 : PySem.W.nsIn K mainGlobals "holding_grant" = some (some (.ref f11))) (l11 : K.lookup f11 = some ⟨oc11, od11, .func (PySem.W.fnOf "holding_grant" "holding_grant" (defArgs s_holding_grant) (defBody s_holding_grant) (defScope s_holding_grant) .none kV11 dc11 pm11 an11 cd11 ct11), sl11⟩) (c11 : PySem.W.codeIn K cd11 "holding_grant" = true) (k11 : PySem.W.keepIn K (.ref f11) = true)
    (a12 : PySem.W.nsIn K mainGlobals "is_right_number" = some (some (.ref f12))) (l12 : K.lookup f12 = some ⟨oc12, od12, .func (PySem.W.fnOf "is_right_number" "is_right_number" (defArgs s_is_right_number) (defBody s_is_right_number) (defScope s_is_right_number) .none kV12 dc12 pm12 an12 cd12 ct12), sl12⟩) (c12 : PySem.W.codeIn K cd12 "is_right_number" = true) (k12 : PySem.W.keepIn K (.ref f12) = true)
    (a13 : PySem.W.nsIn K mainGlobals "has_rows" = some (some (.ref f13))) (l13 : K.lookup f13 = some ⟨oc13, od13, .func (PySem.W.fnOf "has_rows" "has_rows" (defArgs s_has_rows) (defBody s_has_rows) (defScope s_has_rows) .none kV13 dc13 pm13 an13 cd13 ct13), sl13⟩) (c13 : PySem.W.codeIn K cd13 "has_rows" = true) (k13 : PySem.W.keepIn K (.ref f13) = true)
    (a14 : PySem.W.nsIn K mainGlobals "shows_game_table" = some (some (.ref f14))) (l14 : K.lookup f14 = some ⟨oc14, od14, .func (PySem.W.fnOf "shows_game_table" "shows_game_table" (defArgs s_shows_game_table) (defBody s_shows_game_table) (defScope s_shows_game_table) .none kV14 dc14 pm14 an14 cd14 ct14), sl14⟩) (c14 : PySem.W.codeIn K cd14 "shows_game_table" = true) (k14 : PySem.W.keepIn K (.ref f14) = true)
    (a15 : PySem.W.nsIn K mainGlobals "_law_hand" = some (some (.ref f15))) (l15 : K.lookup f15 = some ⟨oc15, od15, .func (PySem.W.fnOf "_law_hand" "_law_hand" (defArgs s__law_hand) (defBody s__law_hand) (defScope s__law_hand) .none kV15 dc15 pm15 an15 cd15 ct15), sl15⟩) (c15 : PySem.W.codeIn K cd15 "_law_hand" = true) (k15 : PySem.W.keepIn K (.ref f15) = true)
    (a16 : PySem.W.nsIn K mainGlobals "_law_take" = some (some (.ref f16))) (l16 : K.lookup f16 = some ⟨oc16, od16, .func (PySem.W.fnOf "_law_take" "_law_take" (defArgs s__law_take) (defBody s__law_take) (defScope s__law_take) .none kV16 dc16 pm16 an16 cd16 ct16), sl16⟩) (c16 : PySem.W.codeIn K cd16 "_law_take" = true) (k16 : PySem.W.keepIn K (.ref f16) = true)
    (a17 : PySem.W.nsIn K mainGlobals "_law_of" = some (some (.ref f17))) (l17 : K.lookup f17 = some ⟨oc17, od17, .func (PySem.W.fnOf "_law_of" "_law_of" (defArgs s__law_of) (defBody s__law_of) (defScope s__law_of) .none kV17 dc17 pm17 an17 cd17 ct17), sl17⟩) (c17 : PySem.W.codeIn K cd17 "_law_of" = true) (k17 : PySem.W.keepIn K (.ref f17) = true)
    (a18 : PySem.W.nsIn K mainGlobals "_law_mixed" = some (some (.ref f18))) (l18 : K.lookup f18 = some ⟨oc18, od18, .func (PySem.W.fnOf "_law_mixed" "_law_mixed" (defArgs s__law_mixed) (defBody s__law_mixed) (defScope s__law_mixed) .none kV18 dc18 pm18 an18 cd18 ct18), sl18⟩) (c18 : PySem.W.codeIn K cd18 "_law_mixed" = true) (k18 : PySem.W.keepIn K (.ref f18) = true)
    (a19 : PySem.W.nsIn K mainGlobals "_law_sorted_rows" = some (some (.ref f19))) (l19 : K.lookup f19 = some ⟨oc19, od19, .func (PySem.W.fnOf "_law_sorted_rows" "_law_sorted_rows" (defArgs s__law_sorted_rows) (defBody s__law_sorted_rows) (defScope s__law_sorted_rows) .none kV19 dc19 pm19 an19 cd19 ct19), sl19⟩) (c19 : PySem.W.codeIn K cd19 "_law_sorted_rows" = true) (k19 : PySem.W.keepIn K (.ref f19) = true)
    (a20 : PySem.W.nsIn K mainGlobals "_law_demands" = some (some (.ref f20))) (l20 : K.lookup f20 = some ⟨oc20, od20, .func (PySem.W.fnOf "_law_demands" "_law_demands" (defArgs s__law_demands) (defBody s__law_demands) (defScope s__law_demands) .none kV20 dc20 pm20 an20 cd20 ct20), sl20⟩) (c20 : PySem.W.codeIn K cd20 "_law_demands" = true) (k20 : PySem.W.keepIn K (.ref f20) = true)
    (a21 : PySem.W.nsIn K mainGlobals "_law_numbers" = some (some (.ref f21))) (l21 : K.lookup f21 = some ⟨oc21, od21, .func (PySem.W.fnOf "_law_numbers" "_law_numbers" (defArgs s__law_numbers) (defBody s__law_numbers) (defScope s__law_numbers) .none kV21 dc21 pm21 an21 cd21 ct21), sl21⟩) (c21 : PySem.W.codeIn K cd21 "_law_numbers" = true) (k21 : PySem.W.keepIn K (.ref f21) = true)
    (a22 : PySem.W.nsIn K mainGlobals "_law_left" = some (some (.ref f22))) (l22 : K.lookup f22 = some ⟨oc22, od22, .func (PySem.W.fnOf "_law_left" "_law_left" (defArgs s__law_left) (defBody s__law_left) (defScope s__law_left) .none kV22 dc22 pm22 an22 cd22 ct22), sl22⟩) (c22 : PySem.W.codeIn K cd22 "_law_left" = true) (k22 : PySem.W.keepIn K (.ref f22) = true)
    (a23 : PySem.W.nsIn K mainGlobals "_law_is_number_right" = some (some (.ref f23))) (l23 : K.lookup f23 = some ⟨oc23, od23, .func (PySem.W.fnOf "_law_is_number_right" "_law_is_number_right" (defArgs s__law_is_number_right) (defBody s__law_is_number_right) (defScope s__law_is_number_right) .none kV23 dc23 pm23 an23 cd23 ct23), sl23⟩) (c23 : PySem.W.codeIn K cd23 "_law_is_number_right" = true) (k23 : PySem.W.keepIn K (.ref f23) = true)
    (a24 : PySem.W.nsIn K mainGlobals "_law_is_forced_right" = some (some (.ref f24))) (l24 : K.lookup f24 = some ⟨oc24, od24, .func (PySem.W.fnOf "_law_is_forced_right" "_law_is_forced_right" (defArgs s__law_is_forced_right) (defBody s__law_is_forced_right) (defScope s__law_is_forced_right) .none kV24 dc24 pm24 an24 cd24 ct24), sl24⟩) (c24 : PySem.W.codeIn K cd24 "_law_is_forced_right" = true) (k24 : PySem.W.keepIn K (.ref f24) = true)
    (a25 : PySem.W.nsIn K mainGlobals "_law_is_held_right" = some (some (.ref f25))) (l25 : K.lookup f25 = some ⟨oc25, od25, .func (PySem.W.fnOf "_law_is_held_right" "_law_is_held_right" (defArgs s__law_is_held_right) (defBody s__law_is_held_right) (defScope s__law_is_held_right) .none kV25 dc25 pm25 an25 cd25 ct25), sl25⟩) (c25 : PySem.W.codeIn K cd25 "_law_is_held_right" = true) (k25 : PySem.W.keepIn K (.ref f25) = true)
    (a26 : PySem.W.nsIn K mainGlobals "law" = some (some (.ref f26))) (l26 : K.lookup f26 = some ⟨oc26, od26, .func (PySem.W.fnOf "law" "law" (defArgs s_law) (defBody s_law) (defScope s_law) .none kV26 dc26 pm26 an26 cd26 ct26), sl26⟩) (c26 : PySem.W.codeIn K cd26 "law" = true) (k26 : PySem.W.keepIn K (.ref f26) = true)
    (a0 : PySem.W.nsIn K mainGlobals "sorted_balances" = some (some (.ref f0))) (l0 : K.lookup f0 = some ⟨oc0, od0, .func (PySem.W.fnOf "sorted_balances" "sorted_balances" (defArgs s_sorted_balances) (defBody s_sorted_balances) (defScope s_sorted_balances) (.ref fT) kV0 dc0 pm0 an0 cd0 ct0), sl0⟩) (c0 : PySem.W.codeIn K cd0 "sorted_balances" = true) (k0 : PySem.W.keepIn K (.ref f0) = true) (lT : K.lookup fT = some ⟨tc, td, .seq #[.int 0 tt] tn, tsl⟩)
    (rP : PySem.W.nsIn K mainGlobals "ROW_PARTS" = some (some (.int 2 tk)))
    (z_len : PySem.W.nsIn K mainGlobals "len" = some none)
    (z_tuple : PySem.W.nsIn K mainGlobals "tuple" = some none)
    (z_sorted : PySem.W.nsIn K mainGlobals "sorted" = some none)
    (z_set : PySem.W.nsIn K mainGlobals "set" = some none)
    (z_range : PySem.W.nsIn K mainGlobals "range" = some none)
    (z_enumerate : PySem.W.nsIn K mainGlobals "enumerate" = some none)
    (z_zip : PySem.W.nsIn K mainGlobals "zip" = some none)
    (z_sum : PySem.W.nsIn K mainGlobals "sum" = some none)
    (z_all : PySem.W.nsIn K mainGlobals "all" = some none)
    (z_any : PySem.W.nsIn K mainGlobals "any" = some none)
    (z_min : PySem.W.nsIn K mainGlobals "min" = some none)
    (z_max : PySem.W.nsIn K mainGlobals "max" = some none)
    (z_int : PySem.W.nsIn K mainGlobals "int" = some none)
    (z_bool : PySem.W.nsIn K mainGlobals "bool" = some none)
    (z_abs : PySem.W.nsIn K mainGlobals "abs" = some none)
    (z_list : PySem.W.nsIn K mainGlobals "list" = some none)
    (z_dict : PySem.W.nsIn K mainGlobals "dict" = some none)
    (z_repr : PySem.W.nsIn K mainGlobals "repr" = some none)
    (z_isinstance : PySem.W.nsIn K mainGlobals "isinstance" = some none) :
    ∃ fd : FuncData, (∀ (s : Shared) (v : Value), BindsTo s fd ⟨[v], []⟩ [("script", v)]) ∧ ∀ base : Heap, K.In base → base.Ns mainGlobals mg → FnG l.prog w K mg base 9 fa fd ["script"] (spLaw K) := by
  have e := hfa.symm.trans (PySem.W.mg_of X G a26)
  cases e
  have F1 := fun_mk (st := s_changed) l1 c1 k1
  have b1 := F1.binds (ps := ["balances", "sender", "amount"]) fun _ _ _ _ _ _ us hl => match us, hl with | [_, _, _], _ => rfl
  have F2 := fun_mk (st := s_stalled) l2 c2 k2
  have b2 := F2.binds (ps := ["balances", "demand"]) fun _ _ _ _ _ _ us hl => match us, hl with | [_, _], _ => rfl
  have F3 := fun_mk (st := s_less_demand) l3 c3 k3
  have b3 := F3.binds (ps := ["balances", "demand"]) fun _ _ _ _ _ _ us hl => match us, hl with | [_, _], _ => rfl
  have F4 := fun_mk (st := s_results) l4 c4 k4
  have b4 := F4.binds (ps := ["balances", "demand", "budget"]) fun _ _ _ _ _ _ us hl => match us, hl with | [_, _, _], _ => rfl
  have F5 := fun_mk (st := s_demands_of) l5 c5 k5
  have b5 := F5.binds (ps := ["count", "budget"]) fun _ _ _ _ _ _ us hl => match us, hl with | [_, _], _ => rfl
  have F6 := fun_mk (st := s_choices) l6 c6 k6
  have b6 := F6.binds (ps := ["balances", "budget"]) fun _ _ _ _ _ _ us hl => match us, hl with | [_, _], _ => rfl
  have F7 := fun_mk (st := s_numbers_of) l7 c7 k7
  have b7 := F7.binds (ps := ["count", "budget", "total"]) fun _ _ _ _ _ _ us hl => match us, hl with | [_, _, _], _ => rfl
  have F8 := fun_mk (st := s_is_integer) l8 c8 k8
  have b8 := F8.binds (ps := ["thing"]) fun _ _ _ _ _ _ us hl => match us, hl with | [_], _ => rfl
  have F9 := fun_mk (st := s_game_table) l9 c9 k9
  have b9 := F9.binds (ps := ["count", "budget", "total"]) fun _ _ _ _ _ _ us hl => match us, hl with | [_, _, _], _ => rfl
  have F10 := fun_mk (st := s_forcing_demand) l10 c10 k10
  have b10 := F10.binds (ps := ["balances", "budget"]) fun _ _ _ _ _ _ us hl => match us, hl with | [_, _], _ => rfl
  have F11 := fun_mk (st := s_holding_grant) l11 c11 k11
  have b11 := F11.binds (ps := ["balances", "budget"]) fun _ _ _ _ _ _ us hl => match us, hl with | [_, _], _ => rfl
  have F12 := fun_mk (st := s_is_right_number) l12 c12 k12
  have b12 := F12.binds (ps := ["number", "lots", "known"]) fun _ _ _ _ _ _ us hl => match us, hl with | [_, _, _], _ => rfl
  have F13 := fun_mk (st := s_has_rows) l13 c13 k13
  have b13 := F13.binds (ps := ["count", "total", "thing"]) fun _ _ _ _ _ _ us hl => match us, hl with | [_, _, _], _ => rfl
  have F14 := fun_mk (st := s_shows_game_table) l14 c14 k14
  have b14 := F14.binds (ps := ["count", "budget", "total", "thing"]) fun _ _ _ _ _ _ us hl => match us, hl with | [_, _, _, _], _ => rfl
  have F15 := fun_mk (st := s__law_hand) l15 c15 k15
  have b15 := F15.binds (ps := ["script", "k"]) fun _ _ _ _ _ _ us hl => match us, hl with | [_, _], _ => rfl
  have F16 := fun_mk (st := s__law_take) l16 c16 k16
  have b16 := F16.binds (ps := ["hand", "many"]) fun _ _ _ _ _ _ us hl => match us, hl with | [_, _], _ => rfl
  have F17 := fun_mk (st := s__law_of) l17 c17 k17
  have b17 := F17.binds (ps := ["hand", "some"]) fun _ _ _ _ _ _ us hl => match us, hl with | [_, _], _ => rfl
  have F18 := fun_mk (st := s__law_mixed) l18 c18 k18
  have b18 := F18.binds (ps := ["hand", "some"]) fun _ _ _ _ _ _ us hl => match us, hl with | [_, _], _ => rfl
  have F19 := fun_mk (st := s__law_sorted_rows) l19 c19 k19
  have b19 := F19.binds (ps := ["count", "total"]) fun _ _ _ _ _ _ us hl => match us, hl with | [_, _], _ => rfl
  have F20 := fun_mk (st := s__law_demands) l20 c20 k20
  have b20 := F20.binds (ps := ["count", "budget"]) fun _ _ _ _ _ _ us hl => match us, hl with | [_, _], _ => rfl
  have F21 := fun_mk (st := s__law_numbers) l21 c21 k21
  have b21 := F21.binds (ps := ["known", "left", "budget"]) fun _ _ _ _ _ _ us hl => match us, hl with | [_, _, _], _ => rfl
  have F22 := fun_mk (st := s__law_left) l22 c22 k22
  have b22 := F22.binds (ps := ["balances", "demand"]) fun _ _ _ _ _ _ us hl => match us, hl with | [_, _], _ => rfl
  have F23 := fun_mk (st := s__law_is_number_right) l23 c23 k23
  have b23 := F23.binds (ps := ["known", "row", "budget"]) fun _ _ _ _ _ _ us hl => match us, hl with | [_, _, _], _ => rfl
  have F24 := fun_mk (st := s__law_is_forced_right) l24 c24 k24
  have b24 := F24.binds (ps := ["hand", "known", "row"]) fun _ _ _ _ _ _ us hl => match us, hl with | [_, _, _], _ => rfl
  have F25 := fun_mk (st := s__law_is_held_right) l25 c25 k25
  have b25 := F25.binds (ps := ["hand", "known", "row"]) fun _ _ _ _ _ _ us hl => match us, hl with | [_, _, _], _ => rfl
  have F26 := fun_mk (st := s_law) l26 c26 k26
  have b26 := F26.binds (ps := ["script"]) fun _ _ _ _ _ _ us hl => match us, hl with | [_], _ => rfl
  have Z : Zs mg := ⟨PySem.W.mg_none_of X G z_len, PySem.W.mg_none_of X G z_tuple, PySem.W.mg_none_of X G z_sorted, PySem.W.mg_none_of X G z_set, PySem.W.mg_none_of X G z_range, PySem.W.mg_none_of X G z_enumerate, PySem.W.mg_none_of X G z_zip, PySem.W.mg_none_of X G z_sum, PySem.W.mg_none_of X G z_all, PySem.W.mg_none_of X G z_any, PySem.W.mg_none_of X G z_min, PySem.W.mg_none_of X G z_max, PySem.W.mg_none_of X G z_int, PySem.W.mg_none_of X G z_bool, PySem.W.mg_none_of X G z_abs, PySem.W.mg_none_of X G z_list, PySem.W.mg_none_of X G z_dict, PySem.W.mg_none_of X G z_repr, PySem.W.mg_none_of X G z_isinstance⟩
  have FD : FunD K "sorted_balances" "sorted_balances" (defArgs s_sorted_balances) (defBody s_sorted_balances) (defScope s_sorted_balances) [.int 0] [] f0 (PySem.W.fnOf "sorted_balances" "sorted_balances" (defArgs s_sorted_balances) (defBody s_sorted_balances) (defScope s_sorted_balances) (.ref fT) kV0 dc0 pm0 an0 cd0 ct0) :=
    ⟨⟨oc0, od0, _, kV0, dc0, pm0, an0, cd0, ct0, sl0, rfl, l0, c0, .inr ⟨List.cons_ne_nil _ _, fT, _, [.int 0 tt], tn, rfl, lT, rfl, .cons ⟨tt, rfl⟩ .nil⟩, .inl rfl⟩, k0⟩
  obtain ⟨ds2, hd2, bd2⟩ := FD.binds1 (ps := ["count", "total", "least"]) 2 0 (List.cons_ne_nil _ _) rfl fun T kV doc pm an cdv ct us its h1 h2 => match us, its, h1, h2 with | [_, _], [_], _, _ => ⟨_, rfl, rfl⟩
  obtain ⟨ds3, hd3, bd3⟩ := FD.binds1 (ps := ["count", "total", "least"]) 3 1 (List.cons_ne_nil _ _) rfl fun T kV doc pm an cdv ct us its h1 h2 => match us, its, h1, h2 with | [_, _, _], [_], _, _ => ⟨_, rfl, rfl⟩
  have e3 : ds3 = [] := by cases hd3; rfl
  subst e3
  refine ⟨PySem.W.fnOf "law" "law" (defArgs s_law) (defBody s_law) (defScope s_law) .none kV26 dc26 pm26 an26 cd26 ct26, fun s v => .of_eq rfl, fun base _ _ => ?_⟩
  have cc : Cal l.prog w K mg base 1 "changed" ["balances", "sender", "amount"] [] (spD preChanged) := ⟨_, _, [], ok_changed F1, PySem.W.mg_of X G a1, k1, b1, .nil⟩
  have cs : Cal l.prog w K mg base 1 "stalled" ["balances", "demand"] [] (spD preStalled) := ⟨_, _, [], ok_stalled Z F2, PySem.W.mg_of X G a2, k2, b2, .nil⟩
  have cl : Cal l.prog w K mg base 2 "less_demand" ["balances", "demand"] [] (spD preLess) := ⟨_, _, [], ok_less Z cs F3, PySem.W.mg_of X G a3, k3, b3, .nil⟩
  have cr : Cal l.prog w K mg base 3 "results" ["balances", "demand", "budget"] [] (spD preResults) := ⟨_, _, [], ok_results Z cl cc F4, PySem.W.mg_of X G a4, k4, b4, .nil⟩
  have cd : Cal l.prog w K mg base 4 "demands_of" ["count", "budget"] [] (spD (preDemands 4)) := ⟨_, _, [], demands_all Z F5 b5 (PySem.W.mg_of X G a5) k5 4, PySem.W.mg_of X G a5, k5, b5, .nil⟩
  have ch : Cal l.prog w K mg base 5 "choices" ["balances", "budget"] [] (spD preChoices) := ⟨_, _, [], ok_choices Z cd cr F6, PySem.W.mg_of X G a6, k6, b6, .nil⟩
  have cb : Cal l.prog w K mg base 4 "sorted_balances" ["count", "total", "least"] [.int 0] (spD (preSorted 4)) := ⟨_, _, ds2, sorted_all Z FD bd3 (PySem.W.mg_of X G a0) 4, PySem.W.mg_of X G a0, k0, bd2, hd2⟩
  have cn : Cal l.prog w K mg base 6 "numbers_of" ["count", "budget", "total"] [] (spD preNumbers) := ⟨_, _, [], ok_numbers Z cb ch F7, PySem.W.mg_of X G a7, k7, b7, .nil⟩
  have cI : Cal l.prog w K mg base 1 "is_integer" ["thing"] [] (spD preInt) := ⟨_, _, [], ok_int Z F8, PySem.W.mg_of X G a8, k8, b8, .nil⟩
  have cG : Cal l.prog w K mg base 7 "game_table" ["count", "budget", "total"] [] (spD preTable) := ⟨_, _, [], ok_table Z cb cn F9, PySem.W.mg_of X G a9, k9, b9, .nil⟩
  have cF : Cal l.prog w K mg base 7 "forcing_demand" ["balances", "budget"] [] (spD preForce) := ⟨_, _, [], ok_force Z cn cd cr F10, PySem.W.mg_of X G a10, k10, b10, .nil⟩
  have cHo : Cal l.prog w K mg base 7 "holding_grant" ["balances", "budget"] [] (spD preHold) := ⟨_, _, [], ok_hold Z cc cn F11, PySem.W.mg_of X G a11, k11, b11, .nil⟩
  have cIr : Cal l.prog w K mg base 1 "is_right_number" ["number", "lots", "known"] [] (spD preRight) := ⟨_, _, [], ok_irn Z F12, PySem.W.mg_of X G a12, k12, b12, .nil⟩
  have cHr : Cal l.prog w K mg base 5 "has_rows" ["count", "total", "thing"] [] (spD preHas) := ⟨_, _, [], ok_has Z (PySem.W.mg_of X G rP) cI cb F13, PySem.W.mg_of X G a13, k13, b13, .nil⟩
  have cSh : Cal l.prog w K mg base 6 "shows_game_table" ["count", "budget", "total", "thing"] [] (spD preShows) := ⟨_, _, [], ok_shows Z cHr ch cIr F14, PySem.W.mg_of X G a14, k14, b14, .nil⟩
  have cH : Cal l.prog w K mg base 1 "_law_hand" ["script", "k"] [] (spHand K) := ⟨_, _, [], ok_hand Z F15, PySem.W.mg_of X G a15, k15, b15, .nil⟩
  have cT : Cal l.prog w K mg base 1 "_law_take" ["hand", "many"] [] spTake := ⟨_, _, [], ok_take Z F16, PySem.W.mg_of X G a16, k16, b16, .nil⟩
  have cO : Cal l.prog w K mg base 2 "_law_of" ["hand", "some"] [] spOf := ⟨_, _, [], ok_of Z cT F17, PySem.W.mg_of X G a17, k17, b17, .nil⟩
  have cM : Cal l.prog w K mg base 2 "_law_mixed" ["hand", "some"] [] spMixed := ⟨_, _, [], ok_mixed Z cT F18, PySem.W.mg_of X G a18, k18, b18, .nil⟩
  have cSr : Cal l.prog w K mg base 1 "_law_sorted_rows" ["count", "total"] [] (spD preSR) := ⟨_, _, [], ok_sr Z F19, PySem.W.mg_of X G a19, k19, b19, .nil⟩
  have cLd : Cal l.prog w K mg base 4 "_law_demands" ["count", "budget"] [] (spD (preDemands 4)) := ⟨_, _, [], lawdem_all Z F20 b20 (PySem.W.mg_of X G a20) k20 4, PySem.W.mg_of X G a20, k20, b20, .nil⟩
  have cLn : Cal l.prog w K mg base 1 "_law_numbers" ["known", "left", "budget"] [] (spD preNums) := ⟨_, _, [], ok_nums Z F21, PySem.W.mg_of X G a21, k21, b21, .nil⟩
  have cLl : Cal l.prog w K mg base 1 "_law_left" ["balances", "demand"] [] (spD preLeft) := ⟨_, _, [], ok_left Z F22, PySem.W.mg_of X G a22, k22, b22, .nil⟩
  have cNr : Cal l.prog w K mg base 5 "_law_is_number_right" ["known", "row", "budget"] [] (spD preNR) := ⟨_, _, [], ok_nr Z cLd cLl cLn F23, PySem.W.mg_of X G a23, k23, b23, .nil⟩
  have cFr : Cal l.prog w K mg base 8 "_law_is_forced_right" ["hand", "known", "row"] [] spForced := ⟨_, _, [], ok_forced Z cM cF cLl cLn F24, PySem.W.mg_of X G a24, k24, b24, .nil⟩
  have cHe : Cal l.prog w K mg base 8 "_law_is_held_right" ["hand", "known", "row"] [] spHeld := ⟨_, _, [], ok_held Z cO cM cLd cHo cLl cLn F25, PySem.W.mg_of X G a25, k25, b25, .nil⟩
  exact ok_law Z cH cT cO cSr cG cSh cNr cFr cHe F26
theorem walk {l : PySem.W.OpenLaw} {q : Program} {loose : List Str} {XP : (Str → Option Value) → Heap → Prop} {YP : World → Heap → Prop} {d : DefRec} {K : Params → PySem.W.Frag} (hn : l.most = some 63) (hdf : d.params.defaults = [])
    (hY : ∀ (w : World) (h : Heap), YP w h → (K w.params).In h)
    (F : ∀ (w : World) (mg : Str → Option Value) (fa : Addr) (h : Heap), (K w.params).In h → h.Ns mainGlobals mg → mg d.name = some (.ref fa) →
      ∃ fd : FuncData, (∀ (s : Shared) (u : Value), BindsTo s fd ⟨[u], []⟩ [("script", u)]) ∧ ∀ base : Heap, (K w.params).In base → base.Ns mainGlobals mg → FnG l.prog w (K w.params) mg base 9 fa fd ["script"] (spLaw (K w.params))) :
    PySem.W.WalkO q loose XP YP l.row.toRowW d [] (fun f vs => PySem.call f vs) :=
  L2.walk_ofG (n := 63) (k := 9) (x := "script") (sp := fun w => spLaw (K w.params)) hn (by decide) hdf ⟨rfl, by decide, by decide⟩ hY F (fun _ H a ns hl _ hS => ⟨fun _ => False, H, a, ns, Off.nil H, rfl, hS, fun _ _ => rfl⟩)

end K78
open PySem PySem.W PyProof.Rows
set_option maxRecDepth 100000 in
set_option maxHeartbeats 0 in
theorem PySem.Challenge.cw_creditfloor_k78_whole_the_greatest_games_holds : PySem.Challenge.rw_creditfloor_k78_whole_the_greatest_games.Holds := by
  w_on; o_law; k_head; (case hw => w_witness2)
  k_fill
  refine K78.walk (l := PySem.Challenge.rw_creditfloor_k78_whole_the_greatest_games) rfl rfl (fun w h Y => PySem.W.kIn_of Y) ?F
  case F =>
    intro w mg fa h KX G hmg
    refine' K78.all_mk KX G hmg ?a1 ?l1 ?c1 ?k1 ?a2 ?l2 ?c2 ?k2 ?a3 ?l3 ?c3 ?k3 ?a4 ?l4 ?c4 ?k4 ?a5 ?l5 ?c5 ?k5 ?a6 ?l6 ?c6 ?k6 ?a7 ?l7 ?c7 ?k7 ?a8 ?l8 ?c8 ?k8 ?a9 ?l9 ?c9 ?k9 ?a10 ?l10 ?c10 ?k10 ?a11 ?l11 ?c11 ?k11 ?a12 ?l12 ?c12 ?k12 ?a13 ?l13 ?c13 ?k13 ?a14 ?l14 ?c14 ?k14 ?a15 ?l15 ?c15 ?k15 ?a16 ?l16 ?c16 ?k16 ?a17 ?l17 ?c17 ?k17 ?a18 ?l18 ?c18 ?k18 ?a19 ?l19 ?c19 ?k19 ?a20 ?l20 ?c20 ?k20 ?a21 ?l21 ?c21 ?k21 ?a22 ?l22 ?c22 ?k22 ?a23 ?l23 ?c23 ?k23 ?a24 ?l24 ?c24 ?k24 ?a25 ?l25 ?c25 ?k25 ?a26 ?l26 ?c26 ?k26 ?a0 ?l0 ?c0 ?k0 ?lT ?rP ?z_len ?z_tuple ?z_sorted ?z_set ?z_range ?z_enumerate ?z_zip ?z_sum ?z_all ?z_any ?z_min ?z_max ?z_int ?z_bool ?z_abs ?z_list ?z_dict ?z_repr ?z_isinstance
    (case a1 => k_is)
    (case l1 => k_is)
    (case c1 => k_is)
    (case k1 => k_is)
    (case a2 => k_is)
    (case l2 => k_is)
    (case c2 => k_is)
    (case k2 => k_is)
    (case a3 => k_is)
    (case l3 => k_is)
    (case c3 => k_is)
    (case k3 => k_is)
    (case a4 => k_is)
    (case l4 => k_is)
    (case c4 => k_is)
    (case k4 => k_is)
    (case a5 => k_is)
    (case l5 => k_is)
    (case c5 => k_is)
    (case k5 => k_is)
    (case a6 => k_is)
    (case l6 => k_is)
    (case c6 => k_is)
    (case k6 => k_is)
    (case a7 => k_is)
    (case l7 => k_is)
    (case c7 => k_is)
    (case k7 => k_is)
    (case a8 => k_is)
    (case l8 => k_is)
    (case c8 => k_is)
    (case k8 => k_is)
    (case a9 => k_is)
    (case l9 => k_is)
    (case c9 => k_is)
    (case k9 => k_is)
    (case a10 => k_is)
    (case l10 => k_is)
    (case c10 => k_is)
    (case k10 => k_is)
    (case a11 => k_is)
    (case l11 => k_is)
    (case c11 => k_is)
    (case k11 => k_is)
    (case a12 => k_is)
    (case l12 => k_is)
    (case c12 => k_is)
    (case k12 => k_is)
    (case a13 => k_is)
    (case l13 => k_is)
    (case c13 => k_is)
    (case k13 => k_is)
    (case a14 => k_is)
    (case l14 => k_is)
    (case c14 => k_is)
    (case k14 => k_is)
    (case a15 => k_is)
    (case l15 => k_is)
    (case c15 => k_is)
    (case k15 => k_is)
    (case a16 => k_is)
    (case l16 => k_is)
    (case c16 => k_is)
    (case k16 => k_is)
    (case a17 => k_is)
    (case l17 => k_is)
    (case c17 => k_is)
    (case k17 => k_is)
    (case a18 => k_is)
    (case l18 => k_is)
    (case c18 => k_is)
    (case k18 => k_is)
    (case a19 => k_is)
    (case l19 => k_is)
    (case c19 => k_is)
    (case k19 => k_is)
    (case a20 => k_is)
    (case l20 => k_is)
    (case c20 => k_is)
    (case k20 => k_is)
    (case a21 => k_is)
    (case l21 => k_is)
    (case c21 => k_is)
    (case k21 => k_is)
    (case a22 => k_is)
    (case l22 => k_is)
    (case c22 => k_is)
    (case k22 => k_is)
    (case a23 => k_is)
    (case l23 => k_is)
    (case c23 => k_is)
    (case k23 => k_is)
    (case a24 => k_is)
    (case l24 => k_is)
    (case c24 => k_is)
    (case k24 => k_is)
    (case a25 => k_is)
    (case l25 => k_is)
    (case c25 => k_is)
    (case k25 => k_is)
    (case a26 => k_is)
    (case l26 => k_is)
    (case c26 => k_is)
    (case k26 => k_is)
    (case a0 => k_is)
    (case l0 => k_is)
    (case c0 => k_is)
    (case k0 => k_is)
    (case lT => k_is)
    (case rP => k_is)
    (case z_len => k_is)
    (case z_tuple => k_is)
    (case z_sorted => k_is)
    (case z_set => k_is)
    (case z_range => k_is)
    (case z_enumerate => k_is)
    (case z_zip => k_is)
    (case z_sum => k_is)
    (case z_all => k_is)
    (case z_any => k_is)
    (case z_min => k_is)
    (case z_max => k_is)
    (case z_int => k_is)
    (case z_bool => k_is)
    (case z_abs => k_is)
    (case z_list => k_is)
    (case z_dict => k_is)
    (case z_repr => k_is)
    (case z_isinstance => k_is)
#print axioms PySem.Challenge.cw_creditfloor_k78_whole_the_greatest_games_holds
