import PyProof.Rows.All
import HandS.ForMost
import HandS.ForExc
import HandS.TryMany
import HandS.Wide
import HandS.IsInst
import HandS.TupAny
import HandS.TupMul
import HandS.Zip
import HandS.Flow
import HandS.Style
import HandS.CallSlots
import KE.GoesEnum
import KE.GoesMore
import HandS.ExcIs
import HandS.Strs
import HandS.SetFor
import HandS.Conv
import PySem.Challenge.RW_honestestimates_k11_whole_told_averages
set_option Elab.async false
section
set_option Elab.async false
set_option linter.all false
set_option maxRecDepth 100000
set_option maxHeartbeats 4000000
namespace HL
open PySem PySem.Spec PyProof.Rows L2

/-! ### results, data environments -/
inductive R (α : Type) where
  | ok (a : α)
  | exc (c : String)
  | bad
def R.bind {α β : Type} (r : R α) (k : α → R β) : R β :=
  match r with
  | .ok a => k a
  | .exc c => .exc c
  | .bad => .bad
@[simp] theorem R.bind_ok {α β : Type} (a : α) (k : α → R β) : (R.ok a).bind k = k a := (rfl)
@[simp] theorem R.bind_exc {α β : Type} (c : String) (k : α → R β) : (R.exc c : R α).bind k = .exc c := rfl
@[simp] theorem R.bind_bad {α β : Type} (k : α → R β) : (R.bad : R α).bind k = .bad := rfl

abbrev D := PyData
abbrev En := List (Option D)
abbrev FE := En → R D
abbrev FT := En → R Bool
abbrev FA := En → R (List D)

section
variable {K : PySem.W.Frag}
theorem sqT_mono {H H' : Hp} {a : Addr} {xs : List V} (e : Same H H') (h : SqT K H a xs) : SqT K H' a xs := by
  rcases h with (h | ⟨o, h⟩) | h
  · exact .inl (.inl (e _ _ h))
  · exact .inl (.inr ⟨o, e _ _ h⟩)
  · exact .inr h
mutual
theorem dp_mono {H H' : Hp} (e : Same H H') : ∀ {v : V} {d : D}, Dp K H v d → Dp K H' v d
  | _, _, .non => .non
  | _, _, .bl b => .bl b
  | _, _, .int i => .int i
  | _, _, .str x => .str x
  | _, _, .lst h r => .lst (e.seq h) (dps_mono e r)
  | _, _, .tup h r => .tup (sqT_mono e h) (dps_mono e r)
theorem dps_mono {H H' : Hp} (e : Same H H') : ∀ {vs : List V} {ds : List D}, DpAll K H vs ds → DpAll K H' vs ds
  | _, _, .nil => .nil
  | _, _, .cons h r => .cons (dp_mono e h) (dps_mono e r)
end
theorem dps_len {H : Hp} : ∀ {vs : List V} {ds : List D}, DpAll K H vs ds → vs.length = ds.length
  | _, _, .nil => rfl
  | _, _, .cons _ r => by simp [dps_len r]
theorem dps_get {H : Hp} : ∀ {vs : List V} {ds : List D} {i : Nat} {d : D}, DpAll K H vs ds → ds[i]? = some d → ∃ v, vs[i]? = some v ∧ Dp K H v d
  | _, _, _, _, .nil, h => by simp at h
  | _, _, 0, _, .cons h r, e => by simp at e; subst e; exact ⟨_, rfl, h⟩
  | _, _, i + 1, d, .cons h r, e => by simpa using dps_get (i := i) (d := d) r (by simpa using e)
theorem dps_getV {H : Hp} : ∀ {vs : List V} {ds : List D} {i : Nat} {v : V}, DpAll K H vs ds → vs[i]? = some v → ∃ d, ds[i]? = some d ∧ Dp K H v d
  | _, _, _, _, .nil, h => by simp at h
  | _, _, 0, _, .cons h r, e => by simp at e; subst e; exact ⟨_, rfl, h⟩
  | _, _, i + 1, v, .cons h r, e => by simpa using dps_getV (i := i) (v := v) r (by simpa using e)
theorem dps_append {H : Hp} : ∀ {vs ws : List V} {ds es : List D}, DpAll K H vs ds → DpAll K H ws es → DpAll K H (vs ++ ws) (ds ++ es)
  | _, _, _, _, .nil, s => s
  | _, _, _, _, .cons h r, s => .cons h (dps_append r s)
theorem dps_take {H : Hp} : ∀ {vs : List V} {ds : List D} (n : Nat), DpAll K H vs ds → DpAll K H (vs.take n) (ds.take n)
  | _, _, 0, _ => .nil
  | _, _, _ + 1, .nil => .nil
  | _, _, n + 1, .cons h r => .cons h (dps_take n r)
theorem dps_drop {H : Hp} : ∀ {vs : List V} {ds : List D} (n : Nat), DpAll K H vs ds → DpAll K H (vs.drop n) (ds.drop n)
  | _, _, 0, r => r
  | _, _, _ + 1, .nil => .nil
  | _, _, n + 1, .cons h r => dps_drop n r
theorem dps_rev {H : Hp} : ∀ {vs : List V} {ds : List D}, DpAll K H vs ds → DpAll K H vs.reverse ds.reverse
  | _, _, .nil => .nil
  | _, _, .cons h r => by rw [List.reverse_cons, List.reverse_cons]; exact dps_append (dps_rev r) (.cons h .nil)
theorem dps_set {H : Hp} {v : V} {d : D} (h : Dp K H v d) : ∀ {vs : List V} {ds : List D} (i : Nat), DpAll K H vs ds → DpAll K H (vs.set i v) (ds.set i d)
  | _, _, _, .nil => .nil
  | _, _, 0, .cons _ r => .cons h r
  | _, _, i + 1, .cons q r => .cons q (dps_set h i r)
theorem dps_rep {H : Hp} {vs : List V} {ds : List D} (h : DpAll K H vs ds) : ∀ k : Nat, DpAll K H (List.replicate k vs).flatten (List.replicate k ds).flatten
  | 0 => .nil
  | k + 1 => by rw [List.replicate_succ, List.replicate_succ, List.flatten_cons, List.flatten_cons]; exact dps_append h (dps_rep h k)
theorem dps_dropLast {H : Hp} {vs : List V} {ds : List D} (h : DpAll K H vs ds) : DpAll K H vs.dropLast ds.dropLast := by
  rw [List.dropLast_eq_take, List.dropLast_eq_take, dps_len h]
  exact dps_take _ h
end
theorem same_upd {H : Hp} {p : Addr} {o : HO} (h : H p = none) : Same H (upd H p o) := fun b x e => by
  rw [upd_ne (ne_of_none e h)]
  exact e

structure RelE (K : PySem.W.Frag) (H : Hp) (σ : L2.St) (ρ : En) : Prop where
  len : σ.length = ρ.length
  at_ : ∀ (i : Nat) (d : D), ρ[i]? = some (some d) → ∃ v, σ[i]? = some (some v) ∧ Dp K H v d
theorem RelE.mono {K : PySem.W.Frag} {H H' : Hp} {σ : L2.St} {ρ : En} (r : RelE K H σ ρ) (e : Same H H') : RelE K H' σ ρ := ⟨r.len, fun i d h =>
  let ⟨v, a, b⟩ := r.at_ i d h
  ⟨v, a, dp_mono e b⟩⟩

/-! ### what a reading computes -/
/-- the known part G of the heap H grows to the known part G' of H': what is new in it is new -/
structure Ex4 (G H G' H' : Hp) : Prop where
  g : Same G G'
  s : Same G' H'
  h : Same H H'
  n : ∀ b, H b ≠ none → G b = none → G' b = none
theorem Ex4.refl {G H : Hp} (s : Same G H) : Ex4 G H G H := ⟨Same.refl G, s, Same.refl H, fun _ _ e => e⟩
theorem Ex4.trans {G H G1 H1 G2 H2 : Hp} (a : Ex4 G H G1 H1) (b : Ex4 G1 H1 G2 H2) : Ex4 G H G2 H2 :=
  ⟨a.g.trans b.g, b.s, a.h.trans b.h, fun x hx gx => b.n x (fun e => hx (a.h.free e)) (a.n x hx gx)⟩
theorem same_both {G H : Hp} {p : Addr} {o : HO} (s : Same G H) : Same (upd G p o) (upd H p o) := fun b x e => by
  by_cases hb : b = p
  · subst hb; rw [upd_same] at e ⊢; exact e
  · rw [upd_ne hb] at e ⊢; exact s b x e
theorem Ex4.new {G H : Hp} {p : Addr} {o : HO} (s : Same G H) (hp : H p = none) : Ex4 G H (upd G p o) (upd H p o) :=
  ⟨same_upd (s.free hp), same_both s, same_upd hp, fun b hb gb => by rw [upd_ne (fun e => hb (by rw [e]; exact hp))]; exact gb⟩
def Gd {α β : Type} (ca : String → Addr) (E : XK) (rel : Hp → β → α → Prop) (G H : Hp) (Q : β → Hp → Prop) : R α → Prop
  | .ok a => ∀ b G' H', Ex4 G H G' H' → rel G' b a → Q b H'
  | .exc c => ∀ H', Same H H' → E (.ref (ca c)) none H'
  | .bad => False
theorem Gd.mono {α β : Type} {ca : String → Addr} {E : XK} {rel : Hp → β → α → Prop} {G H G' H' : Hp} {Q : β → Hp → Prop} {r : R α} (g : Gd ca E rel G H Q r) (e : Ex4 G H G' H') : Gd ca E rel G' H' Q r := by
  cases r with
  | ok a => exact fun b G1 H1 s q => g b G1 H1 (e.trans s) q
  | exc c => exact fun H1 s => g H1 (e.h.trans s)
  | bad => exact g
def CG (K : PySem.W.Frag) (ca : String → Addr) (E : L2.St → XK) {α β : Type} (rel : Hp → β → α → Prop) (t : L2.St → Hp → (β → Hp → Prop) → Prop) (f : En → R α) : Prop :=
  ∀ (σ : L2.St) (ρ : En) (G H : Hp) (Q : β → Hp → Prop), Same G H → RelE K G σ ρ → Gd ca (E σ) rel G H Q (f ρ) → t σ H Q
abbrev rD (K : PySem.W.Frag) : Hp → V → D → Prop := fun H v d => Dp K H v d
abbrev rDs (K : PySem.W.Frag) : Hp → List V → List D → Prop := fun H v d => DpAll K H v d
abbrev rB : Hp → Bool → Bool → Prop := fun _ a b => a = b
abbrev CE (K : PySem.W.Frag) (ca : String → Addr) (E : L2.St → XK) (t : TE) (f : FE) : Prop := CG K ca E (rD K) t f
abbrev CT (K : PySem.W.Frag) (ca : String → Addr) (E : L2.St → XK) (t : TT) (f : FT) : Prop := CG K ca E rB t f
abbrev CA (K : PySem.W.Frag) (ca : String → Addr) (E : L2.St → XK) (t : TA) (f : FA) : Prop := CG K ca E (rDs K) t f
theorem CG.bind {K : PySem.W.Frag} {ca : String → Addr} {E : L2.St → XK} {α β γ δ : Type} {rel : Hp → β → α → Prop} {rel2 : Hp → γ → δ → Prop} {t : L2.St → Hp → (β → Hp → Prop) → Prop} {f : En → R α} (h : CG K ca E rel t f)
    {σ : L2.St} {ρ : En} {G H : Hp} (sg : Same G H) (re : RelE K G σ ρ) {k : α → R δ} {Q : γ → Hp → Prop} (g : Gd ca (E σ) rel2 G H Q ((f ρ).bind k)) {P : β → Hp → Prop}
    (kk : ∀ a b G1 H1, Ex4 G H G1 H1 → RelE K G1 σ ρ → rel G1 b a → Gd ca (E σ) rel2 G1 H1 Q (k a) → P b H1) : t σ H P := by
  refine h σ ρ G H P sg re ?_
  cases hf : f ρ with
  | ok a =>
    rw [hf] at g
    exact fun b G1 H1 s r => kk a b G1 H1 s (re.mono s.g) r (Gd.mono (show Gd ca (E σ) rel2 G H Q (k a) from g) s)
  | exc c =>
    rw [hf] at g
    exact fun H1 s => g H1 s
  | bad =>
    rw [hf] at g
    exact g
theorem Gd.here {α β : Type} {ca : String → Addr} {E : XK} {rel : Hp → β → α → Prop} {G H : Hp} {Q : β → Hp → Prop} {a : α} {b : β} (g : Gd ca E rel G H Q (.ok a)) (s : Same G H) (r : rel G b a) : Q b H := g b G H (Ex4.refl s) r

section
variable {K : PySem.W.Frag} {ca : String → Addr} {E : L2.St → XK}
/-! ### names, constants -/
def xV (i : Nat) : FE := fun ρ => match ρ[i]? with
  | some (some d) => .ok d
  | _ => .bad
def xC (d : D) : FE := fun _ => .ok d
theorem ce_var {i : Nat} : CE K ca E (tVar i) (xV i) := fun σ ρ G H Q sg re g => by
  unfold xV at g
  split at g
  · rename_i d h
    obtain ⟨v, hv, hd⟩ := re.at_ i d h
    exact ⟨v, hv, g.here sg hd⟩
  · exact g.elim
theorem ce_int {i : Int} : CE K ca E (tC (.int i)) (xC (.int i)) := fun σ ρ G H Q sg re g => g.here (b := V.int i) sg (.int i)
theorem ce_bl {b : Bool} : CE K ca E (tC (.bl b)) (xC (.bool b)) := fun σ ρ G H Q sg re g => g.here (b := V.bl b) sg (.bl b)
theorem ce_non : CE K ca E (tC .non) (xC .none) := fun σ ρ G H Q sg re g => g.here (b := V.non) sg .non
theorem ce_str {x : Str} : CE K ca E (tC (.str x)) (xC (.str x)) := fun σ ρ G H Q sg re g => g.here (b := V.str x) sg (.str x)

/-! ### two operands -/
def OD (K : PySem.W.Frag) (ca : String → Addr) (r : R2) (g : D → D → R D) : Prop := ∀ (E : XK) (x y : V) (G H : Hp) (Q : VK) (dx dy : D), Same G H → Dp K G x dx → Dp K G y dy → Gd ca E (rD K) G H Q (g dx dy) → r x y H Q
def x2 (g : D → D → R D) (fa fb : FE) : FE := fun ρ => (fa ρ).bind fun a => (fb ρ).bind fun b => g a b
theorem ce_op {r : R2} {g : D → D → R D} {ta tb : TE} {fa fb : FE} (ho : OD K ca r g) (ha : CE K ca E ta fa) (hb : CE K ca E tb fb) : CE K ca E (tOp r ta tb) (x2 g fa fb) := fun σ ρ G H Q sg re gg =>
  ha.bind sg re gg fun a x G1 H1 s1 re1 r1 g1 => hb.bind s1.s re1 g1 fun b y G2 H2 s2 re2 r2 g2 => ho _ x y G2 H2 Q a b s2.s (dp_mono s2.g r1) r2 g2
def UD (K : PySem.W.Frag) (ca : String → Addr) (r : V → Hp → VK → Prop) (g : D → R D) : Prop := ∀ (E : XK) (x : V) (G H : Hp) (Q : VK) (dx : D), Same G H → Dp K G x dx → Gd ca E (rD K) G H Q (g dx) → r x H Q
def x1 (g : D → R D) (fa : FE) : FE := fun ρ => (fa ρ).bind g
theorem ce_un {r : V → Hp → VK → Prop} {g : D → R D} {ta : TE} {fa : FE} (ho : UD K ca r g) (ha : CE K ca E ta fa) : CE K ca E (tUn r ta) (x1 g fa) := fun σ ρ G H Q sg re gg =>
  ha.bind sg re gg fun a x G1 H1 s1 re1 r1 g1 => ho _ x G1 H1 Q a s1.s r1 g1
theorem dp_int {H : Hp} {v : V} {i : Int} (h : Dp K H v (.int i)) : v = .int i := by cases h; rfl
theorem dp_bl {H : Hp} {v : V} {b : Bool} (h : Dp K H v (.bool b)) : v = .bl b := by cases h; rfl
theorem dp_str {H : Hp} {v : V} {b : Str} (h : Dp K H v (.str b)) : v = .str b := by cases h; rfl
theorem dp_non {H : Hp} {v : V} (h : Dp K H v .none) : v = .non := by cases h; rfl
theorem dp_tup {H : Hp} {v : V} {ds : List D} (h : Dp K H v (.tuple ds)) : ∃ a xs, v = .ref a ∧ SqT K H a xs ∧ DpAll K H xs ds := by
  cases h with
  | tup h r => exact ⟨_, _, rfl, h, r⟩
theorem dp_lst {H : Hp} {v : V} {ds : List D} (h : Dp K H v (.list ds)) : ∃ a xs, v = .ref a ∧ SqL K H a xs ∧ DpAll K H xs ds := by
  cases h with
  | lst h r => exact ⟨_, _, rfl, h, r⟩
def dSub : D → D → R D
  | .int a, .int b => .ok (.int (a - b))
  | _, _ => .bad
def dMul : D → D → R D
  | .int a, .int b => if a.natAbs.log2 + b.natAbs.log2 < 1000000 ∨ b.natAbs < 2 ^ 64 then .ok (.int (a * b)) else .bad
  | _, _ => .bad
def dFdiv : D → D → R D
  | .int a, .int b => if 0 < b ∧ b.natAbs.log2 < 9000 then .ok (.int (a / b)) else .bad
  | _, _ => .bad
def dMod : D → D → R D
  | .int a, .int b => if 0 < b then .ok (.int (a % b)) else .bad
  | _, _ => .bad
def dPow : D → D → R D
  | .int a, .int b => if 0 ≤ b ∧ b ≤ 1000000 ∧ a.natAbs < 2 ^ 64 then .ok (.int (a ^ b.toNat)) else .bad
  | _, _ => .bad
def dAdd : D → D → R D
  | .int a, .int b => .ok (.int (a + b))
  | .str a, .str b => if a.length + b.length ≤ sizeLine then .ok (.str (a ++ b)) else .bad
  | .tuple xs, .tuple ys => if xs.length + ys.length ≤ 1000 then .ok (.tuple (xs ++ ys)) else .bad
  | _, _ => .bad
theorem od_sub : OD K ca (rI0 fun i j => .int (i - j)) dSub := fun E x y G H Q dx dy sg hx hy g => by
  unfold dSub at g
  split at g
  · cases dp_int hx; cases dp_int hy
    exact ⟨_, _, rfl, rfl, g.here (b := V.int _) sg (.int _)⟩
  · exact g.elim
def CMulA (i j : Int) : Prop := i.natAbs.log2 + j.natAbs.log2 < 1000000 ∨ j.natAbs < 2 ^ 64
theorem CMulA.ok {i j : Int} (h : CMulA i j) : IntMulOk i j := by
  rcases h with h | h
  · exact CMulW.ok h
  · exact CMul.ok (.inr ⟨by omega, by omega⟩)
theorem op_mulA {X : Cx} : OpR X (binaryOp .Mult) (rI CMulA fun i j => .int (i * j)) := opI fun _ _ _ _ _ _ _ hc q => mul_int q hc.ok
theorem iop_mulA {X : Cx} : OpR X (inplaceOp .Mult) (rI CMulA fun i j => .int (i * j)) := opI fun _ _ _ _ _ _ _ hc q => imul_int q hc.ok
theorem od_mul : OD K ca (rI CMulA fun i j => .int (i * j)) dMul := fun E x y G H Q dx dy sg hx hy g => by
  unfold dMul at g
  split at g
  · cases dp_int hx; cases dp_int hy
    split at g
    · rename_i h
      exact ⟨_, _, rfl, rfl, h, g.here (b := V.int _) sg (.int _)⟩
    · exact g.elim
  · exact g.elim
theorem od_fdiv : OD K ca (rI CDivW fun i j => .int (i / j)) dFdiv := fun E x y G H Q dx dy sg hx hy g => by
  unfold dFdiv at g
  split at g
  · cases dp_int hx; cases dp_int hy
    split at g
    · rename_i h
      exact ⟨_, _, rfl, rfl, h, g.here (b := V.int _) sg (.int _)⟩
    · exact g.elim
  · exact g.elim
theorem od_mod : OD K ca (rI (fun _ j => 0 < j) fun i j => .int (i % j)) dMod := fun E x y G H Q dx dy sg hx hy g => by
  unfold dMod at g
  split at g
  · cases dp_int hx; cases dp_int hy
    split at g
    · rename_i h
      exact ⟨_, _, rfl, rfl, h, g.here (b := V.int _) sg (.int _)⟩
    · exact g.elim
  · exact g.elim
theorem od_pow : OD K ca (rI CPow fun i j => .int (i ^ j.toNat)) dPow := fun E x y G H Q dx dy sg hx hy g => by
  unfold dPow at g
  split at g
  · cases dp_int hx; cases dp_int hy
    split at g
    · rename_i h
      exact ⟨_, _, rfl, rfl, h, g.here (b := V.int _) sg (.int _)⟩
    · exact g.elim
  · exact g.elim
theorem sz1000 {n : Nat} (h : n ≤ 1000) : n ≤ sizeLine := Nat.le_trans h (by decide)
end
end HL
end
section
set_option Elab.async false
set_option linter.all false
set_option maxRecDepth 100000
set_option maxHeartbeats 4000000
namespace HL
open PySem PySem.Spec PyProof.Rows L2
section
variable {X : Cx}
/-- list + list, whatever the lists are -/
def rCatS (K : PySem.W.Frag) : R2 := fun x y H Q => ∃ l b xs zs, x = .ref l ∧ y = .ref b ∧ SqL K H l xs ∧ SqL K H b zs ∧ xs.length + zs.length ≤ sizeLine ∧ ∀ p, H p = none → Q (.ref p) (upd H p (.lst (xs ++ zs)))
theorem op_catS : OpR X (binaryOp .Add) (rCatS X.K) := by
  intro pins s σ H x y v u Q I rx ry h
  obtain ⟨l, b, xs, zs, rfl, rfl, hl, hb, hz, q⟩ := h
  cases rx
  cases ry
  obtain ⟨its, r, ⟨⟨c1, d1, da1, sl1⟩, n, ho, hc, hd, hs⟩, z1⟩ := I.list hl
  obtain ⟨its2, r2, ⟨⟨c2, d2, da2, sl2⟩, n2, ho2, hc2, hd2, hs2⟩, z2⟩ := I.list hb
  simp only at hc hd hs hc2 hd2 hs2
  subst hc hd hs hc2 hd2 hs2
  have e1 := r.length
  have e2 := r2.length
  refine concat_meets ⟨_, ho, rfl⟩ ⟨_, ho2, rfl⟩ noFill_list_add seq_list_add PySem.F.slot_list_add PySem.F.entry_list_add (PySem.F.args_list_add_2 _ _) (PyProof.Rows.list_addW l b its.toArray its2.toArray n n2 none none sl1 sl2 (by simp; omega)) ⟨ho, ho2, ?_⟩
  have ea : its.toArray ++ its2.toArray = (its ++ its2).toArray := by simp
  rw [ea]
  exact ⟨.ref _, _, I.lnew (t' := s.toks) (r.append r2) (by rw [List.length_append]; omega), rfl, q _ I.fresh⟩
end
section
variable {K : PySem.W.Frag} {ca : String → Addr} {E : L2.St → XK}
theorem Gd.newT {G H : Hp} {Q : VK} {E : XK} {xs : List V} {ds : List D} (g : Gd ca E (rD K) G H Q (.ok (.tuple ds))) (s : Same G H) (h : DpAll K G xs ds) : ∀ p, H p = none → Q (.ref p) (upd H p (.tup xs)) := fun p hp =>
  g (.ref p) _ _ (Ex4.new s hp) (.tup (SqT.of upd_same) (dps_mono (same_upd (s.free hp)) h))
theorem Gd.newL {G H : Hp} {Q : VK} {E : XK} {xs : List V} {ds : List D} (g : Gd ca E (rD K) G H Q (.ok (.list ds))) (s : Same G H) (h : DpAll K G xs ds) : ∀ p, H p = none → Q (.ref p) (upd H p (.lst xs)) := fun p hp =>
  g (.ref p) _ _ (Ex4.new s hp) (.lst (SqL.of upd_same) (dps_mono (same_upd (s.free hp)) h))
/-! ### + -/
def dAddA : D → D → R D
  | .int a, .int b => .ok (.int (a + b))
  | .str a, .str b => if a.length + b.length ≤ 100000 then .ok (.str (a ++ b)) else .bad
  | .tuple xs, .tuple ys => if xs.length + ys.length ≤ 1000 then .ok (.tuple (xs ++ ys)) else .bad
  | .list xs, .list ys => if xs.length + ys.length ≤ 1000 then .ok (.list (xs ++ ys)) else .bad
  | _, _ => .bad
def rAddA (K : PySem.W.Frag) : R2 := fun x y H Q => rI0 (fun i j => .int (i + j)) x y H Q ∨ ((∃ i j, x = .str i ∧ y = .str j ∧ i.length + j.length ≤ sizeLine ∧ Q (.str (i ++ j)) H) ∨ (rCatA K x y H Q ∨ rCatS K x y H Q))
theorem op_addA {X : Cx} : OpR X (binaryOp .Add) (rAddA X.K) := op_add.or (op_add_str.or (op_catA.or op_catS))
theorem od_add : OD K ca (rAddA K) dAddA := fun E x y G H Q dx dy sg hx hy g => by
  unfold dAddA at g
  split at g
  · cases dp_int hx; cases dp_int hy
    exact .inl ⟨_, _, rfl, rfl, g.here (b := V.int _) sg (.int _)⟩
  · cases dp_str hx; cases dp_str hy
    split at g
    · rename_i h
      exact .inr (.inl ⟨_, _, rfl, rfl, Nat.le_trans h (by decide), g.here (b := V.str _) sg (.str _)⟩)
    · exact g.elim
  · split at g
    · rename_i h
      obtain ⟨a, xs, rfl, sa, ra⟩ := dp_tup hx
      obtain ⟨b, ys, rfl, sb, rb⟩ := dp_tup hy
      refine .inr (.inr (.inl ⟨a, b, xs, ys, rfl, rfl, sqT_mono sg sa, sqT_mono sg sb, by rw [dps_len ra, dps_len rb]; exact sz1000 h, fun e => ?_, fun _ e => ?_, fun _ _ => g.newT sg (dps_append ra rb)⟩))
      · subst e; cases ra; exact g.here (b := .ref b) sg (.tup sb rb)
      · subst e; cases rb; rw [List.append_nil] at g; exact g.here (b := .ref a) sg (.tup sa ra)
    · exact g.elim
  · split at g
    · rename_i h
      obtain ⟨a, xs, rfl, sa, ra⟩ := dp_lst hx
      obtain ⟨b, ys, rfl, sb, rb⟩ := dp_lst hy
      exact .inr (.inr (.inr ⟨a, b, xs, ys, rfl, rfl, sg.seq sa, sg.seq sb, by rw [dps_len ra, dps_len rb]; exact sz1000 h, g.newL sg (dps_append ra rb)⟩))
    · exact g.elim
  · exact g.elim
def dNeg : D → R D
  | .int a => .ok (.int (-a))
  | _ => .bad
theorem ud_neg : UD K ca (rU fun i => .int (-i)) dNeg := fun E x G H Q dx sg hx g => by
  unfold dNeg at g
  split at g
  · cases dp_int hx; exact ⟨_, rfl, g.here (b := V.int _) sg (.int _)⟩
  · exact g.elim
/-! ### comparisons -/
def dCmp (p : Int → Int → Bool) : D → D → R D
  | .int a, .int b => .ok (.bool (p a b))
  | _, _ => .bad
theorem od_cmp {p : Int → Int → Bool} : OD K ca (rI0 fun i j => .bl (p i j)) (dCmp p) := fun E x y G H Q dx dy sg hx hy g => by
  unfold dCmp at g
  split at g
  · cases dp_int hx; cases dp_int hy
    exact ⟨_, _, rfl, rfl, g.here (b := V.bl _) sg (.bl _)⟩
  · exact g.elim
def dLt : D → D → R D := dCmp fun i j => decide (i < j)
def dLe : D → D → R D := dCmp fun i j => decide (i ≤ j)
def dGt : D → D → R D := dCmp fun i j => decide (j < i)
def dGe : D → D → R D := dCmp fun i j => decide (j ≤ i)
def dEq (d e : D) : R D := if (SeqAt.shaped d && SeqAt.shaped e) = true then .ok (.bool (PyData.eqv d e)) else .bad
def dNe (d e : D) : R D := if (SeqAt.shaped d && SeqAt.shaped e) = true then .ok (.bool (!PyData.eqv d e)) else .bad
theorem od_eq : OD K ca (rEqD K) dEq := fun E x y G H Q dx dy sg hx hy g => by
  unfold dEq at g
  split at g
  · rename_i h
    rw [Bool.and_eq_true] at h
    exact ⟨dx, dy, dp_mono sg hx, dp_mono sg hy, h.1, h.2, g.here (b := V.bl _) sg (.bl _)⟩
  · exact g.elim
theorem od_ne : OD K ca (rNeD K) dNe := fun E x y G H Q dx dy sg hx hy g => by
  unfold dNe at g
  split at g
  · rename_i h
    rw [Bool.and_eq_true] at h
    exact ⟨dx, dy, dp_mono sg hx, dp_mono sg hy, h.1, h.2, g.here (b := V.bl _) sg (.bl _)⟩
  · exact g.elim
def xCh (g g' : D → D → R D) (fa fb fc : FE) : FE := fun ρ => (fa ρ).bind fun a => (fb ρ).bind fun b => (g a b).bind fun z => match z with
  | .bool true => (fc ρ).bind fun c => g' b c
  | .bool false => .ok (.bool false)
  | _ => .bad
theorem ce_chain {r r' : R2} {g g' : D → D → R D} {ta tb tc : TE} {fa fb fc : FE} (ho : OD K ca r g) (ho' : OD K ca r' g') (ha : CE K ca E ta fa) (hb : CE K ca E tb fb) (hc : CE K ca E tc fc) : CE K ca E (tChain r r' ta tb tc) (xCh g g' fa fb fc) := fun σ ρ G H Q sg re gg =>
  ha.bind sg re gg fun a x G1 H1 s1 re1 r1 g1 => hb.bind s1.s re1 g1 fun b y G2 H2 s2 re2 r2 g2 => by
    refine ho (E σ) x y G2 H2 _ a b s2.s (dp_mono s2.g r1) r2 ?_
    cases hz : g a b with
    | ok z =>
      rw [hz, R.bind_ok] at g2
      intro v G3 H3 s3 rz
      cases z with
      | bool k =>
        cases dp_bl rz
        refine ⟨k, rfl, ?_⟩
        cases k with
        | true =>
          rw [if_pos rfl]
          exact hc.bind s3.s (re2.mono s3.g) (Gd.mono g2 s3) fun c w G4 H4 s4 re4 r4 g4 => ho' (E σ) y w G4 H4 Q b c s4.s (dp_mono (s3.g.trans s4.g) r2) r4 g4
        | false =>
          rw [if_neg Bool.false_ne_true]
          exact (Gd.mono g2 s3).here (b := V.bl false) s3.s (.bl false)
      | _ => exact g2.elim
    | exc c => rw [hz] at g2; exact g2
    | bad => rw [hz] at g2; exact g2
/-! ### tests -/
def dTru : D → R Bool
  | .none => .ok false
  | .bool b => .ok b
  | .int i => .ok (i != 0)
  | .str y => if y.length ≤ 100000 then .ok ((y.length : Int) != 0) else .bad
  | .list xs => .ok (!xs.isEmpty)
  | .tuple xs => .ok (!xs.isEmpty)
  | .dict _ => .bad
theorem dps_empty {H : Hp} {vs : List V} {ds : List D} (h : DpAll K H vs ds) : vs.isEmpty = ds.isEmpty := by cases h <;> rfl
theorem tru_of {H : Hp} {v : V} {d : D} {k : Bool} (h : Dp K H v d) (e : dTru d = .ok k) : TruV K v H k := by
  unfold dTru at e
  split at e
  · cases dp_non h; cases e; rfl
  · cases dp_bl h; cases e; rfl
  · cases dp_int h; cases e; rfl
  · cases dp_str h
    split at e
    · rename_i hl; cases e; exact ⟨Nat.le_trans hl (by decide), rfl⟩
    · cases e
  · obtain ⟨a, xs, rfl, sa, ra⟩ := dp_lst h
    cases e; exact .inl ⟨xs, sa, by rw [dps_empty ra]⟩
  · obtain ⟨a, xs, rfl, sa, ra⟩ := dp_tup h
    cases e; exact .inr (.inl ⟨xs, sa, by rw [dps_empty ra]⟩)
  · cases e
def yTru (fa : FE) : FT := fun ρ => (fa ρ).bind dTru
theorem ct_truth {ta : TE} {fa : FE} (ha : CE K ca E ta fa) : CT K ca E (fun σ H Q => ta σ H fun x H' => ∃ k, TruV K x H' k ∧ Q k H') (yTru fa) := fun σ ρ G H Q sg re gg =>
  ha.bind sg re gg fun a x G1 H1 s1 re1 r1 g1 => by
    cases hz : dTru a with
    | ok k => rw [hz] at g1; exact ⟨k, tru_of (dp_mono s1.s r1) hz, g1.here s1.s rfl⟩
    | exc c =>
      exfalso
      unfold dTru at hz
      split at hz <;> first | cases hz | (split at hz <;> cases hz)
    | bad => rw [hz] at g1; exact g1.elim
def dBl : D → R Bool
  | .bool b => .ok b
  | _ => .bad
def yBl (fa : FE) : FT := fun ρ => (fa ρ).bind dBl
theorem ct_test {ta : TE} {fa : FE} (ha : CE K ca E ta fa) : CT K ca E (tTest ta) (yBl fa) := fun σ ρ G H Q sg re gg =>
  ha.bind sg re gg fun a x G1 H1 s1 re1 r1 g1 => by
    unfold dBl at g1
    split at g1
    · cases dp_bl r1; exact ⟨_, rfl, g1.here s1.s rfl⟩
    · exact g1.elim
def yAnd (f g : FT) : FT := fun ρ => (f ρ).bind fun k => if k = true then g ρ else .ok false
def yOr (f g : FT) : FT := fun ρ => (f ρ).bind fun k => if k = true then .ok true else g ρ
def yNot (f : FT) : FT := fun ρ => (f ρ).bind fun k => .ok (!k)
theorem ct_and {t u : TT} {f g : FT} (ht : CT K ca E t f) (hu : CT K ca E u g) : CT K ca E (tAnd t u) (yAnd f g) := fun σ ρ G H Q sg re gg =>
  ht.bind sg re gg fun a x G1 H1 s1 re1 r1 g1 => by
    cases r1
    cases a with
    | true => rw [if_pos rfl] at g1 ⊢; exact hu σ ρ G1 H1 Q s1.s re1 g1
    | false => rw [if_neg Bool.false_ne_true] at g1 ⊢; exact g1.here s1.s rfl
theorem ct_or {t u : TT} {f g : FT} (ht : CT K ca E t f) (hu : CT K ca E u g) : CT K ca E (tOr t u) (yOr f g) := fun σ ρ G H Q sg re gg =>
  ht.bind sg re gg fun a x G1 H1 s1 re1 r1 g1 => by
    cases r1
    cases a with
    | true => rw [if_pos rfl] at g1 ⊢; exact g1.here s1.s rfl
    | false => rw [if_neg Bool.false_ne_true] at g1 ⊢; exact hu σ ρ G1 H1 Q s1.s re1 g1
theorem ct_not {t : TT} {f : FT} (ht : CT K ca E t f) : CT K ca E (tNot t) (yNot f) := fun σ ρ G H Q sg re gg =>
  ht.bind sg re gg fun a x G1 H1 s1 re1 r1 g1 => by cases r1; exact g1.here s1.s rfl
theorem ct_yes : CT K ca E tYes (fun _ => .ok true) := fun σ ρ G H Q sg re gg => gg.here (b := true) sg rfl
/-! ### and, or, not as values; a if t else b -/
def xAnd (fa fb : FE) : FE := fun ρ => (fa ρ).bind fun a => (dTru a).bind fun k => if k = true then fb ρ else .ok a
def xOr (fa fb : FE) : FE := fun ρ => (fa ρ).bind fun a => (dTru a).bind fun k => if k = true then .ok a else fb ρ
def xNot (fa : FE) : FE := fun ρ => (fa ρ).bind fun a => (dTru a).bind fun k => .ok (.bool (!k))
def xIf (f : FT) (fa fb : FE) : FE := fun ρ => (f ρ).bind fun k => if k = true then fa ρ else fb ρ
theorem tru_not_exc {d : D} {c : String} (h : dTru d = .exc c) : False := by
  unfold dTru at h
  split at h <;> first | cases h | (split at h <;> cases h)
theorem ce_and {ta tb : TE} {fa fb : FE} (ha : CE K ca E ta fa) (hb : CE K ca E tb fb) : CE K ca E (tAndT K ta tb) (xAnd fa fb) := fun σ ρ G H Q sg re gg =>
  ha.bind sg re gg fun a x G1 H1 s1 re1 r1 g1 => by
    cases hz : dTru a with
    | ok k =>
      rw [hz, R.bind_ok] at g1
      refine ⟨k, tru_of (dp_mono s1.s r1) hz, ?_⟩
      cases k with
      | true => rw [if_pos rfl] at g1 ⊢; exact hb σ ρ G1 H1 Q s1.s re1 g1
      | false => rw [if_neg Bool.false_ne_true] at g1 ⊢; exact g1.here s1.s r1
    | exc c => exact (tru_not_exc hz).elim
    | bad => rw [hz] at g1; exact g1.elim
theorem ce_or {ta tb : TE} {fa fb : FE} (ha : CE K ca E ta fa) (hb : CE K ca E tb fb) : CE K ca E (tOrT K ta tb) (xOr fa fb) := fun σ ρ G H Q sg re gg =>
  ha.bind sg re gg fun a x G1 H1 s1 re1 r1 g1 => by
    cases hz : dTru a with
    | ok k =>
      rw [hz, R.bind_ok] at g1
      refine ⟨k, tru_of (dp_mono s1.s r1) hz, ?_⟩
      cases k with
      | true => rw [if_pos rfl] at g1 ⊢; exact g1.here s1.s r1
      | false => rw [if_neg Bool.false_ne_true] at g1 ⊢; exact hb σ ρ G1 H1 Q s1.s re1 g1
    | exc c => exact (tru_not_exc hz).elim
    | bad => rw [hz] at g1; exact g1.elim
theorem ce_not {ta : TE} {fa : FE} (ha : CE K ca E ta fa) : CE K ca E (tNotT K ta) (xNot fa) := fun σ ρ G H Q sg re gg =>
  ha.bind sg re gg fun a x G1 H1 s1 re1 r1 g1 => by
    cases hz : dTru a with
    | ok k =>
      rw [hz, R.bind_ok] at g1
      exact ⟨k, tru_of (dp_mono s1.s r1) hz, g1.here (b := V.bl _) s1.s (.bl _)⟩
    | exc c => exact (tru_not_exc hz).elim
    | bad => rw [hz] at g1; exact g1.elim
theorem ce_if {t : TT} {f : FT} {ta tb : TE} {fa fb : FE} (ht : CT K ca E t f) (ha : CE K ca E ta fa) (hb : CE K ca E tb fb) : CE K ca E (tIf t ta tb) (xIf f fa fb) := fun σ ρ G H Q sg re gg =>
  ht.bind sg re gg fun a x G1 H1 s1 re1 r1 g1 => by
    cases r1
    cases a with
    | true => rw [if_pos rfl] at g1 ⊢; exact ha σ ρ G1 H1 Q s1.s re1 g1
    | false => rw [if_neg Bool.false_ne_true] at g1 ⊢; exact hb σ ρ G1 H1 Q s1.s re1 g1
/-! ### subscripts -/
def dIx : D → D → R D
  | .list xs, .int i => match atI xs i with
    | some d => .ok d
    | none => .bad
  | .tuple xs, .int i => match atI xs i with
    | some d => .ok d
    | none => .bad
  | _, _ => .bad
theorem dps_at {H : Hp} {vs : List V} {ds : List D} {i : Int} {d : D} (h : DpAll K H vs ds) (e : atI ds i = some d) : ∃ v, atI vs i = some v ∧ Dp K H v d := by
  unfold atI at e ⊢
  rw [dps_len h]
  cases hj : ixN ds.length i with
  | none => rw [hj] at e; cases e
  | some j => rw [hj] at e; exact dps_get h e
def rIxA (K : PySem.W.Frag) : R2 := fun x y H Q => rIxL K x y H Q ∨ rIxT K x y H Q
theorem ix_A {X : Cx} : IxR X (rIxA X.K) := ix_list.or ix_tup
theorem od_ix : OD K ca (rIxA K) dIx := fun E x y G H Q dx dy sg hx hy g => by
  unfold dIx at g
  split at g
  · split at g
    · rename_i h
      obtain ⟨a, xs, rfl, sa, ra⟩ := dp_lst hx
      cases dp_int hy
      obtain ⟨v, hv, hd⟩ := dps_at ra h
      exact .inl ⟨a, xs, _, v, rfl, rfl, sg.seq sa, hv, g.here sg hd⟩
    · exact g.elim
  · split at g
    · rename_i h
      obtain ⟨a, xs, rfl, sa, ra⟩ := dp_tup hx
      cases dp_int hy
      obtain ⟨v, hv, hd⟩ := dps_at ra h
      exact .inr ⟨a, xs, _, v, rfl, rfl, sqT_mono sg sa, hv, g.here sg hd⟩
    · exact g.elim
  · exact g.elim
/-! ### slices -/
abbrev rOI : Hp → Option Int → Option Int → Prop := fun _ a b => a = b
abbrev FO := En → R (Option Int)
abbrev CO (K : PySem.W.Frag) (ca : String → Addr) (E : L2.St → XK) (t : TO) (f : FO) : Prop := CG K ca E rOI t f
def oN : FO := fun _ => .ok none
def dOI : D → R (Option Int)
  | .int i => .ok (some i)
  | _ => .bad
def oS (f : FE) : FO := fun ρ => (f ρ).bind dOI
theorem co_none : CO K ca E tNoPart oN := fun σ ρ G H Q sg re gg => gg.here (b := none) sg rfl
theorem co_some {t : TE} {f : FE} (h : CE K ca E t f) : CO K ca E (tPart t) (oS f) := fun σ ρ G H Q sg re gg =>
  h.bind sg re gg fun a x G1 H1 s1 re1 r1 g1 => by
    unfold dOI at g1
    split at g1
    · cases dp_int r1; exact ⟨_, rfl, g1.here s1.s rfl⟩
    · exact g1.elim
def cutD {α : Type} (xs : List α) (lo hi : Option Int) : List α := (xs.drop (HT.sIx xs.length 0 lo)).take (HT.sIx xs.length xs.length hi - HT.sIx xs.length 0 lo)
theorem cut_whole {α : Type} {xs : List α} {lo hi : Option Int} (h1 : HT.sIx xs.length 0 lo = 0) (h2 : HT.sIx xs.length xs.length hi = xs.length) : cutD xs lo hi = xs := by
  unfold cutD
  rw [h1, h2]
  simp
theorem dps_cut {H : Hp} {vs : List V} {ds : List D} (h : DpAll K H vs ds) (lo hi : Option Int) : DpAll K H (cutV vs lo hi) (cutD ds lo hi) := by
  unfold cutV cutD
  rw [dps_len h]
  exact dps_take _ (dps_drop _ h)
def dSl : D → Option Int → Option Int → R D
  | .tuple xs, lo, hi => .ok (.tuple (cutD xs lo hi))
  | .list xs, lo, hi => .ok (.list (cutD xs lo hi))
  | .str z, lo, hi => if z.length ≤ 100000 then .ok (.str (cutS z lo hi)) else .bad
  | _, _, _ => .bad
def rSlW (K : PySem.W.Frag) : V → Option Int → Option Int → Hp → VK → Prop := fun x lo hi H Q => rSlA K x lo hi H Q ∨ (rSlL K x lo hi H Q ∨ rSlS x lo hi H Q)
theorem sl_W {X : Cx} : SlR X (rSlW X.K) := sl_tupA.or (sl_list.or sl_str)
def xSl (f : FE) (fl fh : FO) : FE := fun ρ => (f ρ).bind fun d => (fl ρ).bind fun lo => (fh ρ).bind fun hi => dSl d lo hi
theorem ce_slice {te : TE} {tl th : TO} {f : FE} {fl fh : FO} (h : CE K ca E te f) (hl : CO K ca E tl fl) (hh : CO K ca E th fh) : CE K ca E (tSl (rSlW K) te tl th) (xSl f fl fh) := fun σ ρ G H Q sg re gg =>
  h.bind sg re gg fun a x G1 H1 s1 re1 r1 g1 => hl.bind s1.s re1 g1 fun lo l G2 H2 s2 re2 r2 g2 => hh.bind s2.s re2 g2 fun hi u G3 H3 s3 re3 r3 g3 => by
    cases r2; cases r3
    have r1' := dp_mono (s2.g.trans s3.g) r1
    have sg3 := s3.s
    unfold dSl at g3
    split at g3
    · obtain ⟨a, xs, rfl, sa, ra⟩ := dp_tup r1'
      refine .inl ⟨a, xs, rfl, sqT_mono sg3 sa, fun e => ?_, fun _ => g3.newT sg3 (dps_cut ra _ _)⟩
      rw [dps_len ra] at e
      rw [cut_whole e.1 e.2] at g3
      exact g3.here (b := .ref a) sg3 (.tup sa ra)
    · obtain ⟨a, xs, rfl, sa, ra⟩ := dp_lst r1'
      exact .inr (.inl ⟨a, xs, rfl, sg3.seq sa, g3.newL sg3 (dps_cut ra _ _)⟩)
    · cases dp_str r1'
      split at g3
      · rename_i hz
        exact .inr (.inr ⟨_, rfl, Nat.le_trans hz (by decide), g3.here (b := V.str _) sg3 (.str _)⟩)
      · exact g3.elim
    · exact g3.elim
/-! ### argument lists, displays -/
def aN : FA := fun _ => .ok []
def aC (f : FE) (g : FA) : FA := fun ρ => (f ρ).bind fun a => (g ρ).bind fun r => .ok (a :: r)
theorem ca_nil : CA K ca E tNil aN := fun σ ρ G H Q sg re gg => gg.here (b := []) sg .nil
theorem ca_cons {te : TE} {t : TA} {f : FE} {g : FA} (h : CE K ca E te f) (hr : CA K ca E t g) : CA K ca E (tCons te t) (aC f g) := fun σ ρ G H Q sg re gg =>
  h.bind sg re gg fun a x G1 H1 s1 re1 r1 g1 => hr.bind s1.s re1 g1 fun b xs G2 H2 s2 re2 r2 g2 => g2.here s2.s (.cons (dp_mono s2.g r1) r2)
def dTup (ds : List D) : R D := if ds.length ≤ 1000 then .ok (.tuple ds) else .bad
def dLst (ds : List D) : R D := if ds.length ≤ 1000 then .ok (.list ds) else .bad
def xA (g : List D → R D) (f : FA) : FE := fun ρ => (f ρ).bind g
theorem ce_tup {t : TA} {f : FA} (h : CA K ca E t f) : CE K ca E (tTup t) (xA dTup f) := fun σ ρ G H Q sg re gg =>
  h.bind sg re gg fun ds xs G1 H1 s1 re1 r1 g1 => by
    unfold dTup at g1
    split at g1
    · rename_i hl
      exact ⟨by rw [dps_len r1]; exact sz1000 hl, g1.newT s1.s r1⟩
    · exact g1.elim
theorem ce_lst {t : TA} {f : FA} (h : CA K ca E t f) : CE K ca E (tLst t) (xA dLst f) := fun σ ρ G H Q sg re gg =>
  h.bind sg re gg fun ds xs G1 H1 s1 re1 r1 g1 => by
    unfold dLst at g1
    split at g1
    · rename_i hl
      exact ⟨by rw [dps_len r1]; exact sz1000 hl, g1.newL s1.s r1⟩
    · exact g1.elim
/-! ### built-in calls -/
def BD (K : PySem.W.Frag) (ca : String → Addr) (r : List V → Hp → VK → Prop) (g : List D → R D) : Prop := ∀ (E : XK) (vs : List V) (G H : Hp) (Q : VK) (ds : List D), Same G H → DpAll K G vs ds → Gd ca E (rD K) G H Q (g ds) → r vs H Q
theorem ce_cb {r : List V → Hp → VK → Prop} {g : List D → R D} {t : TA} {f : FA} (hr : BD K ca r g) (h : CA K ca E t f) : CE K ca E (tCB r t) (xA g f) := fun σ ρ G H Q sg re gg =>
  h.bind sg re gg fun ds xs G1 H1 s1 re1 r1 g1 => hr _ xs G1 H1 Q ds s1.s r1 g1
theorem dps1 {H : Hp} {vs : List V} {d : D} (h : DpAll K H vs [d]) : ∃ v, vs = [v] ∧ Dp K H v d := by
  cases h with
  | cons h r => cases r; exact ⟨_, rfl, h⟩
theorem dps2 {H : Hp} {vs : List V} {d e : D} (h : DpAll K H vs [d, e]) : ∃ v w, vs = [v, w] ∧ Dp K H v d ∧ Dp K H w e := by
  cases h with
  | cons h r =>
    obtain ⟨w, rfl, hw⟩ := dps1 r
    exact ⟨_, w, rfl, h, hw⟩
def dLen : List D → R D
  | [.list xs] => .ok (.int xs.length)
  | [.tuple xs] => .ok (.int xs.length)
  | [.str z] => if z.length ≤ 100000 then .ok (.int z.length) else .bad
  | _ => .bad
def rLenA (K : PySem.W.Frag) : List V → Hp → VK → Prop := fun xs H Q => (∃ p ys, xs = [.ref p] ∧ (SqL K H p ys ∨ SqT K H p ys) ∧ Q (.int ys.length) H) ∨ ∃ z, xs = [.str z] ∧ z.length ≤ sizeLine ∧ Q (.int z.length) H
theorem call_lenA {X : Cx} : CallR X (.builtin "len") (rLenA X.K) := call_len_seq.or call_len_str
theorem bd_len : BD K ca (rLenA K) dLen := fun E vs G H Q ds sg h g => by
  unfold dLen at g
  split at g
  · obtain ⟨v, rfl, hv⟩ := dps1 h
    obtain ⟨a, xs, rfl, sa, ra⟩ := dp_lst hv
    exact .inl ⟨a, xs, rfl, .inl (sg.seq sa), by rw [dps_len ra]; exact g.here (b := V.int _) sg (.int _)⟩
  · obtain ⟨v, rfl, hv⟩ := dps1 h
    obtain ⟨a, xs, rfl, sa, ra⟩ := dp_tup hv
    exact .inl ⟨a, xs, rfl, .inr (sqT_mono sg sa), by rw [dps_len ra]; exact g.here (b := V.int _) sg (.int _)⟩
  · obtain ⟨v, rfl, hv⟩ := dps1 h
    cases dp_str hv
    split at g
    · rename_i hl
      exact .inr ⟨_, rfl, Nat.le_trans hl (by decide), g.here (b := V.int _) sg (.int _)⟩
    · exact g.elim
  · exact g.elim
def dAbs : List D → R D
  | [.int i] => .ok (.int (if i < 0 then -i else i))
  | _ => .bad
theorem bd_abs : BD K ca (fun xs H Q => ∃ i, xs = [.int i] ∧ Q (.int (if i < 0 then -i else i)) H) dAbs := fun E vs G H Q ds sg h g => by
  unfold dAbs at g
  split at g
  · obtain ⟨v, rfl, hv⟩ := dps1 h
    cases dp_int hv
    exact ⟨_, rfl, g.here (b := V.int _) sg (.int _)⟩
  · exact g.elim
def dMax : List D → R D
  | [.int i, .int j] => .ok (.int (if j > i then j else i))
  | _ => .bad
theorem bd_max : BD K ca (fun xs H Q => ∃ i j, xs = [.int i, .int j] ∧ Q (.int (if j > i then j else i)) H) dMax := fun E vs G H Q ds sg h g => by
  unfold dMax at g
  split at g
  · obtain ⟨v, w, rfl, hv, hw⟩ := dps2 h
    cases dp_int hv; cases dp_int hw
    exact ⟨_, _, rfl, g.here (b := V.int _) sg (.int _)⟩
  · exact g.elim
def dTupOf : List D → R D
  | [.list xs] => .ok (.tuple xs)
  | [.tuple xs] => .ok (.tuple xs)
  | _ => .bad
theorem bd_tup : BD K ca (fun xs H Q => ∃ p ys, xs = [.ref p] ∧ ((SqL K H p ys ∧ ∀ l, H l = none → Q (.ref l) (upd H l (.tup ys))) ∨ (SqT K H p ys ∧ Q (.ref p) H))) dTupOf := fun E vs G H Q ds sg h g => by
  unfold dTupOf at g
  split at g
  · obtain ⟨v, rfl, hv⟩ := dps1 h
    obtain ⟨a, xs, rfl, sa, ra⟩ := dp_lst hv
    exact ⟨a, xs, rfl, .inl ⟨sg.seq sa, g.newT sg ra⟩⟩
  · obtain ⟨v, rfl, hv⟩ := dps1 h
    obtain ⟨a, xs, rfl, sa, ra⟩ := dp_tup hv
    exact ⟨a, xs, rfl, .inr ⟨sqT_mono sg sa, g.here (b := .ref a) sg (.tup sa ra)⟩⟩
  · exact g.elim
def dLstOf : List D → R D
  | [.list xs] => .ok (.list xs)
  | [.tuple xs] => .ok (.list xs)
  | _ => .bad
theorem bd_lst : BD K ca (fun xs H Q => ∃ p ys, xs = [.ref p] ∧ (SqL K H p ys ∨ SqT K H p ys) ∧ ∀ l, H l = none → Q (.ref l) (upd H l (.lst ys))) dLstOf := fun E vs G H Q ds sg h g => by
  unfold dLstOf at g
  split at g
  · obtain ⟨v, rfl, hv⟩ := dps1 h
    obtain ⟨a, xs, rfl, sa, ra⟩ := dp_lst hv
    exact ⟨a, xs, rfl, .inl (sg.seq sa), g.newL sg ra⟩
  · obtain ⟨v, rfl, hv⟩ := dps1 h
    obtain ⟨a, xs, rfl, sa, ra⟩ := dp_tup hv
    exact ⟨a, xs, rfl, .inr (sqT_mono sg sa), g.newL sg ra⟩
  · exact g.elim
/-! ### isinstance -/
def tyN : D → String
  | .none => "NoneType"
  | .bool _ => "bool"
  | .int _ => "int"
  | .str _ => "str"
  | .list _ => "list"
  | .tuple _ => "tuple"
  | .dict _ => "dict"
theorem ty_of {H : Hp} {v : V} {d : D} (h : Dp K H v d) : TyX K H v (.type (tyN d)) := by
  cases h with
  | non => exact .base .non
  | bl b => exact .base (.bl b)
  | int i => exact .base (.int i)
  | str x => exact .base (.str x)
  | lst h r =>
    rcases h with (h | ⟨o, h⟩) | ⟨o, its, n, h, c, _⟩
    · exact .base (.lst h)
    · exact .base (.frz h)
    · exact .kList h c
  | tup h r =>
    rcases h with (h | ⟨o, h⟩) | ⟨o, its, n, h, c, _⟩
    · exact .base (.tup h)
    · exact .fTuple h
    · exact .kTuple h c
def dIsi (T : String) (d : D) : R D := match kitB (tyN d) T with
  | some b => .ok (.bool b)
  | none => .bad
theorem ce_isi {T : String} {ta : TE} {fa : FE} (ha : CE K ca E ta fa) : CE K ca E (tCB (rIsi K) (tCons ta (tCons (tC (.ty T)) tNil))) (x1 (dIsi T) fa) := fun σ ρ G H Q sg re gg =>
  ha.bind sg re gg fun a x G1 H1 s1 re1 r1 g1 => by
    unfold dIsi at g1
    split at g1
    · rename_i b hb
      exact ⟨x, .ty T, _, _, b, rfl, .ty T, ty_of (dp_mono s1.s r1), kit_ty hb, g1.here (b := V.bl _) s1.s (.bl _)⟩
    · exact g1.elim
end
end HL
end
section
set_option Elab.async false
set_option linter.all false
set_option maxRecDepth 100000
set_option maxHeartbeats 4000000
namespace HL
open PySem PySem.Spec PyProof.Rows L2
/-! ### t[::-1] of a tuple -/
section
variable {prog : Program} {w : World} {A : Around} {E : Value → Shared → Prop} {s : Shared}
theorem adj_back (n : Nat) : Builtin.Slice.sliceAdjust none none (-1) (n : Int) = ((n : Int) - 1, -1) := by
  unfold Builtin.Slice.sliceAdjust
  simp
theorem places_back (n : Nat) : Builtin.Slice.slicePlaces ((n : Int) - 1) (-1) (-1) = n := by
  unfold Builtin.Slice.slicePlaces
  by_cases h : (n : Int) - 1 > -1
  · simp only [h, if_pos]
    simp
  · have : n = 0 := by omega
    subst this; simp
theorem pick_back (xs : Array Value) : ((List.range xs.size).filterMap fun (m : Nat) => xs[(((xs.size : Nat) : Int) - 1 + (m : Int) * (-1)).toNat]?).toArray = xs.toList.reverse.toArray := by
  congr 1
  have hs : ∀ l : List Nat, (∀ m ∈ l, m < xs.size) → l.filterMap (fun (m : Nat) => xs[(((xs.size : Nat) : Int) - 1 + (m : Int) * (-1)).toNat]?) = l.map (fun m => xs.toList.reverse.getD m .none) := by
    intro l
    induction l with
    | nil => intro _; rfl
    | cons m r ih =>
      intro hm
      have h0 : m < xs.size := hm m List.mem_cons_self
      have e : (((xs.size : Nat) : Int) - 1 + (m : Int) * (-1)).toNat = xs.size - 1 - m := by omega
      have h1 : xs.size - 1 - m < xs.size := by omega
      rw [List.filterMap_cons, e, Array.getElem?_eq_getElem h1, List.map_cons, ih fun z hz => hm z (List.mem_cons_of_mem _ hz)]
      simp [List.getD, List.getElem?_reverse, h0, h1]
  rw [hs _ fun m hm => by simpa using hm]
  apply List.ext_getElem?
  intro i
  by_cases hi : i < xs.size
  · simp [hi, List.getD]
  · simp [hi]
theorem getItem_tuple_back {t sl : Addr} {items : Array Value} {vl vu vs : Value} {Q : Value → Shared → Prop} (ht : IsTup s.heap t items) (hs : s.heap.IsSliceOf sl vl vu vs) (pl : IsPart vl none) (pu : IsPart vu none) (ps : IsPart vs (some (-1)))
    (h : Q (.ref s.heap.objs.size) { s with heap := s.heap.push { cls := .type "tuple", data := .seq items.toList.reverse.toArray } })
    (hsz : items.size ≤ sizeLine) : wpAny (model prog w) A (getItem (.ref t) (.ref sl)) Q E s := by
  have hok : sizeOk (.seq items.toList.reverse.toArray) := by
    show items.toList.reverse.toArray.size ≤ sizeLine
    simpa using hsz
  obtain ⟨os, hos, hcs, hds⟩ := id hs
  have hTs : s.TypeIs (.ref sl) "slice" := ⟨os, hos, hcs⟩
  have sA0 : ∀ {A' : Around} {E' : Value → Shared → Prop} {Q : Int × Int × Nat → Shared → Prop}, Q ((items.size : Int) - 1, -1, items.size) s → wpAny (model prog w) A' (Builtin.Slice.sliceApplied (.ref sl) (pure (items.size : Int))) Q E' s := fun {A' E' Q} q => by
    unfold Builtin.Slice.sliceApplied Builtin.Slice.sliceFields
    refine wpAny_bind (wpAny_bind (wpAny_field hos hds (x := vl) rfl (wpAny_bind (wpAny_field hos hds (x := vu) rfl (wpAny_bind (wpAny_field hos hds (x := vs) rfl (wpAny_pure ?_)))))))
    refine wpAny_bind (HT.slicePart_ ps ?_)
    show wpAny _ _ (if ((-1 : Int) == 0) = true then _ else _) _ _ s
    rw [if_neg (by decide)]
    refine wpAny_bind (HT.slicePart_ pl (wpAny_bind (HT.slicePart_ pu (wpAny_bind (wpAny_pure ?_)))))
    show wpAny _ _ (match Builtin.Slice.sliceAdjust none none (-1) (items.size : Int) with | (lo, hi) => pure (lo, (-1 : Int), Builtin.Slice.slicePlaces lo hi (-1))) _ _ s
    rw [adj_back]
    show wpAny _ _ (pure ((items.size : Int) - 1, (-1 : Int), Builtin.Slice.slicePlaces ((items.size : Int) - 1) (-1) (-1))) _ _ s
    rw [places_back]
    exact wpAny_pure q
  unfold getItem
  try with_reducible refine wpAny_holding ?_
  first | refine wpAny_bind (wpAny_pure ?_) | skip
  refine wpAny_bind (wpAny_sequenceKey ht.typeIs (by decide) ?_)
  refine wpAny_bind (wpAny_callSpecial?_slot (name := Str.ofString "__getitem__") ht.typeIs PyProof.Rows.slot_tuple_getitem
    (wpAny_call_entry PyProof.Rows.slot_tuple_getitem ht.typeIs entry_tuple_getitem ?_ (args_tuple_getitem _ _)))
  show wpAny _ _ (Builtin.Tuple.tupleItemsOf (.ref t) >>= _) _ _ s
  refine wpAny_bind (tupleItemsOf_ ht ?_)
  refine wpAny_bind (wpAny_typeOf hTs ?_)
  rw [if_pos (by decide)]
  refine wpAny_bind (sA0 ?_)
  have hno : ¬ ((((items.size : Nat) : Int) - 1 == 0 && (-1 : Int) == 1 && items.size == items.size) = true) := by
    intro q
    rw [Bool.and_eq_true, Bool.and_eq_true] at q
    exact absurd q.1.2 (by decide)
  show wpAny _ _ (if (((items.size : Nat) : Int) - 1 == 0 && (-1 : Int) == 1 && items.size == items.size) = true then _ else _) _ _ s
  rw [if_neg hno, pick_back]
  first
    | exact wpAny_bind (m := Builtin.Tuple.tupleExact _) (wpAny_newObj_type (wpAny_pure ⟨_, rfl, wpAny_pure h⟩) hok)
    | exact wpAny_bind (wpAny_bind (m := Builtin.Tuple.tupleExact _) (wpAny_newObj_type (wpAny_pure ⟨_, rfl, wpAny_pure h⟩) hok))
    | exact wpAny_bind (wpAny_bind (m := Builtin.Tuple.tupleExact _) (wpAny_newObj_type (wpAny_pure (wpAny_pure ⟨_, rfl, wpAny_pure h⟩)) hok))
end
def tRevA (K : PySem.W.Frag) (te : TE) : TE := fun σ H Q => te σ H fun x H1 => ∃ a xs, x = .ref a ∧ ((SqT K H1 a xs ∧ ∀ p, H1 p = none → Q (.ref p) (upd H1 p (.tup xs.reverse))) ∨ (SqL K H1 a xs ∧ ∀ p, H1 p = none → Q (.ref p) (upd H1 p (.lst xs.reverse))))
theorem pe_revA {X : Cx} {e : Expr} {te : TE} {k : Nat} {p1 p2 p3 pos : Pos} (he : PE X e te) : PE X (.Subscript e (.Slice none none (some (.UnaryOp .USub (.Constant (.int 1) k p1) p2)) p3) pos) (tRevA X.K te) := by
  refine ⟨fun pins s σ H Q I h => ?_⟩
  refine Subscript_ (thn (he.run pins s σ H _ I h) fun v s1 ⟨x, H1, I1, r1, q1⟩ => ?_)
  obtain ⟨a, xs, ex, q1⟩ := q1
  subst ex
  cases r1
  have hst : PO X (some (.UnaryOp .USub (.Constant (.int 1) k p1) p2)) (tPart (tUn (rU fun i => .int (-i)) (tC (.int 1)))) := po_some (pe_un un_neg pe_int)
  refine wpAny_Slice (thn (po_none.run pins s1 σ H1 (fun o H2 => o = none ∧ H2 = H1) I1 ⟨rfl, rfl⟩) fun vl s2 ⟨l, H2, I2, pl, el, e2⟩ => ?_)
  subst el e2
  refine thn (po_none.run pins s2 σ H2 (fun o H3 => o = none ∧ H3 = H2) I2 ⟨rfl, rfl⟩) fun vu s3 ⟨u, H3, I3, pu, eu, e3⟩ => ?_
  subst eu e3
  refine thn (hst.run pins s3 σ H3 (fun o H4 => o = some (-1) ∧ H4 = H3) I3 ⟨1, rfl, -1, rfl, rfl, rfl⟩) fun vs s4 ⟨o, H4, I4, ps, eo, e4⟩ => ?_
  subst eo e4
  have I5 : Inv X pins σ H4 { s4 with heap := s4.heap.push { cls := .type "slice", data := .fields #[vl, vu, vs] } } := I4.kept (t' := s4.toks) fun b ob q => Heap.get?_push_of_some _ q
  show wpAny (model X.prog X.w) X.A (subscriptTail e (.Slice none none (some (.UnaryOp .USub (.Constant (.int 1) k p1) p2)) p3) (.ref a) (.ref s4.heap.objs.size)) (EP X pins σ Q) X.xe { s4 with heap := s4.heap.push { cls := .type "slice", data := .fields #[vl, vu, vs] } }
  rcases q1 with ⟨hx, q⟩ | ⟨hx, q⟩
  · obtain ⟨its, r, ht, hz⟩ := I5.tuple hx
    have hlen := r.length
    refine tail_any (ops := [.ref a, .ref s4.heap.objs.size]) ht.typeIs (PyProof.Rows.slot_tuple_getitem.lookup) ?_ (by with_unfolding_all rfl)
    refine getItem_tuple_back ht (Heap.IsSliceOf.new _ vl vu vs) pl pu ps ?_ (by rw [List.size_toArray]; omega)
    refine ⟨.ref _, _, I5.laid (t' := s4.toks) (o := .tup xs.reverse) (fun b ob q => Heap.get?_push_of_some _ q) (Nat.le_refl _) ?_, rfl, q _ (I5.hok.fresh (Nat.le_refl _))⟩
    exact ⟨by rw [List.length_reverse]; exact hz, _, r.reverse, ⟨_, Heap.get?_push_size _ rfl, rfl, _, rfl⟩⟩
  · obtain ⟨its, r, ht, hz⟩ := I5.list hx
    have hlen := r.length
    refine tail_any (ops := [.ref a, .ref s4.heap.objs.size]) ht.isList.typeIs (PySem.slot_list_getitem.lookup) ?_ (by with_unfolding_all rfl)
    refine wpAny_getItem_list_slice ht.isList (Heap.IsSliceOf.new _ vl vu vs) pl pu ps (by decide) ?_ (by rw [List.size_toArray]; omega)
    rw [PySem.W.krv_pick]
    refine ⟨.ref _, _, I5.laid (t' := s4.toks) (o := .lst xs.reverse) (fun b ob q => Heap.get?_push_of_some _ q) (Nat.le_refl _) ?_, rfl, q _ (I5.hok.fresh (Nat.le_refl _))⟩
    exact ⟨by rw [List.length_reverse]; exact hz, _, 0, r.reverse, Heap.get?_push_size _ rfl⟩

/-! ### a list or a tuple walked -/
section
variable {X : Cx} {tg : Expr}
def iSeqA (K : PySem.W.Frag) (tl : TE) : TI := fun σ H R => tl σ H fun x H1 => ∃ a, x = .ref a ∧ (((∃ xs, SqL K H1 a xs) ∧ R (Itl K a) H1) ∨ ((∃ xs, SqT K H1 a xs) ∧ R (Itt K a) H1))
theorem fp_one {pins : List (Addr × Obj)} {σ : L2.St} {H : Hp} {s : Shared} (I : Inv X pins σ H s) : ∀ b ∈ [s.heap.objs.size], FpOk X pins H b := fun b hb => by
  have e : b = s.heap.objs.size := by simpa using hb
  subst e
  exact I.fpOk (Nat.le_refl _) (I.hok.fresh (Nat.le_refl _))
theorem pi_seqA {l : Expr} {tl : TE} (hl : PE X l tl) : PI X tg l (iSeqA X.K tl) := by
  refine ⟨fun pins s σ H R I h => ?_⟩
  refine thn (hl.run pins s σ H _ I h) fun v s1 hv => ?_
  obtain ⟨x, H1, I1, r1, a, e, q⟩ := hv
  subst e
  cases r1
  rcases q with ⟨⟨xs, hq⟩, q⟩ | ⟨⟨xs, hq⟩, q⟩
  · obtain ⟨its, rv, p, hz⟩ := I1.list hq
    refine wpAny_pyIter_list p.isList ?_
    exact ⟨s1.heap.objs.size, [s1.heap.objs.size], _, _, H1, rfl, I1.kept (t' := s1.toks) fun b o e => Heap.get?_push_of_some _ e, turn_list a _, ⟨_, Heap.get?_push_size _ rfl, rfl, rfl⟩, fp_one I1, q⟩
  · obtain ⟨its, rv, p, hz⟩ := I1.tuple hq
    refine wpAny_pyIter_tuple (show s1.heap.IsTuple a its.toArray from p) ?_
    exact ⟨s1.heap.objs.size, [s1.heap.objs.size], _, _, H1, rfl, I1.kept (t' := s1.toks) fun b o e => Heap.get?_push_of_some _ e, turn_tuple a _, ⟨_, Heap.get?_push_size _ rfl, rfl, rfl⟩, fp_one I1, q⟩
end
/-! ### enumerate(tuple) -/
set_option maxHeartbeats 4000000 in
theorem meets_enum1 {v : Value} {o : Obj} {H : Heap → Prop} (B : Begins v o H) :
    Meets (Builtin.«enumerate.__new__» ⟨[.type "enumerate", v], []⟩) (fun _ R s => H s.heap ∧
      R (.ok (.ret (.ref (s.heap.push o).objs.size))) { s with heap := (s.heap.push o).push { cls := .type "enumerate", data := .fields #[.none, .bool false, .ref s.heap.objs.size, rawInt 0, .none, .none] } }) :=
  .of_wp fun prog w A R s h => by
    obtain ⟨hp, g, d, tk, os⟩ := s
    obtain ⟨h1, h⟩ := h
    have hsub := sub_enumerate
    have q1 : ∀ {A' : Around} {E : Value → Shared → Prop} {Q : Value → Shared → Prop}, Q (.ref hp.objs.size) ⟨hp.push o, g, d, tk, os⟩ → wpAny (model prog w) A' (pyIter v) Q E ⟨hp, g, d, tk, os⟩ :=
      fun q => B.iter prog w _ _ ⟨hp, g, d, tk, os⟩ _ h1 q
    wp_walk using q1
    refine wpAny_stack_any fun st => wpAny_pure ?_
    split
    · rename_i c _ _ _ _ _
      cases (c == Value.type "enumerate")
      · wp_walk using q1
        exact ⟨_, rfl, h⟩
      · wp_walk using q1
        exact ⟨_, rfl, h⟩
    · wp_walk using q1
      exact ⟨_, rfl, h⟩
theorem call_enumB {prog : Program} {w : World} {A : Around} {E : Value → Shared → Prop} {s : Shared} {v : Value} {o : Obj} {H : Heap → Prop} {Q : Value → Shared → Prop} (B : Begins v o H) (h1 : H s.heap)
    (h : ∀ h', IsEnum h' (s.heap.objs.size + 1) s.heap.objs.size 0 .none → h'.get? s.heap.objs.size = some o → (∀ b o, s.heap.get? b = some o → h'.get? b = some o) → Q (.ref (s.heap.objs.size + 1)) { s with heap := h' }) :
    wpAny (model prog w) A (call (.type "enumerate") [v]) Q E s := by
  refine callType_new F.called_enumerate (by decide) (F.typeCall_enumerate_1 _) (F.newCall_enumerate_1 _) (fun obj => F.args_object_init_2 obj _) F.entry_enumerate_new (meets_enum1 B) ⟨h1, ?_⟩
  have hz : (s.heap.push o).objs.size = s.heap.objs.size + 1 := Heap.size_push ..
  show _ ∧ _
  rw [hz]
  have he : IsEnum ((s.heap.push o).push { cls := .type "enumerate", data := .fields #[.none, .bool false, .ref s.heap.objs.size, rawInt 0, .none, .none] }) (s.heap.objs.size + 1) s.heap.objs.size 0 .none := by
    have := Heap.get?_push_size (s.heap.push o) (o := { cls := .type "enumerate", data := .fields #[.none, .bool false, .ref s.heap.objs.size, rawInt 0, .none, .none] }) rfl
    rw [hz] at this
    exact this
  exact ⟨⟨_, he, rfl⟩, h _ he (Heap.get?_push_of_some _ (Heap.get?_push_size _ B.free)) fun b o x => Heap.get?_push_of_some _ (Heap.get?_push_of_some _ x)⟩
def IteT (K : PySem.W.Frag) (a : Addr) : It :=
  ⟨fun i H => ∃ (xs : List V) (x : V), SqT K H a xs ∧ xs[i]? = some x, fun i H v H' => ∃ T x, v = .ref T ∧ H T = none ∧ H' = upd H T (.tup [.int (i : Nat), x]) ∧ ∀ xs, SqT K H a xs → xs[i]? = some x, fun i H => ∃ xs : List V, SqT K H a xs ∧ xs.length ≤ i⟩
theorem turn_enumT {P : Program} {w : World} {K : PySem.W.Frag} {elts : List Expr} {kk : Nat} {tpos : Pos} (a e it : Addr) (hai : a ≠ it) (hae : a ≠ e) :
    Turn P w K (.Tuple elts kk tpos) (IteT K a) [e, it] e (fun i h => (∃ old, IsEnum h e it ((i : Nat) : Int) old) ∧ h.IsTupleIter it a i ∧ e ≠ it) where
  mem := by simp
  obj := fun i h st b hb => by
    obtain ⟨⟨old, he⟩, ⟨o, ho, hc, hd⟩, _⟩ := st
    have e' : b = e ∨ b = it := by simpa using hb
    rcases e' with z | z
    · rw [z]; exact ⟨_, he, fun v q => nomatch q⟩
    · rw [z]; exact ⟨o, ho, fun v q => by rw [hd] at q; cases q⟩
  keep := fun i h h' st k => let ⟨⟨old, he⟩, hit, hne⟩ := st; ⟨⟨old, k e (by simp) _ he⟩, hit.at fun o q => k it (by simp) o q, hne⟩
  item := by
    intro X hP hw hK hc i pins s σ H E I hf st hg
    subst hP hw hK
    obtain ⟨⟨old, he⟩, hit, hne⟩ := st
    obtain ⟨xs, x, hq, hx⟩ := hg
    obtain ⟨its, rv, p, hz⟩ := I.tuple hq
    obtain ⟨u, hu, ru⟩ := rv.get hx
    have hel : e < s.heap.objs.size := Heap.lt_size he
    have hil : it < s.heap.objs.size := by obtain ⟨_, q, _⟩ := hit; exact Heap.lt_size q
    have hlt : i < its.toArray.size := by
      have := (List.getElem?_eq_some_iff.mp hu).1
      simpa using this
    have Dr := Draws.tuple (prog := X.prog) (w := X.w) (A := X.A.in1) (I.ok.hd hc) it a hai its.toArray
    refine wpAny_pyNext_enum_itemD Dr he ⟨hit, p⟩ hlt hne (by simp; exact ⟨hne, fun z => hae z.symm⟩) fun v h' tk hv ho hst hT hsz hk => ?_
    have ev : v = u := by
      have hu' : its.toArray[i]? = some u := by simpa using hu
      rw [hu'] at hv; exact (Option.some.inj hv).symm
    subst ev
    refine ⟨_, rfl, wpAny_letOwnedTupleGo_enum (s := { s with heap := h', toks := tk + 1 }) ho fun h'' he' sb => ?_⟩
    have hT2 : h''.get? s.heap.objs.size = some { cls := .type "tuple", data := .seq #[.int i tk, v] } := (sb.2 _ (Nat.ne_of_gt hel)).trans hT
    have new : ObjOk X.prog X.w (upd H s.heap.objs.size (.tup [.int (i : Nat), x])) h'' s.heap.objs.size (.tup [.int (i : Nat), x]) :=
      ⟨by show 2 ≤ sizeLine; decide, [.int i tk, v], .cons ⟨_, rfl⟩ (.cons ru .nil), ⟨_, hT2, rfl, _, rfl⟩⟩
    have I1 : Inv X pins σ (upd H s.heap.objs.size (.tup [.int (i : Nat), x])) { s with heap := h'', toks := tk + 1 } :=
      I.turnedNew (ch := [e, it]) (fun b ob hb q => (sb.2 b (fun z => hb (by simp [z]))).trans (hk b ob (fun z => hb (by simp [z])) (fun z => hb (by simp [z])) q)) hf (Nat.le_refl _) new
    refine ⟨.ref s.heap.objs.size, _, I1, rfl, ⟨_, x, rfl, I.hok.fresh (Nat.le_refl _), rfl, fun ys hy => by rw [I.tuple_inj hy hq]; exact hx⟩, ⟨⟨v, ?_⟩, hst.1.at fun o q => (sb.2 it (Ne.symm hne)).trans q, hne⟩, fun b hb => ?_⟩
    · have e1 : ((i + 1 : Nat) : Int) = (i : Int) + 1 := by omega
      rw [e1]; exact he'
    · have hb' : b < s.heap.objs.size := by
        have e' : b = e ∨ b = it := by simpa using hb
        rcases e' with z | z
        · rw [z]; exact hel
        · rw [z]; exact hil
      rw [upd_ne (Nat.ne_of_lt hb')]
      exact (hf b hb).1
  done := by
    intro X hP hw hK hc i pins s σ H E I hf st hg
    subst hP hw hK
    obtain ⟨⟨old, he⟩, hit, hne⟩ := st
    obtain ⟨xs, hq, hx⟩ := hg
    obtain ⟨its, rv, p, hz⟩ := I.tuple hq
    obtain ⟨f0, f1, f2, f3, f4, f5⟩ := hf it (by simp)
    have hl := rv.length
    have Dr : Draws X.prog X.w X.A.in1 it [it, a] 0 (fun _ _ => True) (fun _ h => h.IsTupleIter it a i ∧ h.IsTuple a its.toArray) :=
      { live := fun _ _ st => let ⟨o, ho, _⟩ := st.1; ⟨o, ho⟩
        frame := fun _ _ _ st hk => ⟨st.1.at fun o e => hk it (by simp) o e, st.2.at fun o e => hk a (by simp) o e⟩
        item := fun j _ _ _ hj _ _ => absurd hj (Nat.not_lt_zero j)
        done := fun s Q E st hE => wpAny_nextOf_tuple_end (I.ok.hd hc) st.1 st.2 (by simp; omega) hE }
    exact wpAny_pyNext_enum_endD Dr he ⟨hit, p⟩ fun h' eb => ⟨rfl, I.turned (t' := s.toks) (fun b o hb q => eb b o hb q) f0 f1 f3 f4 f5⟩
  self := fun A i s Q E st h => let ⟨⟨_, he⟩, _⟩ := st; wpAny_pyIter_enum he h
def iEnumA (K : PySem.W.Frag) (ta : TA) : TI := fun σ H R => ta σ H fun vs H1 => ∃ a xs, vs = [.ref a] ∧ ((SqL K H1 a xs ∧ R (Ite K a) H1) ∨ (SqT K H1 a xs ∧ R (IteT K a) H1))
theorem pi_enumA {X : Cx} {e : Expr} {ta : TA} {p pos tpos : Pos} {elts : List Expr} {kk : Nat} (hg : Gl X "enumerate") (hm : X.mg "enumerate" = none) (ha : PA X [e] ta) (hs : starEach [e] X.env = [(false, eval e X.env)] := by rfl) :
    PI X (.Tuple elts kk tpos) (.Call (.Name "enumerate" p) [e] [] pos) (iEnumA X.K ta) := by
  refine ⟨fun pins s σ H R I h => ?_⟩
  refine Call_ (ld_blt I hg hm boot_enumerate (PyProof.Rows.callWith_type1 (thn (ha.run pos pins s σ H _ I h) fun us s1 hu => ?_) hs rfl))
  obtain ⟨vs, H1, I1, r1, a, xs, ex, q⟩ := hu
  subst ex
  cases r1 with
  | cons r rr =>
    cases rr
    cases r
    have two : ∀ b ∈ [s1.heap.objs.size + 1, s1.heap.objs.size], FpOk X pins H1 b := fun b hb => by
      have e' : b = s1.heap.objs.size + 1 ∨ b = s1.heap.objs.size := by simpa using hb
      have hle : s1.heap.objs.size ≤ b := by
        rcases e' with z | z
        · rw [z]; exact Nat.le_add_right _ _
        · rw [z]; exact Nat.le_refl _
      exact I1.fpOk hle (I1.hok.fresh hle)
    rcases q with ⟨hq, q⟩ | ⟨hq, q⟩
    · obtain ⟨its, rv, p', hz⟩ := I1.list hq
      refine call_enumerate_list p'.isList fun h' he hit hsz hk => wpAny_pyIter_enum he ?_
      exact ⟨s1.heap.objs.size + 1, [s1.heap.objs.size + 1, s1.heap.objs.size], _, _, H1, rfl, I1.kept (t' := s1.toks) hk, turn_enum a (s1.heap.objs.size + 1) s1.heap.objs.size, ⟨⟨.none, he⟩, hit, Nat.succ_ne_self _⟩, two, q⟩
    · obtain ⟨its, rv, p', hz⟩ := I1.tuple hq
      have hal : a < s1.heap.objs.size := p'.lt
      refine call_enumB (begins_tuple a its.toArray) (show s1.heap.IsTuple a its.toArray from p') fun h' he hit hk => wpAny_pyIter_enum he ?_
      exact ⟨s1.heap.objs.size + 1, [s1.heap.objs.size + 1, s1.heap.objs.size], _, _, H1, rfl, I1.kept (t' := s1.toks) hk, turn_enumT a (s1.heap.objs.size + 1) s1.heap.objs.size (Nat.ne_of_lt hal) (Nat.ne_of_lt (Nat.lt_succ_of_lt hal)), ⟨⟨.none, he⟩, ⟨_, hit, rfl, rfl⟩, Nat.succ_ne_self _⟩, two, q⟩
end HL
end
section
set_option Elab.async false
set_option linter.all false
set_option maxRecDepth 100000
set_option maxHeartbeats 4000000
namespace HL
open PySem PySem.Spec PyProof.Rows L2
section
variable {K : PySem.W.Frag} {ca : String → Addr} {E : L2.St → XK}
/-! ### calls of the text's own defs -/
def spD (K : PySem.W.Frag) (ca : String → Addr) (n : Nat) (F : List D → R D) : Sp := fun vs H Q E => ∃ (G : Hp) (ds : List D), Same G H ∧ vs.length = n ∧ DpAll K G vs ds ∧ Gd ca E (rD K) G H Q (F ds)
def xCall (n : Nat) (F : List D → R D) (f : FA) : FE := fun ρ => (f ρ).bind fun ds => if ds.length = n then F ds else .bad
theorem ce_call {n : Nat} {F : List D → R D} {t : TA} {f : FA} (h : CA K ca E t f) : CE K ca E (tCallS (spD K ca n F) E t) (xCall n F f) := fun σ ρ G H Q sg re gg =>
  h.bind sg re gg fun ds vs G1 H1 s1 re1 r1 g1 => by
    split at g1
    · rename_i hn
      exact ⟨G1, ds, s1.s, by rw [dps_len r1]; exact hn, r1, g1⟩
    · exact g1.elim
def dRev : D → R D
  | .tuple xs => .ok (.tuple xs.reverse)
  | .list xs => .ok (.list xs.reverse)
  | _ => .bad
theorem ce_rev {te : TE} {f : FE} (h : CE K ca E te f) : CE K ca E (tRevA K te) (x1 dRev f) := fun σ ρ G H Q sg re gg =>
  h.bind sg re gg fun d x G1 H1 s1 re1 r1 g1 => by
    unfold dRev at g1
    split at g1
    · obtain ⟨a, xs, rfl, sa, ra⟩ := dp_tup r1
      exact ⟨a, xs, rfl, .inl ⟨sqT_mono s1.s sa, g1.newT s1.s (dps_rev ra)⟩⟩
    · obtain ⟨a, xs, rfl, sa, ra⟩ := dp_lst r1
      exact ⟨a, xs, rfl, .inr ⟨s1.s.seq sa, g1.newL s1.s (dps_rev ra)⟩⟩
    · exact g1.elim
/-! ### what is walked -/
def YI (K : PySem.W.Frag) (J : It) (G : Hp) (ds : List D) : Prop := ∀ G2 H2, Same G G2 → Same G2 H2 → ∀ i : Nat,
  (∀ d, ds[i]? = some d → J.go i H2 ∧ ∀ x H3, J.yld i H2 x H3 → ∃ G3, Ex4 G2 H2 G3 H3 ∧ Dp K G3 x d) ∧ (ds.length ≤ i → J.stop i H2)
abbrev CI (K : PySem.W.Frag) (ca : String → Addr) (E : L2.St → XK) (wi : TI) (f : FA) : Prop := CG K ca E (fun G J ds => YI K J G ds) wi f
def dItems : D → R (List D)
  | .list ds => .ok ds
  | .tuple ds => .ok ds
  | _ => .bad
def iSeq (f : FE) : FA := fun ρ => (f ρ).bind dItems
theorem yi_list {G : Hp} {a : Addr} {xs : List V} {ds : List D} (sa : SqL K G a xs) (ra : DpAll K G xs ds) : YI K (Itl K a) G ds := fun G2 H2 s1 s2 i => by
  have sa2 : SqL K H2 a xs := (s1.trans s2).seq sa
  refine ⟨fun d hd => ?_, fun hl => ⟨xs, sa2, by rw [dps_len ra]; exact hl⟩⟩
  obtain ⟨v, hv, hdv⟩ := dps_get ra hd
  refine ⟨⟨xs, v, sa2, hv⟩, fun x H3 hy => ?_⟩
  obtain ⟨rfl, hx⟩ := hy
  have e := hx xs sa2
  rw [hv] at e
  cases e
  exact ⟨G2, Ex4.refl s2, dp_mono s1 hdv⟩
theorem yi_tup {G : Hp} {a : Addr} {xs : List V} {ds : List D} (sa : SqT K G a xs) (ra : DpAll K G xs ds) : YI K (Itt K a) G ds := fun G2 H2 s1 s2 i => by
  have sa2 : SqT K H2 a xs := sqT_mono (s1.trans s2) sa
  refine ⟨fun d hd => ?_, fun hl => ⟨xs, sa2, by rw [dps_len ra]; exact hl⟩⟩
  obtain ⟨v, hv, hdv⟩ := dps_get ra hd
  refine ⟨⟨xs, v, sa2, hv⟩, fun x H3 hy => ?_⟩
  obtain ⟨rfl, hx⟩ := hy
  have e := hx xs sa2
  rw [hv] at e
  cases e
  exact ⟨G2, Ex4.refl s2, dp_mono s1 hdv⟩
theorem ci_seq {te : TE} {f : FE} (h : CE K ca E te f) : CI K ca E (iSeqA K te) (iSeq f) := fun σ ρ G H Q sg re gg =>
  h.bind sg re gg fun d x G1 H1 s1 re1 r1 g1 => by
    unfold dItems at g1
    split at g1
    · obtain ⟨a, xs, rfl, sa, ra⟩ := dp_lst r1
      exact ⟨a, rfl, .inl ⟨⟨xs, s1.s.seq sa⟩, g1.here s1.s (yi_list sa ra)⟩⟩
    · obtain ⟨a, xs, rfl, sa, ra⟩ := dp_tup r1
      exact ⟨a, rfl, .inr ⟨⟨xs, sqT_mono s1.s sa⟩, g1.here s1.s (yi_tup sa ra)⟩⟩
    · exact g1.elim
def rngD (lo : Int) (n : Nat) : List D := (List.range n).map fun i : Nat => .int (lo + (i : Int))
theorem yi_rng {G : Hp} {lo : Int} {n : Nat} : YI K (Itr lo n) G (rngD lo n) := fun G2 H2 s1 s2 i => by
  unfold rngD
  refine ⟨fun d hd => ?_, fun hl => by
    have hl' : n ≤ i := by simpa using hl
    exact hl'⟩
  have hi : i < n := by
    have := (List.getElem?_eq_some_iff.mp hd).1
    simpa using this
  refine ⟨hi, fun x H3 hy => ?_⟩
  obtain ⟨rfl, rfl⟩ := hy
  have e : PyData.int (lo + (i : Int)) = d := by
    rw [List.getElem?_map, List.getElem?_range hi] at hd
    exact Option.some.inj hd
  subst e
  exact ⟨G2, Ex4.refl s2, .int _⟩
def dR1 : List D → R (List D)
  | [.int j] => if -(2 ^ 62) ≤ j ∧ j < 2 ^ 62 then .ok (rngD 0 j.toNat) else .bad
  | _ => .bad
def dR2 : List D → R (List D)
  | [.int i, .int j] => if (-(2 ^ 62) ≤ i ∧ i < 2 ^ 62) ∧ (-(2 ^ 62) ≤ j ∧ j < 2 ^ 62) then .ok (rngD i (j - i).toNat) else .bad
  | _ => .bad
def iA (g : List D → R (List D)) (f : FA) : FA := fun ρ => (f ρ).bind g
theorem ci_rng1 {t : TA} {f : FA} (h : CA K ca E t f) : CI K ca E (iRng1 t) (iA dR1 f) := fun σ ρ G H Q sg re gg =>
  h.bind sg re gg fun ds vs G1 H1 s1 re1 r1 g1 => by
    unfold dR1 at g1
    split at g1
    · obtain ⟨v, rfl, hv⟩ := dps1 r1
      cases dp_int hv
      split at g1
      · rename_i hj
        exact ⟨_, rfl, hj.1, hj.2, g1.here s1.s yi_rng⟩
      · exact g1.elim
    · exact g1.elim
theorem ci_rng2 {t : TA} {f : FA} (h : CA K ca E t f) : CI K ca E (iRng2 t) (iA dR2 f) := fun σ ρ G H Q sg re gg =>
  h.bind sg re gg fun ds vs G1 H1 s1 re1 r1 g1 => by
    unfold dR2 at g1
    split at g1
    · obtain ⟨v, u, rfl, hv, hu⟩ := dps2 r1
      cases dp_int hv; cases dp_int hu
      split at g1
      · rename_i hj
        exact ⟨_, _, rfl, ⟨hj.1.1, hj.1.2, hj.2.1, hj.2.2⟩, g1.here s1.s yi_rng⟩
      · exact g1.elim
    · exact g1.elim
def enumF : Nat → List D → List D
  | _, [] => []
  | k, d :: r => .tuple [.int (k : Nat), d] :: enumF (k + 1) r
theorem enumF_get : ∀ (k : Nat) (ds : List D) (i : Nat), (enumF k ds)[i]? = (ds[i]?).map fun d => PyData.tuple [.int ((k + i : Nat) : Int), d]
  | k, [], i => by simp [enumF]
  | k, d :: r, 0 => by simp [enumF]
  | k, d :: r, i + 1 => by
    have h := enumF_get (k + 1) r i
    simp only [enumF, List.getElem?_cons_succ, h]
    have : k + 1 + i = k + (i + 1) := by omega
    rw [this]
theorem enumF_len : ∀ (k : Nat) (ds : List D), (enumF k ds).length = ds.length
  | k, [] => rfl
  | k, d :: r => by simp [enumF, enumF_len (k + 1) r]
theorem dp_pair {G : Hp} {T : Addr} {x y : V} {d e : D} (hG : G T = none) (hx : Dp K G x d) (hy : Dp K G y e) : Dp K (upd G T (.tup [x, y])) (.ref T) (.tuple [d, e]) :=
  .tup (SqT.of upd_same) (.cons (dp_mono (same_upd hG) hx) (.cons (dp_mono (same_upd hG) hy) .nil))
theorem yi_enumL {G : Hp} {a : Addr} {xs : List V} {ds : List D} (sa : SqL K G a xs) (ra : DpAll K G xs ds) : YI K (Ite K a) G (enumF 0 ds) := fun G2 H2 s1 s2 i => by
  have sa2 : SqL K H2 a xs := (s1.trans s2).seq sa
  refine ⟨fun d hd => ?_, fun hl => ⟨xs, sa2, by rw [dps_len ra, ← enumF_len 0 ds]; exact hl⟩⟩
  rw [enumF_get, Option.map_eq_some_iff] at hd
  obtain ⟨e, he, rfl⟩ := hd
  obtain ⟨v, hv, hdv⟩ := dps_get ra he
  refine ⟨⟨xs, v, sa2, hv⟩, fun x H3 hy => ?_⟩
  obtain ⟨T, y, rfl, hT, rfl, hx⟩ := hy
  have e := hx xs sa2
  rw [hv] at e
  cases e
  refine ⟨_, Ex4.new s2 hT, ?_⟩
  have e0 : (((0 + i : Nat)) : Int) = (i : Nat) := by omega
  rw [e0]
  exact dp_pair (s2.free hT) (.int _) (dp_mono s1 hdv)
theorem yi_enumT {G : Hp} {a : Addr} {xs : List V} {ds : List D} (sa : SqT K G a xs) (ra : DpAll K G xs ds) : YI K (IteT K a) G (enumF 0 ds) := fun G2 H2 s1 s2 i => by
  have sa2 : SqT K H2 a xs := sqT_mono (s1.trans s2) sa
  refine ⟨fun d hd => ?_, fun hl => ⟨xs, sa2, by rw [dps_len ra, ← enumF_len 0 ds]; exact hl⟩⟩
  rw [enumF_get, Option.map_eq_some_iff] at hd
  obtain ⟨e, he, rfl⟩ := hd
  obtain ⟨v, hv, hdv⟩ := dps_get ra he
  refine ⟨⟨xs, v, sa2, hv⟩, fun x H3 hy => ?_⟩
  obtain ⟨T, y, rfl, hT, rfl, hx⟩ := hy
  have e := hx xs sa2
  rw [hv] at e
  cases e
  refine ⟨_, Ex4.new s2 hT, ?_⟩
  have e0 : (((0 + i : Nat)) : Int) = (i : Nat) := by omega
  rw [e0]
  exact dp_pair (s2.free hT) (.int _) (dp_mono s1 hdv)
def dEnum : List D → R (List D)
  | [.list ds] => .ok (enumF 0 ds)
  | [.tuple ds] => .ok (enumF 0 ds)
  | _ => .bad
theorem ci_enum {t : TA} {f : FA} (h : CA K ca E t f) : CI K ca E (iEnumA K t) (iA dEnum f) := fun σ ρ G H Q sg re gg =>
  h.bind sg re gg fun ds vs G1 H1 s1 re1 r1 g1 => by
    unfold dEnum at g1
    split at g1
    · obtain ⟨v, rfl, hv⟩ := dps1 r1
      obtain ⟨a, xs, rfl, sa, ra⟩ := dp_lst hv
      exact ⟨a, xs, rfl, .inl ⟨s1.s.seq sa, g1.here s1.s (yi_enumL sa ra)⟩⟩
    · obtain ⟨v, rfl, hv⟩ := dps1 r1
      obtain ⟨a, xs, rfl, sa, ra⟩ := dp_tup hv
      exact ⟨a, xs, rfl, .inr ⟨sqT_mono s1.s sa, g1.here s1.s (yi_enumT sa ra)⟩⟩
    · exact g1.elim
def zipP (ds es : List D) : List D := List.zipWith (fun a b => PyData.tuple [a, b]) ds es
theorem yi_zipT {G : Hp} {a b : Addr} {xs ys : List V} {ds es : List D} (sa : SqT K G a xs) (ra : DpAll K G xs ds) (sb : SqT K G b ys) (rb : DpAll K G ys es) : YI K (RZ.ItzT K a b) G (zipP ds es) := fun G2 H2 s1 s2 i => by
  have sa2 : SqT K H2 a xs := sqT_mono (s1.trans s2) sa
  have sb2 : SqT K H2 b ys := sqT_mono (s1.trans s2) sb
  refine ⟨fun d hd => ?_, fun hl => ⟨xs, ys, sa2, sb2, ?_⟩⟩
  · unfold zipP at hd
    rw [List.getElem?_zipWith] at hd
    cases h1 : ds[i]? with
    | none => rw [h1] at hd; cases hd
    | some p =>
      cases h2 : es[i]? with
      | none => rw [h1, h2] at hd; cases hd
      | some q =>
        rw [h1, h2] at hd
        cases hd
        obtain ⟨v, hv, hdv⟩ := dps_get ra h1
        obtain ⟨u, hu, hdu⟩ := dps_get rb h2
        refine ⟨⟨xs, ys, v, u, sa2, sb2, hv, hu⟩, fun x H3 hy => ?_⟩
        obtain ⟨T, y, z, rfl, hT, rfl, hx, hz⟩ := hy
        have e := hx xs sa2
        have e' := hz ys sb2
        rw [hv] at e
        rw [hu] at e'
        cases e; cases e'
        exact ⟨_, Ex4.new s2 hT, dp_pair (s2.free hT) (dp_mono s1 hdv) (dp_mono s1 hdu)⟩
  · unfold zipP at hl
    rw [List.length_zipWith] at hl
    rw [dps_len ra, dps_len rb]
    omega
theorem yi_zipL {G : Hp} {a b : Addr} {xs ys : List V} {ds es : List D} (sa : SqL K G a xs) (ra : DpAll K G xs ds) (sb : SqL K G b ys) (rb : DpAll K G ys es) : YI K (Itz K a b) G (zipP ds es) := fun G2 H2 s1 s2 i => by
  have sa2 : SqL K H2 a xs := (s1.trans s2).seq sa
  have sb2 : SqL K H2 b ys := (s1.trans s2).seq sb
  refine ⟨fun d hd => ?_, fun hl => ⟨xs, ys, sa2, sb2, ?_⟩⟩
  · unfold zipP at hd
    rw [List.getElem?_zipWith] at hd
    cases h1 : ds[i]? with
    | none => rw [h1] at hd; cases hd
    | some p =>
      cases h2 : es[i]? with
      | none => rw [h1, h2] at hd; cases hd
      | some q =>
        rw [h1, h2] at hd
        cases hd
        obtain ⟨v, hv, hdv⟩ := dps_get ra h1
        obtain ⟨u, hu, hdu⟩ := dps_get rb h2
        refine ⟨⟨xs, ys, v, u, sa2, sb2, hv, hu⟩, fun x H3 hy => ?_⟩
        obtain ⟨T, y, z, rfl, hT, rfl, hx, hz⟩ := hy
        have e := hx xs sa2
        have e' := hz ys sb2
        rw [hv] at e
        rw [hu] at e'
        cases e; cases e'
        exact ⟨_, Ex4.new s2 hT, dp_pair (s2.free hT) (dp_mono s1 hdv) (dp_mono s1 hdu)⟩
  · unfold zipP at hl
    rw [List.length_zipWith] at hl
    rw [dps_len ra, dps_len rb]
    omega
def dZip : List D → R (List D)
  | [.list ds, .list es] => .ok (zipP ds es)
  | [.tuple ds, .tuple es] => .ok (zipP ds es)
  | _ => .bad
theorem ci_zip {t : TA} {f : FA} (h : CA K ca E t f) : CI K ca E (RZ.iZipA K t) (iA dZip f) := fun σ ρ G H Q sg re gg =>
  h.bind sg re gg fun ds vs G1 H1 s1 re1 r1 g1 => by
    unfold dZip at g1
    split at g1
    · obtain ⟨v, u, rfl, hv, hu⟩ := dps2 r1
      obtain ⟨a, xs, rfl, sa, ra⟩ := dp_lst hv
      obtain ⟨b, ys, rfl, sb, rb⟩ := dp_lst hu
      exact ⟨a, b, xs, ys, rfl, .inl ⟨s1.s.seq sa, s1.s.seq sb, g1.here s1.s (yi_zipL sa ra sb rb)⟩⟩
    · obtain ⟨v, u, rfl, hv, hu⟩ := dps2 r1
      obtain ⟨a, xs, rfl, sa, ra⟩ := dp_tup hv
      obtain ⟨b, ys, rfl, sb, rb⟩ := dp_tup hu
      exact ⟨a, b, xs, ys, rfl, .inr ⟨sqT_mono s1.s sa, sqT_mono s1.s sb, g1.here s1.s (yi_zipT sa ra sb rb)⟩⟩
    · exact g1.elim
def dSigns : D → R (List D)
  | .str x => .ok (x.cps.toList.map fun c => .str ⟨#[c]⟩)
  | _ => .bad
theorem ci_str {te : TE} {f : FE} (h : CE K ca E te f) : CI K ca E (iStr te) (fun ρ => (f ρ).bind dSigns) := fun σ ρ G H Q sg re gg =>
  h.bind sg re gg fun d v G1 H1 s1 re1 r1 g1 => by
    unfold dSigns at g1
    split at g1
    · rename_i x
      cases dp_str r1
      refine ⟨_, rfl, g1.here s1.s fun G2 H2 t1 t2 i => ⟨fun d hd => ?_, fun hl => by
        have hl' : x.cps.size ≤ i := by simpa using hl
        exact hl'⟩⟩
      rw [List.getElem?_map, Option.map_eq_some_iff] at hd
      obtain ⟨c, hc, rfl⟩ := hd
      have hi : i < x.cps.size := by
        have := (List.getElem?_eq_some_iff.mp hc).1
        simpa using this
      refine ⟨hi, fun y H3 hy => ?_⟩
      obtain ⟨rfl, c', hc', rfl⟩ := hy
      have e : c' = c := by
        have : x.cps.toList[i]? = some c' := by simpa using hc'
        rw [hc] at this
        exact (Option.some.inj this).symm
      subst e
      exact ⟨G2, Ex4.refl t2, .str _⟩
    · exact g1.elim
/-! ### targets -/
def TGo (K : PySem.W.Frag) (g : TG) (is : List Nat) (γ : D → En → R En) : Prop := ∀ (x : V) (d : D) (σ : L2.St) (ρ ρ' : En) (G H : Hp) (Q : L2.St → Hp → Prop), Same G H → RelE K G σ ρ → Dp K G x d → γ d ρ = .ok ρ' →
  (∀ σ', RelE K G σ' ρ' → (∀ j, j ∉ is → σ'[j]? = σ[j]?) → σ'.length = σ.length → Q σ' H) → g x σ H Q
def gN (i : Nat) : D → En → R En := fun d ρ => if i < ρ.length then .ok (ρ.set i (some d)) else .bad
theorem relE_set {G : Hp} {σ : L2.St} {ρ : En} {i : Nat} {x : V} {d : D} (re : RelE K G σ ρ) (hi : i < ρ.length) (h : Dp K G x d) : RelE K G (σ.set i (some x)) (ρ.set i (some d)) := by
  refine ⟨by simp [re.len], fun j e hj => ?_⟩
  by_cases hij : i = j
  · subst hij
    rw [List.getElem?_set_self hi] at hj
    cases hj
    exact ⟨x, by rw [List.getElem?_set_self (by rw [re.len]; exact hi)], h⟩
  · rw [List.getElem?_set_ne hij] at hj ⊢
    exact re.at_ j e hj
theorem tg_name {i : Nat} : TGo K (gName i) [i] (gN i) := fun x d σ ρ ρ' G H Q sg re hd hg q => by
  unfold gN at hg
  split at hg
  · rename_i hi
    cases hg
    exact q _ (relE_set re hi hd) (fun j hj => List.getElem?_set_ne (by simpa using fun e => hj (by simp [e]))) (by simp)
  · cases hg
def g2 (i j : Nat) : D → En → R En
  | .tuple [a, b], ρ => if i < ρ.length ∧ j < ρ.length then .ok ((ρ.set i (some a)).set j (some b)) else .bad
  | _, _ => .bad
theorem tg_pair {i j : Nat} : TGo K (gTup K 2 (gCons (gName i) (gCons (gName j) gNil))) [i, j] (g2 i j) := fun x d σ ρ ρ' G H Q sg re hd hg q => by
  unfold g2 at hg
  split at hg
  · split at hg
    · rename_i hi
      cases hg
      obtain ⟨a, xs, rfl, sa, ra⟩ := dp_tup hd
      obtain ⟨u, v, rfl, hu, hv⟩ := dps2 ra
      refine ⟨a, [u, v], rfl, sqT_mono sg sa, rfl, u, [v], rfl, v, [], rfl, rfl, ?_⟩
      refine q _ (relE_set (relE_set re hi.1 hu) (by simpa using hi.2) hv) (fun k hk => ?_) (by simp)
      have h1 : i ≠ k := fun e => hk (by simp [e])
      have h2 : j ≠ k := fun e => hk (by simp [e])
      rw [List.getElem?_set_ne h2, List.getElem?_set_ne h1]
    · cases hg
  · cases hg
/-! ### comprehensions -/
def wipeD (ρ : En) : List Nat → En
  | [] => ρ
  | v :: vs => (wipeD ρ vs).set v none
theorem wipe_at (σ : L2.St) : ∀ (vs : List Nat) (j : Nat), (wipe σ vs)[j]? = if j ∈ vs ∧ j < σ.length then some none else σ[j]?
  | [], j => by simp [wipe]
  | v :: vs, j => by
    unfold wipe
    by_cases hvj : v = j
    · subst hvj
      by_cases hl : v < σ.length
      · rw [List.getElem?_set_self (by rw [wipe_length]; exact hl)]
        simp [hl]
      · rw [List.getElem?_eq_none (by rw [List.length_set, wipe_length]; omega), if_neg (by omega), List.getElem?_eq_none (by omega)]
    · rw [List.getElem?_set_ne hvj, wipe_at σ vs j]
      have : (j ∈ v :: vs) ↔ j ∈ vs := ⟨fun z => (List.mem_cons.mp z).resolve_left (fun e => hvj e.symm), fun z => List.mem_cons_of_mem _ z⟩
      simp only [this]
theorem wipeD_at (ρ : En) : ∀ (vs : List Nat) (j : Nat), (wipeD ρ vs)[j]? = if j ∈ vs ∧ j < ρ.length then some none else ρ[j]?
  | [], j => by simp [wipeD]
  | v :: vs, j => by
    have ln : ∀ (l : List Nat), (wipeD ρ l).length = ρ.length := fun l => by induction l with
      | nil => rfl
      | cons a b ih => simp [wipeD, ih]
    unfold wipeD
    by_cases hvj : v = j
    · subst hvj
      by_cases hl : v < ρ.length
      · rw [List.getElem?_set_self (by rw [ln]; exact hl)]
        simp [hl]
      · rw [List.getElem?_eq_none (by rw [List.length_set, ln]; omega), if_neg (by omega), List.getElem?_eq_none (by omega)]
    · rw [List.getElem?_set_ne hvj, wipeD_at ρ vs j]
      have : (j ∈ v :: vs) ↔ j ∈ vs := ⟨fun z => (List.mem_cons.mp z).resolve_left (fun e => hvj e.symm), fun z => List.mem_cons_of_mem _ z⟩
      simp only [this]
theorem wipeD_len (ρ : En) : ∀ (l : List Nat), (wipeD ρ l).length = ρ.length
  | [] => rfl
  | a :: b => by simp [wipeD, wipeD_len ρ b]
theorem relE_wipe {G : Hp} {σ : L2.St} {ρ : En} (re : RelE K G σ ρ) (vs : List Nat) : RelE K G (wipe σ vs) (wipeD ρ vs) := by
  refine ⟨by rw [wipe_length, wipeD_len, re.len], fun j d hj => ?_⟩
  rw [wipeD_at] at hj
  split at hj
  · cases hj
  · rename_i hn
    rw [wipe_at, if_neg (by rw [re.len]; exact hn)]
    exact re.at_ j d hj
theorem wipe_same {σ σ2 : L2.St} {vs is : List Nat} (hs : ∀ i ∈ is, i ∈ vs) (hl : σ2.length = σ.length) (h : ∀ j, j ∉ is → σ2[j]? = (wipe σ vs)[j]?) : wipe σ2 vs = wipe σ vs := by
  apply List.ext_getElem?
  intro j
  by_cases hj : j ∈ is
  · rw [wipe_at, wipe_at]
    by_cases hjl : j < σ.length
    · rw [if_pos ⟨hs j hj, by omega⟩, if_pos ⟨hs j hj, hjl⟩]
    · rw [if_neg (by omega), if_neg (by omega), List.getElem?_eq_none (by omega), List.getElem?_eq_none (by omega)]
  · rw [wipe_at, h j hj, wipe_at]
    split
    · rename_i hc
      rw [if_pos ⟨hc.1, by omega⟩]
    · rfl
def R.nx {α : Type} (r : R α) : R α := match r with
  | .ok a => .ok a
  | _ => .bad
def lcD (γ : D → En → R En) (ft : FT) (fe : FE) (ρ : En) : List D → R (List D)
  | [] => .ok []
  | x :: r => (γ x ρ).nx.bind fun ρ2 => (ft ρ2).nx.bind fun b => if b = true then (fe ρ2).nx.bind fun y => (lcD γ ft fe ρ r).bind fun ys => .ok (y :: ys) else lcD γ ft fe ρ r
theorem nx_ok {α : Type} {r : R α} {a : α} (h : r.nx = .ok a) : r = .ok a := by
  cases r with
  | ok b => exact h
  | exc c => cases h
  | bad => cases h
theorem R.nx_ok' {α : Type} {a : α} : (R.ok a).nx = .ok a := rfl
theorem bind_ok {α β : Type} {r : R α} {k : α → R β} {b : β} (h : r.bind k = .ok b) : ∃ a, r = .ok a ∧ k a = .ok b := by
  cases r with
  | ok a => exact ⟨a, rfl, h⟩
  | exc c => cases h
  | bad => cases h
theorem lcD_noexc {γ : D → En → R En} {ft : FT} {fe : FE} {ρ : En} : ∀ {xs : List D} {c : String}, lcD γ ft fe ρ xs ≠ .exc c
  | [], _ => fun h => nomatch h
  | x :: r, c => fun h => by
    unfold lcD at h
    cases h1 : (γ x ρ) with
    | ok ρ2 =>
      rw [h1] at h
      simp only [R.nx, R.bind_ok] at h
      cases h2 : ft ρ2 with
      | ok b =>
        rw [h2] at h
        simp only [R.bind_ok] at h
        split at h
        · cases h3 : fe ρ2 with
          | ok y =>
            rw [h3] at h
            simp only [R.bind_ok] at h
            cases h4 : lcD γ ft fe ρ r with
            | ok ys => rw [h4] at h; cases h
            | exc c' => exact lcD_noexc h4
            | bad => rw [h4] at h; cases h
          | exc _ => rw [h3] at h; cases h
          | bad => rw [h3] at h; cases h
        · exact lcD_noexc h
      | exc _ => rw [h2] at h; cases h
      | bad => rw [h2] at h; cases h
    | exc _ => rw [h1] at h; cases h
    | bad => rw [h1] at h; cases h
def E0' : L2.St → XK := fun _ _ _ _ => False
def xLc (fi : FA) (γ : D → En → R En) (ft : FT) (fe : FE) (vs : List Nat) : FE := fun ρ => (fi ρ).bind fun xs => if xs.length ≤ 1000 then (lcD γ ft fe (wipeD ρ vs) xs).bind fun ys => .ok (.list ys) else .bad
theorem ce_lc {wi : TI} {g : TG} {tt : TT} {te : TE} {vs is : List Nat} {fi : FA} {γ : D → En → R En} {ft : FT} {fe : FE} (hi : CI K ca E wi fi) (hg : TGo K g is γ) (hv : ∀ i ∈ is, i ∈ vs) (ht : CT K ca E0' tt ft) (he : CE K ca E0' te fe) :
    CE K ca E (tLc wi g tt te vs) (xLc fi γ ft fe vs) := fun σ ρ G H Q sg re gg => by
  refine hi.bind sg re gg fun xs J G1 H1 s1 re1 yi g1 => ?_
  intro Dl hD
  split at g1
  · rename_i hlen
    cases hlc : lcD γ ft fe (wipeD ρ vs) xs with
    | exc c => exact (lcD_noexc hlc).elim
    | bad => rw [hlc] at g1; exact g1.elim
    | ok ys =>
      rw [hlc, R.bind_ok] at g1
      have reW : RelE K G1 (wipe σ vs) (wipeD ρ vs) := relE_wipe re1 vs
      refine ⟨fun i m H' => m = xs.length - i ∧ i ≤ xs.length ∧ ∃ (G' : Hp) (acc : List V) (accD rest : List D), Ex4 G1 H1 G' H' ∧ G' Dl = none ∧ H' Dl = some (.lst acc) ∧ DpAll K G' acc accD ∧ accD.length ≤ i ∧ lcD γ ft fe (wipeD ρ vs) (xs.drop i) = .ok rest ∧ accD ++ rest = ys, ⟨xs.length, by simp, Nat.zero_le _, G1, [], [], ys, ⟨Same.refl _, ?_, same_upd hD, fun _ _ e => e⟩, s1.s.free hD, upd_same, .nil, Nat.le_refl _, by simpa using hlc, rfl⟩, ?_⟩
      · exact s1.s.trans (same_upd hD)
      · rintro i m H' ⟨rfl, hil, G', acc, accD, rest, e4, gD, hHD, hacc, hal, hrest, hys⟩
        by_cases hlt : i < xs.length
        · right
          have hx : xs[i]? = some xs[i] := List.getElem?_eq_getElem hlt
          rw [List.drop_eq_getElem_cons hlt] at hrest
          unfold lcD at hrest
          obtain ⟨ρ2, h1, hrest⟩ := bind_ok hrest
          obtain ⟨b, h2, hrest⟩ := bind_ok hrest
          have h1 := nx_ok h1
          have h2 := nx_ok h2
          obtain ⟨hgo, hyl⟩ := ((yi G' H' e4.g e4.s i).1 _ hx)
          refine ⟨hgo, fun H2 => i + 1 ≤ xs.length ∧ ∃ (G' : Hp) (acc : List V) (accD rest : List D), Ex4 G1 H1 G' H2 ∧ G' Dl = none ∧ H2 Dl = some (.lst acc) ∧ DpAll K G' acc accD ∧ accD.length ≤ i + 1 ∧ lcD γ ft fe (wipeD ρ vs) (xs.drop (i + 1)) = .ok rest ∧ accD ++ rest = ys, fun H2 hN => ⟨xs.length - (i + 1), by omega, rfl, hN.1, hN.2⟩, fun x H3 hy => ?_⟩
          obtain ⟨G3, e3, dx⟩ := hyl x H3 hy
          have g3D : G3 Dl = none := e3.n Dl (by rw [hHD]; exact fun z => nomatch z) gD
          have h3D : H3 Dl = some (.lst acc) := e3.h _ _ hHD
          refine hg x _ (wipe σ vs) _ ρ2 G3 H3 _ e3.s (reW.mono (e4.g.trans e3.g)) dx h1 fun σ2 re2 hne hlw => ?_
          have hl2 : σ2.length = σ.length := by rw [hlw, wipe_length]
          refine ⟨wipe_same hv hl2 hne, ?_⟩
          refine ht σ2 ρ2 G3 H3 _ e3.s re2 ?_
          rw [h2]
          intro b' G4 H4 e4' rb
          cases rb
          cases b with
          | true =>
            rw [if_pos rfl]
            rw [if_pos rfl] at hrest
            obtain ⟨y, h3, hrest⟩ := bind_ok hrest
            obtain ⟨ys', h4, hrest⟩ := bind_ok hrest
            have h3 := nx_ok h3
            cases hrest
            refine he σ2 ρ2 G4 H4 _ e4'.s (re2.mono e4'.g) ?_
            rw [h3]
            intro v G5 H5 e5 dv
            have g5D : G5 Dl = none := e5.n Dl (by rw [e4'.h _ _ h3D]; exact fun z => nomatch z) (e4'.n Dl (by rw [h3D]; exact fun z => nomatch z) g3D)
            have h5D : H5 Dl = some (.lst acc) := e5.h _ _ (e4'.h _ _ h3D)
            have e15 : Ex4 G1 H1 G5 H5 := ((e4.trans e3).trans e4').trans e5
            refine ⟨acc, h5D, ?_, hlt, G5, acc ++ [v], accD ++ [y], ys', ⟨e15.g, ?_, ?_, e15.n⟩, g5D, upd_same, dps_append (dps_mono ((e3.g.trans e4'.g).trans e5.g) hacc) (.cons dv .nil), by simp; omega, h4, by rw [List.append_assoc]; exact hys⟩
            · rw [dps_len hacc, sizeLine_eq]; omega
            · exact fun z o hz => by rw [upd_ne (ne_of_none hz g5D)]; exact e15.s z o hz
            · exact fun z o hz => by rw [upd_ne (ne_of_none hz hD)]; exact e15.h z o hz
          | false =>
            rw [if_neg Bool.false_ne_true]
            rw [if_neg Bool.false_ne_true] at hrest
            exact ⟨hlt, G4, acc, accD, rest, (e4.trans e3).trans e4', e4'.n Dl (by rw [h3D]; exact fun z => nomatch z) g3D, e4'.h _ _ h3D, dps_mono (e3.g.trans e4'.g) hacc, by omega, hrest, hys⟩
        · left
          refine ⟨(yi G' H' e4.g e4.s i).2 (by omega), ?_⟩
          have hr0 : xs.drop i = [] := List.drop_eq_nil_iff.mpr (by omega)
          rw [hr0] at hrest
          cases hrest
          rw [List.append_nil] at hys
          subst hys
          refine g1 (.ref Dl) (upd G' Dl (.lst acc)) H' ⟨?_, ?_, e4.h, ?_⟩ (.lst (SqL.of upd_same) (dps_mono (same_upd gD) hacc))
          · exact e4.g.trans (same_upd gD)
          · intro z o hz
            by_cases hzD : z = Dl
            · subst hzD; rw [upd_same] at hz; rw [hHD]; exact hz
            · rw [upd_ne hzD] at hz; exact e4.s z o hz
          · intro z hz gz
            rw [upd_ne (fun e => hz (by rw [e]; exact hD))]
            exact e4.n z hz gz
  · exact g1.elim
end
end HL
end
section
set_option Elab.async false
set_option linter.all false
set_option maxRecDepth 100000
set_option maxHeartbeats 4000000
namespace HL
open PySem PySem.Spec PyProof.Rows L2
section
inductive Sl where
  | im (d : D)
  | ow (ds : List D)
abbrev Es := List (Option Sl)
def s0 : Option Sl → Option D
  | some (.im d) => some d
  | _ => none
def sw : Option Sl → Option D
  | some (.im d) => some d
  | some (.ow ds) => some (.list ds)
  | none => none
def v0 (δ : Es) : En := δ.map s0
def vw (δ : Es) : En := δ.map sw
theorem v0_at {δ : Es} {i : Nat} {d : D} (h : (v0 δ)[i]? = some (some d)) : δ[i]? = some (some (.im d)) := by
  unfold v0 at h
  rw [List.getElem?_map, Option.map_eq_some_iff] at h
  obtain ⟨x, hx, hs⟩ := h
  cases x with
  | none => cases hs
  | some s =>
    cases s with
    | im e => cases hs; exact hx
    | ow e => cases hs
theorem vw_at {δ : Es} {i : Nat} {d : D} (h : (vw δ)[i]? = some (some d)) : δ[i]? = some (some (.im d)) ∨ ∃ ds, d = .list ds ∧ δ[i]? = some (some (.ow ds)) := by
  unfold vw at h
  rw [List.getElem?_map, Option.map_eq_some_iff] at h
  obtain ⟨x, hx, hs⟩ := h
  cases x with
  | none => cases hs
  | some s =>
    cases s with
    | im e => cases hs; exact .inl hx
    | ow e => cases hs; exact .inr ⟨e, rfl, hx⟩
structure RelS (K : PySem.W.Frag) (n : Nat) (G0 H0 G H : Hp) (σ : L2.St) (δ : Es) : Prop where
  ls : σ.length = n
  ld : δ.length = n
  e0 : Ex4 G0 H0 G H
  im : ∀ (i : Nat) (d : D), δ[i]? = some (some (.im d)) → ∃ v, σ[i]? = some (some v) ∧ Dp K G v d
  ow : ∀ (i : Nat) (ds : List D), δ[i]? = some (some (.ow ds)) → ∃ a xs, σ[i]? = some (some (.ref a)) ∧ H0 a = none ∧ G a = none ∧ H a = some (.lst xs) ∧ DpAll K G xs ds
  df : ∀ (i j : Nat) (a : Addr) (ds es : List D), i ≠ j → δ[i]? = some (some (.ow ds)) → δ[j]? = some (some (.ow es)) → σ[i]? = some (some (.ref a)) → σ[j]? = some (some (.ref a)) → False
def Owned (σ : L2.St) (δ : Es) (a : Addr) : Prop := ∃ (i : Nat) (ds : List D), δ[i]? = some (some (.ow ds)) ∧ σ[i]? = some (some (.ref a))
open Classical in
noncomputable def frzG (G H : Hp) (σ : L2.St) (δ : Es) : Hp := fun b => if Owned σ δ b then H b else G b
open Classical in
noncomputable def hidG (G : Hp) (σ : L2.St) (δ : Es) : Hp := fun b => if Owned σ δ b then none else G b
variable {K : PySem.W.Frag} {ca : String → Addr} {E : L2.St → XK} {n : Nat} {G0 H0 G H : Hp} {σ : L2.St} {δ : Es}
theorem RelS.s (r : RelS K n G0 H0 G H σ δ) : Same G H := r.e0.s
theorem RelS.owned (r : RelS K n G0 H0 G H σ δ) {a : Addr} (o : Owned σ δ a) : H0 a = none ∧ G a = none ∧ ∃ xs, H a = some (.lst xs) := by
  obtain ⟨i, ds, h1, h2⟩ := o
  obtain ⟨b, xs, h3, h4, h5, h6, _⟩ := r.ow i ds h1
  rw [h2] at h3
  cases h3
  exact ⟨h4, h5, xs, h6⟩
theorem RelS.re (r : RelS K n G0 H0 G H σ δ) : RelE K G σ (v0 δ) := ⟨by simp [v0, r.ls, r.ld], fun i d h => r.im i d (v0_at h)⟩
theorem RelS.sgf (r : RelS K n G0 H0 G H σ δ) : Same G (frzG G H σ δ) := fun b o h => by
  unfold frzG
  split
  · exact r.s b o h
  · exact h
theorem RelS.sfh (r : RelS K n G0 H0 G H σ δ) : Same (frzG G H σ δ) H := fun b o h => by
  unfold frzG at h
  split at h
  · exact h
  · exact r.s b o h
theorem RelS.rw_ (r : RelS K n G0 H0 G H σ δ) : RelE K (frzG G H σ δ) σ (vw δ) := ⟨by simp [vw, r.ls, r.ld], fun i d h => by
  rcases vw_at h with hq | ⟨ds, rfl, hq⟩
  · obtain ⟨v, h1, h2⟩ := r.im i d hq
    exact ⟨v, h1, dp_mono r.sgf h2⟩
  · obtain ⟨a, xs, h1, _, _, h4, h5⟩ := r.ow i ds hq
    refine ⟨.ref a, h1, .lst (xs := xs) (SqL.of ?_) (dps_mono r.sgf h5)⟩
    unfold frzG
    rw [if_pos ⟨i, ds, hq, h1⟩]
    exact h4⟩
theorem RelS.ef (r : RelS K n G0 H0 G H σ δ) : Ex4 G0 H0 (frzG G H σ δ) H := ⟨r.e0.g.trans r.sgf, r.sfh, r.e0.h, fun b hb gb => by
  unfold frzG
  rw [if_neg fun o => hb (r.owned o).1]
  exact r.e0.n b hb gb⟩
theorem RelS.grow {G' H' : Hp} (r : RelS K n G0 H0 G H σ δ) (e : Ex4 G H G' H') : RelS K n G0 H0 G' H' σ δ :=
  ⟨r.ls, r.ld, r.e0.trans e, fun i d h => let ⟨v, a, b⟩ := r.im i d h; ⟨v, a, dp_mono e.g b⟩, fun i ds h => let ⟨a, xs, h1, h2, h3, h4, h5⟩ := r.ow i ds h
    ⟨a, xs, h1, h2, e.n a (by rw [h4]; exact fun z => nomatch z) h3, e.h _ _ h4, dps_mono e.g h5⟩, r.df⟩
theorem RelS.growH {H' : Hp} (r : RelS K n G0 H0 G H σ δ) (e : Same H H') : RelS K n G0 H0 G H' σ δ := r.grow ⟨Same.refl G, r.s.trans e, e, fun _ _ z => z⟩
theorem RelS.set_im (r : RelS K n G0 H0 G H σ δ) {i : Nat} {v : V} {d : D} (hi : i < n) (h : Dp K G v d) : RelS K n G0 H0 G H (σ.set i (some v)) (δ.set i (some (.im d))) := by
  refine ⟨by simp [r.ls], by simp [r.ld], r.e0, fun j e hj => ?_, fun j ds hj => ?_, fun j k a ds es hjk hj hk sj sk => ?_⟩
  · by_cases hij : i = j
    · subst hij
      rw [List.getElem?_set_self (by rw [r.ld]; exact hi)] at hj
      cases hj
      exact ⟨v, List.getElem?_set_self (by rw [r.ls]; exact hi), h⟩
    · rw [List.getElem?_set_ne hij] at hj ⊢
      exact r.im j e hj
  · by_cases hij : i = j
    · subst hij
      rw [List.getElem?_set_self (by rw [r.ld]; exact hi)] at hj
      cases hj
    · rw [List.getElem?_set_ne hij] at hj ⊢
      exact r.ow j ds hj
  · have h1 : i ≠ j := fun e => by subst e; rw [List.getElem?_set_self (by rw [r.ld]; exact hi)] at hj; cases hj
    have h2 : i ≠ k := fun e => by subst e; rw [List.getElem?_set_self (by rw [r.ld]; exact hi)] at hk; cases hk
    rw [List.getElem?_set_ne h1] at hj sj
    rw [List.getElem?_set_ne h2] at hk sk
    exact r.df j k a ds es hjk hj hk sj sk
theorem RelS.set_ow (r : RelS K n G0 H0 G H σ δ) {i : Nat} {p : Addr} {xs : List V} {ds : List D} (hi : i < n) (h0 : H0 p = none) (hg : G p = none) (hh : H p = some (.lst xs)) (hd : DpAll K G xs ds) (hno : ¬ Owned σ δ p) :
    RelS K n G0 H0 G H (σ.set i (some (.ref p))) (δ.set i (some (.ow ds))) := by
  have d0 : i < δ.length := by rw [r.ld]; exact hi
  have s0 : i < σ.length := by rw [r.ls]; exact hi
  refine ⟨by simp [r.ls], by simp [r.ld], r.e0, fun j e hj => ?_, fun j es hj => ?_, fun j k a es fs hjk hj hk sj sk => ?_⟩
  · by_cases hij : i = j
    · subst hij
      rw [List.getElem?_set_self d0] at hj
      cases hj
    · rw [List.getElem?_set_ne hij] at hj ⊢
      exact r.im j e hj
  · by_cases hij : i = j
    · subst hij
      rw [List.getElem?_set_self d0] at hj
      cases hj
      exact ⟨p, xs, List.getElem?_set_self s0, h0, hg, hh, hd⟩
    · rw [List.getElem?_set_ne hij] at hj ⊢
      exact r.ow j es hj
  · by_cases hij : i = j
    · subst hij
      rw [List.getElem?_set_self s0] at sj
      cases sj
      rw [List.getElem?_set_ne hjk] at hk sk
      exact hno ⟨k, fs, hk, sk⟩
    · by_cases hik : i = k
      · subst hik
        rw [List.getElem?_set_self s0] at sk
        cases sk
        rw [List.getElem?_set_ne hij] at hj sj
        exact hno ⟨j, es, hj, sj⟩
      · rw [List.getElem?_set_ne hij] at hj sj
        rw [List.getElem?_set_ne hik] at hk sk
        exact r.df j k a es fs hjk hj hk sj sk
theorem RelS.mut (r : RelS K n G0 H0 G H σ δ) {i : Nat} {a : Addr} {xs : List V} {ds es : List D} (hi : δ[i]? = some (some (.ow es))) (hs : σ[i]? = some (some (.ref a))) (hd : DpAll K G xs ds) :
    RelS K n G0 H0 G (upd H a (.lst xs)) σ (δ.set i (some (.ow ds))) := by
  have d0 : i < δ.length := (List.getElem?_eq_some_iff.mp hi).1
  have o := r.owned ⟨i, es, hi, hs⟩
  refine ⟨r.ls, by simp [r.ld], ⟨r.e0.g, fun b o' hb => ?_, fun b o' hb => ?_, r.e0.n⟩, fun j e hj => ?_, fun j fs hj => ?_, fun j k b fs gs hjk hj hk sj sk => ?_⟩
  · rw [upd_ne (ne_of_none hb o.2.1)]; exact r.s b o' hb
  · rw [upd_ne (ne_of_none hb o.1)]; exact r.e0.h b o' hb
  · by_cases hij : i = j
    · subst hij
      rw [List.getElem?_set_self d0] at hj
      cases hj
    · rw [List.getElem?_set_ne hij] at hj
      exact r.im j e hj
  · by_cases hij : i = j
    · subst hij
      rw [List.getElem?_set_self d0] at hj
      cases hj
      exact ⟨a, xs, hs, o.1, o.2.1, upd_same, hd⟩
    · rw [List.getElem?_set_ne hij] at hj
      obtain ⟨b, ys, h1, h2, h3, h4, h5⟩ := r.ow j fs hj
      refine ⟨b, ys, h1, h2, h3, ?_, h5⟩
      rw [upd_ne]
      · exact h4
      · intro e
        subst e
        exact r.df i j b es fs hij hi hj hs h1
  · have old : ∀ (m : Nat) (l : List D), (δ.set i (some (.ow ds)))[m]? = some (some (.ow l)) → ∃ l', δ[m]? = some (some (.ow l')) := fun m l hm => by
      by_cases him : i = m
      · subst him; exact ⟨es, hi⟩
      · rw [List.getElem?_set_ne him] at hm; exact ⟨l, hm⟩
    obtain ⟨f1, hj'⟩ := old j fs hj
    obtain ⟨f2, hk'⟩ := old k gs hk
    exact r.df j k b f1 f2 hjk hj' hk' sj sk
/-- a list is no longer changed -/
theorem RelS.freeze (r : RelS K n G0 H0 G H σ δ) {i : Nat} {ds : List D} (hi : δ[i]? = some (some (.ow ds))) : ∃ G', Same G G' ∧ RelS K n G0 H0 G' H σ (δ.set i (some (.im (.list ds)))) := by
  have d0 : i < δ.length := (List.getElem?_eq_some_iff.mp hi).1
  obtain ⟨a, xs, h1, h2, h3, h4, h5⟩ := r.ow i ds hi
  have sg : Same G (upd G a (.lst xs)) := same_upd h3
  refine ⟨upd G a (.lst xs), sg, r.ls, by simp [r.ld], ⟨r.e0.g.trans sg, fun b o hb => ?_, r.e0.h, fun b hb gb => ?_⟩, fun j e hj => ?_, fun j es hj => ?_, fun j k b es fs hjk hj hk sj sk => ?_⟩
  · by_cases hba : b = a
    · subst hba; rw [upd_same] at hb; rw [h4]; exact hb
    · rw [upd_ne hba] at hb; exact r.s b o hb
  · rw [upd_ne (fun e => hb (by rw [e]; exact h2))]
    exact r.e0.n b hb gb
  · by_cases hij : i = j
    · subst hij
      rw [List.getElem?_set_self d0] at hj
      cases hj
      exact ⟨.ref a, h1, .lst (SqL.of upd_same) (dps_mono sg h5)⟩
    · rw [List.getElem?_set_ne hij] at hj
      obtain ⟨v, q1, q2⟩ := r.im j e hj
      exact ⟨v, q1, dp_mono sg q2⟩
  · by_cases hij : i = j
    · subst hij
      rw [List.getElem?_set_self d0] at hj
      cases hj
    · rw [List.getElem?_set_ne hij] at hj
      obtain ⟨b, ys, q1, q2, q3, q4, q5⟩ := r.ow j es hj
      refine ⟨b, ys, q1, q2, ?_, q4, dps_mono sg q5⟩
      rw [upd_ne]
      · exact q3
      · intro e
        subst e
        exact r.df i j b ds es hij hi hj h1 q1
  · have h1 : i ≠ j := fun e => by subst e; rw [List.getElem?_set_self d0] at hj; cases hj
    have h2 : i ≠ k := fun e => by subst e; rw [List.getElem?_set_self d0] at hk; cases hk
    rw [List.getElem?_set_ne h1] at hj
    rw [List.getElem?_set_ne h2] at hk
    exact r.df j k b es fs hjk hj hk sj sk
/-! ### flows -/
inductive Fl where
  | nx (δ : Es)
  | rt (d : D)
  | bk (δ : Es)
  | ct (δ : Es)
  | exc (c : String)
  | bad
def fR {α : Type} (r : R α) (k : α → Fl) : Fl := match r with
  | .ok a => k a
  | .exc c => .exc c
  | .bad => .bad
@[simp] theorem fR_ok {α : Type} (a : α) (k : α → Fl) : fR (.ok a) k = k a := (rfl)
@[simp] theorem fR_exc {α : Type} (c : String) (k : α → Fl) : fR (.exc c) k = .exc c := rfl
@[simp] theorem fR_bad {α : Type} (k : α → Fl) : fR .bad k = .bad := rfl
def GdS (K : PySem.W.Frag) (ca : String → Addr) (E : L2.St → XK) (n : Nat) (G0 H0 : Hp) (Dd : Ends) : Fl → Prop
  | .nx δ => ∀ σ G H, RelS K n G0 H0 G H σ δ → Dd.nx σ H
  | .rt d => ∀ v G H, Ex4 G0 H0 G H → Dp K G v d → Dd.rt v H
  | .bk δ => ∀ σ G H, RelS K n G0 H0 G H σ δ → Dd.bk σ H
  | .ct δ => ∀ σ G H, RelS K n G0 H0 G H σ δ → Dd.ct σ H
  | .exc c => ∀ σ H, σ.length = n → Same H0 H → E σ (.ref (ca c)) none H
  | .bad => False
def CS (K : PySem.W.Frag) (ca : String → Addr) (E : L2.St → XK) (n : Nat) (t : TS) (g : Es → Fl) : Prop :=
  ∀ (G0 H0 G H : Hp) (σ : L2.St) (δ : Es) (Dd : Ends), RelS K n G0 H0 G H σ δ → GdS K ca E n G0 H0 Dd (g δ) → t Dd σ H
theorem core0 {α β : Type} {rel : Hp → β → α → Prop} {t : L2.St → Hp → (β → Hp → Prop) → Prop} {f : En → R α} (h : CG K ca E rel t f) (r : RelS K n G0 H0 G H σ δ) {Dd : Ends} {k : α → Fl} (g : GdS K ca E n G0 H0 Dd (fR (f (v0 δ)) k))
    {P : β → Hp → Prop} (kk : ∀ a b G1 H1, Ex4 G H G1 H1 → RelS K n G0 H0 G1 H1 σ δ → rel G1 b a → GdS K ca E n G0 H0 Dd (k a) → P b H1) : t σ H P := by
  refine h σ (v0 δ) G H P r.s r.re ?_
  cases hf : f (v0 δ) with
  | ok a =>
    rw [hf] at g
    exact fun b G1 H1 e q => kk a b G1 H1 e (r.grow e) q g
  | exc c =>
    rw [hf] at g
    exact fun H1 e => g σ H1 r.ls (r.e0.h.trans e)
  | bad =>
    rw [hf] at g
    exact g
theorem coreW {α β : Type} {rel : Hp → β → α → Prop} {t : L2.St → Hp → (β → Hp → Prop) → Prop} {f : En → R α} (h : CG K ca E rel t f) (r : RelS K n G0 H0 G H σ δ) {Dd : Ends} {k : α → Fl} (g : GdS K ca E n G0 H0 Dd (fR (f (vw δ)) k))
    {P : β → Hp → Prop} (kk : ∀ a b G1 H1, Ex4 (frzG G H σ δ) H G1 H1 → RelS K n G0 H0 G H1 σ δ → rel G1 b a → GdS K ca E n G0 H0 Dd (k a) → P b H1) : t σ H P := by
  refine h σ (vw δ) (frzG G H σ δ) H P r.sfh r.rw_ ?_
  cases hf : f (vw δ) with
  | ok a =>
    rw [hf] at g
    exact fun b G1 H1 e q => kk a b G1 H1 e (r.growH e.h) q g
  | exc c =>
    rw [hf] at g
    exact fun H1 e => g σ H1 r.ls (r.e0.h.trans e)
  | bad =>
    rw [hf] at g
    exact g
/-! ### data without lists -/
mutual
def lf : D → Bool
  | .list _ => false
  | .tuple ds => lfs ds
  | .dict _ => false
  | _ => true
def lfs : List D → Bool
  | [] => true
  | d :: r => lf d && lfs r
end
mutual
theorem dp_hide {G' H' : Hp} (hG : Same G' H') (ho : ∀ a, Owned σ δ a → ∃ xs, H' a = some (.lst xs)) : ∀ {v : V} {d : D}, Dp K G' v d → lf d = true → Dp K (hidG G' σ δ) v d
  | _, _, .non, _ => .non
  | _, _, .bl b, _ => .bl b
  | _, _, .int i, _ => .int i
  | _, _, .str x, _ => .str x
  | _, _, .lst h r, e => by simp [lf] at e
  | _, _, .tup (a := a) h r, e => by
    refine .tup ?_ (dps_hide hG ho r (by simpa [lf] using e))
    rcases h with (h | ⟨o, h⟩) | h
    · refine .inl (.inl ?_)
      unfold hidG
      rw [if_neg]
      · exact h
      · intro q
        obtain ⟨xs, hx⟩ := ho a q
        rw [hG _ _ h] at hx
        cases hx
    · refine .inl (.inr ⟨o, ?_⟩)
      unfold hidG
      rw [if_neg]
      · exact h
      · intro q
        obtain ⟨xs, hx⟩ := ho a q
        rw [hG _ _ h] at hx
        cases hx
    · exact .inr h
theorem dps_hide {G' H' : Hp} (hG : Same G' H') (ho : ∀ a, Owned σ δ a → ∃ xs, H' a = some (.lst xs)) : ∀ {vs : List V} {ds : List D}, DpAll K G' vs ds → lfs ds = true → DpAll K (hidG G' σ δ) vs ds
  | _, _, .nil, _ => .nil
  | _, _, .cons h r, e => by
    simp only [lfs, Bool.and_eq_true] at e
    exact .cons (dp_hide hG ho h e.1) (dps_hide hG ho r e.2)
end
theorem RelS.hide {G' H' : Hp} (r : RelS K n G0 H0 G H σ δ) (e : Ex4 (frzG G H σ δ) H G' H') : RelS K n G0 H0 (hidG G' σ δ) H' σ δ ∧ ∀ a, Owned σ δ a → ∃ xs, H' a = some (.lst xs) := by
  have own : ∀ a, Owned σ δ a → ∃ xs, H' a = some (.lst xs) := fun a o => let ⟨_, _, xs, h⟩ := r.owned o; ⟨xs, e.h _ _ h⟩
  have sg : Same G (hidG G' σ δ) := fun b o hb => by
    unfold hidG
    rw [if_neg]
    · refine e.g b o ?_
      exact r.sgf b o hb
    · intro q
      rw [(r.owned q).2.1] at hb
      cases hb
  refine ⟨⟨r.ls, r.ld, ⟨r.e0.g.trans sg, fun b o hb => ?_, r.e0.h.trans e.h, fun b hb gb => ?_⟩, fun i d h => ?_, fun i ds h => ?_, r.df⟩, own⟩
  · unfold hidG at hb
    split at hb
    · cases hb
    · exact e.s b o hb
  · unfold hidG
    split
    · rfl
    · exact e.n b (fun z => hb (r.e0.h.free z)) (r.ef.n b hb gb)
  · obtain ⟨v, h1, h2⟩ := r.im i d h
    exact ⟨v, h1, dp_mono sg h2⟩
  · obtain ⟨a, xs, h1, h2, h3, h4, h5⟩ := r.ow i ds h
    refine ⟨a, xs, h1, h2, ?_, e.h _ _ h4, dps_mono sg h5⟩
    unfold hidG
    rw [if_pos ⟨i, ds, h, h1⟩]
end
end HL
end
section
set_option Elab.async false
set_option linter.all false
set_option maxRecDepth 100000
set_option maxHeartbeats 4000000
namespace HL
open PySem PySem.Spec PyProof.Rows L2
section
variable {K : PySem.W.Frag} {ca : String → Addr} {E : L2.St → XK} {n : Nat}
/-! ### blocks -/
def sNil : Es → Fl := fun δ => .nx δ
def sSeq (g1 g2 : Es → Fl) : Es → Fl := fun δ => match g1 δ with
  | .nx δ' => g2 δ'
  | o => o
theorem cs_nil : CS K ca E n tNext sNil := fun G0 H0 G H σ δ Dd r g => g σ G H r
theorem cs_seq {t u : TS} {g1 g2 : Es → Fl} (h1 : CS K ca E n t g1) (h2 : CS K ca E n u g2) : CS K ca E n (tSeq t u) (sSeq g1 g2) := fun G0 H0 G H σ δ Dd r g => by
  refine h1 G0 H0 G H σ δ { Dd with nx := u Dd } r ?_
  unfold sSeq at g
  cases hf : g1 δ with
  | nx δ' => rw [hf] at g; exact fun σ' G' H' r' => h2 G0 H0 G' H' σ' δ' Dd r' g
  | rt d => rw [hf] at g; exact g
  | bk d => rw [hf] at g; exact g
  | ct d => rw [hf] at g; exact g
  | exc d => rw [hf] at g; exact g
  | bad => rw [hf] at g; exact g
/-! ### assignments -/
def sAsg (i : Nat) (f : FE) : Es → Fl := fun δ => fR (f (v0 δ)) fun d => if i < δ.length then .nx (δ.set i (some (.im d))) else .bad
def sAsgR (i : Nat) (f : FE) : Es → Fl := fun δ => fR (f (vw δ)) fun d => if i < δ.length ∧ lf d = true then .nx (δ.set i (some (.im d))) else .bad
theorem cs_asg {te : TE} {f : FE} {i : Nat} (h : CE K ca E te f) : CS K ca E n (tAsg te (gName i)) (sAsg i f) := fun G0 H0 G H σ δ Dd r g =>
  core0 h r g fun d v G1 H1 e r1 hd g1 => by
    split at g1
    · rename_i hi
      exact g1 _ _ _ (r1.set_im (by rw [← r.ld]; exact hi) hd)
    · exact g1.elim
theorem cs_asgR {te : TE} {f : FE} {i : Nat} (h : CE K ca E te f) : CS K ca E n (tAsg te (gName i)) (sAsgR i f) := fun G0 H0 G H σ δ Dd r g =>
  coreW h r g fun d v G1 H1 e r1 hd g1 => by
    split at g1
    · rename_i hi
      obtain ⟨r2, ho⟩ := r.hide e
      exact g1 _ _ _ (r2.set_im (by rw [← r.ld]; exact hi.1) (dp_hide e.s ho hd hi.2))
    · exact g1.elim
/-! ### new lists that will be changed -/
def CF (K : PySem.W.Frag) (ca : String → Addr) (E : L2.St → XK) (t : TE) (f : FA) : Prop :=
  ∀ (σ : L2.St) (ρ : En) (G H : Hp) (Q : VK), Same G H → RelE K G σ ρ → (match f ρ with
    | .ok ds => ∀ p xs G' H', Ex4 G H G' H' → H p = none → G' p = none → H' p = some (.lst xs) → DpAll K G' xs ds → Q (.ref p) H'
    | .exc c => ∀ H', Same H H' → E σ (.ref (ca c)) none H'
    | .bad => False) → t σ H Q
theorem cf_new {G H H1 G1 : Hp} {p : Addr} {xs : List V} (e : Ex4 G H G1 H1) (hp : H1 p = none) : Ex4 G H G1 (upd H1 p (.lst xs)) ∧ H p = none ∧ G1 p = none :=
  ⟨⟨e.g, e.s.trans (same_upd hp), e.h.trans (same_upd hp), e.n⟩, e.h.free hp, e.s.free hp⟩
def aLst (f : FA) : FA := fun ρ => (f ρ).bind fun ds => if ds.length ≤ 1000 then .ok ds else .bad
theorem cf_lst {t : TA} {f : FA} (h : CA K ca E t f) : CF K ca E (tLst t) (aLst f) := fun σ ρ G H Q sg re gg => by
  unfold aLst at gg
  refine h σ ρ G H _ sg re ?_
  cases hf : f ρ with
  | ok ds =>
    rw [hf, R.bind_ok] at gg
    intro vs G1 H1 e rv
    split at gg
    · rename_i hok
      split at hok
      · rename_i hl
        cases hok
        refine ⟨by rw [dps_len rv]; exact sz1000 hl, fun p hp => ?_⟩
        obtain ⟨a, b, c⟩ := cf_new (xs := vs) e hp
        exact gg p vs G1 _ a b c upd_same rv
      · cases hok
    · rename_i hex
      split at hex <;> cases hex
    · exact gg.elim
  | exc c => rw [hf] at gg; exact gg
  | bad => rw [hf] at gg; exact gg
def aLof (f : FA) : FA := fun ρ => (f ρ).bind fun ds => match ds with
  | [.list xs] => .ok xs
  | [.tuple xs] => .ok xs
  | _ => .bad
theorem cf_list {t : TA} {f : FA} (h : CA K ca E t f) : CF K ca E (tCB (fun xs H Q => ∃ p ys, xs = [.ref p] ∧ (SqL K H p ys ∨ SqT K H p ys) ∧ ∀ l, H l = none → Q (.ref l) (upd H l (.lst ys))) t) (aLof f) := fun σ ρ G H Q sg re gg => by
  unfold aLof at gg
  refine h σ ρ G H _ sg re ?_
  cases hf : f ρ with
  | ok ds =>
    rw [hf, R.bind_ok] at gg
    intro vs G1 H1 e rv
    split at gg
    · rename_i hok
      split at hok
      · cases hok
        obtain ⟨v, rfl, hv⟩ := dps1 rv
        obtain ⟨a, xs, rfl, sa, ra⟩ := dp_lst hv
        refine ⟨a, xs, rfl, .inl (e.s.seq sa), fun p hp => ?_⟩
        obtain ⟨a, b, c⟩ := cf_new (xs := xs) e hp
        exact gg p xs G1 _ a b c upd_same ra
      · cases hok
        obtain ⟨v, rfl, hv⟩ := dps1 rv
        obtain ⟨a, xs, rfl, sa, ra⟩ := dp_tup hv
        refine ⟨a, xs, rfl, .inr (sqT_mono e.s sa), fun p hp => ?_⟩
        obtain ⟨a, b, c⟩ := cf_new (xs := xs) e hp
        exact gg p xs G1 _ a b c upd_same ra
      · cases hok
    · rename_i hex
      split at hex <;> cases hex
    · exact gg.elim
  | exc c => rw [hf] at gg; exact gg
  | bad => rw [hf] at gg; exact gg
def aRep (f : FA) (g : FE) : FA := fun ρ => (f ρ).bind fun ds => (g ρ).bind fun k => match k with
  | .int i => if -1000 ≤ i ∧ i ≤ 1000 ∧ ds.length ≤ 1000 then .ok (List.replicate i.toNat ds).flatten else .bad
  | _ => .bad
theorem cf_rep {ta tb : TE} {f : FA} {g : FE} (ha : CF K ca E ta f) (hb : CE K ca E tb g) : CF K ca E (tOp rRep ta tb) (aRep f g) := fun σ ρ G H Q sg re gg => by
  unfold aRep at gg
  refine ha σ ρ G H _ sg re ?_
  cases hf : f ρ with
  | ok ds =>
    rw [hf, R.bind_ok] at gg
    intro p xs G1 H1 e hp gp hl rv
    refine hb σ ρ G1 H1 _ e.s (re.mono e.g) ?_
    cases hg : g ρ with
    | ok k =>
      rw [hg, R.bind_ok] at gg
      intro v G2 H2 e2 rk
      cases k with
      | int i =>
        cases dp_int rk
        simp only at gg
        split at gg
        · rename_i hok
          split at hok
          · rename_i hb3
            cases hok
            refine ⟨p, i, xs, rfl, rfl, e2.h _ _ hl, by omega, by omega, ?_, fun q hq => ?_⟩
            · rw [dps_len rv, sizeLine_eq]
              have h1 : i.toNat ≤ 1000 := by omega
              have := Nat.mul_le_mul hb3.2.2 h1
              omega
            · obtain ⟨a, b, c⟩ := cf_new (xs := (List.replicate i.toNat xs).flatten) (e.trans e2) hq
              exact gg q _ G2 _ a b c upd_same (dps_rep (dps_mono e2.g rv) _)
          · cases hok
        · rename_i hex
          split at hex <;> cases hex
        · exact gg.elim
      | _ => exact gg.elim
    | exc c => rw [hg] at gg; exact fun H' s => gg H' (e.h.trans s)
    | bad => rw [hg] at gg; exact gg.elim
  | exc c => rw [hf] at gg; exact gg
  | bad => rw [hf] at gg; exact gg
def xF (f : FA) : FE := fun ρ => (f ρ).bind fun ds => .ok (.list ds)
theorem ce_cf {t : TE} {f : FA} (h : CF K ca E t f) : CE K ca E t (xF f) := fun σ ρ G H Q sg re gg => by
  unfold xF at gg
  refine h σ ρ G H Q sg re ?_
  cases hf : f ρ with
  | ok ds =>
    rw [hf, R.bind_ok] at gg
    intro p xs G' H' e hp gp hl rv
    refine gg (.ref p) (upd G' p (.lst xs)) H' ⟨e.g.trans (same_upd gp), fun b o hb => ?_, e.h, fun b hb gb => ?_⟩ (.lst (SqL.of upd_same) (dps_mono (same_upd gp) rv))
    · by_cases hbp : b = p
      · subst hbp; rw [upd_same] at hb; rw [hl]; exact hb
      · rw [upd_ne hbp] at hb; exact e.s b o hb
    · rw [upd_ne (fun z => hb (by rw [z]; exact hp))]
      exact e.n b hb gb
  | exc c => rw [hf] at gg; exact gg
  | bad => rw [hf] at gg; exact gg
def sAsgO (i : Nat) (f : FA) : Es → Fl := fun δ => fR (f (v0 δ)) fun ds => if i < δ.length then .nx (δ.set i (some (.ow ds))) else .bad
theorem cs_asgO {te : TE} {f : FA} {i : Nat} (h : CF K ca E te f) : CS K ca E n (tAsg te (gName i)) (sAsgO i f) := fun G0 H0 G H σ δ Dd r g => by
  unfold sAsgO at g
  refine h σ (v0 δ) G H _ r.s r.re ?_
  cases hf : f (v0 δ) with
  | ok ds =>
    rw [hf, fR_ok] at g
    intro p xs G' H' e hp gp hl rv
    split at g
    · rename_i hi
      refine g _ _ _ ((r.grow e).set_ow (by rw [← r.ld]; exact hi) (r.e0.h.free hp) gp hl rv fun o => ?_)
      obtain ⟨_, _, ys, q⟩ := r.owned o
      rw [hp] at q
      cases q
    · exact g.elim
  | exc c => rw [hf] at g; exact fun H1 e => g σ H1 r.ls (r.e0.h.trans e)
  | bad => rw [hf] at g; exact g
/-- two empty lists at once -/
def sParO (i j : Nat) : Es → Fl := fun δ => if i < δ.length ∧ j < δ.length ∧ i ≠ j then .nx ((δ.set i (some (.ow []))).set j (some (.ow []))) else .bad
theorem cs_parO {i j : Nat} : CS K ca E n (tPar i j (tCons (tLst tNil) (tCons (tLst tNil) tNil))) (sParO i j) := fun G0 H0 G H σ δ Dd r g => by
  unfold sParO at g
  split at g
  · rename_i hi
    refine ⟨Nat.zero_le _, fun p hp => ⟨Nat.zero_le _, fun q hq => ?_⟩⟩
    refine ⟨.ref p, .ref q, rfl, ?_⟩
    have hpq : p ≠ q := fun z => by subst z; rw [upd_same] at hq; cases hq
    have hq0 : H q = none := by rw [upd_ne (Ne.symm hpq)] at hq; exact hq
    have e1 : Same H (upd (upd H p (.lst [])) q (.lst [])) := (same_upd hp).trans (same_upd hq)
    have r1 := r.growH e1
    have n1 : ∀ a, H a = none → ¬ Owned σ δ a := fun a ha o => by
      obtain ⟨_, _, ys, z⟩ := r.owned o
      rw [ha] at z
      cases z
    have r2 := r1.set_ow (i := i) (p := p) (xs := []) (ds := []) (by rw [← r.ld]; exact hi.1) (r.e0.h.free hp) (r.s.free hp) (by rw [upd_ne hpq, upd_same]) .nil (n1 p hp)
    refine g _ _ _ (r2.set_ow (i := j) (p := q) (xs := []) (ds := []) (by rw [← r.ld]; exact hi.2.1) (r.e0.h.free hq0) (r.s.free hq0) upd_same .nil ?_)
    rintro ⟨k, ds, h1, h2⟩
    by_cases hik : i = k
    · subst hik
      rw [List.getElem?_set_self (by rw [r.ls, ← r.ld]; exact hi.1)] at h2
      cases h2
      exact hpq rfl
    · rw [List.getElem?_set_ne hik] at h1 h2
      exact n1 q hq0 ⟨k, ds, h1, h2⟩
  · exact g.elim
def sPar (i j : Nat) (f : FA) : Es → Fl := fun δ => fR (f (v0 δ)) fun ds => match ds with
  | [a, b] => if i < δ.length ∧ j < δ.length then .nx ((δ.set i (some (.im a))).set j (some (.im b))) else .bad
  | _ => .bad
theorem cs_par {i j : Nat} {t : TA} {f : FA} (h : CA K ca E t f) : CS K ca E n (tPar i j t) (sPar i j f) := fun G0 H0 G H σ δ Dd r g =>
  core0 h r g fun ds vs G1 H1 e r1 hd g1 => by
    split at g1
    · obtain ⟨u, v, rfl, hu, hv⟩ := dps2 hd
      split at g1
      · rename_i hi
        exact ⟨u, v, rfl, g1 _ _ _ ((r1.set_im (by rw [← r.ld]; exact hi.1) hu).set_im (by rw [← r.ld]; exact hi.2) hv)⟩
      · exact g1.elim
    · exact g1.elim
def sAug (i : Nat) (g : D → D → R D) (f : FE) : Es → Fl := fun δ => fR (xV i (v0 δ)) fun x => fR (f (v0 δ)) fun y => fR (g x y) fun z => if i < δ.length then .nx (δ.set i (some (.im z))) else .bad
theorem cs_aug {i : Nat} {te : TE} {f : FE} {ti : TIp} {g : D → D → R D} (h : CE K ca E te f) (ho : OD K ca ti g) : CS K ca E n (tAug i te ti) (sAug i g f) := fun G0 H0 G H σ δ Dd r gg => by
  unfold sAug at gg
  cases hx : xV i (v0 δ) with
  | ok x =>
    rw [hx, fR_ok] at gg
    have hv : (v0 δ)[i]? = some (some x) := by
      unfold xV at hx
      split at hx
      · rename_i d h1; cases hx; exact h1
      · cases hx
    obtain ⟨v, h1, h2⟩ := r.im i x (v0_at hv)
    refine ⟨v, h1, ?_⟩
    refine core0 h r gg fun y w G1 H1 e r1 hd g1 => ?_
    refine ho (E σ) v w G1 H1 _ x y r1.s (dp_mono e.g h2) hd ?_
    cases hz : g x y with
    | ok z =>
      rw [hz, fR_ok] at g1
      intro u G2 H2 e2 hz2
      split at g1
      · rename_i hi
        exact g1 _ _ _ ((r1.grow e2).set_im (by rw [← r.ld]; exact hi) hz2)
      · exact g1.elim
    | exc c => rw [hz] at g1; exact fun H2 s2 => g1 σ H2 r.ls (r1.e0.h.trans s2)
    | bad => rw [hz] at g1; exact g1
  | exc c =>
    unfold xV at hx
    split at hx <;> cases hx
  | bad => rw [hx] at gg; exact gg.elim
/-! ### lists that change -/
def owAt (δ : Es) (i : Nat) : Option (List D) := match δ[i]? with
  | some (some (.ow ds)) => some ds
  | _ => none
theorem owAt_some {δ : Es} {i : Nat} {ds : List D} (h : owAt δ i = some ds) : δ[i]? = some (some (.ow ds)) := by
  unfold owAt at h
  split at h
  · rename_i e h1; cases h; exact h1
  · cases h
/-- xs.append(e); e may read lists that change -/
def sApp (i : Nat) (f : FE) : Es → Fl := fun δ => match owAt δ i with
  | some ds => fR (f (v0 δ)) fun d => if ds.length < 1000 then .nx (δ.set i (some (.ow (ds ++ [d])))) else .bad
  | none => .bad
theorem app_ty {H : Hp} {a : Addr} {xs : List V} (h : H a = some (.lst xs)) : tyV K "list" (.ref a) H := .inl ⟨rfl, _, SqL.of h⟩
theorem cs_app {i : Nat} {te : TE} {f : FE} (h : CE K ca E te f) : CS K ca E n (tDrop (tBM K "list" rAppend (tVar i) (tCons te tNil))) (sApp i f) := fun G0 H0 G H σ δ Dd r g => by
  unfold sApp at g
  split at g
  · rename_i ds ho
    have ho := owAt_some ho
    obtain ⟨a, xs, h1, h2, h3, h4, h5⟩ := r.ow i ds ho
    refine ⟨.ref a, h1, app_ty h4, ?_⟩
    refine core0 h r g fun d v G1 H1 e r1 hd g1 => ?_
    split at g1
    · rename_i hl
      refine ⟨a, xs, v, rfl, rfl, e.h _ _ h4, by rw [dps_len h5, sizeLine_eq]; omega, ?_⟩
      exact g1 _ _ _ (r1.mut ho h1 (dps_append (dps_mono e.g h5) (.cons hd .nil)))
    · exact g1.elim
  · exact g.elim
/-- xs.append(e), e reads lists that change -/
def sAppR (i : Nat) (f : FE) : Es → Fl := fun δ => match owAt δ i with
  | some ds => fR (f (vw δ)) fun d => if ds.length < 1000 ∧ lf d = true then .nx (δ.set i (some (.ow (ds ++ [d])))) else .bad
  | none => .bad
theorem cs_appR {i : Nat} {te : TE} {f : FE} (h : CE K ca E te f) : CS K ca E n (tDrop (tBM K "list" rAppend (tVar i) (tCons te tNil))) (sAppR i f) := fun G0 H0 G H σ δ Dd r g => by
  unfold sAppR at g
  split at g
  · rename_i ds ho
    have ho := owAt_some ho
    obtain ⟨a, xs, h1, h2, h3, h4, h5⟩ := r.ow i ds ho
    refine ⟨.ref a, h1, app_ty h4, ?_⟩
    refine coreW h r g fun d v G1 H1 e r1 hd g1 => ?_
    split at g1
    · rename_i hl
      obtain ⟨r2, how⟩ := r.hide e
      obtain ⟨a', xs', q1, q2, q3, q4, q5⟩ := r2.ow i ds ho
      rw [h1] at q1
      cases q1
      refine ⟨a, xs', v, rfl, rfl, q4, by rw [dps_len q5, sizeLine_eq]; omega, ?_⟩
      exact g1 _ _ _ (r2.mut ho h1 (dps_append q5 (.cons (dp_hide e.s how hd hl.2) .nil)))
    · exact g1.elim
  · exact g.elim
def sPop (i : Nat) : Es → Fl := fun δ => match owAt δ i with
  | some ds => if 0 < ds.length then .nx (δ.set i (some (.ow ds.dropLast))) else .bad
  | none => .bad
theorem cs_pop {i : Nat} : CS K ca E n (tDrop (tBM0 K "list" rPop (tVar i))) (sPop i) := fun G0 H0 G H σ δ Dd r g => by
  unfold sPop at g
  split at g
  · rename_i ds ho
    have ho := owAt_some ho
    obtain ⟨a, xs, h1, h2, h3, h4, h5⟩ := r.ow i ds ho
    split at g
    · rename_i hl
      have hlx : xs.length - 1 < xs.length := by rw [dps_len h5]; omega
      exact ⟨.ref a, h1, app_ty h4, a, xs, xs[xs.length - 1], rfl, rfl, h4, List.getElem?_eq_getElem hlx, g _ _ _ (r.mut ho h1 (dps_dropLast h5))⟩
    · exact g.elim
  · exact g.elim
/-- xs[k] = e; both may read lists that change -/
def sSet (i : Nat) (fk f : FE) : Es → Fl := fun δ => match owAt δ i with
  | some ds => fR (f (vw δ)) fun d => if lf d = true then fR (fk (vw δ)) fun k => match k with
    | .int j => match ixN ds.length j with
      | some m => .nx (δ.set i (some (.ow (ds.set m d))))
      | none => .bad
    | _ => .bad
    else .bad
  | none => .bad
theorem cs_set {i : Nat} {tk te : TE} {fk f : FE} (hk : CE K ca E tk fk) (h : CE K ca E te f) : CS K ca E n (tAsg te (gSub (tVar i) tk rSetL)) (sSet i fk f) := fun G0 H0 G H σ δ Dd r g => by
  unfold sSet at g
  split at g
  · rename_i ds ho
    have ho := owAt_some ho
    refine coreW h r g fun d v G1 H1 e r1 hd g1 => ?_
    split at g1
    · rename_i hl
      obtain ⟨r2, how⟩ := r.hide e
      have hd2 := dp_hide e.s how hd hl
      obtain ⟨a, xs, h1, h2, h3, h4, h5⟩ := r2.ow i ds ho
      refine ⟨.ref a, h1, ?_⟩
      refine coreW hk r2 g1 fun k w G3 H3 e3 r3 hw g3 => ?_
      cases k with
      | int j =>
        cases dp_int hw
        simp only at g3
        split at g3
        · rename_i m hm
          refine ⟨a, xs, j, m, rfl, rfl, e3.h _ _ h4, by rw [dps_len h5]; exact hm, ?_⟩
          exact g3 _ _ _ (r3.mut ho h1 (dps_set hd2 m h5))
        · exact g3.elim
      | _ => exact g3.elim
    · exact g1.elim
  · exact g.elim
/-- a list is read as it is from here on -/
def sFrz (i : Nat) (g : Es → Fl) : Es → Fl := fun δ => match owAt δ i with
  | some ds => g (δ.set i (some (.im (.list ds))))
  | none => .bad
theorem cs_frz {i : Nat} {t : TS} {g : Es → Fl} (h : CS K ca E n t g) : CS K ca E n t (sFrz i g) := fun G0 H0 G H σ δ Dd r gg => by
  unfold sFrz at gg
  split at gg
  · rename_i ds ho
    obtain ⟨G', _, r'⟩ := r.freeze (owAt_some ho)
    exact h G0 H0 G' H σ _ Dd r' gg
  · exact gg.elim
/-! ### other statements -/
def sExp (f : FE) : Es → Fl := fun δ => fR (f (vw δ)) fun _ => .nx δ
theorem cs_exp {te : TE} {f : FE} (h : CE K ca E te f) : CS K ca E n (tDrop te) (sExp f) := fun G0 H0 G H σ δ Dd r g =>
  coreW h r g fun d v G1 H1 e r1 hd g1 => g1 _ _ _ r1
def sRet (f : FE) : Es → Fl := fun δ => fR (f (vw δ)) fun d => .rt d
theorem cs_ret {te : TE} {f : FE} (h : CE K ca E te f) : CS K ca E n (tRet te) (sRet f) := fun G0 H0 G H σ δ Dd r g =>
  coreW h r g fun d v G1 H1 e r1 hd g1 => g1 _ _ _ (r.ef.trans e) hd
def sIf (f : FT) (g1 g2 : Es → Fl) : Es → Fl := fun δ => fR (f (vw δ)) fun b => if b = true then g1 δ else g2 δ
theorem cs_if {tt : TT} {t u : TS} {f : FT} {g1 g2 : Es → Fl} (h : CT K ca E tt f) (h1 : CS K ca E n t g1) (h2 : CS K ca E n u g2) : CS K ca E n (tIfS tt t u) (sIf f g1 g2) := fun G0 H0 G H σ δ Dd r g =>
  coreW h r g fun b c Gx H1 e r1 hb gg => by
    cases hb
    cases b with
    | true => rw [if_pos rfl] at gg ⊢; exact h1 G0 H0 G H1 σ δ Dd r1 gg
    | false => rw [if_neg Bool.false_ne_true] at gg ⊢; exact h2 G0 H0 G H1 σ δ Dd r1 gg
def sRaise (c : String) : Es → Fl := fun _ => .exc c
theorem cs_raise {c : String} {C : Addr} (hC : C = ca c) : CS K ca E n (fun _ σ H => E σ (.ref C) none H) (sRaise c) := fun G0 H0 G H σ δ Dd r g => by
  subst hC
  exact g σ H r.ls r.e0.h
/-! ### loops -/
def TGs' (K : PySem.W.Frag) (n : Nat) (g : TG) (γ : D → Es → R Es) : Prop := ∀ (x : V) (d : D) (G0 H0 G H : Hp) (σ : L2.St) (δ δ' : Es) (Q : L2.St → Hp → Prop), RelS K n G0 H0 G H σ δ → Dp K G x d → γ d δ = .ok δ' →
  (∀ σ', RelS K n G0 H0 G H σ' δ' → Q σ' H) → g x σ H Q
def hN (i : Nat) : D → Es → R Es := fun d δ => if i < δ.length then .ok (δ.set i (some (.im d))) else .bad
theorem tgs_name {i : Nat} : TGs' K n (gName i) (hN i) := fun x d G0 H0 G H σ δ δ' Q r hd hg q => by
  unfold hN at hg
  split at hg
  · rename_i hi
    cases hg
    exact q _ (r.set_im (by rw [← r.ld]; exact hi) hd)
  · cases hg
def h2 (i j : Nat) : D → Es → R Es
  | .tuple [a, b], δ => if i < δ.length ∧ j < δ.length then .ok ((δ.set i (some (.im a))).set j (some (.im b))) else .bad
  | _, _ => .bad
theorem tgs_pair {i j : Nat} : TGs' K n (gTup K 2 (gCons (gName i) (gCons (gName j) gNil))) (h2 i j) := fun x d G0 H0 G H σ δ δ' Q r hd hg q => by
  unfold h2 at hg
  split at hg
  · split at hg
    · rename_i hi
      cases hg
      obtain ⟨a, xs, rfl, sa, ra⟩ := dp_tup hd
      obtain ⟨u, v, rfl, hu, hv⟩ := dps2 ra
      exact ⟨a, [u, v], rfl, sqT_mono r.s sa, rfl, u, [v], rfl, v, [], rfl, rfl, q _ ((r.set_im (by rw [← r.ld]; exact hi.1) hu).set_im (by rw [← r.ld]; exact hi.2) hv)⟩
    · cases hg
  · cases hg
def forD (γ : D → Es → R Es) (body : Es → Fl) : List D → Es → Fl
  | [], δ => .nx δ
  | x :: xs, δ => fR (γ x δ).nx fun δ1 => match body δ1 with
    | .nx δ2 => forD γ body xs δ2
    | .ct δ2 => forD γ body xs δ2
    | .bk δ2 => .nx δ2
    | .rt d => .rt d
    | .exc c => .exc c
    | .bad => .bad
def sFor (fi : FA) (γ : D → Es → R Es) (body : Es → Fl) : Es → Fl := fun δ => fR (fi (v0 δ)) fun xs => forD γ body xs δ
theorem RelS.base {G0 H0 G1 H1 G H : Hp} {σ σ1 : L2.St} {δ δ1 : Es} (r1 : RelS K n G0 H0 G1 H1 σ1 δ1) (r : RelS K n G1 H0 G H σ δ) : RelS K n G0 H0 G H σ δ :=
  ⟨r.ls, r.ld, ⟨r1.e0.g.trans r.e0.g, r.e0.s, r.e0.h, fun b hb gb => r.e0.n b hb (r1.e0.n b hb gb)⟩, r.im, r.ow, r.df⟩
theorem RelS.rebase {G0 H0 G H : Hp} {σ : L2.St} {δ : Es} (r : RelS K n G0 H0 G H σ δ) : RelS K n G H0 G H σ δ :=
  ⟨r.ls, r.ld, ⟨Same.refl G, r.e0.s, r.e0.h, fun b _ z => z⟩, r.im, r.ow, r.df⟩
theorem cs_for {wi : TI} {g : TG} {tb : TS} {fi : FA} {γ : D → Es → R Es} {body : Es → Fl} (hi : CI K ca E wi fi) (hg : TGs' K n g γ) (hb : CS K ca E n tb body) : CS K ca E n (tFor wi g tb) (sFor fi γ body) := fun G0 H0 G H σ δ Dd r gg =>
  core0 hi r gg fun xs J G1 H1 e r1 yi g1 => by
    refine ⟨fun i m σ' H' => m = xs.length - i ∧ i ≤ xs.length ∧ ∃ (G' : Hp) (δ' : Es), RelS K n G1 H0 G' H' σ' δ' ∧ GdS K ca E n G0 H0 Dd (forD γ body (xs.drop i) δ'), ⟨xs.length, by simp, Nat.zero_le _, G1, δ, r1.rebase, by simpa using g1⟩, ?_⟩
    rintro i m σ' H' ⟨rfl, hil, G', δ', r', g'⟩
    by_cases hlt : i < xs.length
    · right
      have hx : xs[i]? = some xs[i] := List.getElem?_eq_getElem hlt
      rw [List.drop_eq_getElem_cons hlt] at g'
      unfold forD at g'
      obtain ⟨hgo, hyl⟩ := ((yi G' H' r'.e0.g r'.s i).1 _ hx)
      refine ⟨hgo, fun σ2 H2 => i + 1 ≤ xs.length ∧ ∃ (G' : Hp) (δ' : Es), RelS K n G1 H0 G' H2 σ2 δ' ∧ GdS K ca E n G0 H0 Dd (forD γ body (xs.drop (i + 1)) δ'), fun σ2 H2 hN => ⟨xs.length - (i + 1), by omega, rfl, hN.1, hN.2⟩, fun x H3 hy => ?_⟩
      obtain ⟨G3, e3, dx⟩ := hyl x H3 hy
      cases hq : γ xs[i] δ' with
      | ok δ1 =>
        rw [hq] at g'
        have g' : GdS K ca E n G0 H0 Dd (match body δ1 with
          | .nx δ2 => forD γ body (xs.drop (i + 1)) δ2
          | .ct δ2 => forD γ body (xs.drop (i + 1)) δ2
          | .bk δ2 => .nx δ2
          | .rt d => .rt d
          | .exc c => .exc c
          | .bad => .bad) := g'
        refine hg x _ G1 H0 G3 H3 σ' δ' δ1 _ (r'.grow e3) dx hq fun σ2 r2 => ?_
        refine hb G1 H0 G3 H3 σ2 δ1 _ r2 ?_
        cases hbd : body δ1 with
        | nx δ2 => rw [hbd] at g'; exact fun σ4 G4 H4 r4 => ⟨hlt, G4, δ2, r4, g'⟩
        | ct δ2 => rw [hbd] at g'; exact fun σ4 G4 H4 r4 => ⟨hlt, G4, δ2, r4, g'⟩
        | bk δ2 => rw [hbd] at g'; exact fun σ4 G4 H4 r4 => g' σ4 G4 H4 (r1.base r4)
        | rt d => rw [hbd] at g'; exact fun v G4 H4 e4 hd => g' v G4 H4 ⟨r1.e0.g.trans e4.g, e4.s, e4.h, fun b hb gb => e4.n b hb (r1.e0.n b hb gb)⟩ hd
        | exc c => rw [hbd] at g'; exact g'
        | bad => rw [hbd] at g'; exact g'
      | exc c => rw [hq] at g'; exact g'.elim
      | bad => rw [hq] at g'; exact g'.elim
    · left
      refine ⟨(yi G' H' r'.e0.g r'.s i).2 (by omega), ?_⟩
      rw [List.drop_eq_nil_iff.mpr (by omega)] at g'
      exact g' σ' G' H' (r1.base r')
def whD (ft : FT) (body : Es → Fl) : Nat → Es → Fl
  | 0, _ => .bad
  | m + 1, δ => fR (ft (vw δ)) fun b => if b = true then (match body δ with
    | .nx δ2 => whD ft body m δ2
    | .ct δ2 => whD ft body m δ2
    | .bk δ2 => .nx δ2
    | .rt d => .rt d
    | .exc c => .exc c
    | .bad => .bad) else .nx δ
theorem cs_while {tt : TT} {tb : TS} {ft : FT} {body : Es → Fl} (m : Nat) (ht : CT K ca E tt ft) (hb : CS K ca E n tb body) : CS K ca E n (tWhile tt tb) (whD ft body m) := fun G0 H0 G H σ δ Dd r gg => by
  refine ⟨fun m σ' H' => ∃ (G' : Hp) (δ' : Es), RelS K n G0 H0 G' H' σ' δ' ∧ GdS K ca E n G0 H0 Dd (whD ft body m δ'), ⟨m, G, δ, r, gg⟩, ?_⟩
  rintro m σ' H' ⟨G', δ', r', g'⟩
  cases m with
  | zero => exact g'.elim
  | succ m =>
    unfold whD at g'
    refine coreW ht r' g' fun b c Gx H1 e r1 hbb g1 => ?_
    cases hbb
    cases b with
    | false =>
      rw [if_neg Bool.false_ne_true] at g1 ⊢
      exact g1 _ _ _ r1
    | true =>
      rw [if_pos rfl] at g1 ⊢
      refine ⟨fun σ2 H2 => ∃ (G' : Hp) (δ' : Es), RelS K n G0 H0 G' H2 σ2 δ' ∧ GdS K ca E n G0 H0 Dd (whD ft body m δ'), fun σ2 H2 h => ⟨m, Nat.lt_succ_self m, h⟩, ?_⟩
      refine hb G0 H0 G' H1 σ' δ' _ r1 ?_
      cases hbd : body δ' with
      | nx δ2 => rw [hbd] at g1; exact fun σ4 G4 H4 r4 => ⟨G4, δ2, r4, g1⟩
      | ct δ2 => rw [hbd] at g1; exact fun σ4 G4 H4 r4 => ⟨G4, δ2, r4, g1⟩
      | bk δ2 => rw [hbd] at g1; exact fun σ4 G4 H4 r4 => g1 σ4 G4 H4 r4
      | rt d => rw [hbd] at g1; exact g1
      | exc c => rw [hbd] at g1; exact g1
      | bad => rw [hbd] at g1; exact g1
/-! ### a def -/
def runF (k : Nat) (g : Es → Fl) : List D → R D := fun ds => match g (ds.map (fun d => some (.im d)) ++ List.replicate k none) with
  | .rt d => .ok d
  | .nx _ => .ok .none
  | .exc c => .exc c
  | _ => .bad
theorem start_rel {G H : Hp} {N : List Str} {vs : List V} {ds : List D} {k : Nat} (s : Same G H) (h : DpAll K G vs ds) (hN : N.length = vs.length + k) : RelS K N.length G H G H (start N vs) (ds.map (fun d => some (.im d)) ++ List.replicate k none) := by
  have hl := dps_len h
  have lx : ∀ (i : Nat), (ds.map (fun d => some (Sl.im d)) ++ List.replicate k none)[i]? = if i < ds.length then (ds[i]?).map (fun d => some (.im d)) else if i < ds.length + k then some none else none := fun i => by
    by_cases h1 : i < ds.length
    · rw [List.getElem?_append_left (by simpa using h1), if_pos h1, List.getElem?_map]
    · rw [List.getElem?_append_right (by simpa using h1), if_neg h1, List.length_map]
      by_cases h2 : i < ds.length + k
      · rw [if_pos h2, List.getElem?_replicate, if_pos (by omega)]
      · rw [if_neg h2, List.getElem?_replicate, if_neg (by omega)]
  refine ⟨by simp [L2.start, hN], by simp [hN, hl], Ex4.refl s, fun i d hi => ?_, fun i es hi => ?_, fun i j a es fs _ hi => ?_⟩
  · rw [lx] at hi
    split at hi
    · rename_i h1
      rw [Option.map_eq_some_iff] at hi
      obtain ⟨e, he, hh⟩ := hi
      cases hh
      obtain ⟨v, hv, hd⟩ := dps_get h he
      refine ⟨v, ?_, hd⟩
      unfold L2.start
      rw [List.getElem?_append_left (by simp; omega), List.getElem?_map, hv]
      rfl
    · split at hi <;> cases hi
  · rw [lx] at hi
    split at hi
    · rw [Option.map_eq_some_iff] at hi
      obtain ⟨e, he, hh⟩ := hi
      cases hh
    · split at hi <;> cases hi
  · rw [lx] at hi
    split at hi
    · rw [Option.map_eq_some_iff] at hi
      obtain ⟨e, he, hh⟩ := hi
      cases hh
    · split at hi <;> cases hi
theorem run_def {N : List Str} {p k : Nat} {t : TS} {g : Es → Fl} {vs : List V} {H : Hp} {Q : VK} {E : XK} (hN : N.length = p + k) (h : CS K ca (fun _ => E) N.length t g) (sp : spD K ca p (runF k g) vs H Q E) :
    t { nx := fun _ H' => Q .non H', rt := Q } (start N vs) H := by
  obtain ⟨G, ds, s, hl, hd, gd⟩ := sp
  refine h G H G H (start N vs) _ _ (start_rel s hd (by rw [hl]; exact hN)) ?_
  unfold runF at gd
  cases hg : g (ds.map (fun d => some (.im d)) ++ List.replicate k none) with
  | nx δ => rw [hg] at gd; exact fun σ G' H' r => gd .non G' H' r.e0 .non
  | rt d => rw [hg] at gd; exact fun v G' H' e hd => gd v G' H' e hd
  | bk δ => rw [hg] at gd; exact gd.elim
  | ct δ => rw [hg] at gd; exact gd.elim
  | exc c => rw [hg] at gd; exact fun σ H' _ s => gd H' s
  | bad => rw [hg] at gd; exact gd.elim
theorem spD_len {p : Nat} {F : List D → R D} : ∀ vs H Q E, spD K ca p F vs H Q E → vs.length = p := fun _ _ _ _ ⟨_, _, _, h, _⟩ => h
end
end HL
end
section
set_option Elab.async false
set_option linter.all false
set_option maxRecDepth 100000
set_option maxHeartbeats 4000000
namespace HL
open PySem PySem.Spec PyProof.Rows L2
/-! ### tuple * int, any whole number up to 1000 -/
theorem tuple_mul1 (l : Addr) (items : Array Value) (n : Nat) (dd : Option Addr) (sl : Array (Option Value)) (x : Int) (u : Tok) (c0 : (decide (x < -(2 ^ 63)) || decide (x ≥ 2 ^ 63)) = false) (c1 : (items.isEmpty || x == 1) = true) :
    Meets (Builtin.«tuple.__mul__» ⟨[.ref l, .int x u], []⟩) (fun _ R s => s.heap.get? l = some { cls := .type "tuple", dict := dd, data := .seq items n, slots := sl } ∧
      R (.ok (.ret (Value.ref l))) s) :=
  .of_wp fun prog w A R s h => by
    obtain ⟨hp, g, d, tk, os⟩ := s
    obtain ⟨hl, h⟩ := h
    have f1 := AutoSeq1.idx_int
    wp_walk using PySem.AutoSeq1.wpAny_loadPart' hl
    repeat (first
      | (refine wpAny_ite_false (decide_eq_false (by rw [c0]; exact Bool.false_ne_true)) ?_; wp_walk using PySem.AutoSeq1.wpAny_loadPart' hl)
      | (refine wpAny_ite_true (decide_eq_true (by rw [c1])) ?_; wp_walk using PySem.AutoSeq1.wpAny_loadPart' hl))
    exact ⟨_, rfl, h⟩
theorem tuple_mul0 (l : Addr) (items : Array Value) (n : Nat) (dd : Option Addr) (sl : Array (Option Value)) (x : Int) (u : Tok) (c0 : (decide (x < -(2 ^ 63)) || decide (x ≥ 2 ^ 63)) = false) (c1 : (items.isEmpty || x == 1) = false) (c2 : (decide (x ≤ 0) || items.isEmpty) = true) :
    Meets (Builtin.«tuple.__mul__» ⟨[.ref l, .int x u], []⟩) (fun _ R s => s.heap.get? l = some { cls := .type "tuple", dict := dd, data := .seq items n, slots := sl } ∧
      R (.ok (.ret (Value.ref s.heap.objs.size))) { s with heap := s.heap.push { cls := Value.type "tuple", data := Data.seq #[] }, toks := s.toks }) :=
  .of_wp fun prog w A R s h => by
    obtain ⟨hp, g, d, tk, os⟩ := s
    obtain ⟨hl, h⟩ := h
    have f1 := AutoSeq1.idx_int
    wp_walk using PySem.AutoSeq1.wpAny_loadPart' hl
    repeat (first
      | (refine wpAny_ite_false (decide_eq_false (by rw [c0]; exact Bool.false_ne_true)) ?_; wp_walk using PySem.AutoSeq1.wpAny_loadPart' hl)
      | (refine wpAny_ite_false (decide_eq_false (by rw [c1]; exact Bool.false_ne_true)) ?_; wp_walk using PySem.AutoSeq1.wpAny_loadPart' hl)
      | (refine wpAny_ite_true (decide_eq_true (by rw [c2])) ?_; wp_walk using PySem.AutoSeq1.wpAny_loadPart' hl))
    exact ⟨_, rfl, h⟩
def rRepTA (K : PySem.W.Frag) : R2 := fun x y H Q => ∃ l k xs, x = .ref l ∧ y = .int k ∧ SqT K H l xs ∧ -1000 ≤ k ∧ k ≤ 1000 ∧ xs.length ≤ 1000 ∧ ((xs = [] ∨ k = 1) → Q (.ref l) H) ∧ (xs ≠ [] → k ≤ 0 → ∀ p, H p = none → Q (.ref p) (upd H p (.tup []))) ∧
  (xs ≠ [] → 2 ≤ k → ∀ p, H p = none → Q (.ref p) (upd H p (.tup (List.replicate k.toNat xs).flatten)))
theorem op_repTA {X : Cx} : OpR X (binaryOp .Mult) (rRepTA X.K) := by
  intro pins s σ H x y v u Q I rx ry h
  obtain ⟨l, k, xs, rfl, rfl, hT, h0, h1, hz, q1, q0, q2⟩ := h
  by_cases hk : xs ≠ [] ∧ 2 ≤ k
  · exact op_repT pins s σ H _ _ v u Q I rx ry ⟨l, k, xs, rfl, rfl, hT, hk.1, hk.2, h1, hz, q2 hk.1 hk.2⟩
  · cases rx
    obtain ⟨t, rfl⟩ := ry
    obtain ⟨its, r, ⟨⟨cls, dd, data, sl⟩, ho, hc, n, hd⟩, hs⟩ := I.tuple hT
    simp only at hc hd
    subst hc hd
    have hle : its.length = xs.length := r.length.symm
    have c0 : (decide (k < -(2 ^ 63)) || decide (k ≥ 2 ^ 63)) = false := by
      rw [decide_eq_false (by omega), decide_eq_false (by omega)] <;> rfl
    by_cases h1k : xs = [] ∨ k = 1
    · have c1 : (its.toArray.isEmpty || k == 1) = true := by
        rcases h1k with z | z
        · rw [z] at hle
          have : its = [] := List.eq_nil_of_length_eq_zero (by simpa using hle)
          rw [this]; rfl
        · rw [z]; simp
      exact wpAny_binaryOp_repeat_ref (T := "tuple") (U := "int") (by decide) ⟨_, ho, rfl⟩ (fun s' => typeIs_int s' k t) noFill_tuple_mul F.fills_int_mul F.slot_int_rmul repeat_tuple F.slot_int_index.lookup
        (call_meets F.slot_int_rmul (typeIs_int s k t) F.entry_int_rmul (F.args_int_rmul_2 _ _) (int_rmul_tuple k t l its.toArray n dd sl)
          ⟨ho, rfl, ⟨_, ho, rfl⟩, call_meets F.slot_tuple_mul ⟨_, ho, rfl⟩ F.entry_tuple_mul (F.args_tuple_mul_2 _ _) (tuple_mul1 l its.toArray n dd sl k t c0 c1) ⟨ho, ⟨.ref l, H, I, rfl, q1 h1k⟩⟩⟩)
    · have hne : xs ≠ [] := fun z => h1k (.inl z)
      have hk1 : k ≠ 1 := fun z => h1k (.inr z)
      have hk0 : k ≤ 0 := by
        have : ¬ 2 ≤ k := fun z => hk ⟨hne, z⟩
        omega
      have hi : its.toArray.isEmpty = false := by
        cases its with
        | nil => exact absurd (List.eq_nil_of_length_eq_zero (by simpa using hle.symm)) hne
        | cons a b => rfl
      have c1 : (its.toArray.isEmpty || k == 1) = false := by
        rw [hi, Bool.false_or]
        exact beq_eq_false_iff_ne.mpr hk1
      have c2 : (decide (k ≤ 0) || its.toArray.isEmpty) = true := by
        rw [decide_eq_true hk0]; rfl
      refine wpAny_binaryOp_repeat_ref (T := "tuple") (U := "int") (by decide) ⟨_, ho, rfl⟩ (fun s' => typeIs_int s' k t) noFill_tuple_mul F.fills_int_mul F.slot_int_rmul repeat_tuple F.slot_int_index.lookup
        (call_meets F.slot_int_rmul (typeIs_int s k t) F.entry_int_rmul (F.args_int_rmul_2 _ _) (int_rmul_tuple k t l its.toArray n dd sl)
          ⟨ho, rfl, ⟨_, ho, rfl⟩, call_meets F.slot_tuple_mul ⟨_, ho, rfl⟩ F.entry_tuple_mul (F.args_tuple_mul_2 _ _) (tuple_mul0 l its.toArray n dd sl k t c0 c1 c2) ⟨ho, ?_⟩⟩)
      refine ⟨.ref s.heap.objs.size, _, I.laid (t' := s.toks) (o := .tup []) (fun b ob q => Heap.get?_push_of_some _ q) (Nat.le_refl _) ?_, rfl, q0 hne hk0 _ (I.hok.fresh (Nat.le_refl _))⟩
      exact ⟨Nat.zero_le _, [], .nil, IsTup.new _ _⟩
section
variable {K : PySem.W.Frag} {ca : String → Addr} {E : L2.St → XK} {n : Nat}
def dRepT : D → D → R D
  | .tuple xs, .int k => if -1000 ≤ k ∧ k ≤ 1000 ∧ xs.length ≤ 1000 then .ok (.tuple (List.replicate k.toNat xs).flatten) else .bad
  | _, _ => .bad
theorem od_repT : OD K ca (rRepTA K) dRepT := fun E x y G H Q dx dy sg hx hy g => by
  unfold dRepT at g
  split at g
  · rename_i ds k
    split at g
    · rename_i hb
      obtain ⟨a, xs, rfl, sa, ra⟩ := dp_tup hx
      cases dp_int hy
      have hl := dps_len ra
      refine ⟨a, _, xs, rfl, rfl, sqT_mono sg sa, hb.1, hb.2.1, by rw [hl]; exact hb.2.2, fun h1 => ?_, fun hne hk => ?_, fun _ _ => g.newT sg (dps_rep ra _)⟩
      · have e : (List.replicate k.toNat ds).flatten = ds := by
          rcases h1 with h1 | h1
          · subst h1
            cases ra
            simp
          · subst h1
            simp
        rw [e] at g
        exact g.here (b := .ref a) sg (.tup sa ra)
      · have e : k.toNat = 0 := by omega
        rw [e] at g
        exact g.newT sg .nil
    · exact g.elim
  · exact g.elim
def dAddI : D → D → R D
  | .int a, .int b => .ok (.int (a + b))
  | _, _ => .bad
theorem od_addI : OD K ca (rI0 fun i j => .int (i + j)) dAddI := fun E x y G H Q dx dy sg hx hy g => by
  unfold dAddI at g
  split at g
  · cases dp_int hx; cases dp_int hy
    exact ⟨_, _, rfl, rfl, g.here (b := V.int _) sg (.int _)⟩
  · exact g.elim
def dFdivS : D → D → R D
  | .int a, .int b => if 0 < b ∧ b < 1073741824 then .ok (.int (a / b)) else .bad
  | _, _ => .bad
theorem od_fdivS : OD K ca (rI CDiv fun i j => .int (i / j)) dFdivS := fun E x y G H Q dx dy sg hx hy g => by
  unfold dFdivS at g
  split at g
  · cases dp_int hx; cases dp_int hy
    split at g
    · rename_i h
      exact ⟨_, _, rfl, rfl, h, g.here (b := V.int _) sg (.int _)⟩
    · exact g.elim
  · exact g.elim
def sAsgT (f : FE) (γ : D → Es → R Es) : Es → Fl := fun δ => fR (f (v0 δ)) fun d => fR (γ d δ).nx fun δ' => .nx δ'
theorem cs_asgT {te : TE} {f : FE} {g : TG} {γ : D → Es → R Es} (h : CE K ca E te f) (hg : TGs' K n g γ) : CS K ca E n (tAsg te g) (sAsgT f γ) := fun G0 H0 G H σ δ Dd r gg =>
  core0 h r gg fun d v G1 H1 e r1 hd g1 => by
    cases hq : γ d δ with
    | ok δ' =>
      rw [hq] at g1
      exact hg v d G0 H0 G1 H1 σ δ δ' _ r1 hd hq fun σ' r' => g1 σ' _ _ r'
    | exc c => rw [hq] at g1; exact g1.elim
    | bad => rw [hq] at g1; exact g1.elim
end
/-! ### defs -/
def OkD (P : Program) (w : World) (K : PySem.W.Frag) (mg : Str → Option Value) (base : Heap) (ca : String → Addr) (x : Str) (ps : List Str) (k : Nat) (F : List D → R D) : Prop :=
  ∃ f fd, mg x = some (.ref f) ∧ PySem.W.keepIn K (.ref f) = true ∧ Binds K fd ps [] ∧ FnOk P w K mg base (L2.CX P w) k f fd ps (spD K ca ps.length F)
section
variable {X : Cx} {ca : String → Addr} {E : L2.St → XK} {x : Str} {ps : List Str} {k : Nat} {F : List D → R D} {e : Expr} {es : List Expr} {t : TA} {p pos : Pos}
theorem passN (σ : L2.St) : PassesAt (L2.CX X.prog X.w) X σ (E0' σ) := fun _ _ _ _ _ _ h => by
  obtain ⟨_, _, _, _, _, _, _, _, _, _, _, _, z⟩ := h
  exact z.elim
theorem pe_callD {P : Program} {w : World} {K : PySem.W.Frag} {mg : Str → Option Value} {base : Heap} {A : Around} (h : OkD P w K mg base ca x ps k F) (hr : Room k A) (hg : Gl X x) (hx : ∀ σ, PassesAt (L2.CX X.prog X.w) X σ (E σ)) (ha : PA X (e :: es) t)
    (hP : X.prog = P := by rfl) (hw : X.w = w := by rfl) (hK : X.K = K := by rfl) (hmg : X.mg = mg := by rfl) (hbs : X.base = base := by rfl) (hA : X.A = A := by rfl)
    (hdb : (x == ("__debug__" : Str)) = false := by decide) (he : starEach (e :: es) X.env = (false, eval e X.env) :: starEach es X.env := by rfl) (hpl : (backTo pos (starEach es X.env)).any (·.1) = false := by rfl) :
    PE X (.Call (.Name x p) (e :: es) [] pos) (tCallS (spD K ca ps.length F) E t) := by
  subst hP hw hK hmg hbs hA
  obtain ⟨f, fd, hm, hk, hb, hF⟩ := h
  exact pe_callS hF hr hg hm hk hb hx ha hdb he hpl
end
structure ExF (K : PySem.W.Frag) (mg : Str → Option Value) (ca : String → Addr) (c : String) : Prop where
  g : mg (Str.ofString c) = some (.ref (ca c))
  x : PySem.W.excIn K (ca c) [.type "ValueError", .type "Exception", .type "BaseException", .type "object"] "ValueError.__new__" = true
  k : PySem.W.keepIn K (.ref (ca c)) = true
  b : PySem.W.subIn K (.ref (ca c)) (.type "BaseException") = some true
  t : PySem.W.typeIn K (.ref (ca c)) = some (.type "type")
end HL
end
section
set_option Elab.async false
set_option linter.all false
set_option maxRecDepth 100000
set_option maxHeartbeats 4000000
namespace HL
open PySem PySem.Spec PyProof.Rows L2
/-! ### several named clauses -/
def offI (i : Nat) (D : Ends) : Ends := { nx := fun a b => D.nx (a.set i none) b, rt := D.rt, bk := fun a b => D.bk (a.set i none) b, ct := fun a b => D.ct (a.set i none) b }
abbrev Cls := List (Value × (Addr → Value → Option Addr → TS))
def wMA (K : PySem.W.Frag) (i : Nat) (Wo : WX) (D : Ends) : Cls → WX
  | [] => Wo
  | (c, ts) :: r => fun k d σ H => ∃ b, PySem.W.exmOne K k c = some b ∧ (b = true → ∀ a, H a = none → ts a k d (offI i D) (σ.set i (some (.ref a))) H) ∧ (b = false → wMA K i Wo D r k d σ H)
inductive HdsA (X : Cx) (n : Str) : List ExceptHandler → Cls → Prop
  | nil : HdsA X n [] []
  | cons {x : Str} {c : Value} {ts : Addr → Value → Option Addr → TS} {s0 : Stmt} {su : List Stmt} {np p' : Pos} {hs : List ExceptHandler} {l : Cls} (hc : Names X x c)
      (ok : ∀ (a : Addr) (o : Obj) (k : Value) (d : Option Addr) (pn : List (Addr × Obj)), Zc k d o → (∃ vs, o.data = .fields vs) → PSs (X.suite a ((a, o) :: pn)) (s0 :: su) (ts a k d)) (r : HdsA X n hs l) :
      HdsA X n (.ExceptHandler (some (.Name x np)) (some n) (s0 :: su) p' :: hs) ((c, ts) :: l)
section
variable {X : Cx} {n : Str} {i : Nat} {body : List Stmt} {h0 : ExceptHandler} {hds : List ExceptHandler} {l : Cls} {pos : Pos} {tb : WX → TS} {Wo : WX}
theorem ps_tryA (hs : X.stack = X.env :: X.outer) (hf : X.env.frame = some X.env.locals) (hN : X.N.Nodup) (hi : X.N[i]? = some n) (hln : X.env.kindOf n = some .local) (tk : Takes X Wo)
    (hb : ∀ (W : WX) (pn : List (Addr × Obj)) (xe : Value → Shared → Prop), Takes (X.tr pn xe) W → PassesOwn (model X.prog X.w) X.A X.env xe → PSs (X.tr pn xe) body (tb W)) (hh : HdsA X n (h0 :: hds) l) :
    PS X (.Try body (h0 :: hds) [] [] pos) (fun D σ H => tb (wMA X.K i Wo D l) D σ H) := by
  refine ⟨fun pins s σ H D I h => ?_⟩
  have ok := I.ok
  have fr0 : X.A.frames = some (X.env :: X.outer) := ok.frames.trans (by rw [hs])
  have lc : Loc X.env.scope n := .inl hln
  refine wpAny_Try_except (wpAny_mono ((hb (wMA X.K i Wo D l) (X.pn ++ pins) (fun e t1 => wpAny (model X.prog X.w) X.A (noteFrame e X.env) (fun _ t2 => wpAny (model X.prog X.w) X.A (setFlight e none) (fun _ t3 => wpAny (model X.prog X.w) X.A (handleBy e X.env (h0 :: hds)) (SP X pins D) X.xe t3) X.xe t2) X.xe t1)
    (fun u s' xx => ?_) PassesOwn.looking).run [] s σ H D (I.toTry _) h) (fun f t1 sp => ?_) (fun e t1 he => he))
  · obtain ⟨a, B, sI, pq, τ, G, k, d, rfl, J', nb, up, sky, na, os, ag, w⟩ := xx
    have J : Inv X pins τ G sI := J'.ofTry ok
    have sky : Sky B (X.env :: X.outer) a (Zc k d) X.env.locals s'.heap := hs ▸ sky
    show wpAny (model X.prog X.w) X.A (noteFrame (.ref a) X.env) _ _ _
    refine Sky.land Zc.steady fr0 hf sky fun g3 fl3 up3 => ?_
    have J3 : Inv X pins τ G { s' with heap := g3 } := J.landed nb fl3.1 (up.trans up3) os ag
    obtain ⟨o3, v3, he3, hz3, hd3⟩ := fl3.there
    have nfr : a ∉ frs (X.env :: X.outer) := fun hm => by
      obtain ⟨_, o', e', hnf⟩ := fl3.2.2.1.mem hm
      cases he3.symm.trans e'
      exact hnf _ hd3
    have nL : a ≠ X.env.locals := fun z => nfr (List.mem_filterMap.mpr ⟨X.env, List.mem_cons_self, hf.trans (by rw [z])⟩)
    have nF : a ∉ X.fs := fun hm => by
      obtain ⟨e, he, q⟩ := List.mem_filterMap.mp hm
      exact nfr (List.mem_filterMap.mpr ⟨e, List.mem_cons_of_mem _ he, q⟩)
    have S3 := J3.suite he3 hd3 na nL nF
    have go : ∀ {hs' : List ExceptHandler} {l' : Cls}, HdsA X n hs' l' → wMA X.K i Wo D l' k d τ G → wpAny (model X.prog X.w) X.A (handleBy (.ref a) X.env hs') (SP X pins D) X.xe { s' with heap := g3 } := by
      intro hs' l' hk
      induction hk with
      | nil =>
        intro w
        refine wpAny_handleBy_nil ?_
        obtain ⟨k1, k2, k3, oe, vs, T, oT, tt, he, hz, hd, h1, hr⟩ := id fl3
        unfold PySem.passOn
        refine wpAny_bind (wpAny_field he hd h1 ?_)
        rw [if_neg (show ¬ ((Value.ref T == Value.none) = true) by simp)]
        have fin : wpAny (model X.prog X.w) X.A (setFlight (.ref a) X.env.frame) (fun _ t4 => wpAny (model X.prog X.w) X.A (throw (.ref a) : Sem Flow) (SP X pins D) X.xe t4) X.xe { s' with heap := g3 } := by
          rw [hf]
          exact HandSPX.setFlight_upZ fl3 fun g4 hh4 up4 => wpAny_throw (tk _ _ ⟨a, B, sI, pins, τ, G, k, d, rfl, J, nb, (up.trans up3).trans up4, .inr (.inr (by rw [hs]; exact hh4)), na, os, ag, w⟩)
        first
          | exact wpAny_bind (wpAny_pure (wpAny_bind fin))
          | exact wpAny_bind fin
      | @cons x c ts s0 su np p' hs2 l2 hc hsu r ih =>
        intro w
        obtain ⟨b, hb1, hyes, hno⟩ := w
        refine wpAny_handleBy_cons (codeAny_handlers_test ?_) (by intro q; cases q)
        have LT : PySem.W.Looks (model X.prog X.w) g3 (typeOf (.ref a)) k := fun A Q E t kk q => wpAny_typeOf_ref (kk _ _ he3) (by rw [hz3.1]; exact q)
        have LM := PySem.W.exm_one (M := model X.prog X.w) (J3.kIn) LT hb1
        have test : ∀ {Q : Value → Shared → Prop} {E : Value → Shared → Prop}, Q c { s' with heap := g3 } → wpAny (model X.prog X.w) (X.A.mark (some (.ref a))) (eval (.Name x np) X.env) Q E { s' with heap := g3 } := fun {Q E} q => by
          obtain ⟨hg, hdbg, hm | ⟨hm, hv, hnn⟩⟩ := hc
          · exact ld_glob (X := X.suite a ((a, o3) :: (X.pn ++ pins))) S3 hg hm q hdbg
          · exact ld_blt (X := X.suite a ((a, o3) :: (X.pn ++ pins))) S3 hg hm hv q hnn hdbg
        refine test (LM.here ?_)
        cases b with
        | false =>
          show wpAny _ X.A (handleBy (.ref a) X.env hs2) _ _ _
          exact ih (hno rfl)
        | true =>
          refine codeAny_handlers_suite_as (HandSPX.lands_againZ fl3 fun g4 fl4 up4 => ?_)
          have J4 : Inv X pins τ G { s' with heap := g4 } := J.landed nb fl4.1 ((up.trans up3).trans up4) os ag
          obtain ⟨o4, v4, he4, hz4, hd4⟩ := fl4.there
          have S4 := J4.suite he4 hd4 na nL nF
          refine store_ok (X := X.suite a ((a, o4) :: (X.pn ++ pins))) (v := .ref a) S4 hN hi lc rfl (fun t5 S5 => ?_) (.inr hln)
          refine wpAny_mono ((hsu a o4 k d (X.pn ++ pins) hz4 ⟨_, hd4⟩).run [] t5 _ G _ S5 (hyes rfl a na)) (fun f t6 sp => ?_) (fun _ _ z => False.elim z)
          have done : ∀ {τ6 : L2.St} {G6 : Hp} {Q : Shared → Prop}, Inv (X.suite a ((a, o4) :: (X.pn ++ pins))) [] τ6 G6 t6 → (∀ t7, Inv X pins (τ6.set i none) G6 t7 → Q t7) → wpAny (model X.prog X.w) X.A (do bindName X.env n .none; unbindBehindTheSuite X.env n p') (fun _ t7 => Q t7) X.xe t6 :=
            fun {τ6 G6 Q} S6 hq => gone_ok (S6.unsuite ok) hN hi hln hq
          cases f with
          | next => obtain ⟨τ6, G6, S6, q6⟩ := sp; exact done S6 fun t7 J7 => ⟨_, _, J7, q6⟩
          | brk => obtain ⟨τ6, G6, S6, q6⟩ := sp; exact done S6 fun t7 J7 => ⟨_, _, J7, q6⟩
          | cont => obtain ⟨τ6, G6, S6, q6⟩ := sp; exact done S6 fun t7 J7 => ⟨_, _, J7, q6⟩
          | ret u => obtain ⟨v6, τ6, G6, S6, r6, q6⟩ := sp; exact done S6 fun t7 J7 => ⟨_, _, _, J7, r6, q6⟩
    exact go hh w
  · cases f with
    | next => obtain ⟨τ, G, J', q⟩ := sp; exact wpAny_execs_nil ⟨τ, G, J'.ofTry ok, q⟩
    | brk => obtain ⟨τ, G, J', q⟩ := sp; exact ⟨τ, G, J'.ofTry ok, q⟩
    | cont => obtain ⟨τ, G, J', q⟩ := sp; exact ⟨τ, G, J'.ofTry ok, q⟩
    | ret u => obtain ⟨v, τ, G, J', r, q⟩ := sp; exact ⟨v, τ, G, J'.ofTry ok, r, q⟩
end
/-! ### the suite: return x if isinstance(e, A) and not isinstance(e, B) else y -/
def subX (c d : String) : Bool := c == d || d == "EstimateError"
def tIsT (K : PySem.W.Frag) (C a : Addr) (i : Nat) (B : Addr) : TT := fun σ H Q => tCB (rIsE K C a) (tCons (tVar i) (tCons (tC (.ref B)) tNil)) σ H fun x H' => ∃ k, TruV K x H' k ∧ Q k H'
def tSu (K : PySem.W.Frag) (C a : Addr) (i : Nat) (A B : Addr) (x y : Str) : TS := tRet (tIf (tAnd (tIsT K C a i A) (tNot (tIsT K C a i B))) (tC (.str x)) (tC (.str y)))
def tCl (K : PySem.W.Frag) (i : Nat) (A B : Addr) (x y : Str) : Addr → Value → Option Addr → TS := fun a k d Dd σ H => ∃ C, k = .ref C ∧ d = none ∧ ExcC K C ∧ tSu K C a i A B x y Dd σ H
theorem pss_cl {X : Cx} {b : List Stmt} {K : PySem.W.Frag} {i : Nat} {A B : Addr} {x y : Str} {a : Addr} {k : Value} {d : Option Addr} (h : ∀ C, k = .ref C → d = none → ExcC K C → PSs X b (tSu K C a i A B x y)) : PSs X b (tCl K i A B x y a k d) :=
  ⟨fun pins s σ H D I ⟨C, h1, h2, h3, q⟩ => (h C h1 h2 h3).run pins s σ H D I q⟩
structure Clause where
  c : String
  A : String
  B : String
  x : Str
  y : Str
def hdl : List Clause → String → Fl
  | [], c => .exc c
  | q :: r, c => if subX c q.c = true then .rt (.str (if (subX c q.A && !subX c q.B) = true then q.x else q.y)) else hdl r c
def sTry (Cr : List String) (g : Es → Fl) (cl : List Clause) : Es → Fl := fun δ => match g δ with
  | .exc c => if c ∈ Cr then hdl cl c else .bad
  | o => o
structure XF (K : PySem.W.Frag) (ca : String → Addr) (Cr Ct : List String) : Prop where
  c : ∀ c ∈ Cr, ExcC K (ca c)
  e : ∀ c ∈ Cr, ∀ d ∈ Ct, PySem.W.exmOne K (.ref (ca c)) (.ref (ca d)) = some (subX c d)
  k : ∀ c ∈ Cr, ∀ d ∈ Ct, PySem.W.kitOne K (.ref (ca c)) (.ref (ca d)) = some (subX c d)
def clsOf (K : PySem.W.Frag) (ca : String → Addr) (i : Nat) (cl : List Clause) : Cls := cl.map fun q => (.ref (ca q.c), tCl K i (ca q.A) (ca q.B) q.x q.y)
section
variable {K : PySem.W.Frag} {ca : String → Addr} {E : L2.St → XK} {n : Nat}
def CZ (K : PySem.W.Frag) (ca : String → Addr) (E : L2.St → XK) (n : Nat) (t : TS) (g : Es → Fl) : Prop :=
  ∀ (G0 H0 G H : Hp) (σ : L2.St) (δ : Es) (Dd : Ends), Same G0 H0 → RelS K n G0 H0 G H σ δ → GdS K ca E n G0 H0 Dd (g δ) → t Dd σ H
theorem cz_of {t : TS} {g : Es → Fl} (h : CS K ca E n t g) : CZ K ca E n t g := fun G0 H0 G H σ δ Dd _ r gg => h G0 H0 G H σ δ Dd r gg
theorem tIsT_ok {C a B : Addr} {i : Nat} {b : Bool} {σ : L2.St} {H : Hp} {Q : Bool → Hp → Prop} (h1 : σ[i]? = some (some (.ref a))) (h2 : PySem.W.kitOne K (.ref C) (.ref B) = some b) (q : Q b H) : tIsT K C a i B σ H Q :=
  ⟨.ref a, h1, .ref B, .ref B, b, rfl, fun u hu => hu, h2, b, rfl, q⟩
theorem cz_try {Cr Ct : List String} {cl : List Clause} {i : Nat} {tb : WX → TS} {g : Es → Fl} (xf : XF K ca Cr Ct) (hct : ∀ q ∈ cl, q.c ∈ Ct ∧ q.A ∈ Ct ∧ q.B ∈ Ct) (hi : i < n)
    (hb : ∀ W : WX, CS K ca (fun σ c d H => W c d σ H) n (tb W) g) : CZ K ca E n (fun D σ H => tb (wMA K i (fun c d σ H => E σ c d H) D (clsOf K ca i cl)) D σ H) (sTry Cr g cl) := fun G0 H0 G H σ δ Dd sG r gg => by
  refine hb _ G0 H0 G H σ δ Dd r ?_
  unfold sTry at gg
  cases hg : g δ with
  | nx δ => rw [hg] at gg; exact gg
  | rt d => rw [hg] at gg; exact gg
  | bk δ => rw [hg] at gg; exact gg
  | ct δ => rw [hg] at gg; exact gg
  | bad => rw [hg] at gg; exact gg
  | exc c =>
    rw [hg] at gg
    have g2 : GdS K ca E n G0 H0 Dd (if c ∈ Cr then hdl cl c else .bad) := gg
    clear gg
    by_cases hc : c ∈ Cr
    · rw [if_pos hc] at g2
      intro σ' H' hl sH
      show wMA K i _ Dd (clsOf K ca i cl) (.ref (ca c)) none σ' H'
      clear hg hb
      induction cl with
      | nil => exact g2 σ' H' hl sH
      | cons q r ih =>
        obtain ⟨q1, q2, q3⟩ := hct q List.mem_cons_self
        refine ⟨subX c q.c, xf.e c hc _ q1, fun hy a ha => ⟨ca c, rfl, rfl, xf.c c hc, ?_⟩, fun hn => ih (fun p hp => hct p (List.mem_cons_of_mem _ hp)) ?_⟩
        · have hs : (σ'.set i (some (.ref a)))[i]? = some (some (V.ref a)) := List.getElem?_set_self (by rw [hl]; exact hi)
          have gg : GdS K ca E n G0 H0 Dd (.rt (.str (if (subX c q.A && !subX c q.B) = true then q.x else q.y))) := by
            rw [hdl, if_pos hy] at g2
            exact g2
          have fin : Dd.rt (.str (if (subX c q.A && !subX c q.B) = true then q.x else q.y)) H' := gg (.str _) G0 H' ⟨Same.refl G0, sG.trans sH, sH, fun _ _ z => z⟩ (.str _)
          refine tIsT_ok hs (xf.k c hc _ q2) ?_
          cases hA : subX c q.A with
          | false =>
            rw [hA] at fin
            exact fin
          | true =>
            rw [if_pos rfl]
            refine tIsT_ok hs (xf.k c hc _ q3) ?_
            rw [hA] at fin
            cases hB : subX c q.B with
            | false => rw [hB] at fin; exact fin
            | true => rw [hB] at fin; exact fin
        · rw [hdl, hn, if_neg Bool.false_ne_true] at g2
          exact g2
    · rw [if_neg hc] at g2
      exact g2.elim
theorem cz_seq {t u : TS} {g1 g2 : Es → Fl} (h1 : CZ K ca E n t g1) (h2 : CS K ca E n u g2) : CZ K ca E n (tSeq t u) (sSeq g1 g2) := fun G0 H0 G H σ δ Dd sG r g => by
  refine h1 G0 H0 G H σ δ { Dd with nx := u Dd } sG r ?_
  unfold sSeq at g
  cases hf : g1 δ with
  | nx δ' => rw [hf] at g; exact fun σ' G' H' r' => h2 G0 H0 G' H' σ' δ' Dd r' g
  | rt d => rw [hf] at g; exact g
  | bk d => rw [hf] at g; exact g
  | ct d => rw [hf] at g; exact g
  | exc d => rw [hf] at g; exact g
  | bad => rw [hf] at g; exact g
theorem run_defZ {N : List Str} {p k : Nat} {t : TS} {g : Es → Fl} {vs : List V} {H : Hp} {Q : VK} {E : XK} (hN : N.length = p + k) (h : CZ K ca (fun _ => E) N.length t g) (sp : spD K ca p (runF k g) vs H Q E) :
    t { nx := fun _ H' => Q .non H', rt := Q } (start N vs) H := by
  obtain ⟨G, ds, s, hl, hd, gd⟩ := sp
  refine h G H G H (start N vs) _ _ s (start_rel s hd (by rw [hl]; exact hN)) ?_
  unfold runF at gd
  cases hg : g (ds.map (fun d => some (.im d)) ++ List.replicate k none) with
  | nx δ => rw [hg] at gd; exact fun σ G' H' r => gd .non G' H' r.e0 .non
  | rt d => rw [hg] at gd; exact fun v G' H' e hd => gd v G' H' e hd
  | bk δ => rw [hg] at gd; exact gd.elim
  | ct δ => rw [hg] at gd; exact gd.elim
  | exc c => rw [hg] at gd; exact fun σ H' _ s => gd H' s
  | bad => rw [hg] at gd; exact gd.elim
end
end HL
namespace HL
theorem allN {α : Type} {p : α → Prop} : ∀ x ∈ ([] : List α), p x := fun x h => nomatch h
theorem allC {α : Type} {p : α → Prop} {a : α} {l : List α} (h : p a) (r : ∀ x ∈ l, p x) : ∀ x ∈ a :: l, p x := fun x hx => by
  rcases List.mem_cons.mp hx with e | e
  · exact e ▸ h
  · exact r x e
end HL
end
section
set_option Elab.async false
set_option linter.all false
set_option maxRecDepth 100000
set_option maxHeartbeats 4000000
namespace HL
open PySem PySem.Spec PyProof.Rows L2
section
variable {X : Cx} {nm : Str} {i : Nat} {body : List Stmt} {h0 : ExceptHandler} {hds : List ExceptHandler} {pos : Pos} {tb : WX → TS}
variable {ca : String → Addr} {E : L2.St → XK} {n : Nat}
/-- a try statement with both its sides -/
theorem def_try {Cr Ct : List String} {cl : List Clause} {g : Es → Fl} (hs : X.stack = X.env :: X.outer) (hf : X.env.frame = some X.env.locals) (hN : X.N.Nodup) (hi : X.N[i]? = some nm) (hln : X.env.kindOf nm = some .local) (tk : Takes X (fun c d σ H => E σ c d H))
    (hb : ∀ (W : WX) (pn : List (Addr × Obj)) (xe : Value → Shared → Prop), Takes (X.tr pn xe) W → PassesOwn (model X.prog X.w) X.A X.env xe → PSs (X.tr pn xe) body (tb W))
    (hc : ∀ W : WX, CS X.K ca (fun σ c d H => W c d σ H) n (tb W) g)
    (hh : HdsA X nm (h0 :: hds) (clsOf X.K ca i cl)) (xf : XF X.K ca Cr Ct) (hct : ∀ q ∈ cl, q.c ∈ Ct ∧ q.A ∈ Ct ∧ q.B ∈ Ct) (hin : i < n) :
    ∃ t, PS X (.Try body (h0 :: hds) [] [] pos) t ∧ CZ X.K ca E n t (sTry Cr g cl) :=
  ⟨_, ps_tryA hs hf hN hi hln tk hb hh, cz_try xf hct hin hc⟩
theorem ex_one {s : Stmt} {g : Es → Fl} (h : ∃ t, PS X s t ∧ CZ X.K ca E n t g) : ∃ t, PSs X [s] t ∧ CZ X.K ca E n t g :=
  let ⟨t, a, b⟩ := h
  ⟨t, pss_one a, b⟩
theorem ex_cons {s : Stmt} {rest : List Stmt} {g1 g2 : Es → Fl} {u : TS} (h : ∃ t, PS X s t ∧ CZ X.K ca E n t g1) (h2 : PSs X rest u) (c2 : CS X.K ca E n u g2) : ∃ t, PSs X (s :: rest) t ∧ CZ X.K ca E n t (sSeq g1 g2) :=
  let ⟨t, a, b⟩ := h
  ⟨_, pss_cons a h2, cz_seq b c2⟩
theorem fin_try {N : List Str} {p k : Nat} {b : List Stmt} {g : Es → Fl} {vs : List V} {H : Hp} {Q : VK} {E : XK} (hN : N.length = p + k) (h : ∃ t, PSs X b t ∧ CZ X.K ca (fun _ => E) N.length t g) (sp : spD X.K ca p (runF k g) vs H Q E) :
    ∃ t, PSs X b t ∧ t { nx := fun _ H' => Q .non H', rt := Q } (start N vs) H :=
  let ⟨t, a, c⟩ := h
  ⟨t, a, run_defZ hN c sp⟩
end
theorem kit_refs {K : PySem.W.Frag} {C B : Addr} {b : Bool} (hcc : PySem.W.subIn K (.ref C) (.ref C) = some true) (hdct : PySem.W.hasDictIn K B = true) (ht : PySem.W.typeIn K (.ref B) = some (.type "type")) (h : PySem.W.subIn K (.ref C) (.ref B) = some b) : PySem.W.kitOne K (.ref C) (.ref B) = some b := by
  unfold PySem.W.kitOne
  by_cases e : C = B
  · subst e
    rw [hcc] at h
    rw [if_pos (by simp)]
    exact h
  · rw [if_neg (by simpa using e)]
    unfold PySem.W.hasDictIn at hdct
    cases hc : PySem.W.clsIn K B with
    | none => rw [hc] at hdct; cases hdct
    | some cd =>
      have e2 : ((PySem.W.clsIn K B).isSome && PySem.W.typeIn K (.ref B) == some (.type "type")) = true := by rw [hc, ht] <;> rfl
      show (if ((PySem.W.clsIn K B).isSome && PySem.W.typeIn K (.ref B) == some (.type "type")) = true then PySem.W.subIn K (.ref C) (.ref B) else none) = some b
      rw [if_pos e2]
      exact h
end HL
end
section
set_option linter.all false
set_option maxRecDepth 100000
namespace HM
open PySem L2 HL
def g_in_range : Es → Fl :=
  (sRet (xAnd (x1 (dIsi "int") (xV 0)) (xAnd (xNot (x1 (dIsi "bool") (xV 0))) (xCh dLe dLe (xV 1) (xV 0) (xV 2)))))
def m_in_range : List D → R D := runF 0 g_in_range
def g_greatest_divisor : Es → Fl :=
  (sSeq (whD (yTru (xV 1)) (sPar 0 1 (aC (xV 1) (aC (x2 dMod (xV 0) (xV 1)) aN))) 20000)
  (sRet (xV 0)))
def m_greatest_divisor : List D → R D := runF 0 g_greatest_divisor
def g_reduced : Es → Fl :=
  (sSeq (sAsg 2 (xCall 2 m_greatest_divisor (aC (xA dAbs (aC (xV 0) aN)) (aC (xV 1) aN))))
  (sRet (xA dTup (aC (x2 dFdiv (xV 0) (xV 2)) (aC (x2 dFdiv (xV 1) (xV 2)) aN)))))
def m_reduced : List D → R D := runF 1 g_reduced
def g_is_fraction : Es → Fl :=
  (sSeq (sIf (yOr (yNot (yTru (x1 (dIsi "tuple") (xV 0)))) (yOr (yBl (x2 dNe (xA dLen (aC (xV 0) aN)) (xC (.int 2)))) (yNot (yTru (xCall 3 m_in_range (aC (x2 dIx (xV 0) (xC (.int 0))) (aC (x1 dNeg (xC (.int 99999))) (aC (xC (.int 99999)) aN)))))))) (sRet (xC (.bool false))) sNil)
  (sRet (xAnd (xCall 3 m_in_range (aC (x2 dIx (xV 0) (xC (.int 1))) (aC (xC (.int 1)) (aC (xC (.int 99999)) aN)))) (x2 dEq (xCall 2 m_greatest_divisor (aC (xA dAbs (aC (x2 dIx (xV 0) (xC (.int 0))) aN)) (aC (x2 dIx (xV 0) (xC (.int 1))) aN))) (xC (.int 1))))))
def m_is_fraction : List D → R D := runF 0 g_is_fraction
def g_plus : Es → Fl :=
  (sRet (xCall 2 m_reduced (aC (x2 dAddA (x2 dMul (x2 dIx (xV 0) (xC (.int 0))) (x2 dIx (xV 1) (xC (.int 1)))) (x2 dMul (x2 dIx (xV 1) (xC (.int 0))) (x2 dIx (xV 0) (xC (.int 1))))) (aC (x2 dMul (x2 dIx (xV 0) (xC (.int 1))) (x2 dIx (xV 1) (xC (.int 1)))) aN))))
def m_plus : List D → R D := runF 0 g_plus
def g_times : Es → Fl :=
  (sRet (xCall 2 m_reduced (aC (x2 dMul (x2 dIx (xV 0) (xC (.int 0))) (x2 dIx (xV 1) (xC (.int 0)))) (aC (x2 dMul (x2 dIx (xV 0) (xC (.int 1))) (x2 dIx (xV 1) (xC (.int 1)))) aN))))
def m_times : List D → R D := runF 0 g_times
def g_trimmed : Es → Fl :=
  (sSeq (sAsgO 1 (aLof (aC (xV 0) aN)))
  (sSeq (whD (yAnd (yTru (xV 1)) (yBl (x2 dEq (x2 dIx (x2 dIx (xV 1) (x1 dNeg (xC (.int 1)))) (xC (.int 0))) (xC (.int 0))))) (sPop 1) 1200)
  (sRet (xA dTupOf (aC (xV 1) aN)))))
def m_trimmed : List D → R D := runF 1 g_trimmed
def g_sum_of : Es → Fl :=
  (sSeq (sAsgO 2 (aLst aN))
  (sSeq (sFor (iA dR1 (aC (xA dMax (aC (xA dLen (aC (xV 0) aN)) (aC (xA dLen (aC (xV 1) aN)) aN))) aN)) (hN 3) (sSeq (sAsg 4 (xIf (yBl (x2 dLt (xV 3) (xA dLen (aC (xV 0) aN)))) (x2 dIx (xV 0) (xV 3)) (xA dTup (aC (xC (.int 0)) (aC (xC (.int 1)) aN)))))
  (sSeq (sAsg 5 (xIf (yBl (x2 dLt (xV 3) (xA dLen (aC (xV 1) aN)))) (x2 dIx (xV 1) (xV 3)) (xA dTup (aC (xC (.int 0)) (aC (xC (.int 1)) aN)))))
  (sApp 2 (xCall 2 m_plus (aC (xV 4) (aC (xV 5) aN)))))))
  (sRet (xCall 1 m_trimmed (aC (xV 2) aN)))))
def m_sum_of : List D → R D := runF 4 g_sum_of
def g_multiple_of : Es → Fl :=
  (sRet (xCall 1 m_trimmed (aC (xLc (iSeq (xV 1)) (gN 2) (fun _ => .ok true) (xCall 2 m_times (aC (xV 0) (aC (xV 2) aN))) [2]) aN)))
def m_multiple_of : List D → R D := runF 1 g_multiple_of
def g_product_of : Es → Fl :=
  (sSeq (sAsgO 2 (aRep (aLst (aC (xA dTup (aC (xC (.int 0)) (aC (xC (.int 1)) aN))) aN)) (x2 dAddA (xA dLen (aC (xV 0) aN)) (xA dLen (aC (xV 1) aN)))))
  (sSeq (sFor (iA dEnum (aC (xV 0) aN)) (h2 3 4) (sFor (iA dEnum (aC (xV 1) aN)) (h2 5 6) (sSet 2 (x2 dAddA (xV 3) (xV 5)) (xCall 2 m_plus (aC (x2 dIx (xV 2) (x2 dAddA (xV 3) (xV 5))) (aC (xCall 2 m_times (aC (xV 4) (aC (xV 6) aN))) aN))))))
  (sRet (xCall 1 m_trimmed (aC (xV 2) aN)))))
def m_product_of : List D → R D := runF 5 g_product_of
def g_value_at : Es → Fl :=
  (sSeq (sAsg 2 (xA dTup (aC (xC (.int 0)) (aC (xC (.int 1)) aN))))
  (sSeq (sFor (iSeq (x1 dRev (xV 0))) (hN 3) (sAsg 2 (xCall 2 m_plus (aC (xCall 2 m_times (aC (xV 2) (aC (xV 1) aN))) (aC (xV 3) aN)))))
  (sRet (xV 2))))
def m_value_at : List D → R D := runF 2 g_value_at
def g_power_of : Es → Fl :=
  (sSeq (sAsg 2 (xA dTup (aC (xA dTup (aC (xC (.int 1)) (aC (xC (.int 1)) aN))) aN)))
  (sSeq (sFor (iA dR1 (aC (xV 1) aN)) (hN 3) (sAsg 2 (xCall 2 m_product_of (aC (xV 2) (aC (xV 0) aN)))))
  (sRet (xV 2))))
def m_power_of : List D → R D := runF 2 g_power_of
def g_choices : Es → Fl :=
  (sSeq (sAsg 2 (xC (.int 1)))
  (sSeq (sFor (iA dR1 (aC (xV 1) aN)) (hN 3) (sAsg 2 (x2 dFdiv (x2 dMul (xV 2) (x2 dSub (xV 0) (xV 3))) (x2 dAddA (xV 3) (xC (.int 1))))))
  (sRet (xV 2))))
def m_choices : List D → R D := runF 2 g_choices
def g_chance_of : Es → Fl :=
  (sSeq (sAsg 2 (xCall 2 m_power_of (aC (xA dTup (aC (xA dTup (aC (xC (.int 0)) (aC (xC (.int 1)) aN))) (aC (xA dTup (aC (xC (.int 1)) (aC (xC (.int 1)) aN))) aN))) (aC (xV 1) aN))))
  (sSeq (sAsg 3 (xCall 2 m_power_of (aC (xA dTup (aC (xA dTup (aC (xC (.int 1)) (aC (xC (.int 1)) aN))) (aC (xA dTup (aC (x1 dNeg (xC (.int 1))) (aC (xC (.int 1)) aN))) aN))) (aC (x2 dSub (xV 0) (xV 1)) aN))))
  (sRet (xCall 2 m_multiple_of (aC (xA dTup (aC (xCall 2 m_choices (aC (xV 0) (aC (xV 1) aN))) (aC (xC (.int 1)) aN))) (aC (xCall 2 m_product_of (aC (xV 2) (aC (xV 3) aN))) aN))))))
def m_chance_of : List D → R D := runF 2 g_chance_of
def g_check_trials : Es → Fl :=
  (sIf (yNot (yTru (xCall 3 m_in_range (aC (xV 0) (aC (xC (.int 1)) (aC (xC (.int 6)) aN)))))) (sRaise "InvalidTrials") sNil)
def m_check_trials : List D → R D := runF 0 g_check_trials
def g_is_quantity : Es → Fl :=
  (sSeq (sIf (yOr (yNot (yTru (x1 (dIsi "tuple") (xV 0)))) (yBl (x2 dGt (xA dLen (aC (xV 0) aN)) (x2 dAddA (xC (.int 8)) (xC (.int 1)))))) (sRet (xC (.bool false))) sNil)
  (sSeq (sIf (yTru (xLc (iSeq (xV 0)) (gN 1) (yNot (yTru (xCall 3 m_in_range (aC (xV 1) (aC (x1 dNeg (xC (.int 99))) (aC (xC (.int 99)) aN)))))) (xV 1) [1])) (sRet (xC (.bool false))) sNil)
  (sRet (xOr (x2 dEq (xV 0) (xA dTup aN)) (x2 dNe (x2 dIx (xV 0) (x1 dNeg (xC (.int 1)))) (xC (.int 0)))))))
def m_is_quantity : List D → R D := runF 1 g_is_quantity
def g_check_quantity : Es → Fl :=
  (sIf (yNot (yTru (xCall 1 m_is_quantity (aC (xV 0) aN)))) (sRaise "InvalidQuantity") sNil)
def m_check_quantity : List D → R D := runF 0 g_check_quantity
def g_are_values : Es → Fl :=
  (sRet (xAnd (x1 (dIsi "tuple") (xV 0)) (xAnd (x2 dEq (xA dLen (aC (xV 0) aN)) (xV 1)) (xNot (xLc (iSeq (xV 0)) (gN 2) (yNot (yTru (xCall 1 m_is_fraction (aC (xV 2) aN)))) (xV 2) [2])))))
def m_are_values : List D → R D := runF 1 g_are_values
def g_check_estimate : Es → Fl :=
  (sSeq (sExp (xCall 1 m_check_trials (aC (xV 0) aN)))
  (sIf (yNot (yTru (xCall 2 m_are_values (aC (xV 1) (aC (x2 dAddA (xV 0) (xC (.int 1))) aN))))) (sRaise "InvalidEstimate") sNil))
def m_check_estimate : List D → R D := runF 0 g_check_estimate
def g_polynomial_of : Es → Fl :=
  (sRet (xA dTupOf (aC (xLc (iSeq (xV 0)) (gN 1) (fun _ => .ok true) (xA dTup (aC (xV 1) (aC (xC (.int 1)) aN))) [1]) aN)))
def m_polynomial_of : List D → R D := runF 1 g_polynomial_of
def g_average_of : Es → Fl :=
  (sSeq (sAsg 2 (xA dTup aN))
  (sSeq (sFor (iA dEnum (aC (xV 1) aN)) (h2 3 4) (sAsg 2 (xCall 2 m_sum_of (aC (xV 2) (aC (xCall 2 m_multiple_of (aC (xV 4) (aC (xCall 2 m_chance_of (aC (xV 0) (aC (xV 3) aN))) aN))) aN)))))
  (sRet (xV 2))))
def m_average_of : List D → R D := runF 3 g_average_of
def g_average : Es → Fl :=
  (sSeq (sExp (xCall 2 m_check_estimate (aC (xV 0) (aC (xV 1) aN))))
  (sRet (xCall 2 m_average_of (aC (xV 0) (aC (xV 1) aN)))))
def m_average : List D → R D := runF 0 g_average
def g_is_chance : Es → Fl :=
  (sRet (xAnd (xCall 1 m_is_fraction (aC (xV 0) aN)) (xCh dLe dLe (xC (.int 0)) (x2 dIx (xV 0) (xC (.int 0))) (x2 dIx (xV 0) (xC (.int 1))))))
def m_is_chance : List D → R D := runF 0 g_is_chance
def g_failing_chance : Es → Fl :=
  (sSeq (sExp (xCall 1 m_check_trials (aC (xV 0) aN)))
  (sSeq (sExp (xCall 1 m_check_quantity (aC (xV 1) aN)))
  (sSeq (sIf (yNot (yTru (xCall 2 m_are_values (aC (xV 2) (aC (x2 dAddA (xV 0) (xC (.int 1))) aN))))) (sRaise "InvalidEstimate") sNil)
  (sSeq (sAsg 3 (xCall 2 m_sum_of (aC (xCall 2 m_average_of (aC (xV 0) (aC (xV 2) aN))) (aC (xCall 2 m_multiple_of (aC (xA dTup (aC (x1 dNeg (xC (.int 1))) (aC (xC (.int 1)) aN))) (aC (xCall 1 m_polynomial_of (aC (xV 1) aN)) aN))) aN))))
  (sSeq (sIf (yBl (x2 dEq (xV 3) (xA dTup aN))) (sRaise "IsHonest") sNil)
  (sSeq (sAsg 4 (xC (.int 0)))
  (sSeq (whD (yBl (x2 dEq (x2 dIx (xCall 2 m_value_at (aC (xV 3) (aC (xCall 2 m_reduced (aC (xV 4) (aC (xC (.int 16)) aN))) aN))) (xC (.int 0))) (xC (.int 0)))) (sAug 4 dAddI (xC (.int 1))) 1200)
  (sRet (xCall 2 m_reduced (aC (xV 4) (aC (xC (.int 16)) aN)))))))))))
def m_failing_chance : List D → R D := runF 2 g_failing_chance
def g_spread_of : Es → Fl :=
  (sSeq (sAsg 2 (xCall 2 m_average_of (aC (xV 0) (aC (xV 1) aN))))
  (sSeq (sAsg 3 (xCall 2 m_average_of (aC (xV 0) (aC (xA dTupOf (aC (xLc (iSeq (xV 1)) (gN 4) (fun _ => .ok true) (xCall 2 m_times (aC (xV 4) (aC (xV 4) aN))) [4]) aN)) aN))))
  (sRet (xCall 2 m_sum_of (aC (xV 3) (aC (xCall 2 m_multiple_of (aC (xA dTup (aC (x1 dNeg (xC (.int 1))) (aC (xC (.int 1)) aN))) (aC (xCall 2 m_product_of (aC (xV 2) (aC (xV 2) aN))) aN))) aN))))))
def m_spread_of : List D → R D := runF 3 g_spread_of
def g_spread : Es → Fl :=
  (sSeq (sExp (xCall 2 m_check_estimate (aC (xV 0) (aC (xV 1) aN))))
  (sRet (xCall 2 m_spread_of (aC (xV 0) (aC (xV 1) aN)))))
def m_spread : List D → R D := runF 0 g_spread
def g_check_chance : Es → Fl :=
  (sIf (yNot (yTru (xCall 1 m_is_chance (aC (xV 0) aN)))) (sRaise "InvalidNumber") sNil)
def m_check_chance : List D → R D := runF 0 g_check_chance
def g_average_at : Es → Fl :=
  (sSeq (sExp (xCall 2 m_check_estimate (aC (xV 0) (aC (xV 1) aN))))
  (sSeq (sExp (xCall 1 m_check_chance (aC (xV 2) aN)))
  (sRet (xCall 2 m_value_at (aC (xCall 2 m_average_of (aC (xV 0) (aC (xV 1) aN))) (aC (xV 2) aN))))))
def m_average_at : List D → R D := runF 0 g_average_at
def g_law_cell : Es → Fl :=
  (sSeq (sIf (yBl (x2 dLt (xV 1) (xA dLen (aC (xV 0) aN)))) (sRet (x2 dIx (xV 0) (xV 1))) sNil)
  (sRet (xC (.int 0))))
def m_law_cell : List D → R D := runF 0 g_law_cell
def g_law_whole : Es → Fl :=
  (sRet (xAnd (x1 (dIsi "int") (xV 0)) (xNot (x1 (dIsi "bool") (xV 0)))))
def m_law_whole : List D → R D := runF 0 g_law_whole
def g_law_row : Es → Fl :=
  (sSeq (sAsg 2 (xCall 2 m_law_cell (aC (xV 0) (aC (xV 1) aN))))
  (sSeq (sAsgO 3 (aLst aN))
  (sSeq (sFor (iA dR1 (aC (xC (.int 60)) aN)) (hN 4) (sIf (yBl (x2 dLt (xCall 2 m_law_cell (aC (xV 0) (aC (xV 1) aN))) (x2 dPow (xC (.int 10)) (xC (.int 18))))) (sSeq (sAsg 2 (x2 dMod (x2 dAddA (x2 dAddA (x2 dAddA (x2 dMul (xV 2) (xC (.int 48271))) (x2 dMul (xC (.int 131)) (xV 4))) (xC (.int 7))) (xCall 2 m_law_cell (aC (xV 0) (aC (x2 dMod (x2 dAddA (x2 dAddA (xV 1) (xC (.int 1))) (xV 4)) (xC (.int 20))) aN)))) (xC (.int 2147483647))))
  (sApp 3 (x2 dMod (x2 dFdiv (xV 2) (xC (.int 11))) (xC (.int 1000))))) (sSeq (sApp 3 (x2 dMod (xV 2) (xC (.int 1000))))
  (sAsg 2 (x2 dFdiv (xV 2) (xC (.int 1000)))))))
  (sRet (xV 3)))))
def m_law_row : List D → R D := runF 3 g_law_row
def g_law_in : Es → Fl :=
  (sRet (xAnd (xCall 1 m_law_whole (aC (xV 0) aN)) (xCh dLe dLe (xV 1) (xV 0) (xV 2))))
def m_law_in : List D → R D := runF 0 g_law_in
def g_law_gcd : Es → Fl :=
  (sSeq (whD (yBl (x2 dNe (xV 1) (xC (.int 0)))) (sPar 0 1 (aC (xV 1) (aC (x2 dMod (xV 0) (xV 1)) aN))) 20000)
  (sRet (xV 0)))
def m_law_gcd : List D → R D := runF 0 g_law_gcd
def g_law_low : Es → Fl :=
  (sSeq (sAsg 2 (xIf (yBl (x2 dGt (xV 1) (xC (.int 0)))) (xC (.int 1)) (x1 dNeg (xC (.int 1)))))
  (sSeq (sAsg 3 (xCall 2 m_law_gcd (aC (xA dAbs (aC (xV 0) aN)) (aC (xA dAbs (aC (xV 1) aN)) aN))))
  (sRet (xA dTup (aC (x2 dFdiv (x2 dMul (xV 2) (xV 0)) (xV 3)) (aC (x2 dFdiv (x2 dMul (xV 2) (xV 1)) (xV 3)) aN))))))
def m_law_low : List D → R D := runF 2 g_law_low
def g_law_is_fraction : Es → Fl :=
  (sSeq (sIf (yOr (yNot (yTru (x1 (dIsi "tuple") (xV 0)))) (yOr (yBl (x2 dNe (xA dLen (aC (xV 0) aN)) (xC (.int 2)))) (yNot (yTru (xCall 3 m_law_in (aC (x2 dIx (xV 0) (xC (.int 0))) (aC (x1 dNeg (xC (.int 99999))) (aC (xC (.int 99999)) aN)))))))) (sRet (xC (.bool false))) sNil)
  (sRet (xAnd (xCall 3 m_law_in (aC (x2 dIx (xV 0) (xC (.int 1))) (aC (xC (.int 1)) (aC (xC (.int 99999)) aN)))) (x2 dEq (xCall 2 m_law_gcd (aC (xA dAbs (aC (x2 dIx (xV 0) (xC (.int 0))) aN)) (aC (x2 dIx (xV 0) (xC (.int 1))) aN))) (xC (.int 1))))))
def m_law_is_fraction : List D → R D := runF 0 g_law_is_fraction
def g_law_fraction : Es → Fl :=
  (sRet (xCall 2 m_law_low (aC (x2 dSub (x2 dMod (xV 0) (xC (.int 19))) (xC (.int 9))) (aC (x2 dAddA (xC (.int 1)) (x2 dMod (xV 1) (xC (.int 6)))) aN))))
def m_law_fraction : List D → R D := runF 0 g_law_fraction
def g_law_estimate : Es → Fl :=
  (sSeq (sAsg 3 (xCall 2 m_law_row (aC (xV 0) (aC (xV 1) aN))))
  (sRet (xA dTupOf (aC (xLc (iA dR1 (aC (x2 dAddA (xV 2) (xC (.int 1))) aN)) (gN 4) (fun _ => .ok true) (xCall 2 m_law_fraction (aC (x2 dIx (xV 3) (xV 4)) (aC (x2 dIx (xV 3) (x2 dAddA (xC (.int 10)) (xV 4))) aN))) [4]) aN))))
def m_law_estimate : List D → R D := runF 2 g_law_estimate
def g_total : Es → Fl :=
  (sSeq (sAsg 1 (xA dTup (aC (xC (.int 0)) (aC (xC (.int 1)) aN))))
  (sSeq (sFor (iSeq (xV 0)) (hN 2) (sAsg 1 (xCall 2 m_plus (aC (xV 1) (aC (xV 2) aN)))))
  (sRet (xV 1))))
def m_total : List D → R D := runF 2 g_total
def g_can_estimate : Es → Fl :=
  (sSeq (sExp (xCall 1 m_check_trials (aC (xV 0) aN)))
  (sSeq (sExp (xCall 1 m_check_quantity (aC (xV 1) aN)))
  (sRet (x2 dLe (xA dLen (aC (xV 1) aN)) (x2 dAddA (xV 0) (xC (.int 1)))))))
def m_can_estimate : List D → R D := runF 0 g_can_estimate
def g_is_honest : Es → Fl :=
  (sSeq (sExp (xCall 1 m_check_trials (aC (xV 0) aN)))
  (sSeq (sExp (xCall 1 m_check_quantity (aC (xV 1) aN)))
  (sSeq (sIf (yNot (yTru (xCall 2 m_are_values (aC (xV 2) (aC (x2 dAddA (xV 0) (xC (.int 1))) aN))))) (sRet (xC (.bool false))) sNil)
  (sRet (x2 dEq (xCall 2 m_average_of (aC (xV 0) (aC (xV 2) aN))) (xCall 1 m_polynomial_of (aC (xV 1) aN)))))))
def m_is_honest : List D → R D := runF 0 g_is_honest
def g_is_paper : Es → Fl :=
  (sSeq (sExp (xCall 1 m_check_trials (aC (xV 0) aN)))
  (sSeq (sExp (xCall 1 m_check_quantity (aC (xV 1) aN)))
  (sSeq (sIf (yNot (yTru (x1 (dIsi "tuple") (xV 2)))) (sRet (xC (.bool false))) sNil)
  (sSeq (sFor (iSeq (xV 2)) (hN 3) (sSeq (sIf (yOr (yNot (yTru (x1 (dIsi "tuple") (xV 3)))) (yOr (yBl (x2 dNe (xA dLen (aC (xV 3) aN)) (xC (.int 2)))) (yNot (yTru (xCall 1 m_is_chance (aC (x2 dIx (xV 3) (xC (.int 0))) aN)))))) (sRet (xC (.bool false))) sNil)
  (sIf (yNot (yTru (xCall 3 m_in_range (aC (x2 dIx (xV 3) (xC (.int 1))) (aC (x1 dNeg (xC (.int 999))) (aC (xC (.int 999)) aN)))))) (sRet (xC (.bool false))) sNil)))
  (sSeq (sFor (iA dR1 (aC (x2 dAddA (xV 0) (xC (.int 1))) aN)) (hN 4) (sSeq (sAsg 5 (x2 dAddA (x2 dRepT (xA dTup (aC (xA dTup (aC (xC (.int 0)) (aC (xC (.int 1)) aN))) aN)) (xV 4)) (xA dTup (aC (xA dTup (aC (xC (.int 1)) (aC (xC (.int 1)) aN))) aN))))
  (sIf (yBl (x2 dNe (x2 dIx (xCall 1 m_total (aC (xLc (iSeq (xV 2)) (g2 6 7) (fun _ => .ok true) (xCall 2 m_times (aC (xA dTup (aC (xV 7) (aC (xC (.int 1)) aN))) (aC (xCall 2 m_value_at (aC (xV 5) (aC (xV 6) aN))) aN))) [6, 7]) aN)) (xC (.int 0))) (xC (.int 0)))) (sRet (xC (.bool false))) sNil)))
  (sSeq (sAsg 5 (xCall 1 m_polynomial_of (aC (xV 1) aN)))
  (sRet (x2 dNe (x2 dIx (xCall 1 m_total (aC (xLc (iSeq (xV 2)) (g2 6 7) (fun _ => .ok true) (xCall 2 m_times (aC (xA dTup (aC (xV 7) (aC (xC (.int 1)) aN))) (aC (xCall 2 m_value_at (aC (xV 5) (aC (xV 6) aN))) aN))) [6, 7]) aN)) (xC (.int 0))) (xC (.int 0))))))))))
def m_is_paper : List D → R D := runF 5 g_is_paper
def g_law_quantity : Es → Fl :=
  (sSeq (sAsg 3 (xCall 2 m_law_row (aC (xV 0) (aC (xV 1) aN))))
  (sSeq (sAsg 4 (xLc (iA dR1 (aC (x2 dMod (x2 dIx (xV 3) (xC (.int 0))) (x2 dAddA (xV 2) (xC (.int 1)))) aN)) (gN 5) (fun _ => .ok true) (x2 dSub (x2 dMod (x2 dIx (xV 3) (x2 dAddA (xC (.int 1)) (xV 5))) (xC (.int 19))) (xC (.int 9))) [5]))
  (sSeq (whD (yAnd (yBl (x2 dNe (xV 4) (xA dLst aN))) (yBl (x2 dEq (x2 dIx (xV 4) (x1 dNeg (xC (.int 1)))) (xC (.int 0))))) (sAsg 4 (xSl (xV 4) oN (oS (x1 dNeg (xC (.int 1)))))) 1200)
  (sRet (xA dTupOf (aC (xV 4) aN))))))
def m_law_quantity : List D → R D := runF 3 g_law_quantity
def g_law_quantified : Es → Fl :=
  (sSeq (sTry ["InvalidQuantity"] (sIf (yBl (x2 dEq (xV 0) (xC (.int 0)))) (sExp (xCall 2 m_can_estimate (aC (xC (.int 6)) (aC (xV 1) aN)))) (sIf (yBl (x2 dEq (xV 0) (xC (.int 1)))) (sExp (xCall 3 m_is_honest (aC (xC (.int 6)) (aC (xV 1) (aC (xC .none) aN))))) (sExp (xCall 3 m_is_paper (aC (xC (.int 6)) (aC (xV 1) (aC (xC .none) aN))))))) [⟨"InvalidQuantity", "EstimateError", "InvalidEstimate", (Str.ofString "quantity"), (Str.ofString "other")⟩])
  (sRet (xC (.str (Str.ofString "none")))))
def m_law_quantified : List D → R D := runF 1 g_law_quantified
def g_law_sum : Es → Fl :=
  (sSeq (sAsg 1 (xA dTup (aC (xC (.int 0)) (aC (xC (.int 1)) aN))))
  (sSeq (sFor (iSeq (xV 0)) (h2 2 3) (sAsg 1 (xCall 2 m_law_low (aC (x2 dAddA (x2 dMul (x2 dIx (xV 1) (xC (.int 0))) (xV 3)) (x2 dMul (xV 2) (x2 dIx (xV 1) (xC (.int 1))))) (aC (x2 dMul (x2 dIx (xV 1) (xC (.int 1))) (xV 3)) aN)))))
  (sRet (xV 1))))
def m_law_sum : List D → R D := runF 3 g_law_sum
def g_law_times : Es → Fl :=
  (sRet (xCall 2 m_law_low (aC (x2 dMul (x2 dIx (xV 0) (xC (.int 0))) (x2 dIx (xV 1) (xC (.int 0)))) (aC (x2 dMul (x2 dIx (xV 0) (xC (.int 1))) (x2 dIx (xV 1) (xC (.int 1)))) aN))))
def m_law_times : List D → R D := runF 0 g_law_times
def g_law_power : Es → Fl :=
  (sSeq (sAsg 2 (xA dTup (aC (xC (.int 1)) (aC (xC (.int 1)) aN))))
  (sSeq (sFor (iA dR1 (aC (xV 1) aN)) (hN 3) (sAsg 2 (xCall 2 m_law_times (aC (xV 2) (aC (xV 0) aN)))))
  (sRet (xV 2))))
def m_law_power : List D → R D := runF 2 g_law_power
def g_law_ways : Es → Fl :=
  (sSeq (sAsg 2 (xC (.int 1)))
  (sSeq (sFor (iA dR1 (aC (xV 1) aN)) (hN 3) (sAsg 2 (x2 dFdiv (x2 dMul (xV 2) (x2 dSub (xV 0) (xV 3))) (x2 dAddA (xV 3) (xC (.int 1))))))
  (sRet (xV 2))))
def m_law_ways : List D → R D := runF 2 g_law_ways
def g_law_chance : Es → Fl :=
  (sSeq (sAsg 3 (xA dTup (aC (x2 dSub (x2 dIx (xV 2) (xC (.int 1))) (x2 dIx (xV 2) (xC (.int 0)))) (aC (x2 dIx (xV 2) (xC (.int 1))) aN))))
  (sSeq (sAsg 4 (xCall 2 m_law_times (aC (xCall 2 m_law_power (aC (xV 2) (aC (xV 1) aN))) (aC (xCall 2 m_law_power (aC (xV 3) (aC (x2 dSub (xV 0) (xV 1)) aN))) aN))))
  (sRet (xCall 2 m_law_times (aC (xA dTup (aC (xCall 2 m_law_ways (aC (xV 0) (aC (xV 1) aN))) (aC (xC (.int 1)) aN))) (aC (xV 4) aN))))))
def m_law_chance : List D → R D := runF 2 g_law_chance
def g_law_mean : Es → Fl :=
  (sRet (xCall 1 m_law_sum (aC (xLc (iA dR1 (aC (x2 dAddA (xV 0) (xC (.int 1))) aN)) (gN 3) (fun _ => .ok true) (xCall 2 m_law_times (aC (xCall 3 m_law_chance (aC (xV 0) (aC (xV 3) (aC (xV 2) aN)))) (aC (x2 dIx (xV 1) (xV 3)) aN))) [3]) aN)))
def m_law_mean : List D → R D := runF 1 g_law_mean
def g_law_value : Es → Fl :=
  (sRet (xCall 1 m_law_sum (aC (xLc (iA dR1 (aC (xA dLen (aC (xV 0) aN)) aN)) (gN 2) (fun _ => .ok true) (xCall 2 m_law_times (aC (x2 dIx (xV 0) (xV 2)) (aC (xCall 2 m_law_power (aC (xV 1) (aC (xV 2) aN))) aN))) [2]) aN)))
def m_law_value : List D → R D := runF 1 g_law_value
def g_law_some : Es → Fl :=
  (sSeq (sAsg 2 (x2 dAddA (xC (.int 1)) (x2 dMod (x2 dIx (xV 0) (xV 1)) (xC (.int 7)))))
  (sRet (xCall 2 m_law_low (aC (x2 dMod (x2 dIx (xV 0) (x2 dAddA (xV 1) (xC (.int 1)))) (x2 dAddA (xV 2) (xC (.int 1)))) (aC (xV 2) aN)))))
def m_law_some : List D → R D := runF 1 g_law_some
def g_spread_at : Es → Fl :=
  (sSeq (sExp (xCall 2 m_check_estimate (aC (xV 0) (aC (xV 1) aN))))
  (sSeq (sExp (xCall 1 m_check_chance (aC (xV 2) aN)))
  (sRet (xCall 2 m_value_at (aC (xCall 2 m_spread_of (aC (xV 0) (aC (xV 1) aN))) (aC (xV 2) aN))))))
def m_spread_at : List D → R D := runF 0 g_spread_at
def g_law_spread : Es → Fl :=
  (sSeq (sAsg 3 (xCall 3 m_law_mean (aC (xV 0) (aC (xV 1) (aC (xV 2) aN)))))
  (sSeq (sAsg 4 (xCall 3 m_law_mean (aC (xV 0) (aC (xLc (iSeq (xV 1)) (gN 5) (fun _ => .ok true) (xCall 2 m_law_times (aC (xV 5) (aC (xV 5) aN))) [5]) (aC (xV 2) aN)))))
  (sRet (xCall 1 m_law_sum (aC (xA dLst (aC (xV 4) (aC (xA dTup (aC (x2 dMul (x1 dNeg (x2 dIx (xV 3) (xC (.int 0)))) (x2 dIx (xV 3) (xC (.int 0)))) (aC (x2 dMul (x2 dIx (xV 3) (xC (.int 1))) (x2 dIx (xV 3) (xC (.int 1)))) aN))) aN))) aN)))))
def m_law_spread : List D → R D := runF 3 g_law_spread
def g_falling : Es → Fl :=
  (sSeq (sAsg 2 (xC (.int 1)))
  (sSeq (sFor (iA dR1 (aC (xV 1) aN)) (hN 3) (sAug 2 dMul (x2 dSub (xV 0) (xV 3))))
  (sRet (xV 2))))
def m_falling : List D → R D := runF 2 g_falling
def g_honest_of : Es → Fl :=
  (sSeq (sAsgO 2 (aLst aN))
  (sSeq (sFor (iA dR1 (aC (x2 dAddA (xV 0) (xC (.int 1))) aN)) (hN 3) (sSeq (sAsgO 4 (aLst aN))
  (sSeq (sFor (iA dEnum (aC (xV 1) aN)) (h2 5 6) (sApp 4 (xCall 2 m_times (aC (xV 6) (aC (xCall 2 m_reduced (aC (xCall 2 m_falling (aC (xV 3) (aC (xV 5) aN))) (aC (xCall 2 m_falling (aC (xV 0) (aC (xV 5) aN))) aN))) aN)))))
  (sAppR 2 (xCall 1 m_total (aC (xV 4) aN))))))
  (sRet (xA dTupOf (aC (xV 2) aN)))))
def m_honest_of : List D → R D := runF 5 g_honest_of
def g_honest : Es → Fl :=
  (sSeq (sExp (xCall 1 m_check_trials (aC (xV 0) aN)))
  (sSeq (sExp (xCall 1 m_check_quantity (aC (xV 1) aN)))
  (sSeq (sIf (yBl (x2 dGt (xA dLen (aC (xV 1) aN)) (x2 dAddA (xV 0) (xC (.int 1))))) (sRaise "NoEstimate") sNil)
  (sRet (xCall 2 m_honest_of (aC (xV 0) (aC (xCall 1 m_polynomial_of (aC (xV 1) aN)) aN)))))))
def m_honest : List D → R D := runF 0 g_honest
def g_paper_of : Es → Fl :=
  (sSeq (sFor (iA dR1 (aC (xA dLen (aC (xV 1) aN)) aN)) (hN 2) (sSeq (sAsgO 3 (aLst aN))
  (sSeq (sFor (iA dR1 (aC (x2 dAddA (xV 0) (xC (.int 2))) aN)) (hN 4) (sSeq (sAsg 5 (x2 dMul (xCall 2 m_choices (aC (x2 dAddA (xV 0) (xC (.int 1))) (aC (xV 4) aN))) (xIf (yBl (x2 dEq (x2 dMod (xV 4) (xC (.int 2))) (xC (.int 0)))) (xC (.int 1)) (x1 dNeg (xC (.int 1))))))
  (sApp 3 (xA dTup (aC (xCall 2 m_reduced (aC (x2 dAddA (xV 2) (xV 4)) (aC (x2 dAddA (x2 dAddA (xA dLen (aC (xV 1) aN)) (xV 0)) (xC (.int 1))) aN))) (aC (xV 5) aN))))))
  (sIf (yBl (x2 dNe (x2 dIx (xCall 1 m_total (aC (xLc (iSeq (xV 3)) (g2 6 5) (fun _ => .ok true) (xCall 2 m_times (aC (xA dTup (aC (xV 5) (aC (xC (.int 1)) aN))) (aC (xCall 2 m_value_at (aC (xV 1) (aC (xV 6) aN))) aN))) [6, 5]) aN)) (xC (.int 0))) (xC (.int 0)))) (sRet (xA dTupOf (aC (xV 3) aN))) sNil))))
  (sRet (xC .none)))
def m_paper_of : List D → R D := runF 5 g_paper_of
def g_paper : Es → Fl :=
  (sSeq (sExp (xCall 1 m_check_trials (aC (xV 0) aN)))
  (sSeq (sExp (xCall 1 m_check_quantity (aC (xV 1) aN)))
  (sSeq (sIf (yBl (x2 dLe (xA dLen (aC (xV 1) aN)) (x2 dAddA (xV 0) (xC (.int 1))))) (sRaise "HasEstimate") sNil)
  (sRet (xCall 2 m_paper_of (aC (xV 0) (aC (xCall 1 m_polynomial_of (aC (xV 1) aN)) aN)))))))
def m_paper : List D → R D := runF 0 g_paper
def g_law_worth : Es → Fl :=
  (sRet (xCall 2 m_law_value (aC (xLc (iSeq (xV 0)) (gN 2) (fun _ => .ok true) (xA dTup (aC (xV 2) (aC (xC (.int 1)) aN))) [2]) (aC (xV 1) aN))))
def m_law_worth : List D → R D := runF 1 g_law_worth
def g_law_decided : Es → Fl :=
  (sTry ["NoEstimate", "HasEstimate"] (sRet (xIf (yBl (x2 dEq (xV 0) (xC (.int 0)))) (xCall 2 m_honest (aC (xV 1) (aC (xV 2) aN))) (xCall 2 m_paper (aC (xV 1) (aC (xV 2) aN))))) [⟨"NoEstimate", "EstimateError", "HasEstimate", (Str.ofString "no"), (Str.ofString "other")⟩, ⟨"HasEstimate", "EstimateError", "NoEstimate", (Str.ofString "has"), (Str.ofString "other")⟩])
def m_law_decided : List D → R D := runF 1 g_law_decided
def g_law_powers : Es → Fl :=
  (sRet (xCall 1 m_law_sum (aC (xLc (iSeq (xV 0)) (g2 2 3) (fun _ => .ok true) (xCall 2 m_law_times (aC (xA dTup (aC (xV 3) (aC (xC (.int 1)) aN))) (aC (xCall 2 m_law_power (aC (xV 2) (aC (xV 1) aN))) aN))) [2, 3]) aN)))
def m_law_powers : List D → R D := runF 2 g_law_powers
def g_law_is_paper : Es → Fl :=
  (sSeq (sIf (yNot (yTru (x1 (dIsi "tuple") (xV 2)))) (sRet (xC (.bool false))) sNil)
  (sSeq (sFor (iSeq (xV 2)) (hN 3) (sSeq (sIf (yOr (yNot (yTru (x1 (dIsi "tuple") (xV 3)))) (yOr (yBl (x2 dNe (xA dLen (aC (xV 3) aN)) (xC (.int 2)))) (yNot (yTru (xCall 1 m_law_is_fraction (aC (x2 dIx (xV 3) (xC (.int 0))) aN)))))) (sRet (xC (.bool false))) sNil)
  (sIf (yOr (yNot (yBl (xCh dLe dLe (xC (.int 0)) (x2 dIx (x2 dIx (xV 3) (xC (.int 0))) (xC (.int 0))) (x2 dIx (x2 dIx (xV 3) (xC (.int 0))) (xC (.int 1)))))) (yNot (yTru (xCall 3 m_law_in (aC (x2 dIx (xV 3) (xC (.int 1))) (aC (x1 dNeg (xC (.int 999))) (aC (xC (.int 999)) aN))))))) (sRet (xC (.bool false))) sNil)))
  (sSeq (sIf (yBl (x2 dNe (xLc (iA dR1 (aC (x2 dAddA (xV 0) (xC (.int 1))) aN)) (gN 4) (yBl (x2 dNe (x2 dIx (xCall 2 m_law_powers (aC (xV 2) (aC (xV 4) aN))) (xC (.int 0))) (xC (.int 0)))) (xV 4) [4]) (xA dLst aN))) (sRet (xC (.bool false))) sNil)
  (sRet (x2 dNe (x2 dIx (xCall 1 m_law_sum (aC (xLc (iSeq (xV 2)) (g2 5 6) (fun _ => .ok true) (xCall 2 m_law_times (aC (xA dTup (aC (xV 6) (aC (xC (.int 1)) aN))) (aC (xCall 2 m_law_worth (aC (xV 1) (aC (xV 5) aN))) aN))) [5, 6]) aN)) (xC (.int 0))) (xC (.int 0)))))))
def m_law_is_paper : List D → R D := runF 4 g_law_is_paper
def g_law_agrees : Es → Fl :=
  (sSeq (sFor (iA dR1 (aC (xC (.int 9)) aN)) (hN 3) (sSeq (sAsg 4 (xCall 2 m_law_low (aC (xV 3) (aC (xC (.int 9)) aN))))
  (sIf (yBl (x2 dNe (xCall 3 m_law_mean (aC (xV 0) (aC (xV 1) (aC (xV 4) aN)))) (xCall 2 m_law_worth (aC (xV 2) (aC (xV 4) aN))))) (sRet (xC (.bool false))) sNil)))
  (sRet (xC (.bool true))))
def m_law_agrees : List D → R D := runF 2 g_law_agrees
def g_law_failing : Es → Fl :=
  (sTry ["IsHonest"] (sRet (xCall 3 m_failing_chance (aC (xV 0) (aC (xV 1) (aC (xV 2) aN))))) [⟨"IsHonest", "EstimateError", "HasEstimate", (Str.ofString "honest"), (Str.ofString "other")⟩])
def m_law_failing : List D → R D := runF 1 g_law_failing
def g_minus : Es → Fl :=
  (sRet (xCall 2 m_plus (aC (xV 0) (aC (xA dTup (aC (x1 dNeg (x2 dIx (xV 1) (xC (.int 0)))) (aC (x2 dIx (xV 1) (xC (.int 1))) aN))) aN))))
def m_minus : List D → R D := runF 0 g_minus
def g_divided : Es → Fl :=
  (sSeq (sIf (yBl (x2 dLt (x2 dIx (xV 1) (xC (.int 0))) (xC (.int 0)))) (sRet (xCall 2 m_reduced (aC (x2 dMul (x1 dNeg (x2 dIx (xV 0) (xC (.int 0)))) (x2 dIx (xV 1) (xC (.int 1)))) (aC (x2 dMul (x1 dNeg (x2 dIx (xV 0) (xC (.int 1)))) (x2 dIx (xV 1) (xC (.int 0)))) aN)))) sNil)
  (sRet (xCall 2 m_reduced (aC (x2 dMul (x2 dIx (xV 0) (xC (.int 0))) (x2 dIx (xV 1) (xC (.int 1)))) (aC (x2 dMul (x2 dIx (xV 0) (xC (.int 1))) (x2 dIx (xV 1) (xC (.int 0)))) aN)))))
def m_divided : List D → R D := runF 0 g_divided
def g_successes_of : Es → Fl :=
  (sSeq (sAsg 1 (xC (.int 0)))
  (sSeq (sAsg 2 (xV 0))
  (sSeq (whD (yBl (x2 dGt (xV 2) (xC (.int 0)))) (sSeq (sAug 1 dAddI (x2 dMod (xV 2) (xC (.int 2))))
  (sAug 2 dFdivS (xC (.int 2)))) 1200)
  (sRet (xV 1)))))
def m_successes_of : List D → R D := runF 2 g_successes_of
def g_check_table : Es → Fl :=
  (sSeq (sIf (yNot (yTru (xCall 3 m_in_range (aC (xV 0) (aC (xC (.int 1)) (aC (xC (.int 4)) aN)))))) (sRaise "InvalidTrials") sNil)
  (sSeq (sAsg 2 (xC (.int 1)))
  (sSeq (sFor (iA dR1 (aC (xV 0) aN)) (hN 3) (sAug 2 dMul (xC (.int 2))))
  (sIf (yNot (yTru (xCall 2 m_are_values (aC (xV 1) (aC (xV 2) aN))))) (sRaise "InvalidEstimate") sNil))))
def m_check_table : List D → R D := runF 2 g_check_table
def g_table_average : Es → Fl :=
  (sSeq (sExp (xCall 2 m_check_table (aC (xV 0) (aC (xV 1) aN))))
  (sSeq (sAsg 2 (xA dTup aN))
  (sSeq (sFor (iA dEnum (aC (xV 1) aN)) (h2 3 4) (sSeq (sAsg 5 (xCall 1 m_successes_of (aC (xV 3) aN)))
  (sSeq (sAsg 6 (xCall 2 m_power_of (aC (xA dTup (aC (xA dTup (aC (xC (.int 0)) (aC (xC (.int 1)) aN))) (aC (xA dTup (aC (xC (.int 1)) (aC (xC (.int 1)) aN))) aN))) (aC (xV 5) aN))))
  (sSeq (sAsg 7 (xCall 2 m_power_of (aC (xA dTup (aC (xA dTup (aC (xC (.int 1)) (aC (xC (.int 1)) aN))) (aC (xA dTup (aC (x1 dNeg (xC (.int 1))) (aC (xC (.int 1)) aN))) aN))) (aC (x2 dSub (xV 0) (xV 5)) aN))))
  (sAsg 2 (xCall 2 m_sum_of (aC (xV 2) (aC (xCall 2 m_multiple_of (aC (xV 4) (aC (xCall 2 m_product_of (aC (xV 6) (aC (xV 7) aN))) aN))) aN))))))))
  (sRet (xV 2)))))
def m_table_average : List D → R D := runF 6 g_table_average
def g_table_spread_at : Es → Fl :=
  (sSeq (sExp (xCall 2 m_check_table (aC (xV 0) (aC (xV 1) aN))))
  (sSeq (sExp (xCall 1 m_check_chance (aC (xV 2) aN)))
  (sSeq (sParO 3 4)
  (sSeq (sFor (iA dEnum (aC (xV 1) aN)) (h2 5 6) (sSeq (sAsg 7 (xCall 1 m_successes_of (aC (xV 5) aN)))
  (sSeq (sAsg 8 (xA dTup (aC (xC (.int 1)) (aC (xC (.int 1)) aN))))
  (sSeq (sFor (iA dR1 (aC (xV 0) aN)) (hN 9) (sAsg 8 (xCall 2 m_times (aC (xV 8) (aC (xIf (yBl (x2 dLt (xV 9) (xV 7))) (xV 2) (xCall 2 m_minus (aC (xA dTup (aC (xC (.int 1)) (aC (xC (.int 1)) aN))) (aC (xV 2) aN)))) aN)))))
  (sSeq (sApp 3 (xCall 2 m_times (aC (xV 8) (aC (xV 6) aN))))
  (sApp 4 (xCall 2 m_times (aC (xV 8) (aC (xCall 2 m_times (aC (xV 6) (aC (xV 6) aN))) aN)))))))))
  (sRet (xCall 2 m_minus (aC (xCall 1 m_total (aC (xV 4) aN)) (aC (xCall 2 m_times (aC (xCall 1 m_total (aC (xV 3) aN)) (aC (xCall 1 m_total (aC (xV 3) aN)) aN))) aN))))))))
def m_table_spread_at : List D → R D := runF 7 g_table_spread_at
def g_evened : Es → Fl :=
  (sSeq (sExp (xCall 2 m_check_table (aC (xV 0) (aC (xV 1) aN))))
  (sSeq (sAsgO 2 (aLst aN))
  (sSeq (sFor (iA dR1 (aC (x2 dAddA (xV 0) (xC (.int 1))) aN)) (hN 3) (sSeq (sAsg 4 (xLc (iA dEnum (aC (xV 1) aN)) (g2 5 6) (yBl (x2 dEq (xCall 1 m_successes_of (aC (xV 5) aN)) (xV 3))) (xV 6) [5, 6]))
  (sApp 2 (xCall 2 m_divided (aC (xCall 1 m_total (aC (xV 4) aN)) (aC (xA dTup (aC (xA dLen (aC (xV 4) aN)) (aC (xC (.int 1)) aN))) aN))))))
  (sRet (xA dTupOf (aC (xV 2) aN))))))
def m_evened : List D → R D := runF 5 g_evened
def g_law_less : Es → Fl :=
  (sRet (x2 dLt (x2 dMul (x2 dIx (xV 0) (xC (.int 0))) (x2 dIx (xV 1) (xC (.int 1)))) (x2 dMul (x2 dIx (xV 1) (xC (.int 0))) (x2 dIx (xV 0) (xC (.int 1))))))
def m_law_less : List D → R D := runF 0 g_law_less
def g_law_table : Es → Fl :=
  (sSeq (sAsg 3 (xCall 2 m_law_row (aC (xV 0) (aC (xV 1) aN))))
  (sRet (xA dTupOf (aC (xLc (iA dR1 (aC (x2 dIx (xA dLst (aC (xC (.int 2)) (aC (xC (.int 4)) (aC (xC (.int 8)) (aC (xC (.int 16)) aN))))) (x2 dSub (xV 2) (xC (.int 1)))) aN)) (gN 4) (fun _ => .ok true) (xCall 2 m_law_fraction (aC (x2 dIx (xV 3) (xV 4)) (aC (x2 dIx (xV 3) (x2 dAddA (xC (.int 20)) (xV 4))) aN))) [4]) aN))))
def m_law_table : List D → R D := runF 2 g_law_table
def g_law_hits : Es → Fl :=
  (sSeq (sPar 1 2 (aC (xC (.int 0)) (aC (xV 0) aN)))
  (sSeq (whD (yBl (x2 dGt (xV 2) (xC (.int 0)))) (sSeq (sAsg 1 (x2 dAddA (xV 1) (x2 dMod (xV 2) (xC (.int 2)))))
  (sAsg 2 (x2 dFdiv (xV 2) (xC (.int 2))))) 1200)
  (sRet (xV 1))))
def m_law_hits : List D → R D := runF 2 g_law_hits
def g_law_table_mean : Es → Fl :=
  (sSeq (sAsgO 3 (aLst aN))
  (sSeq (sFor (iA dR1 (aC (xA dLen (aC (xV 1) aN)) aN)) (hN 4) (sSeq (sAsg 5 (xCall 1 m_law_hits (aC (xV 4) aN)))
  (sSeq (sAsg 6 (xA dTup (aC (x2 dSub (x2 dIx (xV 2) (xC (.int 1))) (x2 dIx (xV 2) (xC (.int 0)))) (aC (x2 dIx (xV 2) (xC (.int 1))) aN))))
  (sSeq (sAsg 7 (xCall 2 m_law_times (aC (xCall 2 m_law_power (aC (xV 2) (aC (xV 5) aN))) (aC (xCall 2 m_law_power (aC (xV 6) (aC (x2 dSub (xV 0) (xV 5)) aN))) aN))))
  (sApp 3 (xCall 2 m_law_times (aC (xV 7) (aC (x2 dIx (xV 1) (xV 4)) aN))))))))
  (sRet (xCall 1 m_law_sum (aC (xV 3) aN)))))
def m_law_table_mean : List D → R D := runF 5 g_law_table_mean
def g_law_tabled : Es → Fl :=
  (sTry ["InvalidTrials", "InvalidEstimate"] (sSeq (sIf (yBl (x2 dEq (xV 0) (xC (.int 0)))) (sRet (xCall 2 m_table_average (aC (xV 1) (aC (xV 2) aN)))) sNil)
  (sRet (xIf (yBl (x2 dEq (xV 0) (xC (.int 1)))) (xCall 2 m_evened (aC (xV 1) (aC (xV 2) aN))) (xCall 3 m_table_spread_at (aC (xV 1) (aC (xV 2) (aC (xA dTup (aC (xC (.int 1)) (aC (xC (.int 2)) aN))) aN))))))) [⟨"InvalidTrials", "EstimateError", "InvalidEstimate", (Str.ofString "trials"), (Str.ofString "other")⟩, ⟨"InvalidEstimate", "EstimateError", "InvalidTrials", (Str.ofString "estimate"), (Str.ofString "other")⟩])
def m_law_tabled : List D → R D := runF 1 g_law_tabled
def g_more_trials : Es → Fl :=
  (sSeq (sExp (xCall 2 m_check_estimate (aC (xV 0) (aC (xV 1) aN))))
  (sSeq (sIf (yNot (yTru (xCall 3 m_in_range (aC (xV 2) (aC (xV 0) (aC (xC (.int 6)) aN)))))) (sRaise "TooMany") sNil)
  (sSeq (sAsgO 3 (aLst aN))
  (sSeq (sFor (iA dR1 (aC (x2 dAddA (xV 2) (xC (.int 1))) aN)) (hN 4) (sSeq (sAsgO 5 (aLst aN))
  (sSeq (sFor (iA dEnum (aC (xV 1) aN)) (h2 6 7) (sIf (yAnd (yBl (x2 dLe (xV 6) (xV 4))) (yBl (x2 dLe (x2 dSub (xV 0) (xV 6)) (x2 dSub (xV 2) (xV 4))))) (sSeq (sAsg 8 (x2 dMul (xCall 2 m_choices (aC (xV 4) (aC (xV 6) aN))) (xCall 2 m_choices (aC (x2 dSub (xV 2) (xV 4)) (aC (x2 dSub (xV 0) (xV 6)) aN)))))
  (sApp 5 (xCall 2 m_times (aC (xCall 2 m_reduced (aC (xV 8) (aC (xCall 2 m_choices (aC (xV 2) (aC (xV 0) aN))) aN))) (aC (xV 7) aN))))) sNil))
  (sAppR 3 (xCall 1 m_total (aC (xV 5) aN))))))
  (sRet (xA dTupOf (aC (xV 3) aN)))))))
def m_more_trials : List D → R D := runF 6 g_more_trials
def g_law_more : Es → Fl :=
  (sTry ["TooMany"] (sRet (xCall 3 m_more_trials (aC (xV 0) (aC (xV 1) (aC (xV 2) aN))))) [⟨"TooMany", "EstimateError", "InvalidTrials", (Str.ofString "many"), (Str.ofString "other")⟩])
def m_law_more : List D → R D := runF 1 g_law_more
def g_law_plain : Es → Fl :=
  (sRet (x2 dEq (xLc (iSeq (xV 0)) (gN 1) (yNot (yTru (xCall 1 m_law_is_fraction (aC (xV 1) aN)))) (xV 1) [1]) (xA dLst aN)))
def m_law_plain : List D → R D := runF 1 g_law_plain
def g_check_points : Es → Fl :=
  (sSeq (sExp (xCall 1 m_check_trials (aC (xV 0) aN)))
  (sSeq (sIf (yOr (yNot (yTru (x1 (dIsi "tuple") (xV 1)))) (yBl (x2 dNe (xA dLen (aC (xV 1) aN)) (x2 dAddA (xV 0) (xC (.int 1)))))) (sRaise "InvalidPoints") sNil)
  (sSeq (sFor (iSeq (xV 1)) (hN 2) (sIf (yOr (yNot (yTru (x1 (dIsi "tuple") (xV 2)))) (yOr (yBl (x2 dNe (xA dLen (aC (xV 2) aN)) (xC (.int 2)))) (yOr (yNot (yTru (xCall 1 m_is_chance (aC (x2 dIx (xV 2) (xC (.int 0))) aN)))) (yNot (yTru (xCall 1 m_is_fraction (aC (x2 dIx (xV 2) (xC (.int 1))) aN))))))) (sRaise "InvalidPoints") sNil))
  (sFor (iA dZip (aC (xV 1) (aC (xSl (xV 1) (oS (xC (.int 1))) oN) aN))) (h2 3 4) (sIf (yBl (x2 dGe (x2 dMul (x2 dIx (x2 dIx (xV 3) (xC (.int 0))) (xC (.int 0))) (x2 dIx (x2 dIx (xV 4) (xC (.int 0))) (xC (.int 1)))) (x2 dMul (x2 dIx (x2 dIx (xV 4) (xC (.int 0))) (xC (.int 0))) (x2 dIx (x2 dIx (xV 3) (xC (.int 0))) (xC (.int 1)))))) (sRaise "InvalidPoints") sNil)))))
def m_check_points : List D → R D := runF 3 g_check_points
def g_from_averages : Es → Fl :=
  (sSeq (sExp (xCall 2 m_check_points (aC (xV 0) (aC (xV 1) aN))))
  (sSeq (sAsg 2 (xA dTup aN))
  (sSeq (sFor (iSeq (xV 1)) (h2 3 4) (sSeq (sAsg 5 (xA dTup (aC (xV 4) aN)))
  (sSeq (sFor (iSeq (xV 1)) (h2 6 7) (sIf (yBl (x2 dNe (xV 6) (xV 3))) (sSeq (sAsg 8 (xCall 2 m_multiple_of (aC (xCall 2 m_divided (aC (xA dTup (aC (xC (.int 1)) (aC (xC (.int 1)) aN))) (aC (xCall 2 m_minus (aC (xV 3) (aC (xV 6) aN))) aN))) (aC (xA dTup (aC (xCall 2 m_minus (aC (xA dTup (aC (xC (.int 0)) (aC (xC (.int 1)) aN))) (aC (xV 6) aN))) (aC (xA dTup (aC (xC (.int 1)) (aC (xC (.int 1)) aN))) aN))) aN))))
  (sAsg 5 (xCall 2 m_product_of (aC (xV 5) (aC (xV 8) aN))))) sNil))
  (sAsg 2 (xCall 2 m_sum_of (aC (xV 2) (aC (xV 5) aN)))))))
  (sRet (xCall 2 m_honest_of (aC (xV 0) (aC (xV 2) aN)))))))
def m_from_averages : List D → R D := runF 7 g_from_averages
def g_law_pointed : Es → Fl :=
  (sTry ["InvalidPoints"] (sRet (xCall 2 m_from_averages (aC (xV 0) (aC (xV 1) aN)))) [⟨"InvalidPoints", "EstimateError", "InvalidTrials", (Str.ofString "points"), (Str.ofString "other")⟩])
def m_law_pointed : List D → R D := runF 1 g_law_pointed
def g_added : Es → Fl :=
  (sSeq (sIf (yBl (x2 dEq (xA dLen (aC (xV 0) aN)) (xC (.int 6)))) (sRaise "TooMany") sNil)
  (sRet (x2 dAddA (xV 0) (xA dTup (aC (xV 1) aN)))))
def m_added : List D → R D := runF 0 g_added
def g_law_asked : Es → Fl :=
  (sSeq (sAsg 2 (xA dTup (aC (xA dTup (aC (xC (.int 0)) (aC (xC (.int 1)) aN))) (aC (xA dTup (aC (xC (.int 1)) (aC (xC (.int 1)) aN))) aN))))
  (sSeq (sIf (yBl (x2 dEq (xV 0) (xC (.int 0)))) (sRet (xCall 2 m_can_estimate (aC (xV 1) (aC (xV 1) aN)))) sNil)
  (sSeq (sIf (yBl (x2 dEq (xV 0) (xC (.int 1)))) (sRet (xCall 2 m_honest (aC (xC (.int 1)) (aC (xV 1) aN)))) sNil)
  (sSeq (sIf (yBl (x2 dEq (xV 0) (xC (.int 2)))) (sRet (xCall 3 m_is_honest (aC (xV 1) (aC (xV 1) (aC (xV 1) aN))))) sNil)
  (sSeq (sIf (yBl (x2 dEq (xV 0) (xC (.int 3)))) (sRet (xCall 2 m_average (aC (xC (.int 1)) (aC (xV 1) aN)))) sNil)
  (sSeq (sIf (yBl (x2 dEq (xV 0) (xC (.int 4)))) (sRet (xCall 3 m_average_at (aC (xC (.int 1)) (aC (xV 1) (aC (xV 1) aN))))) sNil)
  (sSeq (sIf (yBl (x2 dEq (xV 0) (xC (.int 5)))) (sRet (xCall 3 m_average_at (aC (xC (.int 1)) (aC (xV 2) (aC (xV 1) aN))))) sNil)
  (sSeq (sIf (yBl (x2 dEq (xV 0) (xC (.int 6)))) (sRet (xCall 3 m_failing_chance (aC (xC (.int 1)) (aC (xV 1) (aC (xV 1) aN))))) sNil)
  (sSeq (sIf (yBl (x2 dEq (xV 0) (xC (.int 7)))) (sRet (xCall 3 m_failing_chance (aC (xC (.int 1)) (aC (xA dTup (aC (xC (.int 0)) (aC (xC (.int 1)) aN))) (aC (xV 1) aN))))) sNil)
  (sSeq (sIf (yBl (x2 dEq (xV 0) (xC (.int 8)))) (sRet (xCall 3 m_table_spread_at (aC (xC (.int 1)) (aC (xV 1) (aC (xV 1) aN))))) sNil)
  (sSeq (sIf (yBl (x2 dEq (xV 0) (xC (.int 9)))) (sRet (xCall 3 m_table_spread_at (aC (xV 1) (aC (xV 1) (aC (xV 1) aN))))) sNil)
  (sSeq (sIf (yBl (x2 dEq (xV 0) (xC (.int 10)))) (sRet (xCall 3 m_more_trials (aC (xC (.int 1)) (aC (xV 1) (aC (xV 1) aN))))) sNil)
  (sRet (xCall 2 m_from_averages (aC (xV 1) (aC (xV 1) aN))))))))))))))))
def m_law_asked : List D → R D := runF 1 g_law_asked
end HM
end
section
set_option linter.all false
set_option maxRecDepth 100000
set_option maxHeartbeats 1000000
namespace HN
open PySem L2 HL HM
/-! ### how the words compute -/
@[simp] theorem xV_z (x : Option D) (r : En) : xV 0 (x :: r) = match x with
  | some d => .ok d
  | none => .bad := by unfold xV; cases x <;> rfl
@[simp] theorem xV_s (i : Nat) (x : Option D) (r : En) : xV (i + 1) (x :: r) = xV i r := by unfold xV; simp
@[simp] theorem xC_ap (d : D) (ρ : En) : xC d ρ = .ok d := rfl
@[simp] theorem x2_ap (g : D → D → R D) (fa fb : FE) (ρ : En) : x2 g fa fb ρ = (fa ρ).bind fun a => (fb ρ).bind fun b => g a b := rfl
@[simp] theorem x1_ap (g : D → R D) (fa : FE) (ρ : En) : x1 g fa ρ = (fa ρ).bind g := rfl
@[simp] theorem xA_ap (g : List D → R D) (f : FA) (ρ : En) : xA g f ρ = (f ρ).bind g := rfl
@[simp] theorem aN_ap (ρ : En) : aN ρ = .ok [] := rfl
@[simp] theorem aC_ap (f : FE) (g : FA) (ρ : En) : aC f g ρ = (f ρ).bind fun a => (g ρ).bind fun r => .ok (a :: r) := rfl
@[simp] theorem xCall_ap (n : Nat) (F : List D → R D) (f : FA) (ρ : En) : xCall n F f ρ = (f ρ).bind fun ds => if ds.length = n then F ds else .bad := rfl
@[simp] theorem yTru_ap (f : FE) (ρ : En) : yTru f ρ = (f ρ).bind dTru := rfl
@[simp] theorem yBl_ap (f : FE) (ρ : En) : yBl f ρ = (f ρ).bind dBl := rfl
@[simp] theorem yAnd_ap (f g : FT) (ρ : En) : yAnd f g ρ = (f ρ).bind fun k => if k = true then g ρ else .ok false := rfl
@[simp] theorem yOr_ap (f g : FT) (ρ : En) : yOr f g ρ = (f ρ).bind fun k => if k = true then .ok true else g ρ := rfl
@[simp] theorem yNot_ap (f : FT) (ρ : En) : yNot f ρ = (f ρ).bind fun k => .ok (!k) := rfl
@[simp] theorem xAnd_ap (f g : FE) (ρ : En) : xAnd f g ρ = (f ρ).bind fun a => (dTru a).bind fun k => if k = true then g ρ else .ok a := rfl
@[simp] theorem xOr_ap (f g : FE) (ρ : En) : xOr f g ρ = (f ρ).bind fun a => (dTru a).bind fun k => if k = true then .ok a else g ρ := rfl
@[simp] theorem xNot_ap (f : FE) (ρ : En) : xNot f ρ = (f ρ).bind fun a => (dTru a).bind fun k => .ok (.bool (!k)) := rfl
@[simp] theorem xIf_ap (t : FT) (f g : FE) (ρ : En) : xIf t f g ρ = (t ρ).bind fun k => if k = true then f ρ else g ρ := rfl
@[simp] theorem oN_ap (ρ : En) : oN ρ = .ok none := rfl
@[simp] theorem oS_ap (f : FE) (ρ : En) : oS f ρ = (f ρ).bind dOI := rfl
@[simp] theorem xSl_ap (f : FE) (fl fh : FO) (ρ : En) : xSl f fl fh ρ = (f ρ).bind fun d => (fl ρ).bind fun lo => (fh ρ).bind fun hi => dSl d lo hi := rfl
@[simp] theorem iSeq_ap (f : FE) (ρ : En) : iSeq f ρ = (f ρ).bind dItems := rfl
@[simp] theorem iA_ap (g : List D → R (List D)) (f : FA) (ρ : En) : iA g f ρ = (f ρ).bind g := rfl
@[simp] theorem aLst_ap (f : FA) (ρ : En) : aLst f ρ = (f ρ).bind fun ds => if ds.length ≤ 1000 then .ok ds else .bad := rfl
@[simp] theorem xF_ap (f : FA) (ρ : En) : xF f ρ = (f ρ).bind fun ds => .ok (.list ds) := rfl
@[simp] theorem dTru_none : dTru .none = .ok false := rfl
@[simp] theorem dTru_bool (b : Bool) : dTru (.bool b) = .ok b := rfl
@[simp] theorem dTru_int (i : Int) : dTru (.int i) = .ok (i != 0) := rfl
@[simp] theorem dTru_list (l : List D) : dTru (.list l) = .ok (!l.isEmpty) := rfl
@[simp] theorem dTru_tuple (l : List D) : dTru (.tuple l) = .ok (!l.isEmpty) := rfl
@[simp] theorem dBl_bool (b : Bool) : dBl (.bool b) = .ok b := rfl
@[simp] theorem dOI_int (i : Int) : dOI (.int i) = .ok (some i) := rfl
@[simp] theorem dAddA_int (a b : Int) : dAddA (.int a) (.int b) = .ok (.int (a + b)) := rfl
@[simp] theorem dAddI_int (a b : Int) : dAddI (.int a) (.int b) = .ok (.int (a + b)) := rfl
@[simp] theorem dSub_int (a b : Int) : dSub (.int a) (.int b) = .ok (.int (a - b)) := rfl
@[simp] theorem dNeg_int (a : Int) : dNeg (.int a) = .ok (.int (-a)) := rfl
@[simp] theorem dLt_int (a b : Int) : dLt (.int a) (.int b) = .ok (.bool (decide (a < b))) := rfl
@[simp] theorem dLe_int (a b : Int) : dLe (.int a) (.int b) = .ok (.bool (decide (a ≤ b))) := rfl
@[simp] theorem dGt_int (a b : Int) : dGt (.int a) (.int b) = .ok (.bool (decide (b < a))) := rfl
@[simp] theorem dGe_int (a b : Int) : dGe (.int a) (.int b) = .ok (.bool (decide (b ≤ a))) := rfl
@[simp] theorem dEq_int (a b : Int) : dEq (.int a) (.int b) = .ok (.bool (decide (a = b))) := by
  have : PyData.eqv (.int a) (.int b) = decide (a = b) := by simp only [PyData.eqv]; exact Bool.beq_eq_decide_eq a b
  unfold dEq
  rw [if_pos (by rfl), this]
@[simp] theorem dNe_int (a b : Int) : dNe (.int a) (.int b) = .ok (.bool (!decide (a = b))) := by
  have : PyData.eqv (.int a) (.int b) = decide (a = b) := by simp only [PyData.eqv]; exact Bool.beq_eq_decide_eq a b
  unfold dNe
  rw [if_pos (by rfl), this]
@[simp] theorem dLen_list (l : List D) : dLen [.list l] = .ok (.int l.length) := rfl
@[simp] theorem dLen_tuple (l : List D) : dLen [.tuple l] = .ok (.int l.length) := rfl
@[simp] theorem dAbs_int (i : Int) : dAbs [.int i] = .ok (.int i.natAbs) := by
  have e : (if i < 0 then -i else i) = (i.natAbs : Int) := by split <;> omega
  simp only [dAbs, e]
@[simp] theorem dMax_int (i j : Int) : dMax [.int i, .int j] = .ok (.int (max i j)) := by
  have e : (if j > i then j else i) = max i j := by split <;> omega
  simp only [dMax, e]
@[simp] theorem dTupOf_list (l : List D) : dTupOf [.list l] = .ok (.tuple l) := rfl
@[simp] theorem dTupOf_tuple (l : List D) : dTupOf [.tuple l] = .ok (.tuple l) := rfl
@[simp] theorem dLstOf_list (l : List D) : dLstOf [.list l] = .ok (.list l) := rfl
@[simp] theorem dLstOf_tuple (l : List D) : dLstOf [.tuple l] = .ok (.list l) := rfl
@[simp] theorem dItems_list (l : List D) : dItems (.list l) = .ok l := rfl
@[simp] theorem dItems_tuple (l : List D) : dItems (.tuple l) = .ok l := rfl
@[simp] theorem dEnum_list (l : List D) : dEnum [.list l] = .ok (enumF 0 l) := rfl
@[simp] theorem dEnum_tuple (l : List D) : dEnum [.tuple l] = .ok (enumF 0 l) := rfl
@[simp] theorem dRev_tuple (l : List D) : dRev (.tuple l) = .ok (.tuple l.reverse) := rfl
@[simp] theorem dRev_list (l : List D) : dRev (.list l) = .ok (.list l.reverse) := rfl
theorem dTup_ok (l : List D) (h : l.length ≤ 1000) : dTup l = .ok (.tuple l) := by unfold dTup; rw [if_pos h]
@[simp] theorem dTup_0 : dTup [] = .ok (.tuple []) := rfl
@[simp] theorem dTup_1 (a : D) : dTup [a] = .ok (.tuple [a]) := rfl
@[simp] theorem dTup_2 (a b : D) : dTup [a, b] = .ok (.tuple [a, b]) := rfl
@[simp] theorem dLst_0 : dLst [] = .ok (.list []) := rfl
@[simp] theorem dLst_1 (a : D) : dLst [a] = .ok (.list [a]) := rfl
@[simp] theorem dLst_2 (a b : D) : dLst [a, b] = .ok (.list [a, b]) := rfl
@[simp] theorem dIx_t0 (a : D) (r : List D) : dIx (.tuple (a :: r)) (.int 0) = .ok a := by
  have : atI (a :: r) (0 : Int) = some a := atI_nat (j := 0) rfl
  simp only [dIx, this]
@[simp] theorem dIx_t1 (a b : D) (r : List D) : dIx (.tuple (a :: b :: r)) (.int 1) = .ok b := by
  have : atI (a :: b :: r) (1 : Int) = some b := atI_nat (j := 1) rfl
  simp only [dIx, this]
theorem dIx_tn {l : List D} {i : Int} {j : Nat} {d : D} (hj : i = (j : Int)) (h : l[j]? = some d) : dIx (.tuple l) (.int i) = .ok d := by
  subst hj
  simp only [dIx, atI_nat h]
theorem dIx_ln {l : List D} {i : Int} {j : Nat} {d : D} (hj : i = (j : Int)) (h : l[j]? = some d) : dIx (.list l) (.int i) = .ok d := by
  subst hj
  simp only [dIx, atI_nat h]
theorem dMul_ok {a b : Int} (h : a.natAbs.log2 + b.natAbs.log2 < 1000000) : dMul (.int a) (.int b) = .ok (.int (a * b)) := by simp only [dMul, h, true_or, if_pos]
theorem dMul_r {a b : Int} (h : b.natAbs < 2 ^ 64) : dMul (.int a) (.int b) = .ok (.int (a * b)) := by simp only [dMul, h, or_true, if_pos]
theorem dFdiv_ok {a b : Int} (h0 : 0 < b) (h : b.natAbs.log2 < 9000) : dFdiv (.int a) (.int b) = .ok (.int (a / b)) := by simp only [dFdiv, h0, h, and_self, if_pos]
theorem dMod_ok {a b : Int} (h0 : 0 < b) : dMod (.int a) (.int b) = .ok (.int (a % b)) := by simp only [dMod, h0, if_pos]
theorem log2_lt {a k : Nat} (h : a < 2 ^ k) (hk : 0 < k) : a.log2 < k := PySem.Flt.log2_lt_of hk h
/-! ### statements -/
def Fl.th (f : Fl) (g : Es → Fl) : Fl := match f with
  | .nx δ => g δ
  | o => o
@[simp] theorem th_nx (δ : Es) (g : Es → Fl) : Fl.th (.nx δ) g = g δ := (rfl)
@[simp] theorem th_rt (d : D) (g : Es → Fl) : Fl.th (.rt d) g = .rt d := rfl
@[simp] theorem th_exc (d : String) (g : Es → Fl) : Fl.th (.exc d) g = .exc d := rfl
@[simp] theorem th_bad (g : Es → Fl) : Fl.th .bad g = .bad := rfl
theorem sSeq_ap (g1 g2 : Es → Fl) (δ : Es) : sSeq g1 g2 δ = Fl.th (g1 δ) g2 := by
  unfold sSeq Fl.th
  cases g1 δ <;> rfl
@[simp] theorem sNil_ap (δ : Es) : sNil δ = .nx δ := rfl
@[simp] theorem sRet_ap (f : FE) (δ : Es) : sRet f δ = fR (f (vw δ)) fun d => .rt d := rfl
@[simp] theorem sExp_ap (f : FE) (δ : Es) : sExp f δ = fR (f (vw δ)) fun _ => .nx δ := rfl
@[simp] theorem sAsg_ap (i : Nat) (f : FE) (δ : Es) : sAsg i f δ = fR (f (v0 δ)) fun d => if i < δ.length then .nx (δ.set i (some (.im d))) else .bad := rfl
@[simp] theorem sAsgR_ap (i : Nat) (f : FE) (δ : Es) : sAsgR i f δ = fR (f (vw δ)) fun d => if i < δ.length ∧ lf d = true then .nx (δ.set i (some (.im d))) else .bad := rfl
@[simp] theorem sAsgO_ap (i : Nat) (f : FA) (δ : Es) : sAsgO i f δ = fR (f (v0 δ)) fun ds => if i < δ.length then .nx (δ.set i (some (.ow ds))) else .bad := rfl
@[simp] theorem sIf_ap (t : FT) (g1 g2 : Es → Fl) (δ : Es) : sIf t g1 g2 δ = fR (t (vw δ)) fun b => if b = true then g1 δ else g2 δ := rfl
@[simp] theorem sFor_ap (fi : FA) (γ : D → Es → R Es) (b : Es → Fl) (δ : Es) : sFor fi γ b δ = fR (fi (v0 δ)) fun xs => forD γ b xs δ := rfl
@[simp] theorem sRaise_ap (c : String) (δ : Es) : sRaise c δ = .exc c := rfl
@[simp] theorem sPar_ap (i j : Nat) (f : FA) (δ : Es) : sPar i j f δ = fR (f (v0 δ)) fun ds => match ds with
  | [a, b] => if i < δ.length ∧ j < δ.length then .nx ((δ.set i (some (.im a))).set j (some (.im b))) else .bad
  | _ => .bad := rfl
@[simp] theorem vw_nil : vw [] = [] := rfl
@[simp] theorem vw_im (d : D) (r : Es) : vw (some (.im d) :: r) = some d :: vw r := rfl
@[simp] theorem vw_ow (d : List D) (r : Es) : vw (some (.ow d) :: r) = some (.list d) :: vw r := rfl
@[simp] theorem vw_none (r : Es) : vw (none :: r) = none :: vw r := rfl
@[simp] theorem v0_nil : v0 [] = [] := rfl
@[simp] theorem v0_im (d : D) (r : Es) : v0 (some (.im d) :: r) = some d :: v0 r := rfl
@[simp] theorem v0_ow (d : List D) (r : Es) : v0 (some (.ow d) :: r) = none :: v0 r := rfl
@[simp] theorem v0_none (r : Es) : v0 (none :: r) = none :: v0 r := rfl
theorem runF_rt {k : Nat} {g : Es → Fl} {ds : List D} {d : D} (h : g (ds.map (fun d => some (.im d)) ++ List.replicate k none) = .rt d) : runF k g ds = .ok d := by
  unfold runF
  rw [h]
theorem runF_nx {k : Nat} {g : Es → Fl} {ds : List D} {δ : Es} (h : g (ds.map (fun d => some (.im d)) ++ List.replicate k none) = .nx δ) : runF k g ds = .ok .none := by
  unfold runF
  rw [h]
theorem runF_exc {k : Nat} {g : Es → Fl} {ds : List D} {c : String} (h : g (ds.map (fun d => some (.im d)) ++ List.replicate k none) = .exc c) : runF k g ds = .exc c := by
  unfold runF
  rw [h]
theorem whD_s (ft : FT) (body : Es → Fl) (m : Nat) (δ : Es) : whD ft body (m + 1) δ = fR (ft (vw δ)) fun b => if b = true then (match body δ with
    | .nx δ2 => whD ft body m δ2
    | .ct δ2 => whD ft body m δ2
    | .bk δ2 => .nx δ2
    | .rt d => .rt d
    | .exc c => .exc c
    | .bad => .bad) else .nx δ := rfl
/-! ### the greatest common divisor -/
theorem mod_half {a b : Nat} (h : b ≠ 0) (hr : a % b ≠ 0) : 2 * (b % (a % b)) < b := by
  have h1 : a % b < b := Nat.mod_lt a (Nat.pos_of_ne_zero h)
  by_cases h2 : 2 * (a % b) ≤ b
  · have := Nat.mod_lt b (Nat.pos_of_ne_zero hr)
    omega
  · have h3 : b % (a % b) = b - a % b := by
      rw [Nat.mod_eq_sub_mod (by omega), Nat.mod_eq_of_lt (by omega)]
    omega
def stepG : Es → Fl := sPar 0 1 (aC (xV 1) (aC (x2 dMod (xV 0) (xV 1)) aN))
theorem stepG_ok (a b : Nat) (h : b ≠ 0) : stepG [some (.im (.int a)), some (.im (.int b))] = .nx [some (.im (.int b)), some (.im (.int ((a % b : Nat) : Int)))] := by
  have hb : (0 : Int) < b := by omega
  simp [stepG, dMod_ok hb]
theorem gcd_loop : ∀ (n : Nat) (m a b : Nat), b < 2 ^ n → 2 * n + 1 ≤ m → whD (yTru (xV 1)) stepG m [some (.im (.int a)), some (.im (.int b))] = .nx [some (.im (.int (Nat.gcd a b))), some (.im (.int 0))]
  | 0, m, a, b, hb, hm => by
    obtain ⟨k, rfl⟩ : ∃ k, m = k + 1 := ⟨m - 1, by omega⟩
    have : b = 0 := by simpa using hb
    subst this
    simp [whD_s]
  | n + 1, m, a, b, hb, hm => by
    obtain ⟨k, rfl⟩ : ∃ k, m = k + 1 + 1 := ⟨m - 2, by omega⟩
    by_cases h0 : b = 0
    · subst h0
      simp [whD_s]
    · rw [whD_s]
      have e1 : ((b : Int) != 0) = true := by simp; omega
      simp only [vw_im, vw_nil, yTru_ap, xV_s, xV_z, R.bind_ok, dTru_int, e1, fR_ok, if_pos, stepG_ok a b h0]
      by_cases h1 : a % b = 0
      · rw [h1, whD_s]
        simp
        rw [Nat.gcd_comm, Nat.gcd_rec, h1]
        simp
      · rw [whD_s]
        have e2 : (((a % b : Nat) : Int) != 0) = true := by simp; omega
        simp only [vw_im, vw_nil, yTru_ap, xV_s, xV_z, R.bind_ok, dTru_int, e2, fR_ok, if_pos, stepG_ok b (a % b) h1]
        have hh := mod_half h0 h1
        rw [gcd_loop n k (a % b) (b % (a % b)) (by rw [Nat.pow_succ] at hb; omega) (by omega)]
        congr 4
        rw [Nat.gcd_comm (a % b), ← Nat.gcd_rec, ← Nat.gcd_rec, Nat.gcd_comm]
theorem m_gcd_ok {a b : Nat} (hb : b < 2 ^ 9000) : m_greatest_divisor [.int a, .int b] = .ok (.int (Nat.gcd a b)) := by
  refine runF_rt ?_
  show sSeq (whD (yTru (xV 1)) stepG 20000) (sRet (xV 0)) [some (.im (.int a)), some (.im (.int b))] = _
  rw [sSeq_ap, gcd_loop 9000 20000 a b hb (by decide)]
  simp
/-! ### fractions -/
def fr (q : Rat) : D := .tuple [.int q.num, .int (q.den : Nat)]
theorem reduced_ok {a : Int} {b : Nat} (h0 : b ≠ 0) (hb : b < 2 ^ 9000) : m_reduced [.int a, .int b] = .ok (fr (mkRat a b)) := by
  have hg : 0 < Nat.gcd a.natAbs b := Nat.gcd_pos_of_pos_right _ (Nat.pos_of_ne_zero h0)
  have hgi : (0 : Int) < (Nat.gcd a.natAbs b : Nat) := by omega
  have hgl : ((Nat.gcd a.natAbs b : Nat) : Int).natAbs.log2 < 9000 := by
    rw [Int.natAbs_natCast]
    exact log2_lt (Nat.lt_of_le_of_lt (Nat.gcd_le_right _ (Nat.pos_of_ne_zero h0)) hb) (by decide)
  have e1 : (mkRat a b).num = a / (Nat.gcd a.natAbs b : Nat) := by rw [Rat.num_mkRat, if_neg h0, Nat.gcd_comm]
  have e2 : (((mkRat a b).den : Nat) : Int) = (b : Int) / (Nat.gcd a.natAbs b : Nat) := by
    rw [Rat.den_mkRat, if_neg h0, Nat.gcd_comm]; rfl
  refine runF_rt ?_
  unfold g_reduced fr
  rw [sSeq_ap, e1, e2]
  simp [m_gcd_ok hb, dFdiv_ok hgi hgl]
/-- a fraction of bounded size -/
structure Sm (q : Rat) : Prop where
  n : q.num.natAbs < 2 ^ 2000
  d : q.den < 2 ^ 2000
theorem nat_lt_mul {a b c d : Nat} (h1 : a < c) (h2 : b < d) : a * b < c * d := Nat.mul_lt_mul'' h1 h2
theorem mul_sz {a b : Int} {k l : Nat} (ha : a.natAbs < 2 ^ k) (hb : b.natAbs < 2 ^ l) (hk : 0 < k) (hl : 0 < l) (h : k + l < 1000000) : dMul (.int a) (.int b) = .ok (.int (a * b)) := by
  refine dMul_ok ?_
  have := log2_lt ha hk
  have := log2_lt hb hl
  omega
theorem plus_ok {x y : Rat} (hx : Sm x) (hy : Sm y) : m_plus [fr x, fr y] = .ok (fr (x + y)) := by
  have hd : x.den * y.den ≠ 0 := Nat.mul_ne_zero x.den_nz y.den_nz
  have hb : x.den * y.den < 2 ^ 9000 := Nat.lt_of_lt_of_le (nat_lt_mul hx.d hy.d) (by rw [← Nat.pow_add]; exact Nat.pow_le_pow_right (by decide) (by decide))
  have e : ((x.den : Int) * (y.den : Int)) = ((x.den * y.den : Nat) : Int) := by simp
  refine runF_rt ?_
  have m1 := mul_sz (a := x.num) (b := y.den) (k := 2000) (l := 2000) hx.n (by simpa using hy.d) (by decide) (by decide) (by decide)
  have m2 := mul_sz (a := y.num) (b := x.den) (k := 2000) (l := 2000) hy.n (by simpa using hx.d) (by decide) (by decide) (by decide)
  have m3 := mul_sz (a := x.den) (b := y.den) (k := 2000) (l := 2000) (by simpa using hx.d) (by simpa using hy.d) (by decide) (by decide) (by decide)
  unfold g_plus
  rw [Rat.add_def']
  simp [fr, m1, m2, m3]
  rw [e]
  simpa [fr] using congrArg (fun r => fR r fun d => Fl.rt d) (reduced_ok (a := x.num * y.den + y.num * x.den) hd hb)
theorem times_ok {x y : Rat} (hx : Sm x) (hy : Sm y) : m_times [fr x, fr y] = .ok (fr (x * y)) := by
  have hd : x.den * y.den ≠ 0 := Nat.mul_ne_zero x.den_nz y.den_nz
  have hb : x.den * y.den < 2 ^ 9000 := Nat.lt_of_lt_of_le (nat_lt_mul hx.d hy.d) (by rw [← Nat.pow_add]; exact Nat.pow_le_pow_right (by decide) (by decide))
  have e : ((x.den : Int) * (y.den : Int)) = ((x.den * y.den : Nat) : Int) := by simp
  refine runF_rt ?_
  have m1 := mul_sz (a := x.num) (b := y.num) (k := 2000) (l := 2000) hx.n hy.n (by decide) (by decide) (by decide)
  have m3 := mul_sz (a := x.den) (b := y.den) (k := 2000) (l := 2000) (by simpa using hx.d) (by simpa using hy.d) (by decide) (by decide) (by decide)
  unfold g_times
  rw [Rat.mul_def']
  simp [fr, m1, m3]
  rw [e]
  simpa [fr] using congrArg (fun r => fR r fun d => Fl.rt d) (reduced_ok (a := x.num * y.num) hd hb)
end HN
end
section
set_option linter.all false
set_option maxRecDepth 100000
set_option maxHeartbeats 1000000
set_option exponentiation.threshold 20000
namespace HN
open PySem L2 HL HM
theorem lgcd_loop : ∀ (n : Nat) (m a b : Nat), b < 2 ^ n → 2 * n + 1 ≤ m → whD (yBl (x2 dNe (xV 1) (xC (.int 0)))) stepG m [some (.im (.int a)), some (.im (.int b))] = .nx [some (.im (.int (Nat.gcd a b))), some (.im (.int 0))]
  | 0, m, a, b, hb, hm => by
    obtain ⟨k, rfl⟩ : ∃ k, m = k + 1 := ⟨m - 1, by omega⟩
    have : b = 0 := by simpa using hb
    subst this
    simp [whD_s]
  | n + 1, m, a, b, hb, hm => by
    obtain ⟨k, rfl⟩ : ∃ k, m = k + 1 + 1 := ⟨m - 2, by omega⟩
    by_cases h0 : b = 0
    · subst h0
      simp [whD_s]
    · rw [whD_s]
      have e1 : (!decide ((b : Int) = 0)) = true := by simp; omega
      simp only [vw_im, vw_nil, yBl_ap, x2_ap, xC_ap, dNe_int, dBl_bool, xV_s, xV_z, R.bind_ok, e1, fR_ok, if_pos, stepG_ok a b h0]
      by_cases h1 : a % b = 0
      · rw [h1, whD_s]
        simp
        rw [Nat.gcd_comm, Nat.gcd_rec, h1]
        simp
      · rw [whD_s]
        have e2 : (!decide (((a % b : Nat) : Int) = 0)) = true := by simp; omega
        simp only [vw_im, vw_nil, yBl_ap, x2_ap, xC_ap, dNe_int, dBl_bool, xV_s, xV_z, R.bind_ok, e2, fR_ok, if_pos, stepG_ok b (a % b) h1]
        have hh := mod_half h0 h1
        rw [lgcd_loop n k (a % b) (b % (a % b)) (by rw [Nat.pow_succ] at hb; omega) (by omega)]
        congr 4
        rw [Nat.gcd_comm (a % b), ← Nat.gcd_rec, ← Nat.gcd_rec, Nat.gcd_comm]
theorem lgcd_ok {a b : Nat} (hb : b < 2 ^ 9000) : m_law_gcd [.int a, .int b] = .ok (.int (Nat.gcd a b)) := by
  refine runF_rt ?_
  show sSeq (whD (yBl (x2 dNe (xV 1) (xC (.int 0)))) stepG 20000) (sRet (xV 0)) [some (.im (.int a)), some (.im (.int b))] = _
  rw [sSeq_ap, lgcd_loop 9000 20000 a b hb (by decide)]
  simp
theorem low_ok {a b : Int} (h0 : b ≠ 0) (ha : a.natAbs < 2 ^ 9000) (hb : b.natAbs < 2 ^ 9000) : m_law_low [.int a, .int b] = .ok (fr (Rat.divInt a b)) := by
  have hg : 0 < Nat.gcd a.natAbs b.natAbs := Nat.gcd_pos_of_pos_right _ (by omega)
  have hgi : (0 : Int) < (Nat.gcd a.natAbs b.natAbs : Nat) := by omega
  have hgl : ((Nat.gcd a.natAbs b.natAbs : Nat) : Int).natAbs.log2 < 9000 := by
    rw [Int.natAbs_natCast]
    exact log2_lt (Nat.lt_of_le_of_lt (Nat.gcd_le_right _ (by omega)) hb) (by decide)
  have eg : b.gcd a = Nat.gcd a.natAbs b.natAbs := by unfold Int.gcd; rw [Nat.gcd_comm]
  have e1 : (Rat.divInt a b).num = b.sign * a / (Nat.gcd a.natAbs b.natAbs : Nat) := by rw [Rat.num_divInt, eg]
  have e2 : (((Rat.divInt a b).den : Nat) : Int) = (b.sign * b) / (Nat.gcd a.natAbs b.natAbs : Nat) := by
    rw [Rat.den_divInt, if_neg h0, eg]
    have : b.sign * b = (b.natAbs : Int) := by
      rcases Int.lt_trichotomy b 0 with h | h | h
      · rw [Int.sign_eq_neg_one_of_neg h]; omega
      · omega
      · rw [Int.sign_eq_one_of_pos h]; omega
    rw [this]; rfl
  have m1 : ∀ x : Int, x.natAbs < 2 ^ 9000 → dMul (.int b.sign) (.int x) = .ok (.int (b.sign * x)) := fun x hx => by
    refine mul_sz (k := 1) (l := 9000) ?_ hx (by decide) (by decide) (by decide)
    rw [Int.natAbs_sign]
    split <;> omega
  refine runF_rt ?_
  unfold g_law_low
  rw [sSeq_ap]
  have es : xIf (yBl (x2 dGt (xV 1) (xC (.int 0)))) (xC (.int 1)) (x1 dNeg (xC (.int 1))) [some (PyData.int a), some (.int b), none, none] = .ok (.int b.sign) := by
    by_cases hp : 0 < b
    · simp [hp, Int.sign_eq_one_of_pos hp]
    · have hn : b < 0 := by omega
      simp [hp, Int.sign_eq_neg_one_of_neg hn]
  have st1 : sAsg 2 (xIf (yBl (x2 dGt (xV 1) (xC (.int 0)))) (xC (.int 1)) (x1 dNeg (xC (.int 1)))) (List.map (fun d => some (Sl.im d)) [PyData.int a, .int b] ++ List.replicate 2 none) = .nx [some (.im (.int a)), some (.im (.int b)), some (.im (.int b.sign)), none] := by
    show fR (xIf (yBl (x2 dGt (xV 1) (xC (.int 0)))) (xC (.int 1)) (x1 dNeg (xC (.int 1))) [some (PyData.int a), some (.int b), none, none]) _ = _
    rw [es]
    rfl
  rw [st1, th_nx, sSeq_ap]
  unfold fr
  rw [e1, e2]
  simp [lgcd_ok hb, m1 a ha, m1 b hb, dFdiv_ok hgi hgl]
/-! ### sizes -/
def Bd (M V : Nat) (q : Rat) : Prop := ∃ z : Int, q * (M : Rat) = (z : Rat) ∧ z.natAbs ≤ V * M
theorem bd_num {M V : Nat} {q : Rat} (hM : M ≠ 0) (h : Bd M V q) : q.num.natAbs ≤ V * M ∧ q.den ≤ M := by
  obtain ⟨z, hz, hv⟩ := h
  have hq : q = mkRat z M := by
    have hM' : (M : Rat) ≠ 0 := by simpa using hM
    rw [Rat.mkRat_eq_div, ← hz]
    show q = q * (M : Rat) / (M : Rat)
    rw [Rat.mul_div_cancel hM']
  constructor
  · rw [hq, Rat.num_mkRat, if_neg hM]
    exact Nat.le_trans (Int.natAbs_ediv_le_natAbs z _) hv
  · rw [hq, Rat.den_mkRat, if_neg hM]
    exact Nat.div_le_self _ _
theorem Bd.sm {M V : Nat} {q : Rat} (h : Bd M V q) (hM : M ≠ 0) (h1 : M < 2 ^ 2000) (h2 : V * M < 2 ^ 2000) : Sm q := by
  obtain ⟨a, b⟩ := bd_num hM h
  exact ⟨Nat.lt_of_le_of_lt a h2, Nat.lt_of_le_of_lt b h1⟩
theorem Bd.add {M V W : Nat} {q r : Rat} (h : Bd M V q) (h' : Bd M W r) : Bd M (V + W) (q + r) := by
  obtain ⟨z, hz, hv⟩ := h
  obtain ⟨y, hy, hw⟩ := h'
  refine ⟨z + y, by rw [Rat.add_mul, hz, hy]; simp, ?_⟩
  rw [Nat.add_mul]
  omega
theorem Bd.mul {M N V W : Nat} {q r : Rat} (h : Bd M V q) (h' : Bd N W r) : Bd (M * N) (V * W) (q * r) := by
  obtain ⟨z, hz, hv⟩ := h
  obtain ⟨y, hy, hw⟩ := h'
  refine ⟨z * y, ?_, ?_⟩
  · have : q * r * ((M * N : Nat) : Rat) = (q * (M : Rat)) * (r * (N : Rat)) := by rw [Rat.natCast_mul]; grind
    rw [this, hz, hy]
    simp
  · rw [Int.natAbs_mul]
    calc z.natAbs * y.natAbs ≤ (V * M) * (W * N) := Nat.mul_le_mul hv hw
      _ = V * W * (M * N) := by grind
theorem Bd.mono {M V W : Nat} {q : Rat} (h : Bd M V q) (hw : V ≤ W) : Bd M W q := by
  obtain ⟨z, hz, hv⟩ := h
  exact ⟨z, hz, Nat.le_trans hv (Nat.mul_le_mul_right _ hw)⟩
theorem Bd.up {M V : Nat} {q : Rat} (h : Bd M V q) (N : Nat) : Bd (M * N) V q := by
  obtain ⟨z, hz, hv⟩ := h
  refine ⟨z * N, ?_, ?_⟩
  · have : q * ((M * N : Nat) : Rat) = (q * (M : Rat)) * (N : Rat) := by rw [Rat.natCast_mul]; grind
    rw [this, hz, Rat.intCast_mul]
    rfl
  · rw [Int.natAbs_mul, Int.natAbs_natCast, ← Nat.mul_assoc]
    exact Nat.mul_le_mul_right _ hv
theorem Bd.neg {M V : Nat} {q : Rat} (h : Bd M V q) : Bd M V (-q) := by
  obtain ⟨z, hz, hv⟩ := h
  exact ⟨-z, by rw [Rat.neg_mul, hz]; simp, by rw [Int.natAbs_neg]; exact hv⟩
theorem bd_int {z : Int} {V : Nat} (h : z.natAbs ≤ V) : Bd 1 V (z : Rat) := ⟨z, by simp, by simpa using h⟩
theorem bd_div {a : Int} {b M V : Nat} (hb : b ≠ 0) (hd : b ∣ M) (h : a.natAbs ≤ V * b) : Bd M V (mkRat a b) := by
  obtain ⟨c, rfl⟩ := hd
  refine ⟨a * c, ?_, ?_⟩
  · have hb' : (b : Rat) ≠ 0 := by simpa using hb
    rw [Rat.mkRat_eq_div, Rat.natCast_mul]
    have := Rat.div_mul_cancel (a := (a : Rat)) hb'
    have e : (a : Rat) / (b : Rat) * ((b : Rat) * (c : Rat)) = ((a : Rat) / (b : Rat) * (b : Rat)) * (c : Rat) := by grind
    rw [e, this, Rat.intCast_mul]
    rfl
  · rw [Int.natAbs_mul, Int.natAbs_natCast, ← Nat.mul_assoc]
    exact Nat.mul_le_mul_right _ h
theorem bd_zero {M V : Nat} : Bd M V 0 := ⟨0, by simp, by simp⟩
theorem bd_one {M : Nat} : Bd M 1 1 := ⟨M, by rw [Rat.one_mul]; rfl, by simp⟩
/-! ### pairs of whole numbers, times and sums found by the law -/
def pr (p : Int × Nat) : D := .tuple [.int p.1, .int (p.2 : Nat)]
def pv' (p : Int × Nat) : Rat := mkRat p.1 p.2
theorem fr_pr (q : Rat) : fr q = pr (q.num, q.den) := rfl
theorem pv_fr (q : Rat) : pv' (q.num, q.den) = q := Rat.mkRat_self q
structure SmP (p : Int × Nat) : Prop where
  z : p.2 ≠ 0
  n : p.1.natAbs < 2 ^ 4400
  d : p.2 < 2 ^ 4400
theorem Sm.p {q : Rat} (h : Sm q) : SmP (q.num, q.den) := ⟨q.den_nz, Nat.lt_trans h.n (Nat.pow_lt_pow_right (by decide) (by decide)), Nat.lt_trans h.d (Nat.pow_lt_pow_right (by decide) (by decide))⟩
theorem ltimes_ok {p q : Int × Nat} (hp : SmP p) (hq : SmP q) : m_law_times [pr p, pr q] = .ok (fr (pv' p * pv' q)) := by
  have hd : ((p.2 : Int) * (q.2 : Int)) ≠ 0 := by
    have := Nat.mul_ne_zero hp.z hq.z
    rw [← Int.natCast_mul]
    omega
  have b9 : (2 : Nat) ^ 4400 * 2 ^ 4400 ≤ 2 ^ 9000 := by rw [← Nat.pow_add]; exact Nat.pow_le_pow_right (by decide) (by decide)
  have n1 : (p.1 * q.1).natAbs < 2 ^ 9000 := by rw [Int.natAbs_mul]; exact Nat.lt_of_lt_of_le (nat_lt_mul hp.n hq.n) b9
  have n2 : ((p.2 : Int) * (q.2 : Int)).natAbs < 2 ^ 9000 := by rw [Int.natAbs_mul]; exact Nat.lt_of_lt_of_le (nat_lt_mul (by simpa using hp.d) (by simpa using hq.d)) b9
  have m1 := mul_sz (a := p.1) (b := q.1) (k := 4400) (l := 4400) hp.n hq.n (by decide) (by decide) (by decide)
  have m3 := mul_sz (a := p.2) (b := q.2) (k := 4400) (l := 4400) (by simpa using hp.d) (by simpa using hq.d) (by decide) (by decide) (by decide)
  have e : Rat.divInt (p.1 * q.1) ((p.2 : Int) * (q.2 : Int)) = pv' p * pv' q := by
    rw [← Rat.divInt_mul_divInt]
    simp [pv']
  refine runF_rt ?_
  unfold g_law_times
  have := low_ok hd n1 n2
  rw [e] at this
  simp [pr, m1, m3, this]
def lsum (l : List (Int × Nat)) : Rat := (l.map pv').sum
/-- the sums on the way are small -/
def PSm : Rat → List (Int × Nat) → Prop
  | s, [] => Sm s
  | s, p :: r => Sm s ∧ SmP p ∧ PSm (s + pv' p) r
theorem PSm.hd {s : Rat} {l : List (Int × Nat)} (h : PSm s l) : Sm s := by
  cases l with
  | nil => exact h
  | cons p r => exact h.1
def bodySum : Es → Fl := sAsg 1 (xCall 2 m_law_low (aC (x2 dAddA (x2 dMul (x2 dIx (xV 1) (xC (.int 0))) (xV 3)) (x2 dMul (xV 2) (x2 dIx (xV 1) (xC (.int 1))))) (aC (x2 dMul (x2 dIx (xV 1) (xC (.int 1))) (xV 3)) aN)))
theorem forD_cons {γ : D → Es → R Es} {body : Es → Fl} {x : D} {xs : List D} {δ δ1 δ2 : Es} (h1 : γ x δ = .ok δ1) (h2 : body δ1 = .nx δ2) : forD γ body (x :: xs) δ = forD γ body xs δ2 := by
  rw [forD, h1]
  simp only [R.nx, fR_ok, h2]
theorem forD_rt {γ : D → Es → R Es} {body : Es → Fl} {x : D} {xs : List D} {δ δ1 : Es} {d : D} (h1 : γ x δ = .ok δ1) (h2 : body δ1 = .rt d) : forD γ body (x :: xs) δ = .rt d := by
  rw [forD, h1]
  simp only [R.nx, fR_ok, h2]
theorem bodySum_ok {s : Rat} {p : Int × Nat} {u : D} (hs : Sm s) (hp : SmP p) : bodySum [some (.im u), some (.im (fr s)), some (.im (.int p.1)), some (.im (.int (p.2 : Nat)))] = .nx [some (.im u), some (.im (fr (s + pv' p))), some (.im (.int p.1)), some (.im (.int (p.2 : Nat)))] := by
  have hd : ((s.den : Int) * (p.2 : Int)) ≠ 0 := by
    have := Nat.mul_ne_zero s.den_nz hp.z
    rw [← Int.natCast_mul]
    omega
  have b1 : (s.num * (p.2 : Int)).natAbs < 2 ^ 2000 * 2 ^ 4400 := by rw [Int.natAbs_mul]; exact nat_lt_mul hs.n (by simpa using hp.d)
  have b2 : (p.1 * (s.den : Int)).natAbs < 2 ^ 4400 * 2 ^ 2000 := by rw [Int.natAbs_mul]; exact nat_lt_mul hp.n (by simpa using hs.d)
  have b9 : (2 : Nat) ^ 2000 * 2 ^ 4400 + 2 ^ 4400 * 2 ^ 2000 ≤ 2 ^ 9000 := by decide +kernel
  have n1 : (s.num * (p.2 : Int) + p.1 * (s.den : Int)).natAbs < 2 ^ 9000 := by
    have := Int.natAbs_add_le (s.num * (p.2 : Int)) (p.1 * (s.den : Int))
    omega
  have n2 : ((s.den : Int) * (p.2 : Int)).natAbs < 2 ^ 9000 := by
    have : ((s.den : Int) * (p.2 : Int)).natAbs < 2 ^ 2000 * 2 ^ 4400 := by rw [Int.natAbs_mul]; exact nat_lt_mul (by simpa using hs.d) (by simpa using hp.d)
    omega
  have m1 := mul_sz (a := s.num) (b := p.2) (k := 2000) (l := 4400) hs.n (by simpa using hp.d) (by decide) (by decide) (by decide)
  have m2 := mul_sz (a := p.1) (b := s.den) (k := 4400) (l := 2000) hp.n (by simpa using hs.d) (by decide) (by decide) (by decide)
  have m3 := mul_sz (a := s.den) (b := p.2) (k := 2000) (l := 4400) (by simpa using hs.d) (by simpa using hp.d) (by decide) (by decide) (by decide)
  have e : Rat.divInt (s.num * (p.2 : Int) + p.1 * (s.den : Int)) ((s.den : Int) * (p.2 : Int)) = s + pv' p := by
    have h1 : (s.den : Int) ≠ 0 := by have := s.den_nz; omega
    have h2 : (p.2 : Int) ≠ 0 := by have := hp.z; omega
    have h3 := Rat.divInt_add_divInt s.num p.1 h1 h2
    rw [← h3, Rat.num_divInt_den]
    simp [pv']
  have := low_ok hd n1 n2
  rw [e] at this
  simp [bodySum, fr, m1, m2, m3] at this ⊢
  rw [this]
  simp
theorem lsum_loop : ∀ (l : List (Int × Nat)) (s : Rat) (u : D) (o1 o2 : Option Sl), PSm s l → ∃ o3 o4, forD (h2 2 3) bodySum (l.map pr) [some (.im u), some (.im (fr s)), o1, o2] = .nx [some (.im u), some (.im (fr (s + lsum l))), o3, o4]
  | [], s, u, o1, o2, h => ⟨o1, o2, by simp [forD, lsum, Rat.add_zero]⟩
  | p :: r, s, u, o1, o2, h => by
    obtain ⟨o3, o4, e⟩ := lsum_loop r (s + pv' p) u (some (.im (.int p.1))) (some (.im (.int (p.2 : Nat)))) h.2.2
    refine ⟨o3, o4, ?_⟩
    rw [List.map_cons, forD_cons (δ1 := [some (.im u), some (.im (fr s)), some (.im (.int p.1)), some (.im (.int (p.2 : Nat)))]) (by simp [h2, pr]) (bodySum_ok h.1 h.2.1), e]
    simp [lsum, Rat.add_assoc]
theorem lsum_ok {l : List (Int × Nat)} (h : PSm 0 l) : m_law_sum [.list (l.map pr)] = .ok (fr (lsum l)) := by
  obtain ⟨o3, o4, e⟩ := lsum_loop l 0 (.list (l.map pr)) none none h
  refine runF_rt ?_
  show sSeq (sAsg 1 (xA dTup (aC (xC (.int 0)) (aC (xC (.int 1)) aN)))) (sSeq (sFor (iSeq (xV 0)) (h2 2 3) bodySum) (sRet (xV 1))) [some (.im (.list (l.map pr))), none, none, none] = _
  have e0 : PyData.tuple [.int 0, .int 1] = fr 0 := rfl
  rw [sSeq_ap]
  simp only [sAsg_ap, xA_ap, aC_ap, xC_ap, aN_ap, R.bind_ok, dTup_2, fR_ok, e0]
  rw [if_pos (by simp)]
  simp only [th_nx, sSeq_ap, List.set, sFor_ap, v0_im, v0_none, v0_nil, iSeq_ap, xV_z, R.bind_ok, dItems_list, fR_ok]
  rw [e]
  simp [Rat.zero_add]
end HN
end
section
set_option linter.all false
set_option maxRecDepth 100000
set_option maxHeartbeats 1000000
set_option exponentiation.threshold 20000
namespace HN
open PySem L2 HL HM
/-! ### equality of data -/
structure Sh (n : Nat) (d : D) : Prop where
  c : d.canLay0 = true
  d : d.depth ≤ n
theorem sh_int (i : Int) : Sh 0 (.int i) := ⟨rfl, Nat.zero_le _⟩
theorem sh_none : Sh 0 (.none) := ⟨rfl, Nat.zero_le _⟩
theorem sh_bool (b : Bool) : Sh 0 (.bool b) := ⟨rfl, Nat.zero_le _⟩
theorem Sh.mono {n m : Nat} {d : D} (h : Sh n d) (hm : n ≤ m) : Sh m d := ⟨h.c, Nat.le_trans h.d hm⟩
theorem sh_all {n : Nat} : ∀ {ds : List D}, (∀ d ∈ ds, Sh n d) → PyData.canLayAll0 ds = true ∧ PyData.depthAll ds ≤ n
  | [], _ => ⟨rfl, Nat.zero_le _⟩
  | d :: r, h => by
    obtain ⟨a, b⟩ := sh_all (ds := r) fun x hx => h x (List.mem_cons_of_mem _ hx)
    have hd := h d List.mem_cons_self
    constructor
    · simp only [PyData.canLayAll0, hd.c, a, Bool.and_self]
    · simp only [PyData.depthAll]
      exact Nat.max_le.mpr ⟨hd.d, b⟩
theorem sh_tuple {n : Nat} {ds : List D} (h : ∀ d ∈ ds, Sh n d) : Sh (n + 1) (.tuple ds) := by
  obtain ⟨a, b⟩ := sh_all h
  exact ⟨by simp only [PyData.canLay0, a], by simp only [PyData.depth]; omega⟩
theorem sh_list {n : Nat} {ds : List D} (h : ∀ d ∈ ds, Sh n d) : Sh (n + 1) (.list ds) := by
  obtain ⟨a, b⟩ := sh_all h
  exact ⟨by simp only [PyData.canLay0, a], by simp only [PyData.depth]; omega⟩
theorem Sh.sh {n : Nat} {d : D} (h : Sh n d) (hn : n ≤ 64) : SeqAt.shaped d = true := by
  unfold SeqAt.shaped
  rw [h.c, decide_eq_true (Nat.le_trans h.d hn)]
  rfl
theorem dEq_sh {n m : Nat} {d e : D} (h1 : Sh n d) (h2 : Sh m e) (hn : n ≤ 64) (hm : m ≤ 64) : dEq d e = .ok (.bool (PyData.eqv d e)) := by
  unfold dEq
  rw [h1.sh hn, h2.sh hm]
  rfl
theorem dNe_sh {n m : Nat} {d e : D} (h1 : Sh n d) (h2 : Sh m e) (hn : n ≤ 64) (hm : m ≤ 64) : dNe d e = .ok (.bool (!PyData.eqv d e)) := by
  unfold dNe
  rw [h1.sh hn, h2.sh hm]
  rfl
theorem eqv_int (a b : Int) : PyData.eqv (.int a) (.int b) = decide (a = b) := by simp only [PyData.eqv]; exact Bool.beq_eq_decide_eq a b
theorem eqv_tuple (xs ys : List D) : PyData.eqv (.tuple xs) (.tuple ys) = PyData.eqvAll xs ys := by simp only [PyData.eqv]
theorem eqv_list (xs ys : List D) : PyData.eqv (.list xs) (.list ys) = PyData.eqvAll xs ys := by simp only [PyData.eqv]
theorem eqvAll_map {α : Type} [DecidableEq α] {f : α → D} (h : ∀ x y, PyData.eqv (f x) (f y) = decide (x = y)) : ∀ xs ys : List α, PyData.eqvAll (xs.map f) (ys.map f) = decide (xs = ys)
  | [], [] => rfl
  | x :: xs, [] => rfl
  | [], y :: ys => rfl
  | x :: xs, y :: ys => by
    rw [List.map_cons, List.map_cons, PyData.eqvAll, h, eqvAll_map h xs ys]
    by_cases h1 : x = y
    · by_cases h2 : xs = ys <;> simp [h1, h2]
    · simp [h1]
theorem eqv_fr (x y : Rat) : PyData.eqv (fr x) (fr y) = decide (x = y) := by
  unfold fr
  rw [eqv_tuple, PyData.eqvAll, PyData.eqvAll, PyData.eqvAll, eqv_int, eqv_int]
  by_cases h : x = y
  · subst h; simp
  · rw [decide_eq_false h]
    by_cases h1 : x.num = y.num
    · have h2 : ¬ ((x.den : Int) = (y.den : Int)) := fun e => h (Rat.ext h1 (by omega))
      simp [h2]
    · simp [h1]
theorem sh_fr (x : Rat) : Sh 1 (fr x) := sh_tuple (n := 0) fun d hd => by
  rcases List.mem_cons.mp hd with rfl | hd
  · exact sh_int _
  · rw [List.mem_singleton.mp hd]; exact sh_int _
theorem sh_map {α : Type} {n : Nat} {f : α → D} (h : ∀ x, Sh n (f x)) (l : List α) : ∀ d ∈ l.map f, Sh n d := fun d hd => by
  obtain ⟨x, _, rfl⟩ := List.mem_map.mp hd
  exact h x
@[simp] theorem dEq_fr (x y : Rat) : dEq (fr x) (fr y) = .ok (.bool (decide (x = y))) := by rw [dEq_sh (sh_fr x) (sh_fr y) (by decide) (by decide), eqv_fr]
@[simp] theorem dNe_fr (x y : Rat) : dNe (fr x) (fr y) = .ok (.bool (!decide (x = y))) := by rw [dNe_sh (sh_fr x) (sh_fr y) (by decide) (by decide), eqv_fr]
@[simp] theorem dEq_frs (xs ys : List Rat) : dEq (.tuple (xs.map fr)) (.tuple (ys.map fr)) = .ok (.bool (decide (xs = ys))) := by
  rw [dEq_sh (sh_tuple (sh_map sh_fr xs)) (sh_tuple (sh_map sh_fr ys)) (by decide) (by decide), eqv_tuple, eqvAll_map eqv_fr]
@[simp] theorem dNe_frs (xs ys : List Rat) : dNe (.tuple (xs.map fr)) (.tuple (ys.map fr)) = .ok (.bool (!decide (xs = ys))) := by
  rw [dNe_sh (sh_tuple (sh_map sh_fr xs)) (sh_tuple (sh_map sh_fr ys)) (by decide) (by decide), eqv_tuple, eqvAll_map eqv_fr]
theorem dNe_ints (xs ys : List Int) : dNe (.list (xs.map .int)) (.list (ys.map .int)) = .ok (.bool (!decide (xs = ys))) := by
  rw [dNe_sh (sh_list (sh_map sh_int xs)) (sh_list (sh_map sh_int ys)) (by decide) (by decide), eqv_list, eqvAll_map eqv_int]
theorem dEq_tints (xs ys : List Int) : dEq (.tuple (xs.map .int)) (.tuple (ys.map .int)) = .ok (.bool (decide (xs = ys))) := by
  rw [dEq_sh (sh_tuple (sh_map sh_int xs)) (sh_tuple (sh_map sh_int ys)) (by decide) (by decide), eqv_tuple, eqvAll_map eqv_int]
/-! ### comprehensions -/
theorem lc_map {α : Type} {γ : D → En → R En} {fe : FE} {ρ : En} {f g : α → D} : ∀ {l : List α}, (∀ a ∈ l, ∃ ρ2, γ (f a) ρ = .ok ρ2 ∧ fe ρ2 = .ok (g a)) → lcD γ (fun _ => .ok true) fe ρ (l.map f) = .ok (l.map g)
  | [], _ => rfl
  | a :: l, h => by
    obtain ⟨ρ2, h1, h2⟩ := h a List.mem_cons_self
    rw [List.map_cons, lcD, h1]
    simp only [R.nx, R.bind_ok, if_pos, h2, lc_map fun b hb => h b (List.mem_cons_of_mem _ hb), List.map_cons]
theorem lc_filter {α : Type} {γ : D → En → R En} {ft : FT} {fe : FE} {ρ : En} {f g : α → D} {p : α → Bool} : ∀ {l : List α}, (∀ a ∈ l, ∃ ρ2, γ (f a) ρ = .ok ρ2 ∧ ft ρ2 = .ok (p a) ∧ (p a = true → fe ρ2 = .ok (g a))) → lcD γ ft fe ρ (l.map f) = .ok ((l.filter p).map g)
  | [], _ => rfl
  | a :: l, h => by
    obtain ⟨ρ2, h1, h2, h3⟩ := h a List.mem_cons_self
    rw [List.map_cons, lcD, h1]
    simp only [R.nx, R.bind_ok, h2]
    by_cases hp : p a = true
    · simp only [hp, if_pos, h3 hp, R.bind_ok, lc_filter fun b hb => h b (List.mem_cons_of_mem _ hb), List.filter_cons, List.map_cons]
    · simp only [hp, if_neg, lc_filter fun b hb => h b (List.mem_cons_of_mem _ hb), List.filter_cons]
      simp
theorem rngD_map (lo : Int) (n : Nat) : rngD lo n = (List.range n).map fun i : Nat => .int (lo + (i : Int)) := rfl
@[simp] theorem rngD_len (lo : Int) (n : Nat) : (rngD lo n).length = n := by simp [rngD]
def rngI (n : Nat) : List Int := (List.range n).map fun i : Nat => (i : Int)
theorem rngD_I (n : Nat) : rngD 0 n = (rngI n).map .int := by
  unfold rngD rngI
  rw [List.map_map]
  apply List.map_congr_left
  intro i _
  simp
theorem rngI_len (n : Nat) : (rngI n).length = n := by simp [rngI]
theorem mem_rngI {n : Nat} {t : Int} : t ∈ rngI n ↔ 0 ≤ t ∧ t < n := by
  unfold rngI
  rw [List.mem_map]
  constructor
  · rintro ⟨i, hi, rfl⟩
    have : i < n := by simpa using hi
    omega
  · intro h
    exact ⟨t.toNat, by simp; omega, by omega⟩
theorem dR1_I {j : Int} (h : -1000000 ≤ j) (h' : j ≤ 1000000) : dR1 [.int j] = .ok ((rngI j.toNat).map .int) := by
  simp only [dR1]
  rw [if_pos ⟨by omega, by omega⟩, rngD_I]
theorem dR1_ok {j : Int} (h : -1000000 ≤ j) (h' : j ≤ 1000000) : dR1 [.int j] = .ok (rngD 0 j.toNat) := by
  simp only [dR1]
  rw [if_pos ⟨by omega, by omega⟩]
/-! ### the cells of the script -/
def cell (ns : List Int) (k : Int) : Int := if k < ns.length then ns.getD k.toNat 0 else 0
def scr (ns : List Int) : D := .list (ns.map .int)
theorem cell_ok (ns : List Int) {k : Int} (hk : 0 ≤ k) : m_law_cell [scr ns, .int k] = .ok (.int (cell ns k)) := by
  refine runF_rt ?_
  unfold g_law_cell cell
  rw [sSeq_ap]
  by_cases h : k < ns.length
  · have hk2 : k.toNat < ns.length := by omega
    have e : dIx (scr ns) (.int k) = .ok (.int (ns.getD k.toNat 0)) := dIx_ln (j := k.toNat) (by omega) (by simp [hk2])
    unfold scr at e
    simp [h, scr, e]
  · simp [h, scr]
structure Draws (ds : List Int) : Prop where
  len : ds.length = 60
  rng : ∀ d ∈ ds, 0 ≤ d ∧ d < 1000
def bodyRow : Es → Fl := sIf (yBl (x2 dLt (xCall 2 m_law_cell (aC (xV 0) (aC (xV 1) aN))) (x2 dPow (xC (.int 10)) (xC (.int 18))))) (sSeq (sAsg 2 (x2 dMod (x2 dAddA (x2 dAddA (x2 dAddA (x2 dMul (xV 2) (xC (.int 48271))) (x2 dMul (xC (.int 131)) (xV 4))) (xC (.int 7))) (xCall 2 m_law_cell (aC (xV 0) (aC (x2 dMod (x2 dAddA (x2 dAddA (xV 1) (xC (.int 1))) (xV 4)) (xC (.int 20))) aN)))) (xC (.int 2147483647))))
  (sApp 3 (x2 dMod (x2 dFdiv (xV 2) (xC (.int 11))) (xC (.int 1000))))) (sSeq (sApp 3 (x2 dMod (xV 2) (xC (.int 1000))))
  (sAsg 2 (x2 dFdiv (xV 2) (xC (.int 1000)))))
theorem sApp_ap (i : Nat) (f : FE) (δ : Es) : sApp i f δ = match owAt δ i with
  | some ds => fR (f (v0 δ)) fun d => if ds.length < 1000 then .nx (δ.set i (some (.ow (ds ++ [d])))) else .bad
  | none => .bad := rfl
@[simp] theorem owAt_z (d : List D) (r : Es) : owAt (some (.ow d) :: r) 0 = some d := rfl
@[simp] theorem owAt_s (x : Option Sl) (r : Es) (i : Nat) : owAt (x :: r) (i + 1) = owAt r i := by
  unfold owAt
  simp
theorem bodyRow_ok {ns : List Int} {at_ c t : Int} {acc : List D} (ha : 0 ≤ at_) (ht : 0 ≤ t) (ht' : t < 1000) (hl : acc.length < 1000) : ∃ (c' x : Int), 0 ≤ x ∧ x < 1000 ∧
    bodyRow [some (.im (scr ns)), some (.im (.int at_)), some (.im (.int c)), some (.ow acc), some (.im (.int t))] = .nx [some (.im (scr ns)), some (.im (.int at_)), some (.im (.int c')), some (.ow (acc ++ [.int x])), some (.im (.int t))] := by
  have hp : dPow (.int 10) (.int 18) = .ok (.int 1000000000000000000) := by
    simp only [dPow]
    rw [if_pos (by decide)]
    rfl
  have h20 : 0 ≤ (at_ + 1 + t) % 20 := Int.emod_nonneg _ (by decide)
  by_cases hc : cell ns at_ < 1000000000000000000
  · refine ⟨(c * 48271 + 131 * t + 7 + cell ns ((at_ + 1 + t) % 20)) % 2147483647, ((c * 48271 + 131 * t + 7 + cell ns ((at_ + 1 + t) % 20)) % 2147483647) / 11 % 1000, Int.emod_nonneg _ (by decide), Int.emod_lt_of_pos _ (by decide), ?_⟩
    have m1 : dMul (.int c) (.int 48271) = .ok (.int (c * 48271)) := dMul_r (by decide)
    have m2 : dMul (.int 131) (.int t) = .ok (.int (131 * t)) := dMul_r (by omega)
    have hcl := cell_ok ns ha
    have hc2 := cell_ok ns h20
    have d1 : ∀ x : Int, dMod (.int x) (.int 20) = .ok (.int (x % 20)) := fun x => dMod_ok (by decide)
    have d2 : ∀ x : Int, dMod (.int x) (.int 2147483647) = .ok (.int (x % 2147483647)) := fun x => dMod_ok (by decide)
    have d3 : ∀ x : Int, dMod (.int x) (.int 1000) = .ok (.int (x % 1000)) := fun x => dMod_ok (by decide)
    have d4 : ∀ x : Int, dFdiv (.int x) (.int 11) = .ok (.int (x / 11)) := fun x => dFdiv_ok (by decide) (by decide)
    unfold bodyRow
    simp [hcl, hc2, hp, hc, sSeq_ap, sApp_ap, m1, m2, d1, d2, d3, d4, hl]
  · refine ⟨c / 1000, c % 1000, Int.emod_nonneg _ (by decide), Int.emod_lt_of_pos _ (by decide), ?_⟩
    have hcl := cell_ok ns ha
    have d3 : ∀ x : Int, dMod (.int x) (.int 1000) = .ok (.int (x % 1000)) := fun x => dMod_ok (by decide)
    have d4 : ∀ x : Int, dFdiv (.int x) (.int 1000) = .ok (.int (x / 1000)) := fun x => dFdiv_ok (by decide) (by decide)
    unfold bodyRow
    simp [hcl, hp, hc, sSeq_ap, sApp_ap, d3, d4, hl]
theorem row_loop {ns : List Int} {at_ : Int} (ha : 0 ≤ at_) : ∀ (ts : List Int) (c : Int) (acc : List Int) (o : Option Sl), (∀ t ∈ ts, 0 ≤ t ∧ t < 1000) → (∀ d ∈ acc, 0 ≤ d ∧ d < 1000) → acc.length + ts.length ≤ 900 →
    ∃ (c' : Int) (acc' : List Int) (o' : Option Sl), (∀ d ∈ acc', 0 ≤ d ∧ d < 1000) ∧ acc'.length = acc.length + ts.length ∧
      forD (hN 4) bodyRow (ts.map .int) [some (.im (scr ns)), some (.im (.int at_)), some (.im (.int c)), some (.ow (acc.map .int)), o] = .nx [some (.im (scr ns)), some (.im (.int at_)), some (.im (.int c')), some (.ow (acc'.map .int)), o']
  | [], c, acc, o, _, h, _ => ⟨c, acc, o, h, rfl, rfl⟩
  | t :: ts, c, acc, o, ht, h, hl => by
    have h1 := ht t List.mem_cons_self
    rw [List.length_cons] at hl
    obtain ⟨c1, x, hx0, hx1, e⟩ := bodyRow_ok (ns := ns) (at_ := at_) (c := c) (t := t) (acc := acc.map .int) ha h1.1 h1.2 (by simp; omega)
    obtain ⟨c', acc', o', k1, k2, k3⟩ := row_loop ha ts c1 (acc ++ [x]) (some (.im (.int t))) (fun y hy => ht y (List.mem_cons_of_mem _ hy)) (fun d hd => by
      rcases List.mem_append.mp hd with hd | hd
      · exact h d hd
      · rw [List.mem_singleton.mp hd]; exact ⟨hx0, hx1⟩) (by simp; omega)
    refine ⟨c', acc', o', k1, by rw [k2]; simp; omega, ?_⟩
    rw [List.map_cons, forD_cons (by simp [hN]) e, ← k3]
    simp
theorem row_ok (ns : List Int) {at_ : Int} (ha : 0 ≤ at_) : ∃ ds, Draws ds ∧ m_law_row [scr ns, .int at_] = .ok (.list (ds.map .int)) := by
  obtain ⟨c', acc', o', k1, k2, k3⟩ := row_loop (ns := ns) ha (rngI 60) (cell ns at_) [] none (fun t ht => by
    have := mem_rngI.mp ht
    omega) (fun d hd => nomatch hd) (by rw [rngI_len]; decide)
  refine ⟨acc', ⟨by rw [k2, rngI_len]; rfl, k1⟩, ?_⟩
  refine runF_rt ?_
  show sSeq (sAsg 2 (xCall 2 m_law_cell (aC (xV 0) (aC (xV 1) aN)))) (sSeq (sAsgO 3 (aLst aN)) (sSeq (sFor (iA dR1 (aC (xC (.int 60)) aN)) (hN 4) bodyRow) (sRet (xV 3)))) [some (.im (scr ns)), some (.im (.int at_)), none, none, none] = _
  have d60 : dR1 [.int 60] = .ok ((rngI 60).map .int) := dR1_I (by decide) (by decide)
  simp at k3
  simp [sSeq_ap, cell_ok ns ha, d60, k3]
theorem Draws.at_ {ds : List Int} (h : Draws ds) {i : Int} (h0 : 0 ≤ i) (h1 : i < 60) : ∃ x, 0 ≤ x ∧ x < 1000 ∧ dIx (.list (ds.map .int)) (.int i) = .ok (.int x) := by
  have hi : i.toNat < ds.length := by rw [h.len]; omega
  have hx := h.rng ds[i.toNat] (List.getElem_mem hi)
  exact ⟨ds[i.toNat], hx.1, hx.2, dIx_ln (j := i.toNat) (by omega) (by simp [hi])⟩
/-! ### drawn fractions -/
def drawn (q : Rat) : Prop := ∃ (a : Int) (b : Nat), -9 ≤ a ∧ a ≤ 9 ∧ 1 ≤ b ∧ b ≤ 6 ∧ q = mkRat a b
theorem fraction_ok {x y : Int} : ∃ q, drawn q ∧ m_law_fraction [.int x, .int y] = .ok (fr q) := by
  have h1 := Int.emod_nonneg x (show (19 : Int) ≠ 0 by decide)
  have h2 := Int.emod_lt_of_pos x (show (0 : Int) < 19 by decide)
  have h3 := Int.emod_nonneg y (show (6 : Int) ≠ 0 by decide)
  have h4 := Int.emod_lt_of_pos y (show (0 : Int) < 6 by decide)
  have s9 : ∀ z : Int, z.natAbs ≤ 9 → z.natAbs < 2 ^ 9000 := fun z hz => Nat.lt_of_le_of_lt hz (by decide +kernel)
  have lo := low_ok (a := x % 19 - 9) (b := 1 + y % 6) (by omega) (s9 _ (by omega)) (s9 _ (by omega))
  have d1 : dMod (.int x) (.int 19) = .ok (.int (x % 19)) := dMod_ok (by decide)
  have d2 : dMod (.int y) (.int 6) = .ok (.int (y % 6)) := dMod_ok (by decide)
  refine ⟨mkRat (x % 19 - 9) (1 + y % 6).toNat, ⟨_, _, by omega, by omega, by omega, by omega, rfl⟩, runF_rt ?_⟩
  have e : Rat.divInt (x % 19 - 9) (1 + y % 6) = mkRat (x % 19 - 9) (1 + y % 6).toNat := by
    rw [← Rat.divInt_ofNat]
    congr 1
    omega
  rw [e] at lo
  unfold g_law_fraction
  simp [d1, d2, lo]
theorem drawn.bd {q : Rat} (h : drawn q) : Bd 60 9 q := by
  obtain ⟨a, b, h1, h2, h3, h4, rfl⟩ := h
  refine bd_div (by omega) ?_ ?_
  · have : b = 1 ∨ b = 2 ∨ b = 3 ∨ b = 4 ∨ b = 5 ∨ b = 6 := by omega
    rcases this with rfl | rfl | rfl | rfl | rfl | rfl <;> decide
  · have : a.natAbs ≤ 9 := by omega
    calc a.natAbs ≤ 9 * 1 := by omega
      _ ≤ 9 * b := Nat.mul_le_mul_left _ h3
theorem est_list {ds : List Int} (hd : Draws ds) : ∀ (l : List Int), (∀ t ∈ l, 0 ≤ t ∧ t < 50) → ∃ es : List Rat, es.length = l.length ∧ (∀ e ∈ es, drawn e) ∧
    ∀ (u v w : Option D), lcD (gN 4) (fun _ => .ok true) (xCall 2 m_law_fraction (aC (x2 dIx (xV 3) (xV 4)) (aC (x2 dIx (xV 3) (x2 dAddA (xC (.int 10)) (xV 4))) aN))) [u, v, w, some (.list (ds.map .int)), none] (l.map .int) = .ok (es.map fr)
  | [], _ => ⟨[], rfl, (fun _ h => by cases h), fun _ _ _ => rfl⟩
  | t :: l, h => by
    obtain ⟨es, h1, h2, h3⟩ := est_list hd l fun x hx => h x (List.mem_cons_of_mem _ hx)
    have ht := h t List.mem_cons_self
    obtain ⟨x, _, _, ex⟩ := hd.at_ ht.1 (by omega : t < 60)
    obtain ⟨y, _, _, ey⟩ := hd.at_ (i := 10 + t) (by omega) (by omega)
    obtain ⟨q, hq, e⟩ := fraction_ok (x := x) (y := y)
    refine ⟨q :: es, by simp [h1], fun z hz => ?_, fun u v w => ?_⟩
    · rcases List.mem_cons.mp hz with rfl | hz
      · exact hq
      · exact h2 z hz
    · rw [List.map_cons, lcD, h3 u v w]
      simp [gN, R.nx, ex, ey, e]
theorem estimate_ok (ns : List Int) {at_ n : Int} (ha : 0 ≤ at_) (hn : 0 ≤ n) (hn' : n ≤ 40) : ∃ es : List Rat, es.length = n.toNat + 1 ∧ (∀ e ∈ es, drawn e) ∧ m_law_estimate [scr ns, .int at_, .int n] = .ok (.tuple (es.map fr)) := by
  obtain ⟨ds, hd, er⟩ := row_ok ns ha
  obtain ⟨es, h1, h2, h3⟩ := est_list hd (rngI (n + 1).toNat) fun t ht => by
    have := mem_rngI.mp ht
    omega
  refine ⟨es, by rw [h1, rngI_len]; omega, h2, runF_rt ?_⟩
  have dr : dR1 [.int (n + 1)] = .ok ((rngI (n + 1).toNat).map .int) := dR1_I (by omega) (by omega)
  have hl : (rngI (n + 1).toNat).length ≤ 1000 := by rw [rngI_len]; omega
  unfold g_law_estimate
  rw [sSeq_ap]
  simp [er, xLc, dr, hl, wipeD, h3]
/-! ### drawn quantities -/
theorem xV_vw {δ : Es} {i : Nat} {d : D} (h : δ[i]? = some (some (.im d))) : xV i (vw δ) = .ok d := by
  unfold xV vw
  rw [List.getElem?_map, h]
  rfl
theorem xV_v0 {δ : Es} {i : Nat} {d : D} (h : δ[i]? = some (some (.im d))) : xV i (v0 δ) = .ok d := by
  unfold xV v0
  rw [List.getElem?_map, h]
  rfl
def bodyT (i : Nat) : Es → Fl := sAsg i (xSl (xV i) oN (oS (x1 dNeg (xC (.int 1)))))
def testT (i : Nat) : FT := yAnd (yBl (x2 dNe (xV i) (xA dLst aN))) (yBl (x2 dEq (x2 dIx (xV i) (x1 dNeg (xC (.int 1)))) (xC (.int 0))))
theorem cut_last {α : Type} (l : List α) (x : α) : cutD (l ++ [x]) none (some (-1)) = l := by
  unfold cutD
  have h1 : HT.sIx (l ++ [x]).length 0 none = 0 := rfl
  have h2 : HT.sIx (l ++ [x]).length (l ++ [x]).length (some (-1)) = l.length := by
    have h := HT.clip_eq (-1) (l ++ [x]).length (l ++ [x]).length
    rw [if_pos (by decide)] at h
    have hl : (l ++ [x]).length = l.length + 1 := by simp
    omega
  rw [h1, h2]
  simp
theorem dIx_last {l : List D} {d : D} : dIx (.list (l ++ [d])) (.int (-1)) = .ok d := by
  simp only [dIx, atI_last]
theorem dIx_lastT {l : List D} {d : D} : dIx (.tuple (l ++ [d])) (.int (-1)) = .ok d := by
  simp only [dIx, atI_last]
theorem snoc_cases {α : Type} (l : List α) : l = [] ∨ ∃ r x, l = r ++ [x] := by
  cases l with
  | nil => exact .inl rfl
  | cons a b => exact .inr ⟨_, _, (List.dropLast_concat_getLast (List.cons_ne_nil a b)).symm⟩
/-- without the zeros at the end -/
structure Trim (l q : List Int) : Prop where
  ex : ∃ k, l = q ++ List.replicate k 0
  last : q = [] ∨ ∃ r x, q = r ++ [x] ∧ x ≠ 0
theorem testT_nil {i : Nat} {δ : Es} (h : δ[i]? = some (some (.im (.list [])))) : testT i (vw δ) = .ok false := by
  have e : dNe (.list []) (.list []) = .ok (.bool false) := by rw [show (PyData.list [] : D) = .list (([] : List Int).map .int) from rfl, dNe_ints]; rfl
  simp [testT, xV_vw h, e]
theorem testT_snoc {i : Nat} {δ : Es} {r : List Int} {y : Int} (h : δ[i]? = some (some (.im (.list ((r ++ [y]).map .int))))) : testT i (vw δ) = .ok (decide (y = 0)) := by
  have e : dNe (.list ((r ++ [y]).map .int)) (.list []) = .ok (.bool true) := by rw [show (PyData.list [] : D) = .list (([] : List Int).map .int) from rfl, dNe_ints]; simp
  have ix : dIx (.list ((r ++ [y]).map .int)) (.int (-1)) = .ok (.int y) := by rw [List.map_append]; exact dIx_last
  unfold testT
  simp only [yAnd_ap, yBl_ap, x2_ap, xV_vw h, xA_ap, aN_ap, R.bind_ok, dLst_0, e, dBl_bool, if_pos, x1_ap, xC_ap, dNeg_int, ix, dEq_int]
theorem bodyT_snoc {i : Nat} {δ : Es} {r : List Int} {y : Int} (h : δ[i]? = some (some (.im (.list ((r ++ [y]).map .int))))) : bodyT i δ = .nx (δ.set i (some (.im (.list (r.map .int))))) := by
  have hi : i < δ.length := (List.getElem?_eq_some_iff.mp h).1
  have hc : cutD ((r ++ [y]).map PyData.int) none (some (-1)) = r.map .int := by rw [List.map_append]; exact cut_last _ _
  unfold bodyT
  simp only [sAsg_ap, xSl_ap, xV_v0 h, R.bind_ok, oN_ap, oS_ap, x1_ap, xC_ap, dNeg_int, dOI_int, dSl, hc, fR_ok, if_pos hi]
theorem trim_loop {i : Nat} : ∀ (k : Nat) (m : Nat) (l : List Int) (δ : Es), l.length ≤ k → k < m → δ[i]? = some (some (.im (.list (l.map .int)))) → ∃ q, Trim l q ∧ whD (testT i) (bodyT i) m δ = .nx (δ.set i (some (.im (.list (q.map .int))))) := by
  have stay : ∀ (δ : Es) (x : Option Sl), δ[i]? = some x → δ.set i x = δ := fun δ x h => by
    apply List.ext_getElem?
    intro j
    by_cases hij : i = j
    · subst hij
      rw [List.getElem?_set_self (List.getElem?_eq_some_iff.mp h).1, h]
    · rw [List.getElem?_set_ne hij]
  intro k
  induction k with
  | zero =>
    intro m l δ hl hm h
    obtain ⟨j, rfl⟩ : ∃ j, m = j + 1 := ⟨m - 1, by omega⟩
    have : l = [] := List.eq_nil_of_length_eq_zero (by omega)
    subst this
    refine ⟨[], ⟨⟨0, rfl⟩, .inl rfl⟩, ?_⟩
    rw [whD_s, testT_nil h, fR_ok, if_neg Bool.false_ne_true, stay δ _ h]
  | succ k ih =>
    intro m l δ hl hm h
    obtain ⟨j, rfl⟩ : ∃ j, m = j + 1 := ⟨m - 1, by omega⟩
    rcases snoc_cases l with rfl | ⟨r, y, rfl⟩
    · refine ⟨[], ⟨⟨0, rfl⟩, .inl rfl⟩, ?_⟩
      rw [whD_s, testT_nil h, fR_ok, if_neg Bool.false_ne_true, stay δ _ h]
    · by_cases hy : y = 0
      · subst hy
        have hi : i < δ.length := (List.getElem?_eq_some_iff.mp h).1
        obtain ⟨q, ⟨⟨k', hk'⟩, hq⟩, e⟩ := ih j r (δ.set i (some (.im (.list (r.map .int))))) (by simp at hl; omega) (by omega) (List.getElem?_set_self hi)
        refine ⟨q, ⟨⟨k' + 1, by rw [List.replicate_succ', ← List.append_assoc, ← hk']⟩, hq⟩, ?_⟩
        rw [whD_s, testT_snoc h, fR_ok, if_pos (by simp), bodyT_snoc h]
        simp only [e, List.set_set]
      · refine ⟨r ++ [y], ⟨⟨0, by simp⟩, .inr ⟨r, y, rfl, hy⟩⟩, ?_⟩
        rw [whD_s, testT_snoc h, fR_ok, if_neg (by simp [hy]), stay δ _ h]
/-- a quantity with entries from -c to c -/
structure Qty (c : Nat) (q : List Int) : Prop where
  rng : ∀ x ∈ q, -(c : Int) ≤ x ∧ x ≤ c
  last : q = [] ∨ ∃ r x, q = r ++ [x] ∧ x ≠ 0
theorem qty_list {ds : List Int} (hd : Draws ds) : ∀ (l : List Int), (∀ t ∈ l, 0 ≤ t ∧ t < 50) → ∃ es : List Int, es.length = l.length ∧ (∀ e ∈ es, -9 ≤ e ∧ e ≤ 9) ∧
    ∀ (u v w : Option D) , lcD (gN 5) (fun _ => .ok true) (x2 dSub (x2 dMod (x2 dIx (xV 3) (x2 dAddA (xC (.int 1)) (xV 5))) (xC (.int 19))) (xC (.int 9))) [u, v, w, some (.list (ds.map .int)), none, none] (l.map .int) = .ok (es.map .int)
  | [], _ => ⟨[], rfl, (fun _ h => by cases h), fun _ _ _ => rfl⟩
  | t :: l, h => by
    obtain ⟨es, h1, h2, h3⟩ := qty_list hd l fun x hx => h x (List.mem_cons_of_mem _ hx)
    have ht := h t List.mem_cons_self
    obtain ⟨x, _, _, ex⟩ := hd.at_ (i := 1 + t) (by omega) (by omega)
    have d1 : dMod (.int x) (.int 19) = .ok (.int (x % 19)) := dMod_ok (by decide)
    refine ⟨(x % 19 - 9) :: es, by simp [h1], fun z hz => ?_, fun u v w => ?_⟩
    · rcases List.mem_cons.mp hz with rfl | hz
      · have := Int.emod_nonneg x (show (19 : Int) ≠ 0 by decide)
        have := Int.emod_lt_of_pos x (show (0 : Int) < 19 by decide)
        omega
      · exact h2 z hz
    · rw [List.map_cons, lcD, h3 u v w]
      simp [gN, R.nx, ex, d1]
theorem quantity_ok (ns : List Int) {at_ m : Int} (ha : 0 ≤ at_) (hm : 0 ≤ m) (hm' : m ≤ 40) : ∃ q : List Int, Qty 9 q ∧ (q.length : Int) ≤ m ∧ m_law_quantity [scr ns, .int at_, .int m] = .ok (.tuple (q.map .int)) := by
  obtain ⟨ds, hd, er⟩ := row_ok ns ha
  obtain ⟨x, hx0, hx1, ex⟩ := hd.at_ (i := 0) (by decide) (by decide)
  have hb0 := Int.emod_nonneg x (show m + 1 ≠ 0 by omega)
  have hb1 := Int.emod_lt_of_pos x (show 0 < m + 1 by omega)
  obtain ⟨es, h1, h2, h3⟩ := qty_list hd (rngI (x % (m + 1)).toNat) fun t ht => by
    have := mem_rngI.mp ht
    omega
  obtain ⟨q, ⟨⟨k, hk⟩, hq⟩, e⟩ := trim_loop (i := 4) es.length 1200 es [some (.im (scr ns)), some (.im (.int at_)), some (.im (.int m)), some (.im (.list (ds.map .int))), some (.im (.list (es.map .int))), none] (Nat.le_refl _) (by rw [h1, rngI_len]; omega) rfl
  have hlen : q.length ≤ es.length := by rw [hk]; simp
  refine ⟨q, ⟨fun y hy => h2 y (by rw [hk]; exact List.mem_append_left _ hy), hq⟩, by rw [h1, rngI_len] at hlen; omega, runF_rt ?_⟩
  have dm : dMod (.int x) (.int (m + 1)) = .ok (.int (x % (m + 1))) := dMod_ok (by omega)
  have dr : dR1 [.int (x % (m + 1))] = .ok ((rngI (x % (m + 1)).toNat).map .int) := dR1_I (by omega) (by omega)
  have hl : (rngI (x % (m + 1)).toNat).length ≤ 1000 := by rw [rngI_len]; omega
  show sSeq _ (sSeq _ (sSeq (whD (testT 4) (bodyT 4) 1200) (sRet (xA dTupOf (aC (xV 4) aN))))) [some (.im (scr ns)), some (.im (.int at_)), some (.im (.int m)), none, none, none] = _
  simp [sSeq_ap, er, xLc, ex, dm, dr, hl, wipeD, h3, e]
end HN
end
section
set_option linter.all false
set_option maxRecDepth 100000
set_option maxHeartbeats 1000000
set_option exponentiation.threshold 20000
namespace HN
open PySem L2 HL HM
/-! ### kinds -/
@[simp] theorem isi_ii (i : Int) : dIsi "int" (.int i) = .ok (.bool true) := by
  have : kitB "int" "int" = some true := by decide +kernel
  simp only [dIsi, tyN, this]
@[simp] theorem isi_bi (i : Int) : dIsi "bool" (.int i) = .ok (.bool false) := by
  have : kitB "int" "bool" = some false := by decide +kernel
  simp only [dIsi, tyN, this]
@[simp] theorem isi_tt (l : List D) : dIsi "tuple" (.tuple l) = .ok (.bool true) := by
  have : kitB "tuple" "tuple" = some true := by decide +kernel
  simp only [dIsi, tyN, this]
@[simp] theorem isi_tl (l : List D) : dIsi "tuple" (.list l) = .ok (.bool false) := by
  have : kitB "list" "tuple" = some false := by decide +kernel
  simp only [dIsi, tyN, this]
theorem in_range_ok (v lo hi : Int) : m_in_range [.int v, .int lo, .int hi] = .ok (.bool (decide (lo ≤ v) && decide (v ≤ hi))) := by
  refine runF_rt ?_
  unfold g_in_range
  by_cases h : lo ≤ v <;> simp [xCh, h]
theorem check_trials_ok {n : Int} (h1 : 1 ≤ n) (h6 : n ≤ 6) : m_check_trials [.int n] = .ok .none := by
  refine runF_nx (δ := [some (.im (.int n))]) ?_
  unfold g_check_trials
  simp [in_range_ok, h1, h6]
theorem dIx_m1 {l : List D} {d : D} : dIx (.tuple (l ++ [d])) (.int (-1)) = .ok d := dIx_lastT
theorem is_quantity_ok {c : Nat} {q : List Int} (hc : c ≤ 99) (h : Qty c q) (hl : q.length ≤ 9) : m_is_quantity [.tuple (q.map .int)] = .ok (.bool true) := by
  refine runF_rt ?_
  unfold g_is_quantity
  have lc : lcD (gN 1) (yNot (yTru (xCall 3 m_in_range (aC (xV 1) (aC (x1 dNeg (xC (.int 99))) (aC (xC (.int 99)) aN)))))) (xV 1) [some (.tuple (q.map .int)), none] (q.map .int) = .ok [] := by
    have := lc_filter (γ := gN 1) (ft := yNot (yTru (xCall 3 m_in_range (aC (xV 1) (aC (x1 dNeg (xC (.int 99))) (aC (xC (.int 99)) aN)))))) (fe := xV 1) (ρ := [some (.tuple (q.map .int)), none]) (f := PyData.int) (g := PyData.int) (p := fun _ => false) (l := q) fun a ha => by
      have hr := h.rng a ha
      refine ⟨[some (.tuple (q.map .int)), some (.int a)], by simp [gN], ?_, fun z => by cases z⟩
      have e1 : -99 ≤ a := by omega
      have e2 : a ≤ 99 := by omega
      simp [in_range_ok, e1, e2]
    rw [this, show q.filter (fun _ => false) = [] from List.filter_eq_nil_iff.mpr (by simp)]
    rfl
  have hl' : ¬ ((9 : Int) < (q.length : Int)) := by omega
  have hl2 : q.length ≤ 1000 := by omega
  rcases h.last with rfl | ⟨r, x, rfl, hx⟩
  · simp [sSeq_ap, xLc, lcD, wipeD]
    have : dEq (.tuple []) (.tuple []) = .ok (.bool true) := by
      rw [show (PyData.tuple [] : D) = .tuple (([] : List Int).map .int) from rfl, dEq_tints]; rfl
    simp [this]
  · have e : dEq (.tuple ((r ++ [x]).map .int)) (.tuple []) = .ok (.bool false) := by
      rw [show (PyData.tuple [] : D) = .tuple (([] : List Int).map .int) from rfl, dEq_tints]; simp
    have ix : dIx (.tuple ((r ++ [x]).map .int)) (.int (-1)) = .ok (.int x) := by rw [List.map_append]; exact dIx_lastT
    simp only [List.map_append, List.map_cons, List.map_nil] at e ix lc
    have h9 : ¬ ((9 : Int) < (r.length : Int) + 1) := by simp at hl; omega
    have h1000 : r.length + 1 ≤ 1000 := by simp at hl; omega
    simp [sSeq_ap, xLc, lc, wipeD, h9, h1000, e, ix, hx]
theorem check_quantity_ok {c : Nat} {q : List Int} (hc : c ≤ 99) (h : Qty c q) (hl : q.length ≤ 9) : m_check_quantity [.tuple (q.map .int)] = .ok .none := by
  refine runF_nx (δ := [some (.im (.tuple (q.map .int)))]) ?_
  unfold g_check_quantity
  simp [is_quantity_ok hc h hl]
def polyQ (q : List Int) : List Rat := q.map fun z : Int => ((z : Int) : Rat)
theorem polynomial_of_ok {q : List Int} (hl : q.length ≤ 1000) : m_polynomial_of [.tuple (q.map .int)] = .ok (.tuple ((polyQ q).map fr)) := by
  refine runF_rt ?_
  unfold g_polynomial_of
  have lc : lcD (gN 1) (fun _ => .ok true) (xA dTup (aC (xV 1) (aC (xC (.int 1)) aN))) [some (.tuple (q.map .int)), none] (q.map .int) = .ok (q.map fun z : Int => fr ((z : Int) : Rat)) :=
    lc_map fun a ha => ⟨[some (.tuple (q.map .int)), some (.int a)], by simp [gN], by simp; rfl⟩
  have e : (polyQ q).map fr = q.map fun z : Int => fr ((z : Int) : Rat) := by unfold polyQ; rw [List.map_map]; rfl
  rw [e]
  simp [xLc, wipeD, lc, hl]
/-! ### falling products -/
def dF (n : Nat) : Nat → Nat
  | 0 => 1
  | i + 1 => dF n i * (n - i)
theorem dF_pos {n : Nat} : ∀ {i : Nat}, i ≤ n → 0 < dF n i
  | 0, _ => Nat.one_pos
  | i + 1, h => Nat.mul_pos (dF_pos (by omega)) (by omega)
theorem dF_zero {n : Nat} : ∀ {i : Nat}, n < i → dF n i = 0
  | 0, h => by omega
  | i + 1, h => by
    unfold dF
    by_cases hi : n < i
    · rw [dF_zero hi]; simp
    · have : n - i = 0 := by omega
      rw [this]; simp
theorem dF_succ (n i : Nat) : (dF n i : Int) * ((n : Int) - (i : Int)) = (dF n (i + 1) : Nat) := by
  by_cases h : i ≤ n
  · rw [show dF n (i + 1) = dF n i * (n - i) from rfl, Int.natCast_mul, Int.natCast_sub h]
  · rw [dF_zero (by omega), dF_zero (by omega)]
    simp
theorem dF_le {n : Nat} : ∀ i, dF n i ≤ n ^ i
  | 0 => Nat.le_refl _
  | i + 1 => by
    unfold dF
    rw [Nat.pow_succ]
    exact Nat.mul_le_mul (dF_le i) (by omega)
theorem sAug_ap (i : Nat) (g : D → D → R D) (f : FE) (δ : Es) : sAug i g f δ = fR (xV i (v0 δ)) fun x => fR (f (v0 δ)) fun y => fR (g x y) fun z => if i < δ.length then .nx (δ.set i (some (.im z))) else .bad := rfl
theorem falling_loop {n : Nat} (hn : n ≤ 1000) : ∀ (j i : Nat) (u : D) (o : Option Sl), i + j ≤ 1000 → ∃ o', forD (hN 3) (sAug 2 dMul (x2 dSub (xV 0) (xV 3))) (((List.range' i j).map fun t : Nat => ((t : Nat) : Int)).map .int) [some (.im (.int n)), some (.im u), some (.im (.int (dF n i))), o] = .nx [some (.im (.int n)), some (.im u), some (.im (.int (dF n (i + j)))), o']
  | 0, i, u, o, _ => ⟨o, rfl⟩
  | j + 1, i, u, o, h => by
    obtain ⟨o', e⟩ := falling_loop hn j (i + 1) u (some (.im (.int (i : Nat)))) (by omega)
    refine ⟨o', ?_⟩
    have m : dMul (.int (dF n i)) (.int ((n : Int) - (i : Int))) = .ok (.int (dF n (i + 1) : Nat)) := by
      rw [dMul_r (by omega), dF_succ]
    rw [List.range'_succ, List.map_cons, List.map_cons, forD_cons (δ1 := [some (.im (.int n)), some (.im u), some (.im (.int (dF n i))), some (.im (.int (i : Nat)))]) (δ2 := [some (.im (.int n)), some (.im u), some (.im (.int (dF n (i + 1) : Nat))), some (.im (.int (i : Nat)))]) (by simp [hN]) (by simp [sAug_ap, m])]
    rw [show i + (j + 1) = i + 1 + j by omega]
    exact e
theorem dr_n {i : Nat} (hi : i ≤ 1000) : dR1 [.int (i : Int)] = .ok ((List.range' 0 i).map fun t : Nat => .int ((t : Nat) : Int)) := by
    have := dR1_I (j := (i : Int)) (by omega) (by omega)
    have er : rngI i = (List.range' 0 i).map fun t : Nat => ((t : Nat) : Int) := by unfold rngI; rw [List.range_eq_range']
    rw [Int.toNat_natCast, er, List.map_map] at this
    exact this
theorem falling_ok {n i : Nat} (hn : n ≤ 1000) (hi : i ≤ 1000) : m_falling [.int n, .int i] = .ok (.int (dF n i)) := by
  obtain ⟨o', e⟩ := falling_loop hn i 0 (.int i) none (by omega)
  refine runF_rt ?_
  unfold g_falling
  have e1 : ((dF n 0 : Nat) : Int) = 1 := rfl
  rw [e1, List.map_map, Nat.zero_add] at e
  have e2 : ((PyData.int : Int → D) ∘ fun t : Nat => ((t : Nat) : Int)) = fun t : Nat => .int ((t : Nat) : Int) := rfl
  rw [e2] at e
  simp [sSeq_ap, dr_n hi, e]
/-! ### total -/
def PSr : Rat → List Rat → Prop
  | s, [] => Sm s
  | s, x :: r => Sm s ∧ Sm x ∧ PSr (s + x) r
theorem total_loop : ∀ (l : List Rat) (s : Rat) (u : D) (o : Option Sl), PSr s l → ∃ o', forD (hN 2) (sAsg 1 (xCall 2 m_plus (aC (xV 1) (aC (xV 2) aN)))) (l.map fr) [some (.im u), some (.im (fr s)), o] = .nx [some (.im u), some (.im (fr (s + l.sum))), o']
  | [], s, u, o, h => ⟨o, by simp [forD, Rat.add_zero]⟩
  | x :: l, s, u, o, h => by
    obtain ⟨o', e⟩ := total_loop l (s + x) u (some (.im (fr x))) h.2.2
    refine ⟨o', ?_⟩
    rw [List.map_cons, forD_cons (δ1 := [some (.im u), some (.im (fr s)), some (.im (fr x))]) (δ2 := [some (.im u), some (.im (fr (s + x))), some (.im (fr x))]) (by simp [hN]) (by simp [plus_ok h.1 h.2.1]), e]
    simp [Rat.add_assoc]
theorem total_ok {l : List Rat} (h : PSr 0 l) : m_total [.list (l.map fr)] = .ok (fr l.sum) := by
  obtain ⟨o', e⟩ := total_loop l 0 (.list (l.map fr)) none h
  refine runF_rt ?_
  unfold g_total
  have e0 : PyData.tuple [.int 0, .int 1] = fr 0 := rfl
  simp [sSeq_ap, e0, e, Rat.zero_add]
theorem PSr.of {M V : Nat} (hM : M ≠ 0) (h1 : M < 2 ^ 2000) : ∀ {l : List Rat} {s : Rat} {W : Nat}, Bd M W s → (∀ x ∈ l, Bd M V x) → (W + l.length * V) * M < 2 ^ 2000 → V * M < 2 ^ 2000 → PSr s l
  | [], s, W, hs, _, h, _ => hs.sm hM h1 (by simpa using h)
  | x :: l, s, W, hs, hx, h, h2 => by
    have hx0 := hx x List.mem_cons_self
    have hW : W * M < 2 ^ 2000 := Nat.lt_of_le_of_lt (Nat.mul_le_mul_right _ (by omega)) h
    refine ⟨hs.sm hM h1 hW, hx0.sm hM h1 h2, PSr.of hM h1 (hs.add hx0) (fun y hy => hx y (List.mem_cons_of_mem _ hy)) ?_ h2⟩
    have : W + V + l.length * V = W + (x :: l).length * V := by rw [List.length_cons, Nat.add_mul]; omega
    rw [this]
    exact h
theorem bd_sum {M V : Nat} : ∀ {l : List Rat}, (∀ x ∈ l, Bd M V x) → Bd M (l.length * V) l.sum
  | [], _ => by simpa using bd_zero
  | x :: l, h => by
    have := (h x List.mem_cons_self).add (bd_sum (l := l) fun y hy => h y (List.mem_cons_of_mem _ hy))
    rw [List.sum_cons]
    refine this.mono ?_
    rw [List.length_cons, Nat.add_mul]
    omega
/-! ### the honest estimate of a row -/
def terms (n k : Nat) : Nat → List Rat → List Rat
  | _, [] => []
  | e, x :: r => x * mkRat (dF k e) (dF n e) :: terms n k (e + 1) r
theorem terms_len (n k : Nat) : ∀ (e : Nat) (r : List Rat), (terms n k e r).length = r.length
  | e, [] => rfl
  | e, x :: r => by simp [terms, terms_len n k (e + 1) r]
def hv (n k : Nat) (row : List Rat) : Rat := (terms n k 0 row).sum
def hon (n : Nat) (row : List Rat) : List Rat := (List.range (n + 1)).map fun k => hv n k row
theorem hon_len (n : Nat) (row : List Rat) : (hon n row).length = n + 1 := by simp [hon]
theorem dF_table : ∀ n, n ≤ 6 → ∀ e, e ≤ n → dF n e ∣ 720 ∧ dF n e ≤ 720 := by decide
theorem dF_small : ∀ n, n ≤ 6 → ∀ e, e ≤ 8 → dF n e ≤ 720 := by decide
theorem ratio_bd {n k e : Nat} (hn : n ≤ 6) (hk : k ≤ n) (he : e ≤ n) : Bd 720 720 (mkRat (dF k e) (dF n e)) := by
  obtain ⟨h1, h2⟩ := dF_table n hn e he
  have hp := dF_pos he
  refine bd_div (by omega) h1 ?_
  have h3 := dF_small k (by omega) e (by omega)
  rw [Int.natAbs_natCast]
  exact Nat.le_trans h3 (Nat.le_mul_of_pos_right _ hp)
theorem terms_bd {n k M V : Nat} (hn : n ≤ 6) (hk : k ≤ n) : ∀ (row : List Rat) (e : Nat), e + row.length ≤ n + 1 → (∀ x ∈ row, Bd M V x) → ∀ x ∈ terms n k e row, Bd (M * 720) (V * 720) x
  | [], e, _, _ => fun x hx => by cases hx
  | y :: r, e, h, hb => fun x hx => by
    rw [List.length_cons] at h
    rcases List.mem_cons.mp hx with rfl | hx
    · exact (hb y List.mem_cons_self).mul (ratio_bd hn hk (by omega))
    · exact terms_bd hn hk r (e + 1) (by omega) (fun z hz => hb z (List.mem_cons_of_mem _ hz)) x hx
theorem z1 : 720 < 2 ^ 9000 := by decide +kernel
theorem z2 : 720 < 2 ^ 2000 := by decide +kernel
theorem z3 : 720 * 720 < 2 ^ 2000 := by decide +kernel
theorem ratio_sm {n k e : Nat} (hn : n ≤ 6) (hk : k ≤ n) (he : e ≤ n) : Sm (mkRat (dF k e) (dF n e)) := (ratio_bd hn hk he).sm (by decide) z2 z3
theorem dF_big {n e : Nat} (hn : n ≤ 6) (he : e ≤ n) : dF n e < 2 ^ 9000 := Nat.lt_of_le_of_lt (dF_table n hn e he).2 z1
def bodyH : Es → Fl := sApp 4 (xCall 2 m_times (aC (xV 6) (aC (xCall 2 m_reduced (aC (xCall 2 m_falling (aC (xV 3) (aC (xV 5) aN))) (aC (xCall 2 m_falling (aC (xV 0) (aC (xV 5) aN))) aN))) aN)))
theorem inner_loop {n k : Nat} (hn : n ≤ 6) (hk : k ≤ n) : ∀ (row : List Rat) (e : Nat) (acc : List D) (u : D) (res : List D) (o1 o2 : Option Sl), e + row.length ≤ n + 1 → (∀ x ∈ row, Sm x) → acc.length + row.length < 900 →
    ∃ o3 o4, forD (h2 5 6) bodyH (enumF e (row.map fr)) [some (.im (.int n)), some (.im u), some (.ow res), some (.im (.int k)), some (.ow acc), o1, o2] =
      .nx [some (.im (.int n)), some (.im u), some (.ow res), some (.im (.int k)), some (.ow (acc ++ (terms n k e row).map fr)), o3, o4]
  | [], e, acc, u, res, o1, o2, _, _, _ => ⟨o1, o2, by simp [enumF, forD, terms]⟩
  | x :: r, e, acc, u, res, o1, o2, h, hs, hl => by
    rw [List.length_cons] at h hl
    obtain ⟨o3, o4, eq⟩ := inner_loop hn hk r (e + 1) (acc ++ [fr (x * mkRat (dF k e) (dF n e))]) u res (some (.im (.int (e : Nat)))) (some (.im (fr x))) (by omega) (fun y hy => hs y (List.mem_cons_of_mem _ hy)) (by simp; omega)
    refine ⟨o3, o4, ?_⟩
    have hp := dF_pos (show e ≤ n by omega)
    have rd := reduced_ok (a := (dF k e : Int)) (b := (dF n e : Nat)) (by omega) (dF_big hn (by omega))
    have tm := times_ok (hs x List.mem_cons_self) (ratio_sm hn hk (show e ≤ n by omega))
    have b : bodyH [some (.im (.int n)), some (.im u), some (.ow res), some (.im (.int k)), some (.ow acc), some (.im (.int (e : Nat))), some (.im (fr x))] = .nx [some (.im (.int n)), some (.im u), some (.ow res), some (.im (.int k)), some (.ow (acc ++ [fr (x * mkRat (dF k e) (dF n e))])), some (.im (.int (e : Nat))), some (.im (fr x))] := by
      have ha : acc.length < 1000 := by omega
      simp [bodyH, sApp_ap, falling_ok (n := k) (i := e) (by omega) (by omega), falling_ok (n := n) (i := e) (by omega) (by omega), rd, tm, ha]
    rw [List.map_cons, enumF, forD_cons (by simp [h2]) b, eq]
    simp [terms]
end HN
end
section
set_option linter.all false
set_option maxRecDepth 100000
set_option maxHeartbeats 1000000
set_option exponentiation.threshold 20000
namespace HN
open PySem L2 HL HM
/-! ### honest_of, honest -/
@[simp] theorem lf_fr (q : Rat) : lf (fr q) = true := rfl
theorem sAppR_ap (i : Nat) (f : FE) (δ : Es) : sAppR i f δ = match owAt δ i with
  | some ds => fR (f (vw δ)) fun d => if ds.length < 1000 ∧ lf d = true then .nx (δ.set i (some (.ow (ds ++ [d])))) else .bad
  | none => .bad := rfl
/-- rows whose numbers are small enough to be estimated -/
structure RowB (M V : Nat) (row : List Rat) : Prop where
  b : ∀ x ∈ row, Bd M V x
  m : M ≠ 0
  s : 10 * (V * 720) * (M * 720) < 2 ^ 2000
  s2 : M * 720 < 2 ^ 2000
theorem RowB.sm {M V : Nat} {row : List Rat} (h : RowB M V row) : ∀ x ∈ row, Sm x := fun x hx => by
  refine (h.b x hx).sm h.m (Nat.lt_of_le_of_lt (Nat.le_mul_of_pos_right _ (by decide)) h.s2) (Nat.lt_of_le_of_lt ?_ h.s)
  refine Nat.mul_le_mul ?_ (Nat.le_mul_of_pos_right _ (by decide))
  omega
theorem RowB.ps {M V n k : Nat} {row : List Rat} (h : RowB M V row) (hn : n ≤ 6) (hk : k ≤ n) (hl : row.length ≤ n + 1) : PSr 0 (terms n k 0 row) := by
  have hm : M * 720 ≠ 0 := Nat.mul_ne_zero h.m (by decide)
  refine PSr.of (W := 0) (V := V * 720) hm h.s2 bd_zero (terms_bd hn hk row 0 (by omega) h.b) (Nat.lt_of_le_of_lt ?_ h.s) (Nat.lt_of_le_of_lt ?_ h.s)
  · refine Nat.mul_le_mul_right _ ?_
    rw [terms_len, Nat.zero_add]
    exact Nat.mul_le_mul_right _ (by omega)
  · refine Nat.mul_le_mul_right _ ?_
    omega
theorem hv_bd {M V n k : Nat} {row : List Rat} (h : ∀ x ∈ row, Bd M V x) (hn : n ≤ 6) (hk : k ≤ n) (hl : row.length ≤ n + 1) : Bd (M * 720) (7 * (V * 720)) (hv n k row) := by
  refine (bd_sum (terms_bd hn hk row 0 (by omega) h)).mono ?_
  rw [terms_len]
  exact Nat.mul_le_mul_right _ (by omega)
def bodyO : Es → Fl := sSeq (sAsgO 4 (aLst aN)) (sSeq (sFor (iA dEnum (aC (xV 1) aN)) (h2 5 6) bodyH) (sAppR 2 (xCall 1 m_total (aC (xV 4) aN))))
@[simp] theorem dEnum_t (l : List D) : dEnum [.tuple l] = .ok (enumF 0 l) := rfl
@[simp] theorem dEnum_l (l : List D) : dEnum [.list l] = .ok (enumF 0 l) := rfl
theorem bodyO_ok {n k M V : Nat} {row : List Rat} (h : RowB M V row) (hn : n ≤ 6) (hk : k ≤ n) (hl : row.length ≤ n + 1) (res : List D) (hr : res.length < 900) (o4 o5 o6 : Option Sl) :
    ∃ p4 p5 p6, bodyO [some (.im (.int n)), some (.im (.tuple (row.map fr))), some (.ow res), some (.im (.int k)), o4, o5, o6] = .nx [some (.im (.int n)), some (.im (.tuple (row.map fr))), some (.ow (res ++ [fr (hv n k row)])), some (.im (.int k)), p4, p5, p6] := by
  obtain ⟨p5, p6, e⟩ := inner_loop hn hk row 0 [] (.tuple (row.map fr)) res o5 o6 (by omega) h.sm (by simp; omega)
  refine ⟨some (.ow ((terms n k 0 row).map fr)), p5, p6, ?_⟩
  have t := total_ok (h.ps hn hk hl)
  have hr' : res.length < 1000 := by omega
  have ap : (aLst aN : FA) = fun _ => .ok [] := rfl
  have e' := e
  simp only [List.nil_append] at e'
  unfold bodyO
  rw [sSeq_ap]
  simp only [ap, sAsgO_ap, fR_ok]
  rw [if_pos (by simp)]
  simp only [List.set, th_nx]
  rw [sSeq_ap]
  simp only [sFor_ap, iA_ap, aC_ap, aN_ap, v0_im, v0_none, v0_nil, v0_ow, xV_s, xV_z, R.bind_ok, fR_ok, dEnum_t]
  rw [e', th_nx, sAppR_ap]
  have tv : (terms n k 0 row).sum = hv n k row := rfl
  rw [tv] at t
  simp [t, hr']
theorem outer_loop {n M V : Nat} {row : List Rat} (h : RowB M V row) (hn : n ≤ 6) (hl : row.length ≤ n + 1) : ∀ (j k : Nat) (res : List D) (o3 o4 o5 o6 : Option Sl), k + j ≤ n + 1 → res.length + j < 900 →
    ∃ p3 p4 p5 p6, forD (hN 3) bodyO ((List.range' k j).map fun t : Nat => .int ((t : Nat) : Int)) [some (.im (.int n)), some (.im (.tuple (row.map fr))), some (.ow res), o3, o4, o5, o6] = .nx [some (.im (.int n)), some (.im (.tuple (row.map fr))), some (.ow (res ++ (List.range' k j).map fun t => fr (hv n t row))), p3, p4, p5, p6]
  | 0, k, res, o3, o4, o5, o6, _, _ => ⟨o3, o4, o5, o6, by simp [forD]⟩
  | j + 1, k, res, o3, o4, o5, o6, hk, hr => by
    obtain ⟨q4, q5, q6, e1⟩ := bodyO_ok (k := k) h hn (by omega) hl res (by omega) o4 o5 o6
    obtain ⟨p3, p4, p5, p6, e2⟩ := outer_loop h hn hl j (k + 1) (res ++ [fr (hv n k row)]) (some (.im (.int (k : Nat)))) q4 q5 q6 (by omega) (by simp; omega)
    refine ⟨p3, p4, p5, p6, ?_⟩
    rw [List.range'_succ, List.map_cons, forD_cons (by simp [hN]) e1, e2]
    simp
theorem honest_of_ok {n M V : Nat} {row : List Rat} (h : RowB M V row) (hn : n ≤ 6) (hl : row.length ≤ n + 1) : m_honest_of [.int n, .tuple (row.map fr)] = .ok (.tuple ((hon n row).map fr)) := by
  obtain ⟨p3, p4, p5, p6, e⟩ := outer_loop h hn hl (n + 1) 0 [] none none none none (by omega) (by simp; omega)
  refine runF_rt ?_
  have dr := dr_n (i := n + 1) (by omega)
  have c1 : ((n : Int) + 1) = ((n + 1 : Nat) : Int) := by omega
  have ap : (aLst aN : FA) = fun _ => .ok [] := rfl
  have eh : (hon n row).map fr = (List.range' 0 (n + 1)).map fun t => fr (hv n t row) := by
    unfold hon
    rw [List.map_map, List.range_eq_range']
    rfl
  rw [List.nil_append, ← eh] at e
  show sSeq (sAsgO 2 (aLst aN)) (sSeq (sFor (iA dR1 (aC (x2 dAddA (xV 0) (xC (.int 1))) aN)) (hN 3) bodyO) (sRet (xA dTupOf (aC (xV 2) aN)))) [some (.im (.int n)), some (.im (.tuple (row.map fr))), none, none, none, none, none] = _
  rw [sSeq_ap]
  simp only [ap, sAsgO_ap, fR_ok]
  rw [if_pos (by simp)]
  simp only [List.set, th_nx]
  rw [sSeq_ap]
  simp only [sFor_ap, iA_ap, aC_ap, aN_ap, x2_ap, xC_ap, v0_im, v0_none, v0_nil, v0_ow, xV_s, xV_z, R.bind_ok, fR_ok, dAddA_int, c1, dr]
  rw [e, th_nx]
  simp
theorem rowB_int {q : List Int} (h : ∀ x ∈ q, x.natAbs ≤ 999) : RowB 1 999 (polyQ q) where
  b x hx := by
    obtain ⟨z, hz, rfl⟩ := List.mem_map.mp hx
    exact bd_int (h z hz)
  m := by decide
  s := by decide +kernel
  s2 := by decide +kernel
theorem polyQ_len (q : List Int) : (polyQ q).length = q.length := by simp [polyQ]
theorem honest_ok {n c : Nat} {q : List Int} (h1 : 1 ≤ n) (hn : n ≤ 6) (hc : c ≤ 99) (h : Qty c q) (hl : q.length ≤ n + 1) : m_honest [.int n, .tuple (q.map .int)] = .ok (.tuple ((hon n (polyQ q)).map fr)) := by
  refine runF_rt ?_
  unfold g_honest
  have hb : RowB 1 999 (polyQ q) := rowB_int fun x hx => by have := h.rng x hx; omega
  have e1 := check_trials_ok (n := (n : Int)) (by omega) (by omega)
  have e2 := check_quantity_ok hc h (by omega)
  have e3 := polynomial_of_ok (q := q) (by omega)
  have e4 := honest_of_ok hb hn (by rw [polyQ_len]; exact hl)
  have e5 : ¬ ((n : Int) + 1 < (q.length : Int)) := by omega
  simp [sSeq_ap, e1, e2, e3, e4, e5]
/-! ### the estimate is linear -/
theorem terms_add (n k : Nat) : ∀ (e : Nat) (a b : List Rat), a.length = b.length → (terms n k e (List.zipWith (· + ·) a b)).sum = (terms n k e a).sum + (terms n k e b).sum
  | e, [], [], _ => by simp [terms, Rat.add_zero]
  | e, x :: a, y :: b, h => by
    have := terms_add n k (e + 1) a b (by simpa using h)
    simp only [List.zipWith, terms, List.sum_cons, this, Rat.add_mul]
    grind
theorem terms_mul (n k : Nat) (c : Rat) : ∀ (e : Nat) (a : List Rat), (terms n k e (a.map (c * ·))).sum = c * (terms n k e a).sum
  | e, [] => by simp [terms, Rat.mul_zero]
  | e, x :: a => by
    have := terms_mul n k c (e + 1) a
    simp only [List.map_cons, terms, List.sum_cons, this, Rat.mul_add, Rat.mul_assoc]
theorem terms_zero (n k : Nat) : ∀ (m e : Nat), (terms n k e (List.replicate m 0)).sum = 0
  | 0, e => by simp [terms]
  | m + 1, e => by
    have := terms_zero n k m (e + 1)
    simp only [List.replicate_succ, terms, List.sum_cons, this, Rat.zero_mul, Rat.add_zero]
theorem terms_app (n k : Nat) : ∀ (e : Nat) (a b : List Rat), (terms n k e (a ++ b)).sum = (terms n k e a).sum + (terms n k (e + a.length) b).sum
  | e, [], b => by simp [terms, Rat.zero_add]
  | e, x :: a, b => by
    have := terms_app n k (e + 1) a b
    simp only [List.cons_append, terms, List.sum_cons, this, List.length_cons, Rat.add_assoc]
    rw [show e + 1 + a.length = e + (a.length + 1) by omega]
theorem hv_pad (n k m : Nat) (a : List Rat) : hv n k (a ++ List.replicate m 0) = hv n k a := by
  unfold hv
  rw [terms_app, terms_zero, Rat.add_zero]
end HN
end
section
set_option linter.all false
set_option maxRecDepth 100000
set_option maxHeartbeats 1000000
set_option exponentiation.threshold 20000
namespace HN
open PySem L2 HL HM
/-! ### tools for the laws -/
theorem seqN {g1 g2 : Es → Fl} {δ δ' : Es} {r : Fl} (h1 : g1 δ = .nx δ') (h2 : g2 δ' = r) : sSeq g1 g2 δ = r := by
  rw [sSeq_ap, h1, th_nx, h2]
theorem dr_N {i : Nat} (hi : i ≤ 1000) : dR1 [.int (i : Int)] = .ok ((List.range i).map fun t : Nat => .int ((t : Nat) : Int)) := by
  rw [dr_n hi, List.range_eq_range']
theorem dr_Z {z : Int} {i : Nat} (e : z = (i : Int)) (hi : i ≤ 1000) : dR1 [.int z] = .ok ((List.range i).map fun t : Nat => .int ((t : Nat) : Int)) := by
  rw [e, dr_N hi]
theorem xLc_ok {α : Type} {fi : FA} {γ : D → En → R En} {fe : FE} {vs : List Nat} {ρ : En} {f g : α → D} {l : List α} (h1 : fi ρ = .ok (l.map f)) (h2 : l.length ≤ 1000)
    (h3 : ∀ a ∈ l, ∃ ρ2, γ (f a) (wipeD ρ vs) = .ok ρ2 ∧ fe ρ2 = .ok (g a)) : xLc fi γ (fun _ => .ok true) fe vs ρ = .ok (.list (l.map g)) := by
  unfold xLc
  rw [h1, R.bind_ok, List.length_map, if_pos h2, lc_map h3, R.bind_ok]
theorem dIx_mT {α : Type} {l : List α} {f : α → D} {j : Nat} (hj : j < l.length) : dIx (.tuple (l.map f)) (.int (j : Int)) = .ok (f l[j]) := dIx_tn rfl (by simp [hj])
theorem dIx_mL {α : Type} {l : List α} {f : α → D} {j : Nat} (hj : j < l.length) : dIx (.list (l.map f)) (.int (j : Int)) = .ok (f l[j]) := dIx_ln rfl (by simp [hj])
theorem dRepT_ok {xs : List D} {z : Int} {k : Nat} (e : z = (k : Int)) (hk : k ≤ 1000) (hx : xs.length ≤ 1000) : dRepT (.tuple xs) (.int z) = .ok (.tuple (List.replicate k xs).flatten) := by
  subst e
  simp only [dRepT]
  rw [if_pos ⟨by omega, by omega, hx⟩]
  rfl
theorem rep1 {α : Type} (a : α) : ∀ k, (List.replicate k [a]).flatten = List.replicate k a
  | 0 => rfl
  | k + 1 => by rw [List.replicate_succ, List.flatten_cons, rep1 a k]; rfl
theorem dAddA_tt {a b : List D} (h : a.length + b.length ≤ 1000) : dAddA (.tuple a) (.tuple b) = .ok (.tuple (a ++ b)) := by simp only [dAddA, if_pos h]
theorem dAddA_ll {a b : List D} (h : a.length + b.length ≤ 1000) : dAddA (.list a) (.list b) = .ok (.list (a ++ b)) := by simp only [dAddA, if_pos h]
theorem hon_at {n k : Nat} {row : List Rat} (hk : k ≤ n) : dIx (.tuple ((hon n row).map fr)) (.int (k : Int)) = .ok (fr (hv n k row)) := by
  rw [dIx_mT (by rw [hon_len]; omega)]
  simp [hon]
theorem one_ok {x : Int} {m : Int} (hm : 0 < m) (hm' : m ≤ 1000) : ∃ n : Nat, (1 : Int) ≤ n ∧ (n : Int) ≤ m ∧ 1 + x % m = (n : Int) := by
  have h1 := Int.emod_nonneg x (show m ≠ 0 by omega)
  have h2 := Int.emod_lt_of_pos x hm
  exact ⟨(1 + x % m).toNat, by omega, by omega, by omega⟩
theorem psm_two {M V : Nat} {a b : Rat} (ha : Bd M V a) (hb : Bd M V b) (hM : M ≠ 0) (h1 : M < 2 ^ 2000) (h2 : 2 * V * M < 2 ^ 2000) : PSm 0 [(a.num, a.den), (b.num, b.den)] := by
  have hv : V * M < 2 ^ 2000 := Nat.lt_of_le_of_lt (Nat.mul_le_mul_right _ (by omega)) h2
  have s1 := ha.sm hM h1 hv
  have s2 := hb.sm hM h1 hv
  have s0 : Sm 0 := (bd_zero (M := 1)).sm (by decide) z2' (by rw [Nat.zero_mul]; exact Nat.two_pow_pos _)
  refine ⟨s0, s1.p, ?_, s2.p, ?_⟩
  · rw [pv_fr, Rat.zero_add]; exact s1
  · rw [pv_fr, pv_fr, Rat.zero_add]
    exact (ha.add hb).sm hM h1 (by rw [← Nat.two_mul]; exact h2)
where z2' : 1 < 2 ^ 2000 := by decide +kernel
end HN
end
section
set_option Elab.async false
set_option linter.all false
set_option maxRecDepth 100000
set_option maxHeartbeats 4000000
/-! ### set(list of ints) -/
namespace HL
open PySem PySem.Spec PyProof.Rows L2
def nSet (w : World) : Obj := { cls := .type "set", dict := none, data := .set #[] 0 (.fresh 0 0 (!w.params.followText "set-order")) }
end HL
namespace L2
open PySem PySem.Spec PyProof.Rows HL
section
variable {P : Program} {w : World} {A : Around} {E : Value → Shared → Prop} {s : Shared}
set_option maxRecDepth 100000 in
set_option maxHeartbeats 3200000 in
theorem callSetL {b : Addr} {its : Array Value} (ks : List Int) {Q : Value → Shared → Prop} (calm : A.handled = none) (hb : s.heap.IsList b its) (are : IntsAre its.toList ks) (few : ks.length + 1 < scanBound)
    (fin : ∀ (g : Heap) (tk c : Nat), SetR w g s.heap.objs.size (fun j => decide (j ∈ ks)) c → c ≤ ks.length → (∀ x o, s.heap.get? x = some o → g.get? x = some o) → Q (.ref s.heap.objs.size) { s with heap := g, toks := tk }) :
    wpAny (model P w) A (call (.type "set") [.ref b]) Q E s := by
  have zs : its.size = ks.length := by
    have z := IntsAre.length are
    rwa [Array.length_toList] at z
  obtain ⟨cc, tt, mro⟩ := F.called_set.mro
  have made := F.called_set.made
  have below := F.called_set.sub
  refine wpAny_call (codeAny_of_tree ?_)
  show wpAny _ _ (callAny (.type "set") _) _ _ _
  refine wpAny_pure ⟨Code.quiet_builtin _ (by decide +kernel), codeAny_builtin F.entry_type_call ?_⟩
  rw [Around.under_plain (weight_type_call_type "set" [.ref b] []) rfl]
  have u1 := F.called_set.notType
  have u2 := F.called_set.canCreate
  have u3 := F.typeCall_set_1 (.ref b)
  repeat any_goals first | assumption | wp_step
  refine codeAny_mono (code_set_led1 (.ref b) (E := E) (Q₁ := fun obj t => obj = .ref s.heap.objs.size ∧ t = { s with heap := s.heap.push (nSet w) }) ⟨rfl, rfl⟩) fun r t ht => ?_
  cases r with
  | error e => exact ht
  | ok fl =>
    cases fl with
    | ret obj =>
      obtain ⟨rfl, rfl⟩ := ht
      have here : (s.heap.push (nSet w)).get? s.heap.objs.size = some (nSet w) := Heap.get?_push_size _ rfl
      have ty : Shared.TypeIs { s with heap := s.heap.push (nSet w) } (.ref s.heap.objs.size) "set" := ⟨_, here, rfl⟩
      have look := F.called_set.init.lookup
      have bind := F.called_set.init.bind (.ref s.heap.objs.size)
      repeat any_goals first | assumption | wp_step
      refine codeAny_mono (codeAny_call_builtin (R := wants (fun r t => r = .none ∧ ∃ g tk c, t = { s with heap := g, toks := tk } ∧ SetR w g s.heap.objs.size (fun j => decide (j ∈ ks)) c ∧ c ≤ ks.length ∧ (∀ x o, s.heap.get? x = some o → g.get? x = some o)) E) F.called_set.init.plain F.entry_set_init (check_set_init_1 ty ?_)) fun r t ht => ?_
      · obtain ⟨ob, hob, cb, nb, db⟩ := hb
        obtain ⟨c1, c2, c3, c4⟩ := ob
        simp only at cb db
        subst cb; subst db
        have hob' : (s.heap.push (nSet w)).get? b = some { cls := .type "list", dict := c2, data := .seq its nb, slots := c4 } := Heap.get?_push_of_some _ hob
        have v1 := F.sub_list_set
        have v2 := F.sub_list_frozenset
        have v3 : (Value.type "list" == Value.type "dict") = false := by decide
        have lb : (s.heap.push (nSet w)).IsList b its := ⟨_, hob', rfl, nb, rfl⟩
        unfold Builtin.«set.__init__» noKeywords Builtin.Frozenset.updateFrom
        generalize hIt : pyIter = It
        wp_walk
        subst hIt
        refine wpAny_pyIter_list lb ?_
        refine wpAny_bind (wpAny_runValue ?_)
        have small : b < s.heap.objs.size := Heap.lt_size hob
        have calm3 : A.in1.in1.in1.handled = none := by simp [calm]
        have apart : b ≠ (s.heap.push (nSet w)).objs.size := by
          rw [Heap.size_push]
          exact Nat.ne_of_lt (Nat.lt_succ_of_lt small)
        have away : s.heap.objs.size ∉ [(s.heap.push (nSet w)).objs.size, b] := by
          rw [Heap.size_push]
          intro z
          rcases List.mem_cons.mp z with z | z
          · exact absurd z (Nat.ne_of_lt (Nat.lt_succ_self _))
          · exact absurd (List.mem_singleton.mp z) (Nat.ne_of_gt small)
        have each : ∀ (i : Nat) (v : Value), its[i]? = some v → ∃ k t, ks[i]? = some k ∧ v = .int k t := fun i v hv => by
          have il : i < ks.length := by rw [← zs]; exact (Array.getElem?_eq_some_iff.mp hv).1
          obtain ⟨t, e⟩ := IntsAre.int_at are i v (by rw [Array.getElem?_toList]; exact hv)
          refine ⟨ks[i], t, List.getElem?_eq_getElem il, ?_⟩
          rw [e, List.getD_eq_getElem?_getD, List.getElem?_eq_getElem il]
          rfl
        refine set_update_ints ((Walks.list calm3 _ b apart its).toS) s.heap.objs.size away ks zs few each (its.size - 0) 0 _ (by omega) (Nat.zero_le _) ⟨⟨_, Heap.get?_push_size _ rfl, rfl, rfl⟩, (lb.push _)⟩ ⟨0, Nat.le_refl 0, setR_new_at (Heap.get?_push_of_some _ here)⟩ ?_
        intro t c mv hc hS
        obtain ⟨g, g2, d2, tk2, os2⟩ := t
        have e1 : g2 = s.gens := mv.gens
        have e2 : d2 = s.drawn := mv.drawn
        have e3 : os2 = s.os := mv.os
        subst e1; subst e2; subst e3
        show wpAny _ _ _ _ _ _
        refine wpAny_pure ?_
        show wpAny _ _ (ret Value.none) _ _ _
        rw [zs] at hc
        refine wpAny_pure ⟨rfl, g, tk2, c, rfl, hS, hc, fun x o e => ?_⟩
        have x0 : x < s.heap.objs.size := Heap.lt_size e
        refine mv.heap x o ?_ (Heap.get?_push_of_some _ (Heap.get?_push_of_some _ e))
        rw [Heap.size_push]
        intro z
        rcases List.mem_cons.mp z with z | z
        · exact absurd z (Nat.ne_of_lt x0)
        · exact absurd (List.mem_singleton.mp z) (Nat.ne_of_lt (Nat.lt_succ_of_lt x0))
      · cases r with
        | error e => exact ht
        | ok fl2 =>
          cases fl2 with
          | ret r =>
            obtain ⟨rfl, g, tk, c, rfl, hS, hc, hk⟩ := ht
            repeat any_goals first | assumption | wp_step
            exact fin _ _ _ hS hc hk
          | _ => exact ht.elim
    | _ => exact ht.elim
end
end L2
namespace HL
open PySem PySem.Spec PyProof.Rows L2
/-- set(xs), xs a list of ints -/
def rSetI (K : PySem.W.Frag) (w : World) : List V → Hp → VK → Prop := fun vs H Q => ∃ (a : Addr) (ks : List Int), vs = [V.ref a] ∧ SqL K H a (ks.map V.int) ∧ ks.length ≤ 1000 ∧ ∀ (p : Addr) (c : Nat), H p = none → c ≤ ks.length → Q (.ref p) (upd H p (SetO w p (fun j => decide (j ∈ ks)) c))
theorem call_setI {X : Cx} (hc : X.calm = true) : CallR X (.type "set") (rSetI X.K X.w) := by
  intro pins s σ H xs us Q I r h
  obtain ⟨a, ks, rfl, hq, hl, q⟩ := h
  rw [Vals.ref1 r]
  obtain ⟨its, rv, p, hz⟩ := I.list hq
  refine callSetL ks (I.ok.hd hc) p.isList (ints_of_vals rv) (by unfold scanBound; omega) fun g tk c R hcn k => ?_
  exact ⟨.ref _, upd H s.heap.objs.size (SetO X.w s.heap.objs.size (fun j => decide (j ∈ ks)) c), I.laid (t' := tk) (fun b u e => k b u e) (Nat.le_refl _) (setO_new R), rfl, q _ _ (I.hok.fresh (Nat.le_refl _)) hcn⟩
end HL
end
section
set_option Elab.async false
set_option linter.all false
set_option maxRecDepth 100000
set_option maxHeartbeats 4000000
namespace HL
open PySem PySem.Spec PyProof.Rows L2
/-! ### sorted(set(xs)) -/
def insU (k : Int) : List Int → List Int
  | [] => [k]
  | x :: r => if k < x then k :: x :: r else if k = x then x :: r else x :: insU k r
def sortU (l : List Int) : List Int := l.foldr insU []
theorem mem_insU {j k : Int} : ∀ {l : List Int}, j ∈ insU k l ↔ j = k ∨ j ∈ l
  | [] => by simp [insU]
  | x :: r => by
    unfold insU
    split
    · simp
    · split
      · rename_i h; subst h; simp
      · simp [mem_insU (l := r)]
        constructor
        · rintro (h | h | h) <;> simp [h]
        · rintro (h | h | h) <;> simp [h]
theorem pw_insU {k : Int} : ∀ {l : List Int}, l.Pairwise (· < ·) → (insU k l).Pairwise (· < ·)
  | [], _ => by simp [insU]
  | x :: r, h => by
    obtain ⟨h1, h2⟩ := List.pairwise_cons.mp h
    unfold insU
    split
    · rename_i hk
      refine List.pairwise_cons.mpr ⟨fun y hy => ?_, h⟩
      rcases List.mem_cons.mp hy with e | e
      · rw [e]; exact hk
      · have := h1 y e; omega
    · split
      · exact h
      · refine List.pairwise_cons.mpr ⟨fun y hy => ?_, pw_insU h2⟩
        rcases mem_insU.mp hy with e | e
        · omega
        · exact h1 y e
theorem sortU_mem {j : Int} : ∀ {l : List Int}, j ∈ sortU l ↔ j ∈ l
  | [] => by simp [sortU]
  | x :: r => by
    show j ∈ insU x (sortU r) ↔ _
    rw [mem_insU, sortU_mem (l := r)]
    simp
theorem sortU_pw : ∀ l : List Int, (sortU l).Pairwise (· < ·)
  | [] => List.Pairwise.nil
  | x :: r => pw_insU (sortU_pw r)
theorem pw_uniq : ∀ {a b : List Int}, a.Pairwise (· < ·) → b.Pairwise (· < ·) → (∀ k, k ∈ a ↔ k ∈ b) → a = b
  | [], [], _, _, _ => rfl
  | [], y :: b, _, _, h => absurd ((h y).mpr List.mem_cons_self) (by simp)
  | x :: a, [], _, _, h => absurd ((h x).mp List.mem_cons_self) (by simp)
  | x :: a, y :: b, ha, hb, h => by
    obtain ⟨a1, a2⟩ := List.pairwise_cons.mp ha
    obtain ⟨b1, b2⟩ := List.pairwise_cons.mp hb
    have e : x = y := by
      rcases List.mem_cons.mp ((h x).mp List.mem_cons_self) with z | z
      · exact z
      · rcases List.mem_cons.mp ((h y).mpr List.mem_cons_self) with q | q
        · exact q.symm
        · have := b1 x z; have := a1 y q; omega
    subst e
    congr 1
    refine pw_uniq a2 b2 fun k => ⟨fun hk => ?_, fun hk => ?_⟩
    · rcases List.mem_cons.mp ((h k).mp (List.mem_cons_of_mem _ hk)) with z | z
      · have := a1 k hk; omega
      · exact z
    · rcases List.mem_cons.mp ((h k).mpr (List.mem_cons_of_mem _ hk)) with z | z
      · have := b1 k hk; omega
      · exact z
def intsOf : List D → Option (List Int)
  | [] => some []
  | .int y :: r => (intsOf r).map (y :: ·)
  | _ => none
theorem ints_map : ∀ {ds : List D} {ys : List Int}, intsOf ds = some ys → ds = ys.map .int
  | [], ys, h => by cases h; rfl
  | .int y :: r, ys, h => by
    unfold intsOf at h
    rw [Option.map_eq_some_iff] at h
    obtain ⟨zs, hz, e⟩ := h
    rw [← e, ints_map hz]
    rfl
  | .none :: r, ys, h => by cases h
  | .bool _ :: r, ys, h => by cases h
  | .str _ :: r, ys, h => by cases h
  | .list _ :: r, ys, h => by cases h
  | .tuple _ :: r, ys, h => by cases h
  | .dict _ :: r, ys, h => by cases h
section
variable {K : PySem.W.Frag} {ca : String → Addr} {E : L2.St → XK} {n : Nat} {w : World}
theorem ints_vals {H : Hp} : ∀ {ys : List Int} {vs : List V}, DpAll K H vs (ys.map .int) → vs = ys.map V.int
  | [], _, h => by cases h; rfl
  | y :: ys, _, h => by
    cases h with
    | cons h r => rw [dp_int h, ints_vals r]; rfl
theorem ints_dps {H : Hp} : ∀ ys : List Int, DpAll K H (ys.map V.int) (ys.map PyData.int)
  | [] => .nil
  | y :: ys => .cons (.int y) (ints_dps ys)
def dSortSet : D → R D
  | .list ds => match intsOf ds with
    | some ks => if ks.length ≤ 60 then .ok (.list ((sortU ks).map .int)) else .bad
    | none => .bad
  | _ => .bad
theorem ce_sortSet {te : TE} {f : FE} (h : CE K ca E te f) : CE K ca E (tCB (rSortedSet w) (tCons (tCB (rSetI K w) (tCons te tNil)) tNil)) (x1 dSortSet f) := fun σ ρ G H Q sg re gg =>
  h.bind sg re gg fun d v G1 H1 s1 re1 r1 g1 => by
    cases d with
    | list ds =>
      simp only [dSortSet] at g1
      split at g1
      · rename_i ks hk
        split at g1
        · rename_i hl
          obtain ⟨a, xs, rfl, sa, ra⟩ := dp_lst r1
          rw [ints_map hk] at ra
          have e := ints_vals ra
          refine ⟨a, ks, rfl, by rw [← e]; exact s1.s.seq sa, by omega, fun p c hp hc => ?_⟩
          refine ⟨p, _, c, rfl, upd_same, by omega, fun ns p2 pw mem _ fr2 => ?_⟩
          have en : ns = sortU ks := pw_uniq pw (sortU_pw ks) fun k => by rw [mem, sortU_mem]; simp
          subst en
          have e1 : Ex4 G1 H1 G1 (upd H1 p (SetO w p (fun j => decide (j ∈ ks)) c)) := ⟨Same.refl _, s1.s.trans (same_upd hp), same_upd hp, fun _ _ z => z⟩
          exact g1 (.ref p2) _ _ (e1.trans (Ex4.new e1.s fr2)) (.lst (SqL.of upd_same) (ints_dps _))
        · exact g1.elim
      · exact g1.elim
    | _ => exact g1.elim
/-! ### list(range(e)) -/
def dLstRg : D → R D
  | .int j => if -1000 ≤ j ∧ j ≤ 1000 then .ok (.list (rngD 0 j.toNat)) else .bad
  | _ => .bad
theorem rg_dps {H : Hp} (j : Int) : DpAll K H (rgV 0 j) (rngD 0 j.toNat) := by
  have e : rgV 0 j = ((List.range j.toNat).map fun i : Nat => ((i : Nat) : Int)).map V.int := by
    unfold rgV
    rw [List.map_map]
    rw [Int.sub_zero]
    exact List.map_congr_left fun i _ => by simp
  have e2 : rngD 0 j.toNat = ((List.range j.toNat).map fun i : Nat => ((i : Nat) : Int)).map PyData.int := by
    unfold rngD
    rw [List.map_map]
    exact List.map_congr_left fun i _ => by simp
  rw [e, e2]
  exact ints_dps _
theorem ce_lstRg {te : TE} {f : FE} (h : CE K ca E te f) : CE K ca E (tLstRg (tRg1 te)) (x1 dLstRg f) := fun σ ρ G H Q sg re gg =>
  h.bind sg re gg fun d v G1 H1 s1 re1 r1 g1 => by
    cases d with
    | int j =>
      cases dp_int r1
      simp only [dLstRg] at g1
      split at g1
      · rename_i hj
        refine ⟨j, rfl, ⟨by omega, by omega, by omega, by omega, by omega⟩, fun p hp => ?_⟩
        exact g1 (.ref p) _ _ (Ex4.new s1.s hp) (.lst (SqL.of upd_same) (rg_dps j))
      · exact g1.elim
    | _ => exact g1.elim
end
end HL
end
section
set_option linter.all false
set_option maxRecDepth 100000
set_option maxHeartbeats 1000000
set_option exponentiation.threshold 20000
namespace HN
open PySem L2 HL HM
/-! ### rows as polynomials -/
def ev : List Rat → Rat → Rat
  | [], _ => 0
  | a :: r, x => a + x * ev r x
def trim : List Rat → List Rat
  | [] => []
  | a :: r => if trim r = [] then (if a = 0 then [] else [a]) else a :: trim r
theorem trim_ev (x : Rat) : ∀ r, ev (trim r) x = ev r x
  | [] => rfl
  | a :: r => by
    have ih := trim_ev x r
    unfold trim
    split
    · rename_i h
      rw [h] at ih
      have ih : 0 = ev r x := ih
      split
      · rename_i ha
        show 0 = a + x * ev r x
        rw [← ih, ha, Rat.mul_zero, Rat.add_zero]
      · show a + x * 0 = a + x * ev r x
        rw [← ih]
    · show a + x * ev (trim r) x = a + x * ev r x
      rw [ih]
theorem trim_len : ∀ r, (trim r).length ≤ r.length
  | [] => Nat.le_refl _
  | a :: r => by
    have := trim_len r
    unfold trim
    split
    · split <;> simp
    · simp only [List.length_cons]; omega
theorem trim_mem {x : Rat} : ∀ {r}, x ∈ trim r → x ∈ r
  | [], h => h
  | a :: r, h => by
    unfold trim at h
    split at h
    · split at h
      · cases h
      · rw [List.mem_singleton.mp h]; exact List.mem_cons_self
    · rcases List.mem_cons.mp h with rfl | h
      · exact List.mem_cons_self
      · exact List.mem_cons_of_mem _ (trim_mem h)
theorem trim_zero : ∀ r, trim (r ++ [0]) = trim r
  | [] => by simp [trim]
  | a :: r => by
    rw [List.cons_append]
    unfold trim
    rw [trim_zero r]
theorem trim_last {x : Rat} (hx : x ≠ 0) : ∀ r, trim (r ++ [x]) = r ++ [x]
  | [] => by simp [trim, hx]
  | a :: r => by
    rw [List.cons_append]
    unfold trim
    rw [trim_last hx r]
    rw [if_neg (by simp)]
def Nz (r : List Rat) : Prop := r = [] ∨ ∃ s x, r = s ++ [x] ∧ x ≠ 0
theorem nz_cons {a : Rat} {r : List Rat} (h : Nz r) (hr : r ≠ []) : Nz (a :: r) := by
  rcases h with h | ⟨s, x, rfl, hx⟩
  · exact absurd h hr
  · exact .inr ⟨a :: s, x, rfl, hx⟩
theorem trim_nz : ∀ r, Nz (trim r)
  | [] => .inl rfl
  | a :: r => by
    unfold trim
    split
    · split
      · exact .inl rfl
      · rename_i h
        exact .inr ⟨[], a, rfl, h⟩
    · rename_i h
      exact nz_cons (trim_nz r) h
theorem Nz.trim {r : List Rat} (h : Nz r) : trim r = r := by
  rcases h with rfl | ⟨s, x, rfl, hx⟩
  · rfl
  · exact trim_last hx s
theorem trim_get : ∀ (r : List Rat) (i : Nat), (trim r).getD i 0 = r.getD i 0
  | [], i => rfl
  | a :: r, i => by
    have ih := trim_get r
    unfold trim
    split
    · rename_i h
      rw [h] at ih
      split
      · rename_i ha
        cases i with
        | zero => simp [ha]
        | succ i => have := ih i; simp at this ⊢; exact this
      · cases i with
        | zero => simp
        | succ i => have := ih i; simp at this ⊢; exact this
    · cases i with
      | zero => simp
      | succ i => have := ih i; simp at this ⊢; exact this
/-- trimmed rows with the same entries are the same -/
theorem nz_ext {a b : List Rat} (ha : Nz a) (hb : Nz b) (h : ∀ i, a.getD i 0 = b.getD i 0) : a = b := by
  have le : ∀ {a b : List Rat}, Nz a → (∀ i, a.getD i 0 = b.getD i 0) → a.length ≤ b.length := fun {a b} ha h => by
    rcases ha with rfl | ⟨s, x, rfl, hx⟩
    · exact Nat.zero_le _
    · refine Decidable.byContradiction fun hc => hx ?_
      have := h s.length
      rw [List.getD_eq_getElem?_getD, List.getD_eq_getElem?_getD, List.getElem?_eq_none (l := b) (by simp at hc; omega)] at this
      simpa using this
  have l1 := le ha h
  have l2 := le hb fun i => (h i).symm
  apply List.ext_getElem (by omega)
  intro i h1 h2
  have := h i
  simpa [List.getD_eq_getElem?_getD, h1, h2] using this
/-! ### sums, multiples, products -/
def addP (a b : List Rat) : List Rat := (List.range (max a.length b.length)).map fun i => a.getD i 0 + b.getD i 0
theorem ev_map_range (f : Nat → Rat) (x : Rat) : ∀ (n k : Nat), ev ((List.range' k (n + 1)).map f) x = f k + x * ev ((List.range' (k + 1) n).map f) x := fun n k => by
  rw [List.range'_succ, List.map_cons]; rfl
theorem addP_nil (b : List Rat) : addP [] b = b := by
  apply List.ext_getElem
  · simp [addP]
  · intro i h1 h2
    simp [addP, h2, Rat.zero_add]
theorem addP_nil' (b : List Rat) : addP b [] = b := by
  apply List.ext_getElem
  · simp [addP]
  · intro i h1 h2
    simp [addP, h2, Rat.add_zero]
theorem addP_cons (x y : Rat) (a b : List Rat) : addP (x :: a) (y :: b) = (x + y) :: addP a b := by
  apply List.ext_getElem
  · simp [addP]
  · intro i h1 h2
    cases i with
    | zero => simp [addP]
    | succ i => simp [addP]
theorem addP_ev (x : Rat) : ∀ a b, ev (addP a b) x = ev a x + ev b x
  | [], b => by rw [addP_nil]; show _ = 0 + _; rw [Rat.zero_add]
  | a :: r, [] => by rw [addP_nil']; show _ = _ + 0; rw [Rat.add_zero]
  | a :: r, b :: s => by
    rw [addP_cons]
    show (a + b) + x * ev (addP r s) x = (a + x * ev r x) + (b + x * ev s x)
    rw [addP_ev x r s]
    grind
theorem addP_len (a b : List Rat) : (addP a b).length = max a.length b.length := by simp [addP]
theorem getD_mem {a : List Rat} {i : Nat} (h : a.getD i 0 ≠ 0) : a.getD i 0 ∈ a := by
  by_cases hi : i < a.length
  · simp [List.getD_eq_getElem?_getD, hi]
  · exact absurd (by simp [List.getD_eq_getElem?_getD, List.getElem?_eq_none (Nat.le_of_not_lt hi)]) h
theorem mul_ev (c x : Rat) : ∀ a, ev (a.map (c * ·)) x = c * ev a x
  | [] => by show 0 = c * 0; rw [Rat.mul_zero]
  | a :: r => by
    show c * a + x * ev (r.map (c * ·)) x = c * (a + x * ev r x)
    rw [mul_ev c x r]
    grind
theorem set_ev (x c : Rat) : ∀ (l : List Rat) (k : Nat), k < l.length → ev (l.set k (l.getD k 0 + c)) x = ev l x + c * x ^ k
  | [], k, h => by cases h
  | a :: l, 0, _ => by
    show (a + c) + x * ev l x = (a + x * ev l x) + c * x ^ 0
    rw [Rat.pow_zero]
    grind
  | a :: l, k + 1, h => by
    show a + x * ev (l.set k (l.getD k 0 + c)) x = (a + x * ev l x) + c * x ^ (k + 1)
    rw [set_ev x c l k (by simpa using h), Rat.pow_succ]
    grind
def inn (i : Nat) (a : Rat) : Nat → List Rat → List Rat → List Rat
  | _, [], res => res
  | j, b :: B, res => inn i a (j + 1) B (res.set (i + j) (res.getD (i + j) 0 + a * b))
def outP : Nat → List Rat → List Rat → List Rat → List Rat
  | _, [], _, res => res
  | i, a :: A, B, res => outP (i + 1) A B (inn i a 0 B res)
def mulP (A B : List Rat) : List Rat := outP 0 A B (List.replicate (A.length + B.length) 0)
theorem inn_len (i : Nat) (a : Rat) : ∀ (B : List Rat) (j : Nat) (res : List Rat), (inn i a j B res).length = res.length
  | [], j, res => rfl
  | b :: B, j, res => by
    unfold inn
    rw [inn_len i a B, List.length_set]
theorem inn_ev (x : Rat) (i : Nat) (a : Rat) : ∀ (B : List Rat) (j : Nat) (res : List Rat), i + j + B.length ≤ res.length → ev (inn i a j B res) x = ev res x + a * x ^ (i + j) * ev B x
  | [], j, res, _ => by
    show ev res x = ev res x + _ * 0
    rw [Rat.mul_zero, Rat.add_zero]
  | b :: B, j, res, h => by
    rw [List.length_cons] at h
    unfold inn
    rw [inn_ev x i a B (j + 1) _ (by rw [List.length_set]; omega), set_ev x _ _ _ (by omega)]
    show _ = ev res x + a * x ^ (i + j) * (b + x * ev B x)
    rw [show i + (j + 1) = (i + j) + 1 by omega, Rat.pow_succ]
    grind
theorem outP_len (B : List Rat) : ∀ (A : List Rat) (i : Nat) (res : List Rat), (outP i A B res).length = res.length
  | [], i, res => rfl
  | a :: A, i, res => by
    unfold outP
    rw [outP_len B A, inn_len]
theorem outP_ev (x : Rat) (B : List Rat) : ∀ (A : List Rat) (i : Nat) (res : List Rat), i + A.length + B.length ≤ res.length → ev (outP i A B res) x = ev res x + x ^ i * ev A x * ev B x
  | [], i, res, _ => by
    show ev res x = ev res x + x ^ i * 0 * ev B x
    rw [Rat.mul_zero, Rat.zero_mul, Rat.add_zero]
  | a :: A, i, res, h => by
    rw [List.length_cons] at h
    unfold outP
    rw [outP_ev x B A (i + 1) _ (by rw [inn_len]; omega), inn_ev x i a B 0 _ (by omega)]
    show _ = ev res x + x ^ i * (a + x * ev A x) * ev B x
    rw [Rat.pow_succ, Nat.add_zero]
    grind
theorem zero_ev (x : Rat) : ∀ k, ev (List.replicate k 0) x = 0
  | 0 => rfl
  | k + 1 => by
    show 0 + x * ev (List.replicate k 0) x = 0
    rw [zero_ev x k, Rat.mul_zero, Rat.add_zero]
theorem mulP_ev (x : Rat) (A B : List Rat) : ev (mulP A B) x = ev A x * ev B x := by
  unfold mulP
  rw [outP_ev x B A 0 _ (by simp), zero_ev, Rat.pow_zero, Rat.zero_add, Rat.one_mul]
theorem mulP_len (A B : List Rat) : (mulP A B).length = A.length + B.length := by
  unfold mulP
  rw [outP_len]; simp
/-! ### bounds -/
def PB (M V : Nat) (r : List Rat) : Prop := ∀ x ∈ r, Bd M V x
theorem PB.get {M V : Nat} {r : List Rat} (h : PB M V r) (i : Nat) : Bd M V (r.getD i 0) := by
  by_cases hz : r.getD i 0 = 0
  · rw [hz]; exact bd_zero
  · exact h _ (getD_mem hz)
theorem PB.trim {M V : Nat} {r : List Rat} (h : PB M V r) : PB M V (trim r) := fun x hx => h x (trim_mem hx)
theorem PB.add {M V W : Nat} {a b : List Rat} (h : PB M V a) (h' : PB M W b) : PB M (V + W) (addP a b) := fun x hx => by
  obtain ⟨i, _, rfl⟩ := List.mem_map.mp hx
  exact (h.get i).add (h'.get i)
theorem PB.mul {M N V W : Nat} {c : Rat} {a : List Rat} (hc : Bd M V c) (h : PB N W a) : PB (M * N) (V * W) (a.map (c * ·)) := fun x hx => by
  obtain ⟨y, hy, rfl⟩ := List.mem_map.mp hx
  exact hc.mul (h y hy)
theorem PB.set {M V W : Nat} {r : List Rat} (h : PB M V r) {c : Rat} (hc : Bd M W c) (k : Nat) : PB M (V + W) (r.set k (r.getD k 0 + c)) := fun x hx => by
  rcases List.mem_or_eq_of_mem_set hx with hx | rfl
  · exact (h x hx).mono (Nat.le_add_right _ _)
  · exact (h.get k).add hc
theorem PB.inn {M N V W U i : Nat} {a : Rat} (ha : Bd M V a) : ∀ {B : List Rat} {j : Nat} {res : List Rat}, PB N W B → PB (M * N) U res → PB (M * N) (U + B.length * (V * W)) (inn i a j B res)
  | [], j, res, _, h => by simpa [HN.inn] using h
  | b :: B, j, res, hB, h => by
    have := PB.inn (i := i) ha (B := B) (j := j + 1) (fun x hx => hB x (List.mem_cons_of_mem _ hx)) (h.set (ha.mul (hB b List.mem_cons_self)) (i + j))
    unfold HN.inn
    rw [List.length_cons, Nat.add_mul, Nat.one_mul, Nat.add_comm (B.length * _), ← Nat.add_assoc]
    exact this
theorem PB.outP {M N V W : Nat} {B : List Rat} (hB : PB N W B) : ∀ {A : List Rat} {i U : Nat} {res : List Rat}, PB M V A → PB (M * N) U res → PB (M * N) (U + A.length * (B.length * (V * W))) (outP i A B res)
  | [], i, U, res, _, h => by simpa [HN.outP] using h
  | a :: A, i, U, res, hA, h => by
    have := PB.outP hB (A := A) (i := i + 1) (fun x hx => hA x (List.mem_cons_of_mem _ hx)) (PB.inn (i := i) (j := 0) (hA a List.mem_cons_self) hB h)
    unfold HN.outP
    rw [List.length_cons, Nat.add_mul, Nat.one_mul, Nat.add_comm (A.length * _), ← Nat.add_assoc]
    exact this
theorem PB.mulP {M N V W : Nat} {A B : List Rat} (hA : PB M V A) (hB : PB N W B) : PB (M * N) (A.length * (B.length * (V * W))) (mulP A B) := by
  have := PB.outP hB (i := 0) (U := 0) (res := List.replicate (A.length + B.length) 0) hA (fun x hx => by rw [List.eq_of_mem_replicate hx]; exact bd_zero)
  rw [Nat.zero_add] at this
  exact this
theorem PB.mono {M V W : Nat} {r : List Rat} (h : PB M V r) (hv : V ≤ W) : PB M W r := fun x hx => (h x hx).mono hv
theorem PB.up {M V : Nat} {r : List Rat} (h : PB M V r) (N : Nat) : PB (M * N) V r := fun x hx => (h x hx).up N
end HN
end
section
set_option linter.all false
set_option maxRecDepth 100000
set_option maxHeartbeats 1000000
set_option exponentiation.threshold 20000
namespace HN
open PySem L2 HL HM
/-! ### trimmed -/
def testP : FT := yAnd (yTru (xV 1)) (yBl (x2 dEq (x2 dIx (x2 dIx (xV 1) (x1 dNeg (xC (.int 1)))) (xC (.int 0))) (xC (.int 0))))
theorem fr_0 (q : Rat) : dIx (fr q) (.int 0) = .ok (.int q.num) := dIx_t0 _ _
theorem fr_1 (q : Rat) : dIx (fr q) (.int 1) = .ok (.int q.den) := dIx_t1 _ _ _
theorem trimO_loop (u : D) : ∀ (k m : Nat) (l : List Rat), l.length ≤ k → k < m → whD testP (sPop 1) m [some (.im u), some (.ow (l.map fr))] = .nx [some (.im u), some (.ow ((trim l).map fr))] := by
  intro k
  induction k with
  | zero =>
    intro m l hl hm
    obtain ⟨j, rfl⟩ : ∃ j, m = j + 1 := ⟨m - 1, by omega⟩
    have : l = [] := List.eq_nil_of_length_eq_zero (by omega)
    subst this
    rw [whD_s]
    simp [testP, trim, dTru]
  | succ k ih =>
    intro m l hl hm
    obtain ⟨j, rfl⟩ : ∃ j, m = j + 1 := ⟨m - 1, by omega⟩
    rcases snoc_cases l with rfl | ⟨r, y, rfl⟩
    · rw [whD_s]
      simp [testP, trim, dTru]
    · have e1 : dIx (.list ((r ++ [y]).map fr)) (.int (-1)) = .ok (fr y) := by rw [List.map_append]; exact dIx_last
      have e2 : testP (vw [some (.im u), some (.ow ((r ++ [y]).map fr))]) = .ok (decide (y = 0)) := by
        have h3 : dTru (.list ((r ++ [y]).map fr)) = .ok true := by simp [dTru]
        unfold testP
        simp only [vw_im, vw_ow, vw_nil, yAnd_ap, yTru_ap, yBl_ap, x2_ap, x1_ap, xC_ap, xV_s, xV_z, R.bind_ok, h3, if_pos, dNeg_int, e1, fr_0, dEq_int, dBl_bool, Rat.num_eq_zero]
      rw [whD_s, e2, fR_ok]
      by_cases hy : y = 0
      · subst hy
        rw [if_pos (by simp)]
        have e3 : sPop 1 [some (.im u), some (.ow ((r ++ [0]).map fr))] = .nx [some (.im u), some (.ow (r.map fr))] := by
          simp [sPop, List.dropLast_concat]
        rw [e3, trim_zero]
        exact ih j r (by simp at hl; omega) (by omega)
      · rw [if_neg (by simp [hy]), trim_last hy]
theorem trimmed_ok {l : List Rat} (h : l.length ≤ 1000) : m_trimmed [.list (l.map fr)] = .ok (.tuple ((trim l).map fr)) := by
  refine runF_rt ?_
  show sSeq (sAsgO 1 (aLof (aC (xV 0) aN))) (sSeq (whD testP (sPop 1) 1200) (sRet (xA dTupOf (aC (xV 1) aN)))) [some (.im (.list (l.map fr))), none] = _
  refine seqN (δ' := [some (.im (.list (l.map fr))), some (.ow (l.map fr))]) (by simp [aLof]) ?_
  refine seqN (trimO_loop _ 1000 1200 l h (by decide)) ?_
  simp
/-! ### sums -/
def bodyS : Es → Fl := sSeq (sAsg 4 (xIf (yBl (x2 dLt (xV 3) (xA dLen (aC (xV 0) aN)))) (x2 dIx (xV 0) (xV 3)) (xA dTup (aC (xC (.int 0)) (aC (xC (.int 1)) aN)))))
  (sSeq (sAsg 5 (xIf (yBl (x2 dLt (xV 3) (xA dLen (aC (xV 1) aN)))) (x2 dIx (xV 1) (xV 3)) (xA dTup (aC (xC (.int 0)) (aC (xC (.int 1)) aN)))))
  (sApp 2 (xCall 2 m_plus (aC (xV 4) (aC (xV 5) aN)))))
theorem pick_ok {a : List Rat} {i : Nat} : (if decide ((i : Int) < (a.length : Int)) = true then dIx (.tuple (a.map fr)) (.int (i : Int)) else R.ok (.tuple [.int 0, .int 1])) = .ok (fr (a.getD i 0)) := by
  by_cases h : i < a.length
  · rw [if_pos (by simpa using h), dIx_mT h]
    simp [List.getD_eq_getElem?_getD, h]
  · rw [if_neg (by simpa using h)]
    simp [List.getD_eq_getElem?_getD, List.getElem?_eq_none (Nat.le_of_not_lt h)]
    rfl
theorem sum_loop {a b : List Rat} (hs : ∀ i, Sm (a.getD i 0) ∧ Sm (b.getD i 0)) : ∀ (j k : Nat) (res : List D) (o3 o4 o5 : Option Sl), res.length + j < 1000 →
    ∃ p3 p4 p5, forD (hN 3) bodyS ((List.range' k j).map fun t : Nat => .int ((t : Nat) : Int)) [some (.im (.tuple (a.map fr))), some (.im (.tuple (b.map fr))), some (.ow res), o3, o4, o5] = .nx [some (.im (.tuple (a.map fr))), some (.im (.tuple (b.map fr))), some (.ow (res ++ (List.range' k j).map fun i => fr (a.getD i 0 + b.getD i 0))), p3, p4, p5]
  | 0, k, res, o3, o4, o5, _ => ⟨o3, o4, o5, by simp [forD]⟩
  | j + 1, k, res, o3, o4, o5, hr => by
    obtain ⟨p3, p4, p5, e2⟩ := sum_loop hs j (k + 1) (res ++ [fr (a.getD k 0 + b.getD k 0)]) (some (.im (.int (k : Nat)))) (some (.im (fr (a.getD k 0)))) (some (.im (fr (b.getD k 0)))) (by simp; omega)
    refine ⟨p3, p4, p5, ?_⟩
    have hr' : res.length < 1000 := by omega
    have pl := plus_ok (hs k).1 (hs k).2
    have e1 : bodyS [some (.im (.tuple (a.map fr))), some (.im (.tuple (b.map fr))), some (.ow res), some (.im (.int (k : Nat))), o4, o5] = .nx [some (.im (.tuple (a.map fr))), some (.im (.tuple (b.map fr))), some (.ow (res ++ [fr (a.getD k 0 + b.getD k 0)])), some (.im (.int (k : Nat))), some (.im (fr (a.getD k 0))), some (.im (fr (b.getD k 0)))] := by
      refine seqN (δ' := [some (.im (.tuple (a.map fr))), some (.im (.tuple (b.map fr))), some (.ow res), some (.im (.int (k : Nat))), some (.im (fr (a.getD k 0))), o5]) ?_ ?_
      · simp only [sAsg_ap, v0_im, v0_ow, xIf_ap, yBl_ap, x2_ap, xV_z, xV_s, xA_ap, aC_ap, aN_ap, xC_ap, R.bind_ok, dLen_tuple, List.length_map, dLt_int, dBl_bool, dTup_2, pick_ok, fR_ok]
        rfl
      refine seqN (δ' := [some (.im (.tuple (a.map fr))), some (.im (.tuple (b.map fr))), some (.ow res), some (.im (.int (k : Nat))), some (.im (fr (a.getD k 0))), some (.im (fr (b.getD k 0)))]) ?_ ?_
      · simp only [sAsg_ap, v0_im, v0_ow, xIf_ap, yBl_ap, x2_ap, xV_z, xV_s, xA_ap, aC_ap, aN_ap, xC_ap, R.bind_ok, dLen_tuple, List.length_map, dLt_int, dBl_bool, dTup_2, pick_ok, fR_ok]
        rfl
      rw [sApp_ap]
      simp [pl, hr', -List.getD_eq_getElem?_getD]
    rw [List.range'_succ, List.map_cons, forD_cons (by simp [hN]) e1, e2]
    simp
theorem sum_of_ok {a b : List Rat} (hs : ∀ i, Sm (a.getD i 0) ∧ Sm (b.getD i 0)) (ha : a.length < 1000) (hb : b.length < 1000) : m_sum_of [.tuple (a.map fr), .tuple (b.map fr)] = .ok (.tuple ((trim (addP a b)).map fr)) := by
  obtain ⟨p3, p4, p5, e⟩ := sum_loop hs (max a.length b.length) 0 [] none none none (by simp; omega)
  refine runF_rt ?_
  have dr : dR1 [.int (max (a.length : Int) (b.length : Int))] = .ok ((List.range' 0 (max a.length b.length)).map fun t : Nat => .int ((t : Nat) : Int)) := by
    rw [show max (a.length : Int) (b.length : Int) = ((max a.length b.length : Nat) : Int) by omega]
    exact dr_n (by omega)
  have eh : (List.range' 0 (max a.length b.length)).map (fun i => fr (a.getD i 0 + b.getD i 0)) = (addP a b).map fr := by
    unfold addP
    rw [List.map_map, List.range_eq_range']
    rfl
  rw [List.nil_append, eh] at e
  have ap : (aLst aN : FA) = fun _ => .ok [] := rfl
  have tr := trimmed_ok (l := addP a b) (by rw [addP_len]; omega)
  show sSeq (sAsgO 2 (aLst aN)) (sSeq (sFor (iA dR1 (aC (xA dMax (aC (xA dLen (aC (xV 0) aN)) (aC (xA dLen (aC (xV 1) aN)) aN))) aN)) (hN 3) bodyS) (sRet (xCall 1 m_trimmed (aC (xV 2) aN)))) [some (.im (.tuple (a.map fr))), some (.im (.tuple (b.map fr))), none, none, none, none] = _
  refine seqN (δ' := [some (.im (.tuple (a.map fr))), some (.im (.tuple (b.map fr))), some (.ow []), none, none, none]) (by simp [ap]) ?_
  refine seqN (δ' := [some (.im (.tuple (a.map fr))), some (.im (.tuple (b.map fr))), some (.ow ((addP a b).map fr)), p3, p4, p5]) ?_ ?_
  · simp only [sFor_ap, iA_ap, aC_ap, aN_ap, xA_ap, v0_im, v0_none, v0_nil, v0_ow, xV_s, xV_z, R.bind_ok, fR_ok, dLen_tuple, List.length_map, dMax_int, dr]
    exact e
  · simp [tr]
/-! ### multiples -/
theorem multiple_of_ok {c : Rat} {a : List Rat} (hc : Sm c) (ha : ∀ x ∈ a, Sm x) (hl : a.length ≤ 1000) : m_multiple_of [fr c, .tuple (a.map fr)] = .ok (.tuple ((trim (a.map (c * ·))).map fr)) := by
  refine runF_rt ?_
  have lc : xLc (iSeq (xV 1)) (gN 2) (fun _ => .ok true) (xCall 2 m_times (aC (xV 0) (aC (xV 2) aN))) [2] [some (fr c), some (.tuple (a.map fr)), none] = .ok (.list ((a.map (c * ·)).map fr)) := by
    rw [List.map_map]
    refine xLc_ok (f := fr) (by simp) hl fun x hx => ⟨[some (fr c), some (.tuple (a.map fr)), some (fr x)], by simp [gN, wipeD], ?_⟩
    simp [times_ok hc (ha x hx)]
  have tr := trimmed_ok (l := a.map (c * ·)) (by simpa using hl)
  unfold g_multiple_of
  simp [-List.map_map, lc, tr]
/-! ### products -/
def setB : Es → Fl := sSet 2 (x2 dAddA (xV 3) (xV 5)) (xCall 2 m_plus (aC (x2 dIx (xV 2) (x2 dAddA (xV 3) (xV 5))) (aC (xCall 2 m_times (aC (xV 4) (aC (xV 6) aN))) aN)))
def SmI (i : Nat) (a : Rat) : Nat → List Rat → List Rat → Prop
  | _, [], _ => True
  | j, b :: B, res => Sm b ∧ Sm (a * b) ∧ Sm (res.getD (i + j) 0) ∧ SmI i a (j + 1) B (res.set (i + j) (res.getD (i + j) 0 + a * b))
theorem ixN_ok {n i : Nat} (h : i < n) : ixN n (i : Int) = some i := by
  unfold ixN
  simp [h]
theorem inn_loop {i : Nat} {a : Rat} (ha : Sm a) (u v : D) : ∀ (B : List Rat) (j : Nat) (res : List Rat) (o5 o6 : Option Sl), SmI i a j B res → i + j + B.length ≤ res.length →
    ∃ p5 p6, forD (h2 5 6) setB (enumF j (B.map fr)) [some (.im u), some (.im v), some (.ow (res.map fr)), some (.im (.int (i : Nat))), some (.im (fr a)), o5, o6] = .nx [some (.im u), some (.im v), some (.ow ((inn i a j B res).map fr)), some (.im (.int (i : Nat))), some (.im (fr a)), p5, p6]
  | [], j, res, o5, o6, _, _ => ⟨o5, o6, by simp [enumF, forD, inn]⟩
  | b :: B, j, res, o5, o6, h, hl => by
    rw [List.length_cons] at hl
    obtain ⟨p5, p6, e⟩ := inn_loop ha u v B (j + 1) (res.set (i + j) (res.getD (i + j) 0 + a * b)) (some (.im (.int (j : Nat)))) (some (.im (fr b))) h.2.2.2 (by rw [List.length_set]; omega)
    refine ⟨p5, p6, ?_⟩
    have hi : i + j < res.length := by omega
    have tm := times_ok ha h.1
    have pl := plus_ok h.2.2.1 h.2.1
    have ij : (i : Int) + (j : Int) = ((i + j : Nat) : Int) := by omega
    have gx : dIx (.list (res.map fr)) (.int ((i + j : Nat) : Int)) = .ok (fr (res.getD (i + j) 0)) := by
      rw [dIx_mL hi]
      simp [List.getD_eq_getElem?_getD, hi]
    have e1 : setB [some (.im u), some (.im v), some (.ow (res.map fr)), some (.im (.int (i : Nat))), some (.im (fr a)), some (.im (.int (j : Nat))), some (.im (fr b))] = .nx [some (.im u), some (.im v), some (.ow ((res.set (i + j) (res.getD (i + j) 0 + a * b)).map fr)), some (.im (.int (i : Nat))), some (.im (fr a)), some (.im (.int (j : Nat))), some (.im (fr b))] := by
      unfold setB sSet
      have ix := ixN_ok (n := (res.map fr).length) (i := i + j) (by simpa using hi)
      simp only [owAt_s, owAt_z, vw_im, vw_ow, vw_nil, xCall_ap, aC_ap, aN_ap, x2_ap, xV_s, xV_z, R.bind_ok, dAddA_int, ij, gx, List.length_cons, List.length_nil, if_pos, tm, pl, fR_ok, lf_fr, ix, List.map_set]
      rfl
    rw [List.map_cons, enumF, forD_cons (by simp [h2]) e1, e]
    simp [inn]
def SmO : Nat → List Rat → List Rat → List Rat → Prop
  | _, [], _, _ => True
  | i, a :: A, B, res => Sm a ∧ SmI i a 0 B res ∧ SmO (i + 1) A B (inn i a 0 B res)
theorem out_loop (u : D) (B : List Rat) : ∀ (A : List Rat) (i : Nat) (res : List Rat) (o3 o4 o5 o6 : Option Sl), SmO i A B res → i + A.length + B.length ≤ res.length →
    ∃ p3 p4 p5 p6, forD (h2 3 4) (sFor (iA dEnum (aC (xV 1) aN)) (h2 5 6) setB) (enumF i (A.map fr)) [some (.im u), some (.im (.tuple (B.map fr))), some (.ow (res.map fr)), o3, o4, o5, o6] = .nx [some (.im u), some (.im (.tuple (B.map fr))), some (.ow ((outP i A B res).map fr)), p3, p4, p5, p6]
  | [], i, res, o3, o4, o5, o6, _, _ => ⟨o3, o4, o5, o6, by simp [enumF, forD, outP]⟩
  | a :: A, i, res, o3, o4, o5, o6, h, hl => by
    rw [List.length_cons] at hl
    obtain ⟨q5, q6, e1⟩ := inn_loop (i := i) h.1 u (.tuple (B.map fr)) B 0 res o5 o6 h.2.1 (by omega)
    obtain ⟨p3, p4, p5, p6, e⟩ := out_loop u B A (i + 1) (inn i a 0 B res) (some (.im (.int (i : Nat)))) (some (.im (fr a))) q5 q6 h.2.2 (by rw [inn_len]; omega)
    refine ⟨p3, p4, p5, p6, ?_⟩
    have e2 : sFor (iA dEnum (aC (xV 1) aN)) (h2 5 6) setB [some (.im u), some (.im (.tuple (B.map fr))), some (.ow (res.map fr)), some (.im (.int (i : Nat))), some (.im (fr a)), o5, o6] = .nx [some (.im u), some (.im (.tuple (B.map fr))), some (.ow ((inn i a 0 B res).map fr)), some (.im (.int (i : Nat))), some (.im (fr a)), q5, q6] := by
      simp only [sFor_ap, iA_ap, aC_ap, aN_ap, v0_im, xV_s, xV_z, R.bind_ok, fR_ok, dEnum_t]
      exact e1
    rw [List.map_cons, enumF, forD_cons (by simp [h2]) e2, e]
    simp [outP]
theorem product_of_ok {A B : List Rat} (h : SmO 0 A B (List.replicate (A.length + B.length) 0)) (hl : A.length + B.length ≤ 1000) : m_product_of [.tuple (A.map fr), .tuple (B.map fr)] = .ok (.tuple ((trim (mulP A B)).map fr)) := by
  obtain ⟨p3, p4, p5, p6, e⟩ := out_loop (.tuple (A.map fr)) B A 0 _ none none none none h (by simp)
  refine runF_rt ?_
  have tr := trimmed_ok (l := mulP A B) (by rw [mulP_len]; omega)
  have r0 : (List.replicate ((A.length : Int) + (B.length : Int)).toNat [PyData.tuple [.int 0, .int 1]]).flatten = (List.replicate (A.length + B.length) (0 : Rat)).map fr := by
    rw [rep1, List.map_replicate, show ((A.length : Int) + (B.length : Int)).toNat = A.length + B.length by omega]
    rfl
  show sSeq (sAsgO 2 (aRep (aLst (aC (xA dTup (aC (xC (.int 0)) (aC (xC (.int 1)) aN))) aN)) (x2 dAddA (xA dLen (aC (xV 0) aN)) (xA dLen (aC (xV 1) aN))))) (sSeq (sFor (iA dEnum (aC (xV 0) aN)) (h2 3 4) (sFor (iA dEnum (aC (xV 1) aN)) (h2 5 6) setB)) (sRet (xCall 1 m_trimmed (aC (xV 2) aN)))) [some (.im (.tuple (A.map fr))), some (.im (.tuple (B.map fr))), none, none, none, none, none] = _
  refine seqN (δ' := [some (.im (.tuple (A.map fr))), some (.im (.tuple (B.map fr))), some (.ow ((List.replicate (A.length + B.length) (0 : Rat)).map fr)), none, none, none, none]) ?_ ?_
  · have ap : aRep (aLst (aC (xA dTup (aC (xC (.int 0)) (aC (xC (.int 1)) aN))) aN)) (x2 dAddA (xA dLen (aC (xV 0) aN)) (xA dLen (aC (xV 1) aN))) [some (.tuple (A.map fr)), some (.tuple (B.map fr)), none, none, none, none, none] = .ok ((List.replicate (A.length + B.length) (0 : Rat)).map fr) := by
      unfold aRep aLst
      simp only [aC_ap, xA_ap, xC_ap, aN_ap, R.bind_ok, dTup_2, List.length_cons, List.length_nil, x2_ap, xV_z, xV_s, dLen_tuple, List.length_map, dAddA_int]
      rw [if_pos (by decide), R.bind_ok]
      simp only [← r0]
      rw [if_pos ⟨by omega, by omega, by simp⟩]
    simp only [sAsgO_ap, v0_im, v0_none, v0_nil, ap, fR_ok]
    rfl
  refine seqN (δ' := [some (.im (.tuple (A.map fr))), some (.im (.tuple (B.map fr))), some (.ow ((mulP A B).map fr)), p3, p4, p5, p6]) ?_ ?_
  · simp only [sFor_ap, iA_ap, aC_ap, aN_ap, v0_im, xV_s, xV_z, R.bind_ok, fR_ok, dEnum_t]
    exact e
  · simp [tr]
end HN
end
section
set_option linter.all false
set_option maxRecDepth 100000
set_option maxHeartbeats 1000000
set_option exponentiation.threshold 20000
namespace HN
open PySem L2 HL HM
/-! ### sizes -/
structure Sz (M V : Nat) : Prop where
  z : M ≠ 0
  s : (V + 1) * M < 2 ^ 2000
theorem Sz.sm {M V : Nat} {q : Rat} (h : Sz M V) (b : Bd M V q) : Sm q :=
  b.sm h.z (Nat.lt_of_le_of_lt (Nat.le_mul_of_pos_left _ (Nat.succ_pos _)) h.s) (Nat.lt_of_le_of_lt (Nat.mul_le_mul_right _ (Nat.le_succ _)) h.s)
theorem Sz.mono {M V W : Nat} (h : Sz M V) (hw : W ≤ V) : Sz M W := ⟨h.z, Nat.lt_of_le_of_lt (Nat.mul_le_mul_right _ (Nat.succ_le_succ hw)) h.s⟩
theorem Sz.left {M N V : Nat} (h : Sz (M * N) V) : Sz M V := by
  have hn : N ≠ 0 := fun e => h.z (by rw [e, Nat.mul_zero])
  refine ⟨fun e => h.z (by rw [e, Nat.zero_mul]), Nat.lt_of_le_of_lt (Nat.mul_le_mul_left _ ?_) h.s⟩
  exact Nat.le_mul_of_pos_right _ (Nat.pos_of_ne_zero hn)
theorem Sz.right {M N V : Nat} (h : Sz (M * N) V) : Sz N V := by rw [Nat.mul_comm] at h; exact h.left
theorem Sz.one {M : Nat} {V : Nat} (h : Sz M V) : Sz M 0 := h.mono (Nat.zero_le _)
theorem sm_0 : Sm 0 := Sz.sm (M := 1) (V := 0) ⟨by decide, Nat.one_lt_two_pow (by decide)⟩ bd_zero
/-! ### sums, multiples, products of bounded rows -/
theorem sum_pb {M V W : Nat} {a b : List Rat} (ha : PB M V a) (hb : PB M W b) (hs : Sz M (V + W)) (la : a.length < 1000) (lb : b.length < 1000) : m_sum_of [.tuple (a.map fr), .tuple (b.map fr)] = .ok (.tuple ((trim (addP a b)).map fr)) :=
  sum_of_ok (fun i => ⟨(hs.mono (Nat.le_add_right _ _)).sm (ha.get i), (hs.mono (Nat.le_add_left _ _)).sm (hb.get i)⟩) la lb
theorem mul_pb {M N V W : Nat} {c : Rat} {a : List Rat} (hc : Bd M V c) (ha : PB N W a) (s1 : Sz M V) (s2 : Sz N W) (la : a.length ≤ 1000) : m_multiple_of [fr c, .tuple (a.map fr)] = .ok (.tuple ((trim (a.map (c * ·))).map fr)) :=
  multiple_of_ok (s1.sm hc) (fun x hx => s2.sm (ha x hx)) la
theorem smI_of {M N V W i : Nat} {a : Rat} (ha : Bd M V a) (hV : 1 ≤ V) : ∀ {B : List Rat} {j U : Nat} {res : List Rat}, PB N W B → PB (M * N) U res → Sz (M * N) (U + B.length * (V * W)) → SmI i a j B res
  | [], j, U, res, _, _, _ => trivial
  | b :: B, j, U, res, hB, hr, s => by
    have hb := hB b List.mem_cons_self
    have e : (b :: B).length * (V * W) = V * W + B.length * (V * W) := by rw [List.length_cons, Nat.add_mul, Nat.one_mul, Nat.add_comm]
    rw [e] at s
    have w : W ≤ V * W := Nat.le_mul_of_pos_left _ hV
    refine ⟨(s.right.mono (by omega)).sm hb, (s.mono (by omega)).sm (ha.mul hb), (s.mono (by omega)).sm (hr.get _), ?_⟩
    exact smI_of ha hV (fun x hx => hB x (List.mem_cons_of_mem _ hx)) (hr.set (ha.mul hb) (i + j)) (by rw [Nat.add_assoc]; exact s)
theorem smO_of {M N V W : Nat} {B : List Rat} (hV : 1 ≤ V) (hB : PB N W B) (sv : Sz M V) : ∀ {A : List Rat} {i U : Nat} {res : List Rat}, PB M V A → PB (M * N) U res → Sz (M * N) (U + A.length * (B.length * (V * W))) → SmO i A B res
  | [], i, U, res, _, _, _ => trivial
  | a :: A, i, U, res, hA, hr, s => by
    have ha := hA a List.mem_cons_self
    have e : (a :: A).length * (B.length * (V * W)) = B.length * (V * W) + A.length * (B.length * (V * W)) := by rw [List.length_cons, Nat.add_mul, Nat.one_mul, Nat.add_comm]
    rw [e] at s
    refine ⟨sv.sm ha, smI_of ha hV hB hr (s.mono (by omega)), ?_⟩
    exact smO_of hV hB sv (fun x hx => hA x (List.mem_cons_of_mem _ hx)) (PB.inn ha hB hr) (by rw [Nat.add_assoc]; exact s)
theorem prod_pb {M N V W : Nat} {A B : List Rat} (hV : 1 ≤ V) (hA : PB M V A) (hB : PB N W B) (sv : Sz M V) (s : Sz (M * N) (A.length * (B.length * (V * W)))) (hl : A.length + B.length ≤ 1000) : m_product_of [.tuple (A.map fr), .tuple (B.map fr)] = .ok (.tuple ((trim (mulP A B)).map fr)) :=
  product_of_ok (smO_of hV hB sv (U := 0) hA (fun x hx => by rw [List.eq_of_mem_replicate hx]; exact bd_zero) (by rw [Nat.zero_add]; exact s)) hl
/-! ### degrees -/
theorem getD_set_ne (l : List Rat) {i k : Nat} (c : Rat) (h : i ≠ k) : (l.set i c).getD k 0 = l.getD k 0 := by
  rw [List.getD_eq_getElem?_getD, List.getD_eq_getElem?_getD, List.getElem?_set_ne h]
theorem inn_get (i : Nat) (a : Rat) {k : Nat} : ∀ (B : List Rat) (j : Nat) (res : List Rat), i + j + B.length ≤ k → (inn i a j B res).getD k 0 = res.getD k 0
  | [], j, res, _ => rfl
  | b :: B, j, res, h => by
    rw [List.length_cons] at h
    unfold inn
    rw [inn_get i a B (j + 1) _ (by omega), getD_set_ne _ _ (by omega)]
theorem outP_get (B : List Rat) {k : Nat} : ∀ (A : List Rat) (i : Nat) (res : List Rat), i + A.length + B.length ≤ k + 1 → (outP i A B res).getD k 0 = res.getD k 0
  | [], i, res, _ => rfl
  | a :: A, i, res, h => by
    rw [List.length_cons] at h
    unfold outP
    rw [outP_get B A (i + 1) _ (by omega), inn_get i a B 0 _ (by omega)]
theorem trim_le {r : List Rat} {k : Nat} (h : ∀ i, k ≤ i → r.getD i 0 = 0) : (trim r).length ≤ k := by
  rcases trim_nz r with e | ⟨s, x, e, hx⟩
  · rw [e]; exact Nat.zero_le _
  · refine Decidable.byContradiction fun hc => hx ?_
    have h1 : k ≤ s.length := by rw [e] at hc; simp at hc; omega
    have h2 := h s.length h1
    rw [← trim_get, e] at h2
    simpa [List.getD_eq_getElem?_getD] using h2
theorem getD_zeros (m k : Nat) : (List.replicate m (0 : Rat)).getD k 0 = 0 := by
  rw [List.getD_eq_getElem?_getD, List.getElem?_replicate]
  split <;> rfl
theorem mulP_deg (A B : List Rat) : (trim (mulP A B)).length ≤ A.length + B.length - 1 := by
  refine trim_le fun i hi => ?_
  unfold mulP
  rw [outP_get B A 0 _ (by omega), getD_zeros]
/-! ### the value at a point -/
def horn (p : Rat) : Rat → List Rat → Rat
  | acc, [] => acc
  | acc, e :: l => horn p (acc * p + e) l
theorem horn_snoc (p : Rat) : ∀ (l : List Rat) (acc e : Rat), horn p acc (l ++ [e]) = horn p acc l * p + e
  | [], acc, e => rfl
  | x :: l, acc, e => horn_snoc p l (acc * p + x) e
theorem horn_ev (p : Rat) : ∀ r, horn p 0 r.reverse = ev r p
  | [] => rfl
  | a :: r => by
    rw [List.reverse_cons, horn_snoc, horn_ev p r, Rat.add_comm, Rat.mul_comm]
    rfl
theorem val_loop {M P V : Nat} {p : Rat} (hp : Bd P 1 p) (u : D) : ∀ (l : List Rat) (j L : Nat) (acc : Rat) (o : Option Sl), j + l.length = L → PB M V l → Bd (M * P ^ j) (j * V) acc → Sz (M * P ^ L) (L * V + 1) →
    ∃ o', forD (hN 3) (sAsg 2 (xCall 2 m_plus (aC (xCall 2 m_times (aC (xV 2) (aC (xV 1) aN))) (aC (xV 3) aN)))) (l.map fr) [some (.im u), some (.im (fr p)), some (.im (fr acc)), o] = .nx [some (.im u), some (.im (fr p)), some (.im (fr (horn p acc l))), o']
  | [], j, L, acc, o, _, _, _, _ => ⟨o, rfl⟩
  | e :: l, j, L, acc, o, hL, hl, ha, s => by
    rw [List.length_cons] at hL
    have pw : P ^ L = P ^ j * (P * P ^ l.length) := by
      rw [← Nat.pow_succ', ← Nat.pow_add]; congr 1; omega
    have he := hl e List.mem_cons_self
    have vv : L * V = j * V + (V + l.length * V) := by
      rw [← hL, Nat.add_mul, Nat.add_mul, Nat.one_mul]; omega
    have s0 : Sz (M * P ^ j * (P * P ^ l.length)) (L * V + 1) := by rw [Nat.mul_assoc, ← pw]; exact s
    have s1 : Sz (M * P ^ j) (L * V + 1) := s0.left
    have s2 : Sz P (L * V + 1) := s0.right.left
    have s3 : Sz (M * P ^ j * P) (L * V + 1) := by
      rw [← Nat.mul_assoc] at s0; exact s0.left
    have m1 : Bd (M * P ^ j * P) (j * V * 1) (acc * p) := ha.mul hp
    rw [Nat.mul_one] at m1
    have e1 : Bd (M * P ^ j * P) V e := (he.up (P ^ j)).up P
    have a1 : Bd (M * P ^ (j + 1)) ((j + 1) * V) (acc * p + e) := by
      rw [Nat.pow_succ, ← Nat.mul_assoc, Nat.add_mul, Nat.one_mul]
      exact m1.add e1
    obtain ⟨o', eq⟩ := val_loop hp u l (j + 1) L (acc * p + e) (some (.im (fr e))) (by omega) (fun x hx => hl x (List.mem_cons_of_mem _ hx)) a1 s
    refine ⟨o', ?_⟩
    have tm := times_ok ((s1.mono (by omega)).sm ha) ((s2.mono (by omega)).sm hp)
    have pl := plus_ok ((s3.mono (by omega)).sm m1) ((s3.mono (by omega)).sm e1)
    rw [List.map_cons, forD_cons (δ1 := [some (.im u), some (.im (fr p)), some (.im (fr acc)), some (.im (fr e))]) (δ2 := [some (.im u), some (.im (fr p)), some (.im (fr (acc * p + e))), some (.im (fr e))]) (by simp [hN]) (by simp [tm, pl]), eq]
    rfl
theorem value_at_ok {M P V : Nat} {p : Rat} {r : List Rat} (hp : Bd P 1 p) (hr : PB M V r) (s : Sz (M * P ^ r.length) (r.length * V + 1)) : m_value_at [.tuple (r.map fr), fr p] = .ok (fr (ev r p)) := by
  obtain ⟨o', e⟩ := val_loop (M := M) (V := V) hp (.tuple (r.map fr)) r.reverse 0 r.length 0 none (by simp) (fun x hx => hr x (List.mem_reverse.mp hx)) bd_zero s
  rw [horn_ev] at e
  refine runF_rt ?_
  have e0 : PyData.tuple [.int 0, .int 1] = fr 0 := rfl
  unfold g_value_at
  refine seqN (δ' := [some (.im (.tuple (r.map fr))), some (.im (fr p)), some (.im (fr 0)), none]) (by simp [e0]) ?_
  refine seqN (δ' := [some (.im (.tuple (r.map fr))), some (.im (fr p)), some (.im (fr (ev r p))), o']) ?_ (by simp)
  simp only [sFor_ap, iSeq_ap, x1_ap, v0_im, v0_none, v0_nil, xV_s, xV_z, R.bind_ok, fR_ok, dRev_tuple, dItems_tuple, ← List.map_reverse]
  exact e
/-! ### binomial numbers -/
def bin : Nat → Nat → Nat
  | _, 0 => 1
  | 0, _ + 1 => 0
  | n + 1, k + 1 => bin n k + bin n (k + 1)
theorem bin_gt : ∀ {n k : Nat}, n < k → bin n k = 0
  | 0, k + 1, _ => rfl
  | n + 1, k + 1, h => by
    show bin n k + bin n (k + 1) = 0
    rw [bin_gt (show n < k by omega), bin_gt (show n < k + 1 by omega)]
theorem bin_succ : ∀ (n k : Nat), (bin n (k + 1) : Int) * ((k : Int) + 1) = (bin n k : Int) * ((n : Int) - (k : Int))
  | 0, 0 => by decide
  | 0, k + 1 => by
    show ((0 : Nat) : Int) * _ = ((0 : Nat) : Int) * _
    simp
  | n + 1, 0 => by
    have h := bin_succ n 0
    have e1 : bin (n + 1) 1 = 1 + bin n 1 := by show bin n 0 + bin n 1 = _; rw [show bin n 0 = 1 by cases n <;> rfl]
    have e0 : bin n 0 = 1 := by cases n <;> rfl
    rw [e0] at h
    rw [show bin (n + 1) (0 + 1) = bin (n + 1) 1 from rfl, e1, show bin (n + 1) 0 = 1 from rfl]
    have h : (bin n 1 : Int) * (((0 : Nat) : Int) + 1) = ((1 : Nat) : Int) * ((n : Int) - ((0 : Nat) : Int)) := h
    grind
  | n + 1, k + 1 => by
    have h1 := bin_succ n k
    have h2 := bin_succ n (k + 1)
    rw [show bin (n + 1) (k + 1 + 1) = bin n (k + 1) + bin n (k + 1 + 1) from rfl, show bin (n + 1) (k + 1) = bin n k + bin n (k + 1) from rfl]
    grind
theorem choices_loop {n : Nat} (hn : n ≤ 1000) : ∀ (j i : Nat) (u : D) (o : Option Sl), i + j ≤ 1000 → ∃ o', forD (hN 3) (sAsg 2 (x2 dFdiv (x2 dMul (xV 2) (x2 dSub (xV 0) (xV 3))) (x2 dAddA (xV 3) (xC (.int 1))))) ((List.range' i j).map fun t : Nat => .int ((t : Nat) : Int)) [some (.im (.int n)), some (.im u), some (.im (.int (bin n i : Nat))), o] = .nx [some (.im (.int n)), some (.im u), some (.im (.int (bin n (i + j) : Nat))), o']
  | 0, i, u, o, _ => ⟨o, rfl⟩
  | j + 1, i, u, o, h => by
    obtain ⟨o', e⟩ := choices_loop hn j (i + 1) u (some (.im (.int (i : Nat)))) (by omega)
    refine ⟨o', ?_⟩
    have m : dMul (.int (bin n i : Nat)) (.int ((n : Int) - (i : Int))) = .ok (.int ((bin n (i + 1) : Nat) * ((i : Int) + 1))) := by
      rw [dMul_r (by omega), bin_succ]
    have f : dFdiv (.int ((bin n (i + 1) : Nat) * ((i : Int) + 1))) (.int ((i : Int) + 1)) = .ok (.int (bin n (i + 1) : Nat)) := by
      rw [dFdiv_ok (by omega) (log2_lt (Nat.lt_of_le_of_lt (show _ ≤ 1024 by omega) (show (1024 : Nat) < 2 ^ 9000 from Nat.lt_of_lt_of_le (show 1024 < 2 ^ 11 by decide) (Nat.pow_le_pow_right (by decide) (by decide)))) (by decide)), Int.mul_ediv_cancel _ (by omega)]
    rw [List.range'_succ, List.map_cons, forD_cons (δ1 := [some (.im (.int n)), some (.im u), some (.im (.int (bin n i : Nat))), some (.im (.int (i : Nat)))]) (δ2 := [some (.im (.int n)), some (.im u), some (.im (.int (bin n (i + 1) : Nat))), some (.im (.int (i : Nat)))]) (by simp [hN]) (by simp [m, f])]
    rw [show i + (j + 1) = i + 1 + j by omega]
    exact e
theorem choices_ok {n k : Nat} (hn : n ≤ 1000) (hk : k ≤ 1000) : m_choices [.int n, .int k] = .ok (.int (bin n k : Nat)) := by
  obtain ⟨o', e⟩ := choices_loop hn k 0 (.int k) none (by omega)
  rw [show bin n 0 = 1 by cases n <;> rfl, Nat.zero_add] at e
  refine runF_rt ?_
  unfold g_choices
  refine seqN (δ' := [some (.im (.int n)), some (.im (.int k)), some (.im (.int ((1 : Nat) : Int))), none]) (by simp) ?_
  refine seqN (δ' := [some (.im (.int n)), some (.im (.int k)), some (.im (.int (bin n k : Nat))), o']) ?_ (by simp)
  simp only [sFor_ap, iA_ap, aC_ap, aN_ap, v0_im, v0_none, v0_nil, xV_s, xV_z, R.bind_ok, dr_n hk, fR_ok]
  exact e
theorem ways_ok {n k : Nat} (hn : n ≤ 1000) (hk : k ≤ 1000) : m_law_ways [.int n, .int k] = .ok (.int (bin n k : Nat)) := choices_ok hn hk
end HN
end
section
set_option linter.all false
set_option maxRecDepth 100000
set_option maxHeartbeats 1000000
set_option exponentiation.threshold 20000
namespace HN
open PySem L2 HL HM
/-! ### powers of a row -/
def powP (row : List Rat) : Nat → List Rat
  | 0 => [1]
  | e + 1 => trim (mulP (powP row e) row)
theorem powP_ev (row : List Rat) (x : Rat) : ∀ e, ev (powP row e) x = ev row x ^ e
  | 0 => by
    show 1 + x * 0 = _
    rw [Rat.mul_zero, Rat.add_zero, Rat.pow_zero]
  | e + 1 => by
    rw [powP, trim_ev, mulP_ev, powP_ev row x e, Rat.pow_succ]
theorem powP_len {row : List Rat} (h : row.length = 2) : ∀ e, (powP row e).length ≤ e + 1
  | 0 => Nat.le_refl _
  | e + 1 => by
    have := powP_len h e
    have := mulP_deg (powP row e) row
    rw [powP]; omega
theorem powP_pb {row : List Rat} (h : row.length = 2) (hb : PB 1 1 row) : ∀ e, e ≤ 7 → PB 1 (14 ^ e) (powP row e)
  | 0, _ => fun x hx => by
    rw [List.mem_singleton.mp hx]
    exact bd_one
  | e + 1, he => by
    have hl := powP_len h e
    have := ((powP_pb h hb e (by omega)).mulP hb).trim
    rw [h] at this
    refine this.mono ?_
    rw [Nat.pow_succ, Nat.mul_one, Nat.mul_comm]
    refine Nat.le_trans (Nat.mul_le_mul_left _ (show (powP row e).length ≤ 7 by omega)) ?_
    omega
theorem sz14 : Sz 1 (14 ^ 8) := ⟨by decide, by decide +kernel⟩
theorem pow14 {e : Nat} (h : e ≤ 7) : 14 ^ e ≤ 14 ^ 7 := Nat.pow_le_pow_right (by decide) h
theorem powP_step {row : List Rat} (h : row.length = 2) (hb : PB 1 1 row) {e : Nat} (he : e ≤ 6) : m_product_of [.tuple ((powP row e).map fr), .tuple (row.map fr)] = .ok (.tuple ((powP row (e + 1)).map fr)) := by
  have hl := powP_len h e
  have p := pow14 (e := e) (by omega)
  refine prod_pb (M := 1) (N := 1) (V := 14 ^ e) (W := 1) (Nat.pow_pos (by decide)) (powP_pb h hb e (by omega)) hb (sz14.mono (by omega)) (sz14.mono ?_) (by omega)
  rw [h, Nat.mul_one]
  have := Nat.mul_le_mul (show (powP row e).length ≤ 7 by omega) (Nat.mul_le_mul_left 2 p)
  omega
theorem power_loop {row : List Rat} (h : row.length = 2) (hb : PB 1 1 row) (u : D) : ∀ (j i : Nat) (o : Option Sl), i + j ≤ 6 → ∃ o', forD (hN 3) (sAsg 2 (xCall 2 m_product_of (aC (xV 2) (aC (xV 0) aN)))) ((List.range' i j).map fun t : Nat => .int ((t : Nat) : Int)) [some (.im (.tuple (row.map fr))), some (.im u), some (.im (.tuple ((powP row i).map fr))), o] = .nx [some (.im (.tuple (row.map fr))), some (.im u), some (.im (.tuple ((powP row (i + j)).map fr))), o']
  | 0, i, o, _ => ⟨o, rfl⟩
  | j + 1, i, o, hi => by
    obtain ⟨o', e⟩ := power_loop h hb u j (i + 1) (some (.im (.int (i : Nat)))) (by omega)
    refine ⟨o', ?_⟩
    rw [List.range'_succ, List.map_cons, forD_cons (δ1 := [some (.im (.tuple (row.map fr))), some (.im u), some (.im (.tuple ((powP row i).map fr))), some (.im (.int (i : Nat)))]) (δ2 := [some (.im (.tuple (row.map fr))), some (.im u), some (.im (.tuple ((powP row (i + 1)).map fr))), some (.im (.int (i : Nat)))]) (by simp [hN]) (by simp [powP_step h hb (show i ≤ 6 by omega)])]
    rw [show i + (j + 1) = i + 1 + j by omega]
    exact e
theorem power_of_ok {row : List Rat} (h : row.length = 2) (hb : PB 1 1 row) {e : Nat} (he : e ≤ 6) : m_power_of [.tuple (row.map fr), .int e] = .ok (.tuple ((powP row e).map fr)) := by
  obtain ⟨o', eq⟩ := power_loop h hb (.int e) e 0 none (by omega)
  rw [Nat.zero_add] at eq
  refine runF_rt ?_
  unfold g_power_of
  have e0 : PyData.tuple [PyData.tuple [.int 1, .int 1]] = .tuple ((powP row 0).map fr) := rfl
  refine seqN (δ' := [some (.im (.tuple (row.map fr))), some (.im (.int e)), some (.im (.tuple ((powP row 0).map fr))), none]) (by simp only [sAsg_ap, xA_ap, aC_ap, aN_ap, xC_ap, R.bind_ok, dTup_2, dTup_1, e0, fR_ok]; rfl) ?_
  refine seqN (δ' := [some (.im (.tuple (row.map fr))), some (.im (.int e)), some (.im (.tuple ((powP row e).map fr))), o']) ?_ (by simp)
  simp only [sFor_ap, iA_ap, aC_ap, aN_ap, v0_im, v0_none, v0_nil, xV_s, xV_z, R.bind_ok, dr_n (show e ≤ 1000 by omega), fR_ok]
  exact eq
/-! ### the chance of a number of successes -/
def chP (n k : Nat) : List Rat := trim ((trim (mulP (powP [0, 1] k) (powP [1, -1] (n - k)))).map ((bin n k : Rat) * ·))
def w (n k : Nat) (x : Rat) : Rat := (bin n k : Rat) * (x ^ k * (1 - x) ^ (n - k))
theorem ev_X (x : Rat) : ev [0, 1] x = x := by
  show 0 + x * (1 + x * 0) = x
  grind
theorem ev_Y (x : Rat) : ev [1, -1] x = 1 - x := by
  show 1 + x * (-1 + x * 0) = 1 - x
  grind
theorem chP_ev (n k : Nat) (x : Rat) : ev (chP n k) x = w n k x := by
  unfold chP w
  rw [trim_ev, mul_ev, trim_ev, mulP_ev, powP_ev, powP_ev, ev_X, ev_Y]
theorem pb_X : PB 1 1 [0, 1] := fun x hx => by
  rcases List.mem_cons.mp hx with rfl | hx
  · exact bd_zero
  · rw [List.mem_singleton.mp hx]; exact bd_one
theorem pb_Y : PB 1 1 [1, -1] := fun x hx => by
  rcases List.mem_cons.mp hx with rfl | hx
  · exact bd_one
  · rw [List.mem_singleton.mp hx]; exact ⟨-1, by decide +kernel, by decide⟩
theorem bin_20 : ∀ n, n ≤ 6 → ∀ k, k ≤ n → bin n k ≤ 20 := by decide
theorem bin_35 : ∀ n, n ≤ 7 → ∀ k, k ≤ n → bin n k ≤ 35 ∧ 0 < bin n k := by decide
theorem bd_bin {n k : Nat} (hn : n ≤ 6) (hk : k ≤ n) : Bd 1 20 (bin n k : Rat) := by
  have := bin_20 n hn k hk
  have h := bd_int (z := (bin n k : Int)) (V := 20) (by omega)
  rwa [Rat.intCast_natCast] at h
theorem mulXY {n k : Nat} (hn : n ≤ 6) (hk : k ≤ n) : (powP [0, 1] k).length * ((powP [1, -1] (n - k)).length * (14 ^ k * 14 ^ (n - k))) ≤ 49 * 14 ^ 6 := by
  have l1 := powP_len (row := [0, 1]) rfl k
  have l2 := powP_len (row := [1, -1]) rfl (n - k)
  rw [← Nat.pow_add, show k + (n - k) = n by omega]
  have p : 14 ^ n ≤ 14 ^ 6 := Nat.pow_le_pow_right (by decide) hn
  have := Nat.mul_le_mul (show (powP [0, 1] k).length ≤ 7 by omega) (Nat.mul_le_mul (show (powP [1, -1] (n - k)).length ≤ 7 by omega) p)
  omega
theorem chP_pb {n k : Nat} (hn : n ≤ 6) (hk : k ≤ n) : PB 1 10000000000 (chP n k) := by
  have := ((powP_pb rfl pb_X k (by omega)).mulP (powP_pb rfl pb_Y (n - k) (by omega))).trim
  have := (PB.mul (bd_bin hn hk) this).trim
  refine this.mono ?_
  have := mulXY hn hk
  omega
theorem chP_len {n k : Nat} (hk : k ≤ n) : (chP n k).length ≤ n + 1 := by
  have l1 := powP_len (row := [0, 1]) rfl k
  have l2 := powP_len (row := [1, -1]) rfl (n - k)
  have l3 := mulP_deg (powP [0, 1] k) (powP [1, -1] (n - k))
  unfold chP
  refine Nat.le_trans (trim_len _) ?_
  rw [List.length_map]
  omega
theorem chance_of_ok {n k : Nat} (hn : n ≤ 6) (hk : k ≤ n) : m_chance_of [.int n, .int k] = .ok (.tuple ((chP n k).map fr)) := by
  have l1 := powP_len (row := [0, 1]) rfl k
  have l2 := powP_len (row := [1, -1]) rfl (n - k)
  have l3 := mulP_deg (powP [0, 1] k) (powP [1, -1] (n - k))
  have x1 : m_power_of [.tuple [.tuple [.int 0, .int 1], .tuple [.int 1, .int 1]], .int k] = _ := power_of_ok (row := [0, 1]) rfl pb_X (e := k) (by omega)
  have y1 : m_power_of [.tuple [.tuple [.int 1, .int 1], .tuple [.int (-1), .int 1]], .int ((n - k : Nat) : Int)] = _ := power_of_ok (row := [1, -1]) rfl pb_Y (e := n - k) (by omega)
  have nk : ((n : Int) - (k : Int)) = ((n - k : Nat) : Int) := by omega
  have p1 := powP_pb (row := [0, 1]) rfl pb_X k (by omega)
  have p2 := powP_pb (row := [1, -1]) rfl pb_Y (n - k) (by omega)
  have h49 := mulXY hn hk
  have pr := prod_pb (Nat.pow_pos (by decide)) p1 p2 (sz14.mono (by have := pow14 (e := k) (by omega); omega)) (show Sz (1 * 1) _ from sz14.mono (by omega)) (by omega)
  have ch := choices_ok (n := n) (k := k) (by omega) (by omega)
  have hb : PB 1 (49 * 14 ^ 6) (trim (mulP (powP [0, 1] k) (powP [1, -1] (n - k)))) := (p1.mulP p2).trim.mono h49
  have mu := mul_pb (bd_bin hn hk) hb (sz14.mono (by omega)) (sz14.mono (by omega)) (by omega)
  have fb : fr (bin n k : Rat) = .tuple [.int (bin n k : Nat), .int 1] := by unfold fr; rw [Rat.num_natCast, Rat.den_natCast]; rfl
  rw [fb] at mu
  refine runF_rt ?_
  unfold g_chance_of
  refine seqN (δ' := [some (.im (.int n)), some (.im (.int k)), some (.im (.tuple ((powP [0, 1] k).map fr))), none]) (by simp [x1]) ?_
  refine seqN (δ' := [some (.im (.int n)), some (.im (.int k)), some (.im (.tuple ((powP [0, 1] k).map fr))), some (.im (.tuple ((powP [1, -1] (n - k)).map fr)))]) ?_ ?_
  · simp only [sAsg_ap, xCall_ap, aC_ap, aN_ap, xA_ap, xC_ap, x1_ap, x2_ap, v0_im, v0_none, v0_nil, xV_s, xV_z, R.bind_ok, dTup_2, dNeg_int, dSub_int, nk, List.length_cons, List.length_nil, if_pos, y1, fR_ok]
    rfl
  · simp only [sRet_ap, xCall_ap, aC_ap, aN_ap, xA_ap, xC_ap, vw_im, vw_none, vw_nil, xV_s, xV_z, R.bind_ok, dTup_2, List.length_cons, List.length_nil, if_pos, ch, pr, mu, fR_ok]
    rfl
/-! ### the average -/
def avgP (n : Nat) : Nat → List Rat → List Rat → List Rat
  | _, acc, [] => acc
  | k, acc, e :: es => avgP n (k + 1) (trim (addP acc (trim ((chP n k).map (e * ·))))) es
def avg (n : Nat) (es : List Rat) : List Rat := avgP n 0 [] es
theorem avgP_nz (n : Nat) : ∀ (es : List Rat) (k : Nat) (acc : List Rat), Nz acc → Nz (avgP n k acc es)
  | [], k, acc, h => h
  | e :: es, k, acc, h => avgP_nz n es (k + 1) _ (trim_nz _)
theorem avg_nz (n : Nat) (es : List Rat) : Nz (avg n es) := avgP_nz n es 0 [] (.inl rfl)
def mean (n : Nat) (l : List Rat) (x : Rat) : Rat := ((List.range l.length).map fun i => l.getD i 0 * w n i x).sum
theorem avgP_ev (n : Nat) (x : Rat) : ∀ (es : List Rat) (k : Nat) (acc : List Rat), ev (avgP n k acc es) x = ev acc x + ((List.range es.length).map fun i => es.getD i 0 * w n (k + i) x).sum
  | [], k, acc => by show ev acc x = ev acc x + 0; rw [Rat.add_zero]
  | e :: es, k, acc => by
    rw [avgP, avgP_ev n x es (k + 1), trim_ev, addP_ev, trim_ev, mul_ev, chP_ev, List.length_cons, List.range_succ_eq_map, List.map_cons, List.map_map, List.sum_cons, Rat.add_assoc]
    congr 2
    congr 1
    refine List.map_congr_left fun i _ => ?_
    show _ = (e :: es).getD (i + 1) 0 * w n (k + (i + 1)) x
    rw [show k + (i + 1) = k + 1 + i by omega]
    rfl
theorem avg_ev (n : Nat) (es : List Rat) (x : Rat) : ev (avg n es) x = mean n es x := by
  unfold avg mean
  rw [avgP_ev]
  show 0 + _ = _
  rw [Rat.zero_add]
  simp only [Nat.zero_add]
theorem avgP_pb {n M V : Nat} (hn : n ≤ 6) : ∀ (es : List Rat) (k : Nat) (acc : List Rat), k + es.length ≤ n + 1 → PB M V es → PB M (k * (V * 10000000000)) acc → acc.length ≤ n + 1 → PB M ((k + es.length) * (V * 10000000000)) (avgP n k acc es) ∧ (avgP n k acc es).length ≤ n + 1
  | [], k, acc, _, _, h, hl => ⟨h, hl⟩
  | e :: es, k, acc, hk, he, h, hl => by
    rw [List.length_cons] at hk
    have h1 := (PB.mul (he e List.mem_cons_self) (chP_pb hn (show k ≤ n by omega))).trim
    rw [Nat.mul_one] at h1
    have h2 := (h.add h1).trim
    have e1 : k * (V * 10000000000) + V * 10000000000 = (k + 1) * (V * 10000000000) := by rw [Nat.add_mul, Nat.one_mul]
    rw [e1] at h2
    have l1 := chP_len (n := n) (k := k) (by omega)
    have l2 := trim_len ((chP n k).map (e * ·))
    rw [List.length_map] at l2
    have l3 := trim_len (addP acc (trim ((chP n k).map (e * ·))))
    rw [addP_len] at l3
    have := avgP_pb hn es (k + 1) _ (by omega) (fun x hx => he x (List.mem_cons_of_mem _ hx)) h2 (by omega)
    rw [List.length_cons, show k + (es.length + 1) = k + 1 + es.length by omega]
    exact this
theorem avg_pb {n M V : Nat} (hn : n ≤ 6) {es : List Rat} (hl : es.length ≤ n + 1) (he : PB M V es) : PB M (7 * (V * 10000000000)) (avg n es) := by
  refine (avgP_pb hn es 0 [] (by omega) he (fun x hx => by cases hx) (Nat.zero_le _)).1.mono ?_
  exact Nat.mul_le_mul_right _ (by omega)
theorem avg_len {n : Nat} (hn : n ≤ 6) {es : List Rat} (hl : es.length ≤ n + 1) : (avg n es).length ≤ n + 1 := by
  have : ∀ (es : List Rat) (k : Nat) (acc : List Rat), k + es.length ≤ n + 1 → acc.length ≤ n + 1 → (avgP n k acc es).length ≤ n + 1 := by
    intro es
    induction es with
    | nil => intro k acc _ h; exact h
    | cons e es ih =>
      intro k acc hk h
      rw [List.length_cons] at hk
      have l1 := chP_len (n := n) (k := k) (by omega)
      have l2 := trim_len ((chP n k).map (e * ·))
      rw [List.length_map] at l2
      have l3 := trim_len (addP acc (trim ((chP n k).map (e * ·))))
      rw [addP_len] at l3
      exact ih (k + 1) _ (by omega) (by omega)
  exact this es 0 [] (by omega) (Nat.zero_le _)
def bodyA : Es → Fl := sAsg 2 (xCall 2 m_sum_of (aC (xV 2) (aC (xCall 2 m_multiple_of (aC (xV 4) (aC (xCall 2 m_chance_of (aC (xV 0) (aC (xV 3) aN))) aN))) aN)))
theorem avg_loop {n M V : Nat} (hn : n ≤ 6) (s : Sz M (8 * (V * 10000000000))) (u : D) : ∀ (es : List Rat) (k : Nat) (acc : List Rat) (o3 o4 : Option Sl), k + es.length ≤ n + 1 → PB M V es → PB M (k * (V * 10000000000)) acc → acc.length ≤ n + 1 →
    ∃ p3 p4, forD (h2 3 4) bodyA (enumF k (es.map fr)) [some (.im (.int n)), some (.im u), some (.im (.tuple (acc.map fr))), o3, o4] = .nx [some (.im (.int n)), some (.im u), some (.im (.tuple ((avgP n k acc es).map fr))), p3, p4]
  | [], k, acc, o3, o4, _, _, _, _ => ⟨o3, o4, rfl⟩
  | e :: es, k, acc, o3, o4, hk, he, h, hl => by
    rw [List.length_cons] at hk
    have hkn : k ≤ n := by omega
    have be := he e List.mem_cons_self
    have c0 := chP_pb hn hkn
    have h1 := (PB.mul be c0).trim
    rw [Nat.mul_one] at h1
    have e1 : k * (V * 10000000000) + V * 10000000000 = (k + 1) * (V * 10000000000) := by rw [Nat.add_mul, Nat.one_mul]
    have h2' := (h.add h1).trim
    rw [e1] at h2'
    have l1 := chP_len (n := n) (k := k) (by omega)
    have l2 := trim_len ((chP n k).map (e * ·))
    rw [List.length_map] at l2
    have l3 := trim_len (addP acc (trim ((chP n k).map (e * ·))))
    rw [addP_len] at l3
    obtain ⟨p3, p4, eq⟩ := avg_loop hn s u es (k + 1) (trim (addP acc (trim ((chP n k).map (e * ·))))) (some (.im (.int (k : Nat)))) (some (.im (fr e))) (by omega) (fun x hx => he x (List.mem_cons_of_mem _ hx)) h2' (by omega)
    refine ⟨p3, p4, ?_⟩
    have mu := mul_pb be c0 (s.mono (by omega)) ⟨by decide, by decide +kernel⟩ (by omega)
    have le8 : (k + 1) * (V * 10000000000) ≤ 8 * (V * 10000000000) := Nat.mul_le_mul_right _ (by omega)
    have su := sum_pb h h1 (s.mono (by omega)) (by omega) (by omega)
    have b : bodyA [some (.im (.int n)), some (.im u), some (.im (.tuple (acc.map fr))), some (.im (.int (k : Nat))), some (.im (fr e))] = .nx [some (.im (.int n)), some (.im u), some (.im (.tuple ((trim (addP acc (trim ((chP n k).map (e * ·))))).map fr))), some (.im (.int (k : Nat))), some (.im (fr e))] := by
      unfold bodyA
      simp only [sAsg_ap, xCall_ap, aC_ap, aN_ap, v0_im, v0_nil, xV_s, xV_z, R.bind_ok, List.length_cons, List.length_nil, if_pos, chance_of_ok hn hkn, mu, su, fR_ok]
      rfl
    rw [List.map_cons, enumF, forD_cons (by simp [h2]) b, eq]
    rfl
theorem average_of_ok {n M V : Nat} (hn : n ≤ 6) (s : Sz M (8 * (V * 10000000000))) {es : List Rat} (hl : es.length ≤ n + 1) (he : PB M V es) : m_average_of [.int n, .tuple (es.map fr)] = .ok (.tuple ((avg n es).map fr)) := by
  obtain ⟨p3, p4, e⟩ := avg_loop hn s (.tuple (es.map fr)) es 0 [] none none (by omega) he (fun x hx => by cases hx) (Nat.zero_le _)
  refine runF_rt ?_
  show sSeq (sAsg 2 (xA dTup aN)) (sSeq (sFor (iA dEnum (aC (xV 1) aN)) (h2 3 4) bodyA) (sRet (xV 2))) [some (.im (.int n)), some (.im (.tuple (es.map fr))), none, none, none] = _
  refine seqN (δ' := [some (.im (.int n)), some (.im (.tuple (es.map fr))), some (.im (.tuple [])), none, none]) (by simp) ?_
  refine seqN (δ' := [some (.im (.int n)), some (.im (.tuple (es.map fr))), some (.im (.tuple ((avg n es).map fr))), p3, p4]) ?_ (by simp)
  simp only [sFor_ap, iA_ap, aC_ap, aN_ap, v0_im, xV_s, xV_z, R.bind_ok, fR_ok, dEnum_t]
  exact e
end HN
end
section
set_option linter.all false
set_option maxRecDepth 100000
set_option maxHeartbeats 1000000
set_option exponentiation.threshold 20000
namespace HN
open PySem L2 HL HM
theorem num_den (p : Rat) : p * (p.den : Rat) = (p.num : Rat) := by
  have hd : (p.den : Rat) ≠ 0 := by simpa using p.den_nz
  have h : (p.num : Rat) / (p.den : Rat) = p := by rw [← Rat.mkRat_eq_div, Rat.mkRat_self]
  have := Rat.div_mul_cancel (a := (p.num : Rat)) hd
  rwa [h] at this
/-! ### checks -/
structure FrOk (q : Rat) : Prop where
  n : q.num.natAbs ≤ 99999
  d : q.den ≤ 99999
theorem FrOk.of {M V : Nat} {q : Rat} (h : Bd M V q) (hM : M ≠ 0) (h1 : M ≤ 99999) (h2 : V * M ≤ 99999) : FrOk q := by
  obtain ⟨a, b⟩ := bd_num hM h
  exact ⟨Nat.le_trans a h2, Nat.le_trans b h1⟩
@[simp] theorem isi_fr (q : Rat) : dIsi "tuple" (fr q) = .ok (.bool true) := isi_tt _
@[simp] theorem len_fr (q : Rat) : dLen [fr q] = .ok (.int 2) := rfl
theorem is_fraction_ok {q : Rat} (h : FrOk q) : m_is_fraction [fr q] = .ok (.bool true) := by
  have hz := q.den_nz
  have e1 : m_in_range [.int q.num, .int (-99999), .int 99999] = .ok (.bool true) := by
    have := h.n
    rw [in_range_ok]
    simp; omega
  have e2 : m_in_range [.int (q.den : Nat), .int 1, .int 99999] = .ok (.bool true) := by
    have := h.d
    rw [in_range_ok]
    simp; omega
  have e3 : m_greatest_divisor [.int (q.num.natAbs : Nat), .int (q.den : Nat)] = .ok (.int 1) := by
    rw [m_gcd_ok (Nat.lt_of_le_of_lt h.d (Nat.lt_of_lt_of_le (show 99999 < 2 ^ 17 by decide) (Nat.pow_le_pow_right (by decide) (by decide))))]
    have : Nat.gcd q.num.natAbs q.den = 1 := q.reduced
    rw [this]; rfl
  refine runF_rt ?_
  unfold g_is_fraction
  refine seqN (δ' := [some (.im (fr q))]) ?_ ?_
  · simp [fr_0, e1]
  · simp [fr_0, fr_1, e2, e3]
theorem are_values_ok {es : List Rat} (h : ∀ q ∈ es, FrOk q) (hl : es.length ≤ 1000) : m_are_values [.tuple (es.map fr), .int (es.length : Nat)] = .ok (.bool true) := by
  refine runF_rt ?_
  have lc : xLc (iSeq (xV 0)) (gN 2) (yNot (yTru (xCall 1 m_is_fraction (aC (xV 2) aN)))) (xV 2) [2] [some (.tuple (es.map fr)), some (.int (es.length : Nat)), none] = .ok (.list []) := by
    have := lc_filter (γ := gN 2) (ft := yNot (yTru (xCall 1 m_is_fraction (aC (xV 2) aN)))) (fe := xV 2) (ρ := [some (.tuple (es.map fr)), some (.int (es.length : Nat)), none]) (f := fr) (g := fr) (p := fun _ => false) (l := es) fun a ha => by
      refine ⟨[some (.tuple (es.map fr)), some (.int (es.length : Nat)), some (fr a)], by simp [gN], ?_, fun z => by cases z⟩
      simp [is_fraction_ok (h a ha)]
    rw [show es.filter (fun _ => false) = [] from List.filter_eq_nil_iff.mpr (by simp)] at this
    simp [xLc, wipeD, hl, this]
  unfold g_are_values
  simp [lc, dTru]
theorem check_estimate_ok {n : Nat} {es : List Rat} (h1 : 1 ≤ n) (h6 : n ≤ 6) (hl : es.length = n + 1) (h : ∀ q ∈ es, FrOk q) : m_check_estimate [.int n, .tuple (es.map fr)] = .ok .none := by
  have e1 := check_trials_ok (n := (n : Int)) (by omega) (by omega)
  have e2 := are_values_ok h (by omega)
  rw [hl] at e2
  have e3 : ((n : Int) + 1) = ((n + 1 : Nat) : Int) := by omega
  refine runF_nx (δ := [some (.im (.int n)), some (.im (.tuple (es.map fr)))]) ?_
  unfold g_check_estimate
  refine seqN (δ' := [some (.im (.int n)), some (.im (.tuple (es.map fr)))]) (by simp [e1]) ?_
  simp only [sIf_ap, yNot_ap, yTru_ap, xCall_ap, aC_ap, aN_ap, x2_ap, xC_ap, vw_im, vw_nil, xV_s, xV_z, R.bind_ok, dAddA_int, e3, List.length_cons, List.length_nil, if_pos, e2]
  simp
/-- a chance -/
structure Chc (p : Rat) : Prop where
  n0 : 0 ≤ p.num
  n1 : p.num ≤ p.den
  d : p.den ≤ 60
theorem Chc.fr {p : Rat} (h : Chc p) : FrOk p := ⟨by have := h.n0; have := h.n1; have := h.d; omega, by have := h.d; omega⟩
theorem Chc.bd {p : Rat} (h : Chc p) : Bd p.den 1 p := ⟨p.num, num_den p, by have := h.n0; have := h.n1; omega⟩
theorem is_chance_ok {p : Rat} (h : Chc p) : m_is_chance [HN.fr p] = .ok (.bool true) := by
  refine runF_rt ?_
  unfold g_is_chance
  have h0 := h.n0
  have h1 := h.n1
  simp [is_fraction_ok h.fr, fr_0, fr_1, xCh, h0, h1]
theorem check_chance_ok {p : Rat} (h : Chc p) : m_check_chance [HN.fr p] = .ok .none := by
  refine runF_nx (δ := [some (.im (HN.fr p))]) ?_
  unfold g_check_chance
  simp [is_chance_ok h]
/-- an estimate that can be asked -/
structure Est (n M V : Nat) (es : List Rat) : Prop where
  n1 : 1 ≤ n
  n6 : n ≤ 6
  l : es.length = n + 1
  b : PB M V es
  z : M ≠ 0
  s1 : M ≤ 99999 ^ 8
  s2 : V ≤ 99999
  fr : ∀ q ∈ es, FrOk q
theorem Est.of {n M V : Nat} {es : List Rat} (n1 : 1 ≤ n) (n6 : n ≤ 6) (l : es.length = n + 1) (b : PB M V es) (z : M ≠ 0) (s1 : M ≤ 99999) (s2 : V * M ≤ 99999) : Est n M V es :=
  ⟨n1, n6, l, b, z, Nat.le_trans s1 (by decide), Nat.le_trans (Nat.le_mul_of_pos_right _ (Nat.pos_of_ne_zero z)) s2, fun q hq => FrOk.of (b q hq) z s1 s2⟩
theorem two17 : 99999 < 2 ^ 17 := by decide
theorem Est.sz {n M V : Nat} {es : List Rat} (h : Est n M V es) : Sz (M * 60 ^ 20) ((V + 1) * 10 ^ 40) := by
  refine ⟨Nat.mul_ne_zero h.z (by decide), ?_⟩
  have hV : V ≤ 99999 := h.s2
  refine Nat.lt_of_le_of_lt (Nat.mul_le_mul (show _ ≤ 100000 * 10 ^ 40 + 1 from Nat.succ_le_succ (Nat.mul_le_mul_right _ (by omega))) (Nat.mul_le_mul_right _ h.s1)) ?_
  decide +kernel
theorem Est.sz1 {n M V : Nat} {es : List Rat} (h : Est n M V es) : Sz M (8 * (V * 10000000000)) := by
  refine h.sz.left.mono ?_
  have : V ≤ V + 1 := Nat.le_succ _
  calc 8 * (V * 10000000000) = V * 80000000000 := by omega
    _ ≤ (V + 1) * 10 ^ 40 := Nat.mul_le_mul this (by decide)
theorem Sz.low {M N V : Nat} (h : Sz N V) (hz : M ≠ 0) (hm : M ≤ N) : Sz M V := ⟨hz, Nat.lt_of_le_of_lt (Nat.mul_le_mul_left _ hm) h.s⟩
theorem average_ok {n M V : Nat} {es : List Rat} (h : Est n M V es) : m_average [.int n, .tuple (es.map HN.fr)] = .ok (.tuple ((avg n es).map HN.fr)) := by
  refine runF_rt ?_
  unfold g_average
  refine seqN (δ' := [some (.im (.int n)), some (.im (.tuple (es.map HN.fr)))]) (by simp [check_estimate_ok h.n1 h.n6 h.l h.fr]) ?_
  simp [average_of_ok h.n6 h.sz1 (Nat.le_of_eq h.l) h.b]
theorem pow60 {p : Rat} (h : Chc p) (e : Nat) : p.den ^ e ≤ 60 ^ e := Nat.pow_le_pow_left h.d e
theorem avg_sz {n M V : Nat} {es : List Rat} (h : Est n M V es) {p : Rat} (hp : Chc p) : Sz (M * p.den ^ (avg n es).length) ((avg n es).length * (7 * (V * 10000000000)) + 1) := by
  have hl := avg_len h.n6 (Nat.le_of_eq h.l)
  have h6 := h.n6
  refine (h.sz.mono ?_).low (Nat.mul_ne_zero h.z (Nat.pos_iff_ne_zero.mp (Nat.pow_pos (Nat.pos_of_ne_zero p.den_nz)))) (Nat.mul_le_mul_left _ (Nat.le_trans (pow60 hp _) (Nat.pow_le_pow_right (by decide) (by omega))))
  have := Nat.mul_le_mul_right (7 * (V * 10000000000)) (show (avg n es).length ≤ 7 by omega)
  have e : (10 : Nat) ^ 40 = 10000000000000000000000000000000000000000 := by decide
  omega
theorem average_at_ok {n M V : Nat} {es : List Rat} (h : Est n M V es) {p : Rat} (hp : Chc p) : m_average_at [.int n, .tuple (es.map HN.fr), HN.fr p] = .ok (HN.fr (mean n es p)) := by
  have va := value_at_ok hp.bd (avg_pb h.n6 (Nat.le_of_eq h.l) h.b) (avg_sz h hp)
  rw [avg_ev] at va
  refine runF_rt ?_
  unfold g_average_at
  refine seqN (δ' := [some (.im (.int n)), some (.im (.tuple (es.map HN.fr))), some (.im (HN.fr p))]) (by simp [check_estimate_ok h.n1 h.n6 h.l h.fr]) ?_
  refine seqN (δ' := [some (.im (.int n)), some (.im (.tuple (es.map HN.fr))), some (.im (HN.fr p))]) (by simp [check_chance_ok hp]) ?_
  simp [average_of_ok h.n6 h.sz1 (Nat.le_of_eq h.l) h.b, va]
/-! ### the law's own sums -/
theorem psm_of {l : List Rat} : ∀ {s : Rat}, PSr s l → PSm s (l.map fun q => (q.num, q.den)) := by
  induction l with
  | nil => intro s h; exact h
  | cons x l ih =>
    intro s h
    refine ⟨h.1, h.2.1.p, ?_⟩
    rw [pv_fr]
    exact ih h.2.2
theorem lsumQ {l : List Rat} (h : PSr 0 l) : m_law_sum [.list (l.map HN.fr)] = .ok (HN.fr l.sum) := by
  have := lsum_ok (psm_of h)
  rw [List.map_map] at this
  have e : (pr ∘ fun q : Rat => (q.num, q.den)) = HN.fr := by funext q; rfl
  rw [e] at this
  rw [this]
  congr 2
  unfold lsum
  rw [List.map_map]
  congr 1
  have : (pv' ∘ fun q : Rat => (q.num, q.den)) = id := by funext q; exact pv_fr q
  rw [this, List.map_id]
theorem psr_sz {M V : Nat} {l : List Rat} (h : PB M V l) (s : Sz M (l.length * V + V)) : PSr 0 l :=
  PSr.of (W := 0) s.z (Nat.lt_of_le_of_lt (Nat.le_mul_of_pos_left _ (Nat.succ_pos _)) s.s) bd_zero h
    (Nat.lt_of_le_of_lt (Nat.mul_le_mul_right _ (by omega)) s.s) (Nat.lt_of_le_of_lt (Nat.mul_le_mul_right _ (by omega)) s.s)
theorem ltimesQ {x y : Rat} (hx : Sm x) (hy : Sm y) : m_law_times [HN.fr x, HN.fr y] = .ok (HN.fr (x * y)) := by
  have := ltimes_ok hx.p hy.p
  rwa [pv_fr, pv_fr] at this
theorem bd_pow {P : Nat} {x : Rat} (h : Bd P 1 x) : ∀ e, Bd (P ^ e) 1 (x ^ e)
  | 0 => by rw [Rat.pow_zero]; exact bd_one
  | e + 1 => by
    rw [Rat.pow_succ, Nat.pow_succ]
    exact (bd_pow h e).mul h
theorem lpow_loop {P : Nat} {q : Int × Nat} (hq : SmP q) (hb : Bd P 1 (pv' q)) (u : D) : ∀ (j i L : Nat) (o : Option Sl), i + j = L → Sz (P ^ L) 1 → ∃ o', forD (hN 3) (sAsg 2 (xCall 2 m_law_times (aC (xV 2) (aC (xV 0) aN)))) ((List.range' i j).map fun t : Nat => .int ((t : Nat) : Int)) [some (.im (pr q)), some (.im u), some (.im (HN.fr (pv' q ^ i))), o] = .nx [some (.im (pr q)), some (.im u), some (.im (HN.fr (pv' q ^ (i + j)))), o']
  | 0, i, L, o, _, _ => ⟨o, rfl⟩
  | j + 1, i, L, o, hi, s => by
    obtain ⟨o', e⟩ := lpow_loop hq hb u j (i + 1) L (some (.im (.int (i : Nat)))) (by omega) s
    refine ⟨o', ?_⟩
    have s1 : Sz (P ^ i) 1 := by
      rw [← hi, Nat.pow_add] at s; exact s.left
    have m := ltimes_ok (s1.sm (bd_pow hb i)).p hq
    rw [pv_fr, ← Rat.pow_succ] at m
    have m' : m_law_times [HN.fr (pv' q ^ i), pr q] = .ok (HN.fr (pv' q ^ (i + 1))) := m
    rw [List.range'_succ, List.map_cons, forD_cons (δ1 := [some (.im (pr q)), some (.im u), some (.im (HN.fr (pv' q ^ i))), some (.im (.int (i : Nat)))]) (δ2 := [some (.im (pr q)), some (.im u), some (.im (HN.fr (pv' q ^ (i + 1)))), some (.im (.int (i : Nat)))]) (by simp [hN]) (by simp [m'])]
    rw [show i + (j + 1) = i + 1 + j by omega]
    exact e
theorem lpow_ok {P : Nat} {q : Int × Nat} (hq : SmP q) (hb : Bd P 1 (pv' q)) {e : Nat} (s : Sz (P ^ e) 1) (he : e ≤ 1000) : m_law_power [pr q, .int e] = .ok (HN.fr (pv' q ^ e)) := by
  obtain ⟨o', eq⟩ := lpow_loop hq hb (.int e) e 0 e none (by omega) s
  rw [Nat.zero_add, Rat.pow_zero] at eq
  refine runF_rt ?_
  unfold g_law_power
  have e0 : PyData.tuple [.int 1, .int 1] = HN.fr 1 := rfl
  refine seqN (δ' := [some (.im (pr q)), some (.im (.int e)), some (.im (HN.fr 1)), none]) (by simp [e0]) ?_
  refine seqN (δ' := [some (.im (pr q)), some (.im (.int e)), some (.im (HN.fr (pv' q ^ e))), o']) ?_ (by simp)
  simp only [sFor_ap, iA_ap, aC_ap, aN_ap, v0_im, v0_none, v0_nil, xV_s, xV_z, R.bind_ok, dr_n he, fR_ok]
  exact eq
theorem sz_pow {p : Rat} (h : Chc p) {e : Nat} (he : e ≤ 20) : Sz (p.den ^ e) 1 := by
  refine Sz.low (N := 60 ^ 20) ⟨by decide, by decide +kernel⟩ (Nat.pos_iff_ne_zero.mp (Nat.pow_pos (Nat.pos_of_ne_zero p.den_nz))) (Nat.le_trans (pow60 h e) (Nat.pow_le_pow_right (by decide) he))
theorem Chc.sm {p : Rat} (h : Chc p) : Sm p := (show Sz p.den 1 by have := sz_pow h (e := 1) (by decide); rwa [Nat.pow_one] at this).sm h.bd
theorem lpowQ {p : Rat} (h : Chc p) {e : Nat} (he : e ≤ 20) : m_law_power [HN.fr p, .int e] = .ok (HN.fr (p ^ e)) := by
  have := lpow_ok (q := (p.num, p.den)) h.sm.p (by rw [pv_fr]; exact h.bd) (sz_pow h he) (by omega)
  rwa [pv_fr] at this
/-! ### the other chance -/
theorem rest_eq (p : Rat) : pv' ((p.den : Int) - p.num, p.den) = 1 - p := by
  show mkRat ((p.den : Int) - p.num) p.den = _
  have hd : (p.den : Rat) ≠ 0 := by simpa using p.den_nz
  rw [Rat.mkRat_eq_div, Rat.intCast_sub, Rat.intCast_natCast]
  have h := num_den p
  rw [← h]
  grind
theorem Chc.rest {p : Rat} (h : Chc p) : Bd p.den 1 (1 - p) := by
  refine ⟨(p.den : Int) - p.num, ?_, ?_⟩
  · have h := num_den p
    rw [Rat.intCast_sub, Rat.intCast_natCast, ← h]
    grind
  · have := h.n0; have := h.n1; omega
theorem w_bd {p : Rat} (h : Chc p) {n k : Nat} (hn : n ≤ 6) (hk : k ≤ n) : Bd (p.den ^ n) 20 (w n k p) := by
  have := (bd_bin hn hk).mul ((bd_pow h.bd k).mul (bd_pow h.rest (n - k)))
  rw [Nat.one_mul, ← Nat.pow_add, show k + (n - k) = n by omega] at this
  exact this
theorem lchance_ok {p : Rat} (h : Chc p) {n k : Nat} (hn : n ≤ 6) (hk : k ≤ n) : m_law_chance [.int n, .int k, HN.fr p] = .ok (HN.fr (w n k p)) := by
  have p1 := lpowQ h (e := k) (by omega)
  have sr : Sm (1 - p) := (show Sz p.den 1 by have := sz_pow h (e := 1) (by decide); rwa [Nat.pow_one] at this).sm h.rest
  have hq : SmP ((p.den : Int) - p.num, p.den) := ⟨p.den_nz, by
    have := h.n0; have := h.n1; have := h.d
    exact Nat.lt_of_le_of_lt (show _ ≤ 60 by show ((p.den : Int) - p.num).natAbs ≤ 60; omega) (Nat.lt_of_lt_of_le (show 60 < 2 ^ 6 by decide) (Nat.pow_le_pow_right (by decide) (by decide))), h.sm.p.d⟩
  have p2 := lpow_ok (P := p.den) hq (by rw [rest_eq]; exact h.rest) (e := n - k) (sz_pow h (by omega)) (by omega)
  rw [rest_eq] at p2
  have p2' : m_law_power [.tuple [.int ((p.den : Int) - p.num), .int (p.den : Nat)], .int ((n - k : Nat) : Int)] = .ok (HN.fr ((1 - p) ^ (n - k))) := p2
  have b1 := bd_pow h.bd k
  have b2 := bd_pow h.rest (n - k)
  have t1 := ltimesQ ((sz_pow h (by omega)).sm b1) ((sz_pow h (by omega)).sm b2)
  have b3 := b1.mul b2
  rw [← Nat.pow_add] at b3
  have wy := ways_ok (n := n) (k := k) (by omega) (by omega)
  have sb : Sm (bin n k : Rat) := Sz.sm (M := 1) (V := 20) ⟨by decide, by decide +kernel⟩ (bd_bin hn hk)
  have t2 := ltimesQ sb ((sz_pow h (by omega)).sm b3)
  have fb : HN.fr (bin n k : Rat) = .tuple [.int (bin n k : Nat), .int 1] := by unfold HN.fr; rw [Rat.num_natCast, Rat.den_natCast]; rfl
  rw [fb] at t2
  have nk : ((n : Int) - (k : Int)) = ((n - k : Nat) : Int) := by omega
  refine runF_rt ?_
  unfold g_law_chance
  refine seqN (δ' := [some (.im (.int n)), some (.im (.int k)), some (.im (HN.fr p)), some (.im (.tuple [.int ((p.den : Int) - p.num), .int (p.den : Nat)])), none]) (by simp [fr_0, fr_1]) ?_
  refine seqN (δ' := [some (.im (.int n)), some (.im (.int k)), some (.im (HN.fr p)), some (.im (.tuple [.int ((p.den : Int) - p.num), .int (p.den : Nat)])), some (.im (HN.fr (p ^ k * (1 - p) ^ (n - k))))]) ?_ ?_
  · simp only [sAsg_ap, xCall_ap, aC_ap, aN_ap, x2_ap, v0_im, v0_none, v0_nil, xV_s, xV_z, R.bind_ok, dSub_int, nk, List.length_cons, List.length_nil, if_pos, p1, p2', t1, fR_ok]
    rfl
  · simp only [sRet_ap, xCall_ap, aC_ap, aN_ap, xA_ap, xC_ap, vw_im, vw_none, vw_nil, xV_s, xV_z, R.bind_ok, dTup_2, List.length_cons, List.length_nil, if_pos, wy, t2, fR_ok]
    rfl
/-! ### the law's mean and value -/
theorem lmean_ok {p : Rat} (h : Chc p) {n M V : Nat} (hn : n ≤ 6) {es : List Rat} (hl : es.length = n + 1) (he : PB M V es) (s : Sz (60 ^ 20 * M) (8 * (20 * V))) {d : D} (hd : ∀ i : Nat, i ≤ n → dIx d (.int (i : Nat)) = .ok (HN.fr (es.getD i 0))) : m_law_mean [.int n, d, HN.fr p] = .ok (HN.fr (mean n es p)) := by
  have pz : p.den ^ n ≠ 0 := Nat.pos_iff_ne_zero.mp (Nat.pow_pos (Nat.pos_of_ne_zero p.den_nz))
  have sM : Sz (p.den ^ n * M) (8 * (20 * V)) := s.low (Nat.mul_ne_zero pz s.right.z) (Nat.mul_le_mul_right _ (Nat.le_trans (pow60 h n) (Nat.pow_le_pow_right (by decide) (by omega))))
  have lc : xLc (iA dR1 (aC (x2 dAddA (xV 0) (xC (.int 1))) aN)) (gN 3) (fun _ => .ok true) (xCall 2 m_law_times (aC (xCall 3 m_law_chance (aC (xV 0) (aC (xV 3) (aC (xV 2) aN)))) (aC (x2 dIx (xV 1) (xV 3)) aN))) [3] [some (.int n), some d, some (HN.fr p), none] = .ok (.list ((List.range (n + 1)).map fun i => HN.fr (w n i p * es.getD i 0))) := by
    refine xLc_ok (f := fun t : Nat => .int ((t : Nat) : Int)) ?_ (by simp; omega) fun t ht => ?_
    · have e3 : ((n : Int) + 1) = ((n + 1 : Nat) : Int) := by omega
      simp only [iA_ap, aC_ap, aN_ap, x2_ap, xC_ap, xV_z, R.bind_ok, dAddA_int, e3, dr_N (show n + 1 ≤ 1000 by omega)]
    have ht := List.mem_range.mp ht
    have hk : t ≤ n := by omega
    refine ⟨[some (.int n), some d, some (HN.fr p), some (.int (t : Nat))], by simp [gN, wipeD], ?_⟩
    have s2 : Sm (w n t p) := (Sz.low (N := 60 ^ 20) (V := 20) ⟨by decide, by decide +kernel⟩ pz (Nat.le_trans (pow60 h n) (Nat.pow_le_pow_right (by decide) (by omega)))).sm (w_bd h hn hk)
    have s3 : Sm (es.getD t 0) := (s.right.mono (by omega)).sm (he.get t)
    have t1 := ltimesQ s2 s3
    simp only [xCall_ap, aC_ap, aN_ap, x2_ap, xV_s, xV_z, R.bind_ok, List.length_cons, List.length_nil, if_pos, lchance_ok h hn hk, hd t hk, t1]
  have e0 : (List.range (n + 1)).map (fun i => HN.fr (w n i p * es.getD i 0)) = ((List.range (n + 1)).map fun i => es.getD i 0 * w n i p).map HN.fr := by
    rw [List.map_map]
    refine List.map_congr_left fun i _ => ?_
    show _ = HN.fr _
    rw [Rat.mul_comm]
  have ps : PSr 0 ((List.range (n + 1)).map fun i => es.getD i 0 * w n i p) := by
    refine psr_sz (M := p.den ^ n * M) (V := 20 * V) (fun x hx => ?_) (sM.mono ?_)
    · obtain ⟨i, hi, rfl⟩ := List.mem_map.mp hx
      have hi := List.mem_range.mp hi
      rw [Rat.mul_comm]
      exact (w_bd h hn (by omega)).mul (he.get i)
    · rw [List.length_map, List.length_range]
      have := Nat.mul_le_mul_right (20 * V) (show n + 1 ≤ 7 by omega)
      omega
  have sm := lsumQ ps
  have em : mean n es p = ((List.range (n + 1)).map fun i => es.getD i 0 * w n i p).sum := by unfold mean; rw [hl]
  rw [← em] at sm
  refine runF_rt ?_
  unfold g_law_mean
  simp only [List.map_cons, List.map_nil, List.replicate, List.cons_append, List.nil_append, sRet_ap, xCall_ap, aC_ap, aN_ap, vw_im, vw_none, vw_nil, R.bind_ok, lc, e0, List.length_cons, List.length_nil, if_pos, sm, fR_ok]
theorem ev_sum (x : Rat) : ∀ r : List Rat, ((List.range r.length).map fun i => r.getD i 0 * x ^ i).sum = ev r x
  | [] => rfl
  | a :: r => by
    rw [List.length_cons, List.range_succ_eq_map, List.map_cons, List.map_map, List.sum_cons]
    have : ((List.range r.length).map ((fun i => (a :: r).getD i 0 * x ^ i) ∘ Nat.succ)).sum = x * ev r x := by
      rw [← ev_sum x r]
      have : ((fun i => (a :: r).getD i 0 * x ^ i) ∘ Nat.succ) = fun i => x * (r.getD i 0 * x ^ i) := by
        funext i
        show (a :: r).getD (i + 1) 0 * x ^ (i + 1) = _
        rw [Rat.pow_succ]
        show r.getD i 0 * (x ^ i * x) = _
        grind
      rw [this]
      generalize List.range r.length = l
      induction l with
      | nil => simp [Rat.mul_zero]
      | cons i l ih => simp only [List.map_cons, List.sum_cons, ih, Rat.mul_add]
    rw [this]
    show a * x ^ 0 + _ = _
    rw [Rat.pow_zero, Rat.mul_one]
    rfl
theorem lvalue_ok {p : Rat} (h : Chc p) {M V : Nat} {r : List Rat} (hl : r.length ≤ 20) (hr : PB M V r) (s : Sz (60 ^ 20 * M) (21 * V)) {d : D} (hlen : dLen [d] = .ok (.int (r.length : Nat))) (hd : ∀ i : Nat, i < r.length → dIx d (.int (i : Nat)) = .ok (HN.fr (r.getD i 0))) : m_law_value [d, HN.fr p] = .ok (HN.fr (ev r p)) := by
  have lc : xLc (iA dR1 (aC (xA dLen (aC (xV 0) aN)) aN)) (gN 2) (fun _ => .ok true) (xCall 2 m_law_times (aC (x2 dIx (xV 0) (xV 2)) (aC (xCall 2 m_law_power (aC (xV 1) (aC (xV 2) aN))) aN))) [2] [some d, some (HN.fr p), none] = .ok (.list ((List.range r.length).map fun i => HN.fr (r.getD i 0 * p ^ i))) := by
    refine xLc_ok (f := fun t : Nat => .int ((t : Nat) : Int)) ?_ (by simp; omega) fun t ht => ?_
    · simp only [iA_ap, aC_ap, aN_ap, xA_ap, xV_z, R.bind_ok, hlen, dr_N (show r.length ≤ 1000 by omega)]
    have ht := List.mem_range.mp ht
    refine ⟨[some d, some (HN.fr p), some (.int (t : Nat))], by simp [gN, wipeD], ?_⟩
    have s3 : Sm (r.getD t 0) := (s.right.mono (by omega)).sm (hr.get t)
    have s2 : Sm (p ^ t) := (sz_pow h (by omega)).sm (bd_pow h.bd t)
    simp only [xCall_ap, aC_ap, aN_ap, x2_ap, xV_s, xV_z, R.bind_ok, List.length_cons, List.length_nil, if_pos, lpowQ h (show t ≤ 20 by omega), hd t ht, ltimesQ s3 s2]
  have e0 : (List.range r.length).map (fun i => HN.fr (r.getD i 0 * p ^ i)) = ((List.range r.length).map fun i => r.getD i 0 * p ^ i).map HN.fr := by rw [List.map_map]; rfl
  have pz : p.den ^ 20 ≠ 0 := Nat.pos_iff_ne_zero.mp (Nat.pow_pos (Nat.pos_of_ne_zero p.den_nz))
  have ps : PSr 0 ((List.range r.length).map fun i => r.getD i 0 * p ^ i) := by
    refine psr_sz (M := p.den ^ 20 * M) (V := V) (fun x hx => ?_) ((s.mono ?_).low (Nat.mul_ne_zero pz s.right.z) (Nat.mul_le_mul_right _ (pow60 h 20)))
    · obtain ⟨i, hi, rfl⟩ := List.mem_map.mp hx
      have hi := List.mem_range.mp hi
      have b := ((bd_pow h.bd i).up (p.den ^ (20 - i))).mul (hr.get i)
      rw [← Nat.pow_add, show i + (20 - i) = 20 by omega, Nat.one_mul] at b
      rw [Rat.mul_comm]
      exact b
    · rw [List.length_map, List.length_range]
      have := Nat.mul_le_mul_right V hl
      omega
  have sm := lsumQ ps
  rw [ev_sum] at sm
  refine runF_rt ?_
  unfold g_law_value
  simp only [List.map_cons, List.map_nil, List.replicate, List.cons_append, List.nil_append, sRet_ap, xCall_ap, aC_ap, aN_ap, vw_im, vw_none, vw_nil, R.bind_ok, lc, e0, List.length_cons, List.length_nil, if_pos, sm, fR_ok]
/-! ### drawn chances -/
theorem some_ok {ds : List Int} (hd : Draws ds) {at_ : Int} (h0 : 0 ≤ at_) (h1 : at_ < 59) : ∃ p, Chc p ∧ p.den ≤ 7 ∧ m_law_some [.list (ds.map .int), .int at_] = .ok (HN.fr p) := by
  obtain ⟨x, hx0, hx1, ex⟩ := hd.at_ (i := at_) h0 (by omega)
  obtain ⟨y, hy0, hy1, ey⟩ := hd.at_ (i := at_ + 1) (by omega) (by omega)
  obtain ⟨b, hb1, hb7, hbe⟩ := one_ok (x := x) (m := 7) (by decide) (by decide)
  have a0 := Int.emod_nonneg y (show (b : Int) + 1 ≠ 0 by omega)
  have a1 := Int.emod_lt_of_pos y (show 0 < (b : Int) + 1 by omega)
  obtain ⟨a, ha⟩ : ∃ a : Nat, y % ((b : Int) + 1) = (a : Int) := ⟨(y % ((b : Int) + 1)).toNat, by omega⟩
  have dm0 : dMod (.int x) (.int 7) = .ok (.int (x % 7)) := dMod_ok (by decide)
  have dm1 : dMod (.int y) (.int ((b : Int) + 1)) = .ok (.int (a : Int)) := by rw [dMod_ok (by omega), ha]
  have s9 : (10 : Nat) < 2 ^ 9000 := Nat.lt_of_lt_of_le (show (10 : Nat) < 2 ^ 4 by decide) (Nat.pow_le_pow_right (by decide) (by decide))
  have lo := low_ok (a := (a : Int)) (b := (b : Int)) (by omega) (Nat.lt_of_le_of_lt (by omega) s9) (Nat.lt_of_le_of_lt (by omega) s9)
  rw [Rat.divInt_ofNat] at lo
  have bz : b ≠ 0 := by omega
  have hm : Bd b 1 (mkRat a b) := bd_div bz ⟨1, by omega⟩ (by omega)
  obtain ⟨n1, n2⟩ := bd_num bz hm
  have n0 : 0 ≤ (mkRat a b).num := by
    rw [Rat.num_mkRat, if_neg bz]
    exact Int.ediv_nonneg (by omega) (by omega)
  have n3 : (mkRat a b).num ≤ (mkRat a b).den := by
    rw [Rat.num_mkRat, Rat.den_mkRat, if_neg bz, if_neg bz]
    rw [Int.natCast_ediv]
    exact Int.ediv_le_ediv (by have : 0 < Nat.gcd b (a : Int).natAbs := Nat.gcd_pos_of_pos_left _ (by omega); omega) (by omega)
  refine ⟨mkRat a b, ⟨n0, n3, by omega⟩, by omega, runF_rt ?_⟩
  unfold g_law_some
  refine seqN (δ' := [some (.im (.list (ds.map .int))), some (.im (.int at_)), some (.im (.int b))]) (by simp [ex, dm0, hbe]) ?_
  simp [ey, dm1, lo]
theorem chc_0 : Chc 0 := ⟨by decide, by decide, by decide⟩
theorem chc_1 : Chc 1 := ⟨by decide, by decide, by decide⟩
end HN
end
section
set_option linter.all false
set_option maxRecDepth 100000
set_option maxHeartbeats 1000000
set_option exponentiation.threshold 20000
namespace HN
open PySem L2 HL HM
@[simp] theorem s0_im (d : D) : s0 (some (.im d)) = some d := rfl
@[simp] theorem s0_ow (d : List D) : s0 (some (.ow d)) = none := rfl
@[simp] theorem s0_none : s0 none = none := rfl
@[simp] theorem sw_im (d : D) : sw (some (.im d)) = some d := rfl
@[simp] theorem sw_ow (d : List D) : sw (some (.ow d)) = some (.list d) := rfl
@[simp] theorem sw_none : sw none = none := rfl
/-! ### loops that keep a state -/
theorem forD_all {γ : D → Es → R Es} {body : Es → Fl} (I : Es → Prop) : ∀ {xs : List D}, (∀ x ∈ xs, ∀ δ, I δ → ∃ δ1 δ2, γ x δ = .ok δ1 ∧ body δ1 = .nx δ2 ∧ I δ2) → ∀ δ, I δ → ∃ δ2, forD γ body xs δ = .nx δ2 ∧ I δ2
  | [], _, δ, h => ⟨δ, rfl, h⟩
  | x :: xs, hx, δ, h => by
    obtain ⟨δ1, δ2, e1, e2, h2⟩ := hx x List.mem_cons_self δ h
    obtain ⟨δ3, e3, h3⟩ := forD_all I (fun y hy => hx y (List.mem_cons_of_mem _ hy)) δ2 h2
    exact ⟨δ3, by rw [forD_cons e1 e2, e3], h3⟩
/-! ### means at the ends -/
theorem sum_zero {α : Type} {f : α → Rat} : ∀ {l : List α}, (∀ i ∈ l, f i = 0) → (l.map f).sum = 0
  | [], _ => rfl
  | a :: l, h => by
    rw [List.map_cons, List.sum_cons, h a List.mem_cons_self, sum_zero (fun i hi => h i (List.mem_cons_of_mem _ hi)), Rat.add_zero]
theorem one_pow' : ∀ n : Nat, (1 : Rat) ^ n = 1
  | 0 => Rat.pow_zero _
  | n + 1 => by rw [Rat.pow_succ, one_pow' n, Rat.mul_one]
theorem zero_pow' (n : Nat) : (0 : Rat) ^ (n + 1) = 0 := by rw [Rat.pow_succ, Rat.mul_zero]
theorem bin_zero (n : Nat) : bin n 0 = 1 := by cases n <;> rfl
theorem bin_self : ∀ n, bin n n = 1
  | 0 => rfl
  | n + 1 => by
    show bin n n + bin n (n + 1) = 1
    rw [bin_self n, bin_gt (Nat.lt_succ_self n)]
theorem w_zero (n i : Nat) : w n i 0 = if i = 0 then 1 else 0 := by
  unfold w
  cases i with
  | zero =>
    rw [if_pos rfl, bin_zero, Rat.pow_zero, show (1 : Rat) - 0 = 1 by grind, one_pow']
    rw [Rat.mul_one, Rat.mul_one]; rfl
  | succ i => rw [if_neg (by omega), zero_pow', Rat.zero_mul, Rat.mul_zero]
theorem w_one {n i : Nat} (h : i ≤ n) : w n i 1 = if i = n then 1 else 0 := by
  unfold w
  rw [show (1 : Rat) - 1 = 0 by grind, one_pow', Rat.one_mul]
  by_cases hi : i = n
  · rw [if_pos hi, hi, Nat.sub_self, Rat.pow_zero, Rat.mul_one, bin_self]
    rfl
  · obtain ⟨j, hj⟩ : ∃ j, n - i = j + 1 := ⟨n - i - 1, by omega⟩
    rw [if_neg hi, hj, zero_pow', Rat.mul_zero]
theorem mean_zero (n : Nat) (es : List Rat) : mean n es 0 = es.getD 0 0 := by
  unfold mean
  cases es with
  | nil => rfl
  | cons e es =>
    rw [List.length_cons, List.range_succ_eq_map, List.map_cons, List.map_map, List.sum_cons, sum_zero, Rat.add_zero, w_zero, if_pos rfl, Rat.mul_one]
    intro i _
    show (e :: es).getD (i + 1) 0 * w n (i + 1) 0 = 0
    rw [w_zero, if_neg (by omega), Rat.mul_zero]
theorem mean_one {n : Nat} {es : List Rat} (h : es.length = n + 1) : mean n es 1 = es.getD n 0 := by
  unfold mean
  rw [h, List.range_succ, List.map_append, List.sum_append, sum_zero, Rat.zero_add]
  · show es.getD n 0 * w n n 1 + 0 = _
    rw [w_one (Nat.le_refl n), if_pos rfl, Rat.mul_one, Rat.add_zero]
  · intro i hi
    have hi := List.mem_range.mp hi
    rw [w_one (by omega), if_neg (by omega), Rat.mul_zero]
/-! ### drawn estimates -/
theorem drawn_est (ns : List Int) {n : Nat} {at_ : Int} (ha : 0 ≤ at_) (h1 : 1 ≤ n) (h6 : n ≤ 6) : ∃ es, Est n 60 9 es ∧ m_law_estimate [.list (ns.map .int), .int at_, .int n] = .ok (.tuple (es.map fr)) := by
  obtain ⟨es, hl, hd, e⟩ := estimate_ok ns (at_ := at_) (n := (n : Int)) ha (by omega) (by omega)
  exact ⟨es, Est.of h1 h6 (by rw [hl]; rfl) (fun x hx => (hd x hx).bd) (by decide) (by decide) (by decide), e⟩
theorem hd_tuple {es : List Rat} {m : Nat} (hl : m < es.length + 1) : ∀ i : Nat, i < m → dIx (.tuple (es.map fr)) (.int (i : Nat)) = .ok (fr (es.getD i 0)) := fun i hi => by
  have h : i < es.length := by omega
  rw [dIx_mT h]
  simp [List.getD_eq_getElem?_getD, h]
theorem hd_list {es : List Rat} {m : Nat} (hl : m < es.length + 1) : ∀ i : Nat, i < m → dIx (.list (es.map fr)) (.int (i : Nat)) = .ok (fr (es.getD i 0)) := fun i hi => by
  have h : i < es.length := by omega
  rw [dIx_mL h]
  simp [List.getD_eq_getElem?_getD, h]
theorem Est.mean_ok {n M V : Nat} {es : List Rat} (h : Est n M V es) {p : Rat} (hp : Chc p) : m_law_mean [.int n, .tuple (es.map HN.fr), HN.fr p] = .ok (HN.fr (mean n es p)) := by
  refine lmean_ok hp h.n6 h.l h.b ?_ (fun i hi => hd_tuple (m := n + 1) (by rw [h.l]; omega) i (by omega))
  rw [Nat.mul_comm]
  refine h.sz.mono ?_
  have : (10 : Nat) ^ 40 = 10000000000000000000000000000000000000000 := by decide
  omega
theorem Est.value_ok {n M V : Nat} {es : List Rat} (h : Est n M V es) {p : Rat} (hp : Chc p) : m_law_value [.tuple ((avg n es).map HN.fr), HN.fr p] = .ok (HN.fr (mean n es p)) := by
  have hl := avg_len h.n6 (Nat.le_of_eq h.l)
  have h6 := h.n6
  rw [← avg_ev]
  refine lvalue_ok hp (by omega) (avg_pb h.n6 (Nat.le_of_eq h.l) h.b) ?_ (by simp) (fun i hi => hd_tuple (m := (avg n es).length) (by omega) i hi)
  rw [Nat.mul_comm]
  refine h.sz.mono ?_
  have : (10 : Nat) ^ 40 = 10000000000000000000000000000000000000000 := by decide
  omega
theorem Est.avg_sm {n M V : Nat} {es : List Rat} (h : Est n M V es) : ∀ q ∈ avg n es, Sm q := fun q hq => (h.sz1.mono (by omega)).sm (avg_pb h.n6 (Nat.le_of_eq h.l) h.b q hq)
theorem low_self {q : Rat} (h : Sm q) : m_law_low [.int q.num, .int (q.den : Nat)] = .ok (HN.fr q) := by
  have b9 : (2 : Nat) ^ 2000 < 2 ^ 9000 := Nat.pow_lt_pow_right (by decide) (by decide)
  have := low_ok (a := q.num) (b := (q.den : Int)) (by have := q.den_nz; omega) (Nat.lt_trans h.n b9) (by rw [Int.natAbs_natCast]; exact Nat.lt_trans h.d b9)
  rw [Rat.num_divInt_den] at this
  exact this
theorem dNe_fr0 (xs : List Rat) : dNe (.tuple (xs.map HN.fr)) (.tuple []) = .ok (.bool (!decide (xs = []))) := dNe_frs xs []
theorem dEq_fr0 (xs : List Rat) : dEq (.tuple (xs.map HN.fr)) (.tuple []) = .ok (.bool (decide (xs = []))) := dEq_frs xs []
end HN
end
section
set_option linter.all false
set_option maxRecDepth 100000
set_option maxHeartbeats 1000000
set_option exponentiation.threshold 20000
namespace HN
open PySem L2 HL HM
/-! ### roots -/
def quo (c : Rat) : List Rat → List Rat
  | [] => []
  | [_] => []
  | _ :: b :: r => ev (b :: r) c :: quo c (b :: r)
theorem quo_len (c : Rat) : ∀ r, (quo c r).length = r.length - 1
  | [] => rfl
  | [_] => rfl
  | a :: b :: r => by
    show (quo c (b :: r)).length + 1 = _
    rw [quo_len c (b :: r)]
    simp
theorem quo_ev (c x : Rat) : ∀ r, ev r x - ev r c = (x - c) * ev (quo c r) x
  | [] => by show (0 : Rat) - 0 = (x - c) * 0; grind
  | [a] => by show (a + x * 0) - (a + c * 0) = (x - c) * 0; grind
  | a :: b :: r => by
    have ih := quo_ev c x (b :: r)
    show (a + x * ev (b :: r) x) - (a + c * ev (b :: r) c) = (x - c) * (ev (b :: r) c + x * ev (quo c (b :: r)) x)
    grind
def AllZ (r : List Rat) : Prop := ∀ x ∈ r, x = 0
theorem allZ_ev (x : Rat) : ∀ {r}, AllZ r → ev r x = 0
  | [], _ => rfl
  | a :: r, h => by
    show a + x * ev r x = 0
    rw [h a List.mem_cons_self, allZ_ev x (fun y hy => h y (List.mem_cons_of_mem _ hy)), Rat.mul_zero, Rat.add_zero]
theorem quo_zero (c : Rat) : ∀ {r}, AllZ (quo c r) → AllZ r.tail
  | [], _ => fun x hx => by cases hx
  | [_], _ => fun x hx => by cases hx
  | a :: b :: r, h => by
    have h1 : ev (b :: r) c = 0 := h _ List.mem_cons_self
    have h2 : AllZ r := quo_zero c (r := b :: r) fun y hy => h y (List.mem_cons_of_mem _ hy)
    have h3 : b + c * ev r c = 0 := h1
    rw [allZ_ev c h2, Rat.mul_zero, Rat.add_zero] at h3
    intro x hx
    rcases List.mem_cons.mp hx with rfl | hx
    · exact h3
    · exact h2 x hx
theorem roots : ∀ (pts r : List Rat), r.length ≤ pts.length → pts.Nodup → (∀ c ∈ pts, ev r c = 0) → AllZ r
  | [], r, hl, _, _ => by
    have : r = [] := List.eq_nil_of_length_eq_zero (by simpa using hl)
    subst this
    exact fun x hx => by cases hx
  | c :: pts, r, hl, hn, hz => by
    have hc := hz c List.mem_cons_self
    have hn' := List.nodup_cons.mp hn
    have hq : AllZ (quo c r) := roots pts (quo c r) (by rw [quo_len]; simp at hl; omega) hn'.2 fun d hd => by
      have e := quo_ev c d r
      rw [hc, hz d (List.mem_cons_of_mem _ hd)] at e
      have hne : d - c ≠ 0 := fun z => hn'.1 (by
        have : d = c := by grind
        rw [← this]; exact hd)
      have e : (d - c) * ev (quo c r) d = 0 := by rw [← e]; grind
      rcases Rat.mul_eq_zero.mp e with z | z
      · exact absurd z hne
      · exact z
    have ht := quo_zero c hq
    cases r with
    | nil => exact fun x hx => by cases hx
    | cons a r =>
      have ht : AllZ r := ht
      have : a + c * ev r c = 0 := hc
      rw [allZ_ev c ht, Rat.mul_zero, Rat.add_zero] at this
      intro x hx
      rcases List.mem_cons.mp hx with rfl | hx
      · exact this
      · exact ht x hx
def upTo (m : Nat) : List Rat := (List.range m).map fun i : Nat => ((i : Nat) : Rat)
theorem upto_nodup (m : Nat) : (upTo m).Nodup := by
  unfold upTo
  refine List.pairwise_map.mpr (List.Pairwise.imp ?_ (List.nodup_range (n := m)))
  intro a b h e
  exact h (Rat.natCast_inj.mp e)
theorem all_roots {r : List Rat} (h : ∀ x, ev r x = 0) : AllZ r := roots (upTo r.length) r (by simp [upTo]) (upto_nodup _) fun c _ => h c
theorem allZ_get {r : List Rat} (h : AllZ r) (i : Nat) : r.getD i 0 = 0 := by
  by_cases hz : r.getD i 0 = 0
  · exact hz
  · exact h _ (getD_mem hz)
theorem addP_get (a b : List Rat) (i : Nat) : (addP a b).getD i 0 = a.getD i 0 + b.getD i 0 := by
  unfold addP
  by_cases h : i < max a.length b.length
  · simp [List.getD_eq_getElem?_getD, h]
  · have h1 : a[i]? = none := List.getElem?_eq_none (by omega)
    have h2 : b[i]? = none := List.getElem?_eq_none (by omega)
    rw [List.getD_eq_getElem?_getD, List.getD_eq_getElem?_getD, List.getD_eq_getElem?_getD, h1, h2, List.getElem?_eq_none (by simp; omega)]
    simp [Rat.add_zero]
theorem map_get (c : Rat) (a : List Rat) (i : Nat) : (a.map (c * ·)).getD i 0 = c * a.getD i 0 := by
  rw [List.getD_eq_getElem?_getD, List.getD_eq_getElem?_getD, List.getElem?_map]
  cases a[i]? with
  | none => simp [Rat.mul_zero]
  | some x => rfl
/-- rows that agree at enough points are the same -/
theorem uniq_pts {a b : List Rat} (ha : Nz a) (hb : Nz b) (pts : List Rat) (hn : pts.Nodup) (h1 : a.length ≤ pts.length) (h2 : b.length ≤ pts.length) (h : ∀ x ∈ pts, ev a x = ev b x) : a = b := by
  refine nz_ext ha hb fun i => ?_
  have hz : AllZ (addP a (b.map ((-1) * ·))) := roots pts _ (by rw [addP_len, List.length_map]; omega) hn fun x hx => by
    rw [addP_ev, mul_ev, h x hx]; grind
  have := allZ_get hz i
  rw [addP_get, map_get] at this
  grind
theorem uniq {a b : List Rat} (ha : Nz a) (hb : Nz b) (h : ∀ x, ev a x = ev b x) : a = b :=
  uniq_pts ha hb (upTo (max a.length b.length)) (upto_nodup _) (by simp [upTo]; omega) (by simp [upTo]; omega) fun x _ => h x
/-! ### sums over lists -/
theorem sum_add {α : Type} (f g : α → Rat) : ∀ l : List α, (l.map fun i => f i + g i).sum = (l.map f).sum + (l.map g).sum
  | [] => by simp [Rat.add_zero]
  | a :: l => by simp only [List.map_cons, List.sum_cons, sum_add f g l]; grind
theorem sum_mul {α : Type} (c : Rat) (f : α → Rat) : ∀ l : List α, (l.map fun i => c * f i).sum = c * (l.map f).sum
  | [] => by simp [Rat.mul_zero]
  | a :: l => by simp only [List.map_cons, List.sum_cons, sum_mul c f l]; grind
theorem sum_congr {α : Type} {f g : α → Rat} {l : List α} (h : ∀ i ∈ l, f i = g i) : (l.map f).sum = (l.map g).sum := by rw [List.map_congr_left h]
theorem sum_nonneg {α : Type} {f : α → Rat} : ∀ {l : List α}, (∀ i ∈ l, 0 ≤ f i) → 0 ≤ (l.map f).sum
  | [], _ => Rat.le_refl
  | a :: l, h => by
    rw [List.map_cons, List.sum_cons]
    have h1 := h a List.mem_cons_self
    have h2 := sum_nonneg (l := l) fun i hi => h i (List.mem_cons_of_mem _ hi)
    grind
theorem sum_zero_all {α : Type} {f : α → Rat} : ∀ {l : List α}, (∀ i ∈ l, 0 ≤ f i) → (l.map f).sum = 0 → ∀ i ∈ l, f i = 0
  | [], _, _ => fun i hi => by cases hi
  | a :: l, h, hs => by
    rw [List.map_cons, List.sum_cons] at hs
    have h1 := h a List.mem_cons_self
    have hl : ∀ i ∈ l, 0 ≤ f i := fun i hi => h i (List.mem_cons_of_mem _ hi)
    have h2 := sum_nonneg hl
    have e1 : f a = 0 := by grind
    have e2 : (l.map f).sum = 0 := by grind
    intro i hi
    rcases List.mem_cons.mp hi with rfl | hi
    · exact e1
    · exact sum_zero_all hl e2 i hi
/-! ### the weights -/
theorem w_sum1 : ∀ n, n ≤ 6 → ∀ x : Rat, ((List.range (n + 1)).map fun i => w n i x).sum = 1 := by
  intro n hn x
  match n, hn with
  | 0, _ => simp [List.range, List.range.loop, w, bin]; grind
  | 1, _ => simp [List.range, List.range.loop, w, bin]; grind
  | 2, _ => simp [List.range, List.range.loop, w, bin]; grind
  | 3, _ => simp [List.range, List.range.loop, w, bin]; grind
  | 4, _ => simp [List.range, List.range.loop, w, bin]; grind
  | 5, _ => simp [List.range, List.range.loop, w, bin]; grind
  | 6, _ => simp [List.range, List.range.loop, w, bin]; grind
end HN
end
section
set_option linter.all false
set_option maxRecDepth 100000
set_option maxHeartbeats 1000000
set_option exponentiation.threshold 20000
namespace HN
open PySem L2 HL HM
theorem pow_add' (x : Rat) (a : Nat) : ∀ b : Nat, x ^ (a + b) = x ^ a * x ^ b
  | 0 => by rw [Nat.add_zero, Rat.pow_zero, Rat.mul_one]
  | b + 1 => by rw [← Nat.add_assoc, Rat.pow_succ, Rat.pow_succ, pow_add' x a b, Rat.mul_assoc]
theorem w_nn {n i : Nat} {x : Rat} (h0 : 0 ≤ x) (h1 : x ≤ 1) : 0 ≤ w n i x := by
  unfold w
  refine Rat.mul_nonneg ?_ (Rat.mul_nonneg (Rat.pow_nonneg h0) (Rat.pow_nonneg (by grind)))
  exact Rat.natCast_nonneg
theorem w_ps {n i : Nat} (hn : n ≤ 6) (hi : i ≤ n) {x : Rat} (h0 : 0 < x) (h1 : x < 1) : 0 < w n i x := by
  unfold w
  refine Rat.mul_pos ?_ (Rat.mul_pos (Rat.pow_pos h0) (Rat.pow_pos (by grind)))
  have := (bin_35 n (by omega) i hi).2
  exact Rat.natCast_pos.mpr this
theorem Chc.ge {p : Rat} (h : Chc p) : 0 ≤ p := Rat.num_nonneg.mp h.n0
theorem Chc.le {p : Rat} (h : Chc p) : p ≤ 1 := by
  rw [Rat.le_iff]
  have := h.n1
  show p.num * 1 ≤ 1 * (p.den : Int)
  omega
/-! ### the spread -/
def sqs (es : List Rat) : List Rat := es.map fun q => q * q
def spr (n : Nat) (es : List Rat) (x : Rat) : Rat := mean n (sqs es) x - mean n es x * mean n es x
theorem sqs_len (es : List Rat) : (sqs es).length = es.length := by simp [sqs]
theorem sqs_get (es : List Rat) (i : Nat) : (sqs es).getD i 0 = es.getD i 0 * es.getD i 0 := by
  unfold sqs
  rw [List.getD_eq_getElem?_getD, List.getD_eq_getElem?_getD, List.getElem?_map]
  cases es[i]? with
  | none => simp [Rat.mul_zero]
  | some x => rfl
theorem spr_eq {n : Nat} (hn : n ≤ 6) {es : List Rat} (hl : es.length = n + 1) (x : Rat) : spr n es x = ((List.range (n + 1)).map fun i => w n i x * ((es.getD i 0 - mean n es x) * (es.getD i 0 - mean n es x))).sum := by
  have h1 := w_sum1 n hn x
  have e : ((List.range (n + 1)).map fun i => w n i x * ((es.getD i 0 - mean n es x) * (es.getD i 0 - mean n es x))).sum = ((List.range (n + 1)).map fun i => (sqs es).getD i 0 * w n i x + ((-2 * mean n es x) * (es.getD i 0 * w n i x) + (mean n es x * mean n es x) * w n i x)).sum := by
    refine sum_congr fun i _ => ?_
    rw [sqs_get]
    grind
  rw [e, sum_add, sum_add, sum_mul, sum_mul, h1]
  unfold spr
  have m1 : ((List.range (n + 1)).map fun i => (sqs es).getD i 0 * w n i x).sum = mean n (sqs es) x := by unfold mean; rw [sqs_len, hl]
  have m2 : ((List.range (n + 1)).map fun i => es.getD i 0 * w n i x).sum = mean n es x := by unfold mean; rw [hl]
  rw [m1, m2]
  grind
theorem sq_nn (x : Rat) : 0 ≤ x * x := by
  by_cases h : 0 ≤ x
  · exact Rat.mul_nonneg h h
  · have : 0 ≤ -x := by grind
    have := Rat.mul_nonneg this this
    grind
theorem spr_nn {n : Nat} (hn : n ≤ 6) {es : List Rat} (hl : es.length = n + 1) {x : Rat} (h0 : 0 ≤ x) (h1 : x ≤ 1) : 0 ≤ spr n es x := by
  rw [spr_eq hn hl]
  exact sum_nonneg fun i _ => Rat.mul_nonneg (w_nn h0 h1) (sq_nn _)
theorem spr_zero {n : Nat} (hn : n ≤ 6) {es : List Rat} (hl : es.length = n + 1) {x : Rat} (h0 : 0 < x) (h1 : x < 1) (h : spr n es x = 0) : ∀ i, i ≤ n → es.getD i 0 = mean n es x := by
  rw [spr_eq hn hl] at h
  intro i hi
  have := sum_zero_all (fun i _ => Rat.mul_nonneg (w_nn (by grind) (by grind)) (sq_nn _)) h i (List.mem_range.mpr (by omega))
  have hw := w_ps hn hi h0 h1
  rcases Rat.mul_eq_zero.mp this with z | z
  · grind
  · rcases Rat.mul_eq_zero.mp z with z | z <;> grind
theorem mean_const {n : Nat} (hn : n ≤ 6) {es : List Rat} (hl : es.length = n + 1) {c : Rat} (h : ∀ i, i ≤ n → es.getD i 0 = c) (x : Rat) : mean n es x = c := by
  unfold mean
  rw [hl]
  have : ((List.range (n + 1)).map fun i => es.getD i 0 * w n i x).sum = ((List.range (n + 1)).map fun i => c * w n i x).sum := sum_congr fun i hi => by rw [h i (by have := List.mem_range.mp hi; omega)]
  rw [this, sum_mul, w_sum1 n hn, Rat.mul_one]
theorem spr_const {n : Nat} (hn : n ≤ 6) {es : List Rat} (hl : es.length = n + 1) {c : Rat} (h : ∀ i, i ≤ n → es.getD i 0 = c) (x : Rat) : spr n es x = 0 := by
  unfold spr
  rw [mean_const hn hl h, mean_const hn (es := sqs es) (by rw [sqs_len, hl]) (c := c * c) (fun i hi => by rw [sqs_get, h i hi])]
  grind
theorem spr_0 (n : Nat) (es : List Rat) : spr n es 0 = 0 := by
  unfold spr
  rw [mean_zero, mean_zero, sqs_get]
  grind
theorem spr_1 {n : Nat} {es : List Rat} (hl : es.length = n + 1) : spr n es 1 = 0 := by
  unfold spr
  rw [mean_one hl, mean_one (by rw [sqs_len, hl]), sqs_get]
  grind
/-! ### means lie between -/
theorem mean_low {n : Nat} (hn : n ≤ 6) {es : List Rat} (hl : es.length = n + 1) {x : Rat} (h0 : 0 ≤ x) (h1 : x ≤ 1) : ∃ i, i ≤ n ∧ es.getD i 0 ≤ mean n es x := by
  refine Classical.byContradiction fun hc => ?_
  have hgt : ∀ i, i ≤ n → mean n es x < es.getD i 0 := fun i hi => Rat.not_le.mp fun hle => hc ⟨i, hi, hle⟩
  have e : ((List.range (n + 1)).map fun i => (es.getD i 0 - mean n es x) * w n i x).sum = 0 := by
    have : ((List.range (n + 1)).map fun i => (es.getD i 0 - mean n es x) * w n i x).sum = ((List.range (n + 1)).map fun i => es.getD i 0 * w n i x + (-mean n es x) * w n i x).sum := sum_congr fun i _ => by grind
    rw [this, sum_add, sum_mul, w_sum1 n hn]
    have m2 : ((List.range (n + 1)).map fun i => es.getD i 0 * w n i x).sum = mean n es x := by unfold mean; rw [hl]
    rw [m2]; grind
  have z := sum_zero_all (fun i hi => Rat.mul_nonneg (by have := hgt i (by have := List.mem_range.mp hi; omega); grind) (w_nn h0 h1)) e
  have wz : ∀ i ∈ List.range (n + 1), w n i x = 0 := fun i hi => by
    have g := hgt i (by have := List.mem_range.mp hi; omega)
    rcases Rat.mul_eq_zero.mp (z i hi) with y | y
    · grind
    · exact y
  have s1 := w_sum1 n hn x
  rw [sum_zero wz] at s1
  exact absurd s1 (by decide +kernel)
theorem mean_neg (n : Nat) (es : List Rat) (x : Rat) : mean n (es.map ((-1) * ·)) x = - mean n es x := by
  unfold mean
  rw [List.length_map]
  have : ((List.range es.length).map fun i => (es.map ((-1) * ·)).getD i 0 * w n i x).sum = ((List.range es.length).map fun i => (-1) * (es.getD i 0 * w n i x)).sum := sum_congr fun i _ => by rw [map_get]; grind
  rw [this, sum_mul]
  grind
theorem mean_high {n : Nat} (hn : n ≤ 6) {es : List Rat} (hl : es.length = n + 1) {x : Rat} (h0 : 0 ≤ x) (h1 : x ≤ 1) : ∃ i, i ≤ n ∧ mean n es x ≤ es.getD i 0 := by
  obtain ⟨i, hi, h⟩ := mean_low hn (es := es.map ((-1) * ·)) (by simpa using hl) h0 h1
  rw [mean_neg, map_get] at h
  exact ⟨i, hi, by grind⟩
/-! ### exchanged -/
theorem bin_sym : ∀ n, n ≤ 6 → ∀ i, i ≤ n → bin n (n - i) = bin n i := by decide
theorem w_sym {n i : Nat} (hn : n ≤ 6) (hi : i ≤ n) (x : Rat) : w n i (1 - x) = w n (n - i) x := by
  unfold w
  rw [bin_sym n hn i hi, show n - (n - i) = i by omega, show 1 - (1 - x) = x by grind, Rat.mul_comm (x ^ _)]
theorem sum_rev (n : Nat) (f : Nat → Rat) : ((List.range (n + 1)).map fun i => f (n - i)).sum = ((List.range (n + 1)).map f).sum := by
  have e : (List.range (n + 1)).map (fun i => f (n - i)) = ((List.range (n + 1)).map f).reverse := by
    apply List.ext_getElem
    · simp
    · intro i h1 h2
      simp at h1
      simp
  have : ∀ l : List Rat, l.reverse.sum = l.sum := by
    intro l
    induction l with
    | nil => rfl
    | cons a l ih => rw [List.reverse_cons, List.sum_append, ih, List.sum_cons]; show _ + (a + 0) = _; grind
  rw [e, this]
theorem mean_rev {n : Nat} (hn : n ≤ 6) {es : List Rat} (hl : es.length = n + 1) (x : Rat) : mean n es.reverse (1 - x) = mean n es x := by
  unfold mean
  rw [List.length_reverse, hl, ← sum_rev n fun i => es.getD i 0 * w n i x]
  refine sum_congr fun i hi => ?_
  have hi := List.mem_range.mp hi
  rw [w_sym hn (by omega)]
  congr 1
  have : i < es.length := by omega
  simp [List.getD_eq_getElem?_getD, List.getElem?_reverse this, hl]
theorem sqs_rev (es : List Rat) : sqs es.reverse = (sqs es).reverse := by simp [sqs]
theorem spr_rev {n : Nat} (hn : n ≤ 6) {es : List Rat} (hl : es.length = n + 1) (x : Rat) : spr n es.reverse (1 - x) = spr n es x := by
  unfold spr
  rw [sqs_rev, mean_rev hn hl, mean_rev hn (by rw [sqs_len, hl])]
/-! ### an estimate is known by its averages -/
theorem mean_add {n : Nat} {a b : List Rat} (h : a.length = b.length) (x : Rat) : mean n (addP a b) x = mean n a x + mean n b x := by
  unfold mean
  rw [addP_len, ← h, Nat.max_self, ← sum_add]
  refine sum_congr fun i _ => ?_
  rw [addP_get, Rat.add_mul]
theorem mean_smul (n : Nat) (c : Rat) (es : List Rat) (x : Rat) : mean n (es.map (c * ·)) x = c * mean n es x := by
  unfold mean
  rw [List.length_map, ← sum_mul]
  refine sum_congr fun i _ => ?_
  rw [map_get, Rat.mul_assoc]
theorem mean_inj0 {n : Nat} (hn : n ≤ 6) {d : List Rat} (hl : d.length = n + 1) (h : ∀ x, mean n d x = 0) : ∀ i, i ≤ n → d.getD i 0 = 0 := by
  have hz : AllZ ((List.range (n + 1)).map fun i => d.getD i 0 * (bin n i : Rat)) := by
    refine roots (upTo (n + 1)) _ (by simp [upTo]) (upto_nodup _) fun t ht => ?_
    obtain ⟨k, _, rfl⟩ := List.mem_map.mp ht
    have k0 : (0 : Rat) ≤ (k : Rat) := Rat.natCast_nonneg
    have k1 : ((k : Rat) + 1) ≠ 0 := by grind
    have hx := h ((k : Rat) / ((k : Rat) + 1))
    rw [← ev_sum]
    simp only [List.length_map, List.length_range]
    have e : ((List.range (n + 1)).map fun i => ((List.range (n + 1)).map fun i => d.getD i 0 * (bin n i : Rat)).getD i 0 * (k : Rat) ^ i).sum = ((k : Rat) + 1) ^ n * mean n d ((k : Rat) / ((k : Rat) + 1)) := by
      unfold mean
      rw [hl, ← sum_mul]
      refine sum_congr fun i hi => ?_
      have hi := List.mem_range.mp hi
      have g : ((List.range (n + 1)).map fun i => d.getD i 0 * (bin n i : Rat)).getD i 0 = d.getD i 0 * (bin n i : Rat) := by simp [List.getD_eq_getElem?_getD, hi]
      rw [g]
      unfold w
      have y : 1 - (k : Rat) / ((k : Rat) + 1) = 1 / ((k : Rat) + 1) := by grind
      have dv : ∀ (a b : Rat) (m : Nat), b ≠ 0 → b ^ m * (a / b) ^ m = a ^ m := fun a b m hb => by
        induction m with
        | zero => simp [Rat.pow_zero]
        | succ m ih =>
          rw [Rat.pow_succ, Rat.pow_succ, Rat.pow_succ]
          have : b * (a / b) = a := by rw [Rat.mul_comm]; exact Rat.div_mul_cancel hb
          grind
      have p1 := dv (k : Rat) ((k : Rat) + 1) i k1
      have p2 := dv 1 ((k : Rat) + 1) (n - i) k1
      rw [one_pow'] at p2
      have pw : ((k : Rat) + 1) ^ n = ((k : Rat) + 1) ^ i * ((k : Rat) + 1) ^ (n - i) := by
        rw [← pow_add']; congr 1; omega
      rw [y, pw, ← p1]
      generalize ((k : Rat) + 1) ^ i = A at *
      generalize ((k : Rat) + 1) ^ (n - i) = B at *
      generalize ((k : Rat) / ((k : Rat) + 1)) ^ i = C at *
      generalize (1 / ((k : Rat) + 1)) ^ (n - i) = E at *
      grind
    rw [e, hx, Rat.mul_zero]
  intro i hi
  have := allZ_get hz i
  have g : ((List.range (n + 1)).map fun i => d.getD i 0 * (bin n i : Rat)).getD i 0 = d.getD i 0 * (bin n i : Rat) := by simp [List.getD_eq_getElem?_getD, show i < n + 1 by omega]
  rw [g] at this
  rcases Rat.mul_eq_zero.mp this with z | z
  · exact z
  · have b := (bin_35 n (by omega) i hi).2
    have : bin n i = 0 := by simpa using z
    omega
theorem mean_inj {n : Nat} (hn : n ≤ 6) {a b : List Rat} (ha : a.length = n + 1) (hb : b.length = n + 1) (h : ∀ x, mean n a x = mean n b x) : a = b := by
  have z := mean_inj0 hn (d := addP a (b.map ((-1) * ·))) (by rw [addP_len, List.length_map]; omega) fun x => by
    rw [mean_add (by rw [List.length_map]; omega), mean_neg, h x]; grind
  apply List.ext_getElem (by omega)
  intro i h1 h2
  have := z i (by omega)
  rw [addP_get, map_get] at this
  simp [List.getD_eq_getElem?_getD, h1, h2] at this
  grind
end HN
end
section
set_option linter.all false
set_option maxRecDepth 100000
set_option maxHeartbeats 1000000
set_option exponentiation.threshold 20000
namespace HN
open PySem L2 HL HM
/-! ### spread_of, spread, spread_at -/
def negsq (n : Nat) (es : List Rat) : List Rat := trim ((trim (mulP (avg n es) (avg n es))).map ((-1) * ·))
def spP (n : Nat) (es : List Rat) : List Rat := trim (addP (avg n (sqs es)) (negsq n es))
theorem spP_nz (n : Nat) (es : List Rat) : Nz (spP n es) := trim_nz _
theorem spP_ev (n : Nat) (es : List Rat) (x : Rat) : ev (spP n es) x = spr n es x := by
  unfold spP negsq spr
  rw [trim_ev, addP_ev, trim_ev, mul_ev, trim_ev, mulP_ev, avg_ev, avg_ev]
  grind
theorem bd_m1 : Bd 1 1 (-1 : Rat) := ⟨-1, by decide +kernel, by decide⟩
theorem PB.sqs {M V : Nat} {es : List Rat} (h : PB M V es) : PB (M * M) (V * V) (sqs es) := fun x hx => by
  obtain ⟨q, hq, rfl⟩ := List.mem_map.mp hx
  exact (h q hq).mul (h q hq)
theorem Est.V5 {n M V : Nat} {es : List Rat} (h : Est n M V es) : V ≤ 99999 := h.s2
theorem Est.szq {n M V : Nat} {es : List Rat} (h : Est n M V es) : Sz (M * M * 60 ^ 20) (10 ^ 60) := by
  refine ⟨Nat.mul_ne_zero (Nat.mul_ne_zero h.z h.z) (by decide), ?_⟩
  refine Nat.lt_of_le_of_lt (Nat.mul_le_mul_left _ (Nat.mul_le_mul_right _ (Nat.mul_le_mul h.s1 h.s1))) ?_
  decide +kernel
theorem Est.vv {n M V : Nat} {es : List Rat} (h : Est n M V es) : V * V ≤ 10000000000 := Nat.le_trans (Nat.mul_le_mul h.V5 h.V5) (by decide)
theorem ten60 : (10 : Nat) ^ 60 = 1000000000000000000000000000000000000000000000000000000000000 := by decide
theorem negsq_pb {n M V : Nat} {es : List Rat} (h : Est n M V es) : PB (M * M) (10 ^ 40) (negsq n es) ∧ (negsq n es).length ≤ 13 ∧ m_multiple_of [.tuple [.int (-1), .int 1], .tuple ((trim (mulP (avg n es) (avg n es))).map HN.fr)] = .ok (.tuple ((negsq n es).map HN.fr)) ∧ m_product_of [.tuple ((avg n es).map HN.fr), .tuple ((avg n es).map HN.fr)] = .ok (.tuple ((trim (mulP (avg n es) (avg n es))).map HN.fr)) := by
  have hl := avg_len h.n6 (Nat.le_of_eq h.l)
  have h6 := h.n6
  have ha := avg_pb h.n6 (Nat.le_of_eq h.l) h.b
  have hv := h.V5
  have hb : PB M (10 ^ 16) (avg n es) := ha.mono (by omega)
  have hm := (hb.mulP hb).trim
  have lm := mulP_deg (avg n es) (avg n es)
  have le7 : (avg n es).length * ((avg n es).length * (10 ^ 16 * 10 ^ 16)) ≤ 10 ^ 40 := by
    have := Nat.mul_le_mul (show (avg n es).length ≤ 7 by omega) (Nat.mul_le_mul_right (10 ^ 16 * 10 ^ 16) (show (avg n es).length ≤ 7 by omega))
    omega
  have hm := hm.mono le7
  have hn := (PB.mul bd_m1 hm).trim
  rw [Nat.one_mul, Nat.one_mul] at hn
  have szq := h.szq.left
  have hlen : (negsq n es).length ≤ 13 := by
    unfold negsq
    refine Nat.le_trans (trim_len _) ?_
    rw [List.length_map]; omega
  refine ⟨hn, hlen, ?_, ?_⟩
  · exact mul_pb bd_m1 hm ⟨by decide, by decide +kernel⟩ (szq.mono (by rw [ten60]; omega)) (by omega)
  · refine prod_pb (by decide) hb hb (szq.left.mono (by rw [ten60]; omega)) (szq.mono (Nat.le_trans le7 (by decide))) (by omega)
theorem spread_of_ok {n M V : Nat} {es : List Rat} (h : Est n M V es) : m_spread_of [.int n, .tuple (es.map HN.fr)] = .ok (.tuple ((spP n es).map HN.fr)) ∧ PB (M * M) (10 ^ 50) (spP n es) ∧ (spP n es).length ≤ 13 := by
  have hl := avg_len h.n6 (Nat.le_of_eq h.l)
  have h6 := h.n6
  have hq := h.b.sqs
  have lq : (sqs es).length ≤ n + 1 := by rw [sqs_len, h.l]; omega
  have hlq := avg_len h.n6 lq
  have hv := h.vv
  have szq := h.szq.left
  have aq := avg_pb h.n6 lq hq
  have aq' : PB (M * M) (10 ^ 40) (avg n (sqs es)) := aq.mono (by omega)
  obtain ⟨b2, l2, e2, e3⟩ := negsq_pb h
  have e1 := average_of_ok h.n6 h.sz1 (Nat.le_of_eq h.l) h.b
  have e4 := average_of_ok h.n6 (M := M * M) (V := V * V) (szq.mono (by rw [ten60]; omega)) lq hq
  have e5 := sum_pb aq' b2 (szq.mono (by rw [ten60]; omega)) (by omega) (by omega)
  have lc : xLc (iSeq (xV 1)) (gN 4) (fun _ => .ok true) (xCall 2 m_times (aC (xV 4) (aC (xV 4) aN))) [4] [some (.int n), some (.tuple (es.map HN.fr)), some (.tuple ((avg n es).map HN.fr)), none, none] = .ok (.list ((sqs es).map HN.fr)) := by
    unfold sqs
    rw [List.map_map]
    refine xLc_ok (f := HN.fr) (by simp) (by rw [h.l]; omega) fun x hx => ⟨[some (.int n), some (.tuple (es.map HN.fr)), some (.tuple ((avg n es).map HN.fr)), none, some (HN.fr x)], by simp [gN, wipeD], ?_⟩
    have sm := (h.sz1.mono (by omega)).sm (h.b x hx)
    simp [times_ok sm sm]
  refine ⟨?_, ?_, ?_⟩
  · refine runF_rt ?_
    unfold g_spread_of
    refine seqN (δ' := [some (.im (.int n)), some (.im (.tuple (es.map HN.fr))), some (.im (.tuple ((avg n es).map HN.fr))), none, none]) (by simp [e1]) ?_
    refine seqN (δ' := [some (.im (.int n)), some (.im (.tuple (es.map HN.fr))), some (.im (.tuple ((avg n es).map HN.fr))), some (.im (.tuple ((avg n (sqs es)).map HN.fr))), none]) (by simp [lc, e4]) ?_
    simp [e2, e3, e5]
    rfl
  · exact (aq'.add b2).trim.mono (by decide)
  · unfold spP
    refine Nat.le_trans (trim_len _) ?_
    rw [addP_len]; omega
theorem spread_ok {n M V : Nat} {es : List Rat} (h : Est n M V es) : m_spread [.int n, .tuple (es.map HN.fr)] = .ok (.tuple ((spP n es).map HN.fr)) := by
  refine runF_rt ?_
  unfold g_spread
  refine seqN (δ' := [some (.im (.int n)), some (.im (.tuple (es.map HN.fr)))]) (by simp [check_estimate_ok h.n1 h.n6 h.l h.fr]) ?_
  simp [(spread_of_ok h).1]
theorem spread_at_ok {n M V : Nat} {es : List Rat} (h : Est n M V es) {p : Rat} (hp : Chc p) : m_spread_at [.int n, .tuple (es.map HN.fr), HN.fr p] = .ok (HN.fr (spr n es p)) := by
  obtain ⟨e1, hb, hl⟩ := spread_of_ok h
  have s : Sz (M * M * p.den ^ (spP n es).length) ((spP n es).length * 10 ^ 50 + 1) := by
    refine (h.szq.mono ?_).low (Nat.mul_ne_zero (Nat.mul_ne_zero h.z h.z) (Nat.pos_iff_ne_zero.mp (Nat.pow_pos (Nat.pos_of_ne_zero p.den_nz)))) (Nat.mul_le_mul_left _ (Nat.le_trans (pow60 hp _) (Nat.pow_le_pow_right (by decide) (by omega))))
    exact Nat.le_trans (Nat.succ_le_succ (Nat.mul_le_mul_right (10 ^ 50) hl)) (by decide)
  have va := value_at_ok hp.bd hb s
  rw [spP_ev] at va
  refine runF_rt ?_
  unfold g_spread_at
  refine seqN (δ' := [some (.im (.int n)), some (.im (.tuple (es.map HN.fr))), some (.im (HN.fr p))]) (by simp [check_estimate_ok h.n1 h.n6 h.l h.fr]) ?_
  refine seqN (δ' := [some (.im (.int n)), some (.im (.tuple (es.map HN.fr))), some (.im (HN.fr p))]) (by simp [check_chance_ok hp]) ?_
  simp [e1, va]
/-- the law's value of the spread -/
theorem Est.spvalue_ok {n M V : Nat} {es : List Rat} (h : Est n M V es) {p : Rat} (hp : Chc p) : m_law_value [.tuple ((spP n es).map HN.fr), HN.fr p] = .ok (HN.fr (spr n es p)) := by
  obtain ⟨e1, hb, hl⟩ := spread_of_ok h
  rw [← spP_ev]
  refine lvalue_ok hp (by omega) hb ?_ (by simp) (fun i hi => hd_tuple (m := (spP n es).length) (by omega) i hi)
  rw [Nat.mul_comm]
  exact h.szq.mono (by decide)
theorem Est.lmean {n M V : Nat} {es : List Rat} (h : Est n M V es) {p : Rat} (hp : Chc p) : Bd (M * p.den ^ n) (8 * (V * 20)) (mean n es p) := by
  unfold mean
  rw [h.l]
  refine (bd_sum (M := M * p.den ^ n) (V := V * 20) fun x hx => ?_).mono ?_
  · obtain ⟨i, hi, rfl⟩ := List.mem_map.mp hx
    exact (h.b.get i).mul (w_bd hp h.n6 (by have := List.mem_range.mp hi; omega))
  · rw [List.length_map, List.length_range]
    exact Nat.mul_le_mul_right _ (by have := h.n6; omega)
theorem Est.mean_sm {n M V : Nat} {es : List Rat} (h : Est n M V es) {p : Rat} (hp : Chc p) : Sm (mean n es p) := by
  refine Sz.sm ?_ (h.lmean hp)
  have h6 := h.n6
  refine (h.sz.mono ?_).low (Nat.mul_ne_zero h.z (Nat.pos_iff_ne_zero.mp (Nat.pow_pos (Nat.pos_of_ne_zero p.den_nz)))) (Nat.mul_le_mul_left _ (Nat.le_trans (pow60 hp _) (Nat.pow_le_pow_right (by decide) (by omega))))
  have e : (10 : Nat) ^ 40 = 10000000000000000000000000000000000000000 := by decide
  omega
theorem sqmean_bd {n M V : Nat} {es : List Rat} (h : Est n M V es) {p : Rat} (hp : Chc p) : Bd (M * M * p.den ^ n) (8 * (V * V * 20)) (mean n (sqs es) p) := by
  unfold mean
  rw [sqs_len, h.l]
  refine (bd_sum (M := M * M * p.den ^ n) (V := V * V * 20) fun x hx => ?_).mono ?_
  · obtain ⟨i, hi, rfl⟩ := List.mem_map.mp hx
    exact (h.b.sqs.get i).mul (w_bd hp h.n6 (by have := List.mem_range.mp hi; omega))
  · rw [List.length_map, List.length_range]
    exact Nat.mul_le_mul_right _ (by have := h.n6; omega)
theorem spr_sm {n M V : Nat} {es : List Rat} (h : Est n M V es) {p : Rat} (hp : Chc p) : Sm (mean n (sqs es) p) ∧ Sm (spr n es p) := by
  have b1 := sqmean_bd h hp
  have b2 := (h.lmean hp).mul (h.lmean hp)
  have h6 := h.n6
  have pz : p.den ^ n ≠ 0 := Nat.pos_iff_ne_zero.mp (Nat.pow_pos (Nat.pos_of_ne_zero p.den_nz))
  have b1' : Bd (M * p.den ^ n * (M * p.den ^ n)) (8 * (V * V * 20)) (mean n (sqs es) p) := by
    have := b1.up (p.den ^ n)
    rw [show M * p.den ^ n * (M * p.den ^ n) = M * M * p.den ^ n * p.den ^ n by rw [Nat.mul_assoc, Nat.mul_left_comm (p.den ^ n), ← Nat.mul_assoc, ← Nat.mul_assoc]]
    exact this
  have b3 : Bd (M * p.den ^ n * (M * p.den ^ n)) (8 * (V * V * 20) + 1 * (8 * (V * 20) * (8 * (V * 20)))) (spr n es p) := by
    have b4 := bd_m1.mul b2
    rw [Nat.one_mul (M * p.den ^ n * (M * p.den ^ n))] at b4
    have := b1'.add b4
    have e : mean n (sqs es) p + -1 * (mean n es p * mean n es p) = spr n es p := by unfold spr; grind
    rw [e] at this
    exact this
  have sz : Sz (M * p.den ^ n * (M * p.den ^ n)) (10 ^ 60) := by
    refine h.szq.low (Nat.mul_ne_zero (Nat.mul_ne_zero h.z pz) (Nat.mul_ne_zero h.z pz)) ?_
    rw [show M * p.den ^ n * (M * p.den ^ n) = M * M * (p.den ^ n * p.den ^ n) by rw [Nat.mul_assoc, Nat.mul_left_comm (p.den ^ n), ← Nat.mul_assoc]]
    refine Nat.mul_le_mul_left _ ?_
    rw [← Nat.pow_add]
    exact Nat.le_trans (pow60 hp _) (Nat.pow_le_pow_right (by decide) (by omega))
  have hv := h.vv
  have hv5 := h.V5
  refine ⟨(sz.mono ?_).sm b1', (sz.mono ?_).sm b3⟩
  · rw [ten60]; omega
  · have : 8 * (V * 20) * (8 * (V * 20)) = 25600 * (V * V) := by
      rw [show 8 * (V * 20) = 160 * V by omega, Nat.mul_assoc, Nat.mul_left_comm V, ← Nat.mul_assoc]
    rw [ten60]; omega
theorem lspread_ok {n M V : Nat} {es : List Rat} (h : Est n M V es) {p : Rat} (hp : Chc p) : m_law_spread [.int n, .tuple (es.map HN.fr), HN.fr p] = .ok (HN.fr (spr n es p)) := by
  have m1 := h.mean_ok hp
  have hs := h.mean_sm hp
  obtain ⟨s1, s2⟩ := spr_sm h hp
  have m2 : m_law_mean [.int n, .list ((sqs es).map HN.fr), HN.fr p] = .ok (HN.fr (mean n (sqs es) p)) := by
    refine lmean_ok hp h.n6 (by rw [sqs_len, h.l]) h.b.sqs ?_ (fun i hi => hd_list (m := n + 1) (by rw [sqs_len, h.l]; omega) i (by omega))
    rw [Nat.mul_comm]
    have := h.vv
    exact h.szq.mono (by rw [ten60]; omega)
  have lc : xLc (iSeq (xV 1)) (gN 5) (fun _ => .ok true) (xCall 2 m_law_times (aC (xV 5) (aC (xV 5) aN))) [5] [some (.int n), some (.tuple (es.map HN.fr)), some (HN.fr p), some (HN.fr (mean n es p)), none, none] = .ok (.list ((sqs es).map HN.fr)) := by
    unfold sqs
    rw [List.map_map]
    refine xLc_ok (f := HN.fr) (by simp) (by rw [h.l]; have := h.n6; omega) fun x hx => ⟨[some (.int n), some (.tuple (es.map HN.fr)), some (HN.fr p), some (HN.fr (mean n es p)), none, some (HN.fr x)], by simp [gN, wipeD], ?_⟩
    have sm := (h.sz1.mono (by omega)).sm (h.b x hx)
    simp [ltimesQ sm sm]
  have nz := (mean n es p).den_nz
  have q2 : SmP (-(mean n es p).num * (mean n es p).num, (mean n es p).den * (mean n es p).den) := by
    refine ⟨Nat.mul_ne_zero nz nz, ?_, ?_⟩
    · show (-(mean n es p).num * (mean n es p).num).natAbs < 2 ^ 4400
      rw [Int.natAbs_mul, Int.natAbs_neg]
      exact Nat.lt_of_lt_of_le (nat_lt_mul hs.n hs.n) (by rw [← Nat.pow_add]; exact Nat.pow_le_pow_right (by decide) (by decide))
    · exact Nat.lt_of_lt_of_le (nat_lt_mul hs.d hs.d) (by rw [← Nat.pow_add]; exact Nat.pow_le_pow_right (by decide) (by decide))
  have pq : pv' (-(mean n es p).num * (mean n es p).num, (mean n es p).den * (mean n es p).den) = -(mean n es p * mean n es p) := by
    show mkRat (-(mean n es p).num * (mean n es p).num) ((mean n es p).den * (mean n es p).den) = _
    rw [Int.neg_mul, ← Rat.neg_mkRat, Rat.mul_def']
  have ls : m_law_sum [.list ([((mean n (sqs es) p).num, (mean n (sqs es) p).den), (-(mean n es p).num * (mean n es p).num, (mean n es p).den * (mean n es p).den)].map pr)] = .ok (HN.fr (spr n es p)) := by
    have ps : PSm 0 [((mean n (sqs es) p).num, (mean n (sqs es) p).den), (-(mean n es p).num * (mean n es p).num, (mean n es p).den * (mean n es p).den)] := by
      refine ⟨sm_0, s1.p, ?_, q2, ?_⟩
      · rw [pv_fr, Rat.zero_add]; exact s1
      · show Sm _
        rw [pv_fr, pq, Rat.zero_add]
        have e : mean n (sqs es) p + -(mean n es p * mean n es p) = spr n es p := by unfold spr; grind
        rw [e]
        exact s2
    have e : lsum [((mean n (sqs es) p).num, (mean n (sqs es) p).den), (-(mean n es p).num * (mean n es p).num, (mean n es p).den * (mean n es p).den)] = spr n es p := by
      show pv' _ + (pv' _ + 0) = _
      rw [pv_fr, pq]
      unfold spr
      grind
    rw [lsum_ok ps, e]
  have ls' : m_law_sum [.list [HN.fr (mean n (sqs es) p), .tuple [.int (-(mean n es p).num * (mean n es p).num), .int ((mean n es p).den * (mean n es p).den : Int)]]] = .ok (HN.fr (spr n es p)) := by
    have := ls
    simp only [List.map_cons, List.map_nil, pr, Int.natCast_mul] at this
    exact this
  have k1 : dMul (.int (-(mean n es p).num)) (.int (mean n es p).num) = .ok (.int (-(mean n es p).num * (mean n es p).num)) := mul_sz (k := 2000) (l := 2000) (by rw [Int.natAbs_neg]; exact hs.n) hs.n (by decide) (by decide) (by decide)
  have k2 : dMul (.int ((mean n es p).den : Nat)) (.int ((mean n es p).den : Nat)) = .ok (.int ((mean n es p).den * (mean n es p).den : Int)) := mul_sz (k := 2000) (l := 2000) (by rw [Int.natAbs_natCast]; exact hs.d) (by rw [Int.natAbs_natCast]; exact hs.d) (by decide) (by decide) (by decide)
  refine runF_rt ?_
  unfold g_law_spread
  refine seqN (δ' := [some (.im (.int n)), some (.im (.tuple (es.map HN.fr))), some (.im (HN.fr p)), some (.im (HN.fr (mean n es p))), none, none]) (by simp [m1]) ?_
  refine seqN (δ' := [some (.im (.int n)), some (.im (.tuple (es.map HN.fr))), some (.im (HN.fr p)), some (.im (HN.fr (mean n es p))), some (.im (HN.fr (mean n (sqs es) p))), none]) (by simp [lc, m2]) ?_
  simp only [sRet_ap, xCall_ap, aC_ap, aN_ap, xA_ap, x1_ap, x2_ap, xC_ap, vw_im, vw_none, vw_nil, xV_s, xV_z, R.bind_ok, fr_0, fr_1, dNeg_int, k1, k2, dTup_2, dLst_2, List.length_cons, List.length_nil, if_pos, ls', fR_ok]
end HN
end
section
set_option linter.all false
set_option maxRecDepth 100000
set_option maxHeartbeats 1000000
namespace HN
open PySem L2 HL HM
/-! ### differences -/
def dif (h : Rat) : List Rat → List Rat
  | [] => []
  | [_] => []
  | _ :: b :: r => addP (addP (0 :: dif h (b :: r)) ((dif h (b :: r)).map (h * ·))) ((b :: r).map ((-h) * ·))
theorem dif_len (h : Rat) : ∀ r, (dif h r).length = r.length - 1
  | [] => rfl
  | [_] => rfl
  | a :: b :: r => by
    have := dif_len h (b :: r)
    simp only [dif, addP_len, List.length_cons, List.length_map, this] at *
    omega
theorem dif_ev (h x : Rat) : ∀ r, ev (dif h r) x = ev r x - ev r (x + h)
  | [] => by simp [dif, ev]; grind
  | [a] => by simp [dif, ev]; grind
  | a :: b :: r => by
    have := dif_ev h x (b :: r)
    rw [dif, addP_ev, addP_ev, mul_ev, mul_ev, ev, this]
    rw [ev, ev]
    simp only [ev]
    grind
theorem dif_lead (h : Rat) : ∀ r : List Rat, (dif h r).getD (r.length - 2) 0 = -((((r.length - 1 : Nat) : Rat)) * h) * (if 2 ≤ r.length then r.getD (r.length - 1) 0 else 0)
  | [] => by simp [dif]
  | [_] => by simp [dif]
  | [a, b] => by
    simp [dif, addP_nil', addP_cons, addP_nil, addP_get]
    grind
  | a :: b :: c :: r => by
    have ih := dif_lead h (b :: c :: r)
    have l := dif_len h (b :: c :: r)
    rw [dif, addP_get, addP_get, map_get, map_get]
    simp only [List.length_cons] at ih l ⊢
    have e1 : r.length + 1 + 1 + 1 - 2 = r.length + 1 := by omega
    have e2 : r.length + 1 + 1 - 2 = r.length := by omega
    have e3 : r.length + 1 + 1 + 1 - 1 = r.length + 2 := by omega
    have e4 : r.length + 1 + 1 - 1 = r.length + 1 := by omega
    rw [e2, e4, if_pos (by omega)] at ih
    rw [e1, e3, if_pos (by omega)]
    have z : (dif h (b :: c :: r)).getD (r.length + 1) 0 = 0 := by
      rw [List.getD_eq_getElem?_getD, List.getElem?_eq_none (by omega)]; rfl
    rw [z]
    simp only [List.getD_cons_succ] at ih ⊢
    rw [ih]
    have e5 : ((r.length + 2 : Nat) : Rat) = ((r.length + 1 : Nat) : Rat) + 1 := by simp; grind
    rw [e5]
    grind
/-- the k-fold difference -/
def difN (h : Rat) : Nat → List Rat → List Rat
  | 0, r => r
  | k + 1, r => dif h (difN h k r)
theorem difN_len (h : Rat) : ∀ k r, (difN h k r).length = r.length - k
  | 0, r => rfl
  | k + 1, r => by rw [difN, dif_len, difN_len h k r]; omega
def sgn (s : Nat) : Int := if s % 2 = 0 then 1 else -1
theorem sgn_succ (s : Nat) : sgn (s + 1) = - sgn s := by unfold sgn; split <;> split <;> omega
def alt (k : Nat) (h : Rat) (f : Rat → Rat) (x : Rat) : Rat := ((List.range (k + 1)).map fun s => (((bin k s : Nat) * sgn s : Int) : Rat) * f (x + (s : Rat) * h)).sum
theorem sum_range_succ (f : Nat → Rat) (n : Nat) : ((List.range (n + 1)).map f).sum = ((List.range n).map f).sum + f n := by
  rw [List.range_succ, List.map_append, List.sum_append]; simp; grind
theorem sum_range_succ' (f : Nat → Rat) (n : Nat) : ((List.range (n + 1)).map f).sum = f 0 + ((List.range n).map fun i => f (i + 1)).sum := by
  rw [List.range_succ_eq_map, List.map_cons, List.sum_cons, List.map_map]; rfl
theorem alt_succ (k : Nat) (h : Rat) (f : Rat → Rat) (x : Rat) : alt (k + 1) h f x = alt k h f x - alt k h f (x + h) := by
  unfold alt
  rw [sum_range_succ' _ (k + 1)]
  have e0 : ∀ s : Nat, (((bin (k + 1) (s + 1) : Nat) * sgn (s + 1) : Int) : Rat) * f (x + ((s + 1 : Nat) : Rat) * h) = (((bin k (s + 1) : Nat) * sgn (s + 1) : Int) : Rat) * f (x + ((s + 1 : Nat) : Rat) * h) + (-1) * ((((bin k s : Nat) * sgn s : Int) : Rat) * f (x + h + (s : Rat) * h)) := fun s => by
    have e1 : x + ((s + 1 : Nat) : Rat) * h = x + h + (s : Rat) * h := by simp; grind
    rw [e1, bin, sgn_succ]
    simp
    grind
  rw [List.map_congr_left (fun s _ => e0 s), sum_add, sum_mul]
  have e2 := sum_range_succ' (fun s => (((bin k s : Nat) * sgn s : Int) : Rat) * f (x + (s : Rat) * h)) (k + 1)
  rw [sum_range_succ] at e2
  rw [bin_gt (Nat.lt_succ_self k)] at e2
  have e3 : bin (k + 1) 0 = bin k 0 := by rw [bin_zero, bin_zero]
  rw [e3]
  have e4 : (((0 : Nat) * sgn (k + 1) : Int) : Rat) * f (x + ((k + 1 : Nat) : Rat) * h) = 0 := by simp
  rw [e4, Rat.add_zero] at e2
  rw [e2]
  grind
theorem alt_ev (h : Rat) (r : List Rat) : ∀ k x, alt k h (ev r) x = ev (difN h k r) x
  | 0, x => by simp [alt, List.range, List.range.loop, bin, sgn, difN]; rw [Rat.add_zero, Rat.add_zero]
  | k + 1, x => by rw [alt_succ, alt_ev h r k, alt_ev h r k, difN, dif_ev]
theorem alt_low {k : Nat} {h : Rat} {r : List Rat} (hr : r.length ≤ k) (x : Rat) : alt k h (ev r) x = 0 := by
  rw [alt_ev]
  have := difN_len h k r
  have e : difN h k r = [] := List.eq_nil_of_length_eq_zero (by omega)
  rw [e]; rfl
theorem difN_lead {h : Rat} (h0 : h ≠ 0) {r : List Rat} {y : Rat} (hy : y ≠ 0) : ∀ {k : Nat}, k ≤ r.length → (difN h k (r ++ [y])).getD (r.length - k) 0 ≠ 0
  | 0, _ => by simpa [difN] using hy
  | k + 1, hk => by
    have ih := difN_lead h0 hy (r := r) (k := k) (by omega)
    have l := difN_len h k (r ++ [y])
    rw [List.length_append, List.length_singleton] at l
    have := dif_lead h (difN h k (r ++ [y]))
    rw [l, if_pos (by omega)] at this
    have e1 : r.length + 1 - k - 2 = r.length - (k + 1) := by omega
    have e2 : r.length + 1 - k - 1 = r.length - k := by omega
    rw [e1, e2] at this
    rw [difN, this]
    intro z
    have hn : ((r.length - k : Nat) : Rat) ≠ 0 := by
      have : r.length - k ≠ 0 := by omega
      exact_mod_cast this
    rcases Rat.mul_eq_zero.mp z with q | q
    · have q : ((r.length - k : Nat) : Rat) * h = 0 := by grind
      rcases Rat.mul_eq_zero.mp q with q | q
      · exact hn q
      · exact h0 q
    · exact ih q
/-- some difference is not 0 -/
theorem alt_high {k L : Nat} {h : Rat} (h0 : h ≠ 0) {r : List Rat} (hz : Nz r) (hl : r.length = L) (hk : k < L) : ∃ f, f < L ∧ alt k h (ev r) ((f : Rat) * h) ≠ 0 := by
  apply Classical.byContradiction
  intro hno
  have hall : ∀ f : Nat, f < L → alt k h (ev r) ((f : Rat) * h) = 0 := fun f hf => Classical.byContradiction fun z => hno ⟨f, hf, z⟩
  rcases hz with z | ⟨s, y, e, hy⟩
  · rw [z] at hl; simp at hl; omega
  · subst e
    rw [List.length_append, List.length_singleton] at hl
    have rt := roots ((List.range L).map fun f : Nat => (f : Rat) * h) (difN h k (s ++ [y])) (by rw [difN_len]; simp; omega) (by
      rw [List.nodup_iff_pairwise_ne, List.pairwise_map]
      refine List.Pairwise.imp ?_ (List.nodup_iff_pairwise_ne.mp (List.nodup_range (n := L)))
      intro a b hab q
      have : (a : Rat) = (b : Rat) := by
        have := congrArg (· / h) q
        simp only [Rat.mul_div_cancel h0] at this
        exact this
      exact hab (by exact_mod_cast this)) (fun c hc => by
      obtain ⟨f, hf, rfl⟩ := List.mem_map.mp hc
      rw [← alt_ev]
      exact hall f (by simpa using hf))
    have := allZ_get rt (s.length - k)
    exact difN_lead h0 hy (by omega) this
end HN
end
section
set_option linter.all false
set_option maxRecDepth 100000
set_option maxHeartbeats 1000000
set_option exponentiation.threshold 20000
namespace HN
open PySem L2 HL HM
theorem xV_get {ρ : En} {i : Nat} {d : D} (h : ρ[i]? = some (some d)) : xV i ρ = .ok d := by unfold xV; rw [h]
theorem fr_int (w : Int) : (PyData.tuple [.int w, .int 1] : D) = fr (w : Rat) := rfl
theorem ev_bd {M P V : Nat} {p : Rat} (hp : Bd P 1 p) : ∀ {r : List Rat}, PB M V r → Bd (M * P ^ r.length) (r.length * V) (ev r p)
  | [], _ => bd_zero
  | a :: r, h => by
    have ih := ev_bd hp (r := r) fun x hx => h x (List.mem_cons_of_mem _ hx)
    have ha := (h a List.mem_cons_self).up (P ^ (r.length + 1))
    have hm := hp.mul ih
    rw [Nat.one_mul] at hm
    have e : P * (M * P ^ r.length) = M * P ^ (r.length + 1) := by rw [Nat.pow_succ]; grind
    rw [e] at hm
    have := ha.add hm
    rw [List.length_cons]
    refine this.mono ?_
    rw [Nat.add_mul]; omega
/-! ### chances with weights -/
def pp (x : Rat × Int) : D := .tuple [fr x.1, .int x.2]
def pS (f : Rat → Rat) (P : List (Rat × Int)) : Rat := (P.map fun x => (x.2 : Rat) * f x.1).sum
structure PpB (m : Nat) (P : List (Rat × Int)) : Prop where
  z : m ≠ 0
  m60 : m ≤ 60
  l : P.length ≤ 20
  b : ∀ x ∈ P, Bd m 1 x.1 ∧ Chc x.1 ∧ x.2.natAbs ≤ 999
theorem sz_m {m e : Nat} (hz : m ≠ 0) (hm : m ≤ 60) (he : e ≤ 20) : Sz (m ^ e) (10 ^ 60) := by
  refine Sz.low (N := 60 ^ 20) ⟨by decide, by decide +kernel⟩ (fun q => hz (Nat.pow_eq_zero.mp q).1) ?_
  exact Nat.le_trans (Nat.pow_le_pow_left hm e) (Nat.pow_le_pow_right (by decide) he)
theorem pS_pb {P : List (Rat × Int)} {B V : Nat} {f : Rat → Rat} (hw : ∀ x ∈ P, x.2.natAbs ≤ 999) (h : ∀ x ∈ P, Bd B V (f x.1)) : PB B (999 * V) (P.map fun x => (x.2 : Rat) * f x.1) := fun y hy => by
  obtain ⟨x, hx, rfl⟩ := List.mem_map.mp hy
  have := (bd_int (hw x hx)).mul (h x hx)
  rwa [Nat.one_mul] at this
theorem psr_P {m e V : Nat} {P : List (Rat × Int)} (h : PpB m P) {f : Rat → Rat} (he : e ≤ 20) (hV : V ≤ 10 ^ 40) (hb : ∀ x ∈ P, Bd (m ^ e) V (f x.1)) : PSr 0 (P.map fun x => (x.2 : Rat) * f x.1) := by
  refine psr_sz (pS_pb (fun x hx => (h.b x hx).2.2) hb) ((sz_m h.z h.m60 he).mono ?_)
  have l := h.l
  rw [List.length_map]
  calc P.length * (999 * V) + 999 * V = (P.length + 1) * (999 * V) := by rw [Nat.add_mul, Nat.one_mul]
    _ ≤ 21 * (999 * 10 ^ 40) := Nat.mul_le_mul (by omega) (Nat.mul_le_mul_left _ hV)
    _ ≤ 10 ^ 60 := by decide
theorem pp_sm {m e V : Nat} {P : List (Rat × Int)} (h : PpB m P) {f : Rat → Rat} (he : e ≤ 20) (hV : V ≤ 10 ^ 40) (hb : ∀ x ∈ P, Bd (m ^ e) V (f x.1)) {x : Rat × Int} (hx : x ∈ P) : Sm (x.2 : Rat) ∧ Sm (f x.1) :=
  ⟨Sz.sm (M := 1) (V := 999) ⟨by decide, by decide +kernel⟩ (bd_int (h.b x hx).2.2), ((sz_m h.z h.m60 he).mono (Nat.le_trans hV (by decide))).sm (hb x hx)⟩
/-- the list of the weighted values, however its parts are called -/
def compP (T G : List D → R D) (iv ir ip iw : Nat) : FE := xLc (iSeq (xV iv)) (g2 ip iw) (fun _ => .ok true) (xCall 2 T (aC (xA dTup (aC (xV iw) (aC (xC (.int 1)) aN))) (aC (xCall 2 G (aC (xV ir) (aC (xV ip) aN))) aN))) [ip, iw]
theorem comp_at {ρ : En} {ip iw i : Nat} {a b d : D} (h : ρ[i]? = some (some d)) (h1 : i ≠ ip) (h2 : i ≠ iw) : xV i (((wipeD ρ [ip, iw]).set ip (some a)).set iw (some b)) = .ok d := by
  refine xV_get ?_
  rw [List.getElem?_set_ne (Ne.symm h2), List.getElem?_set_ne (Ne.symm h1), wipeD_at, if_neg (by simp [h1, h2]), h]
theorem comp_w {ρ : En} {ip iw : Nat} {a b : D} (hw : iw < ρ.length) : xV iw (((wipeD ρ [ip, iw]).set ip (some a)).set iw (some b)) = .ok b :=
  xV_get (List.getElem?_set_self (by simp [wipeD_len, hw]))
theorem comp_p {ρ : En} {ip iw : Nat} {a b : D} (hp : ip < ρ.length) (hn : ip ≠ iw) : xV ip (((wipeD ρ [ip, iw]).set ip (some a)).set iw (some b)) = .ok a :=
  xV_get (by rw [List.getElem?_set_ne (Ne.symm hn)]; exact List.getElem?_set_self (by simp [wipeD_len, hp]))
theorem xLc_pp {ρ : En} {P : List (Rat × Int)} {iv ip iw : Nat} {fe : FE} {F : Rat × Int → D} {d : D} (hv : ρ[iv]? = some (some d)) (hd : dItems d = .ok (P.map pp)) (hp : ip < ρ.length) (hw : iw < ρ.length) (hl : P.length ≤ 1000)
    (h : ∀ x ∈ P, fe (((wipeD ρ [ip, iw]).set ip (some (fr x.1))).set iw (some (.int x.2))) = .ok (F x)) : xLc (iSeq (xV iv)) (g2 ip iw) (fun _ => .ok true) fe [ip, iw] ρ = .ok (.list (P.map F)) := by
  refine xLc_ok (f := pp) (by rw [iSeq_ap, xV_get hv, R.bind_ok, hd]) hl fun x hx => ⟨_, ?_, h x hx⟩
  simp [g2, pp, wipeD_len, hp, hw]
theorem compP_ok {ρ : En} {T G : List D → R D} {P : List (Rat × Int)} {iv ir ip iw : Nat} {f : Rat → Rat} {d rd : D} (hv : ρ[iv]? = some (some d)) (hd : dItems d = .ok (P.map pp)) (hr : ρ[ir]? = some (some rd)) (hp : ip < ρ.length) (hw : iw < ρ.length) (hn : ip ≠ iw) (h1 : ir ≠ ip) (h2 : ir ≠ iw) (hl : P.length ≤ 1000)
    (h : ∀ x ∈ P, G [rd, fr x.1] = .ok (fr (f x.1)) ∧ T [fr (x.2 : Rat), fr (f x.1)] = .ok (fr ((x.2 : Rat) * f x.1))) : compP T G iv ir ip iw ρ = .ok (.list ((P.map fun x => (x.2 : Rat) * f x.1).map fr)) := by
  rw [List.map_map]
  refine xLc_pp hv hd hp hw hl fun x hx => ?_
  obtain ⟨a, b⟩ := h x hx
  simp only [xCall_ap, aC_ap, aN_ap, xA_ap, xC_ap, comp_at hr h1 h2, comp_w hw, comp_p hp hn, R.bind_ok, dTup_2, List.length_cons, List.length_nil, if_pos, a, fr_int]
  simpa using b
/-! ### the package's sums -/
theorem row_bd {m : Nat} {P : List (Rat × Int)} (h : PpB m P) {V : Nat} {row : List Rat} (hr : PB 1 V row) (hl : row.length ≤ 9) (hV : V ≤ 999) {x : Rat × Int} (hx : x ∈ P) : Bd (m ^ 9) 8991 (ev row x.1) := by
  have := (ev_bd (h.b x hx).1 hr).up (m ^ (9 - row.length))
  rw [Nat.one_mul, ← Nat.pow_add, show row.length + (9 - row.length) = 9 by omega] at this
  exact this.mono (Nat.le_trans (Nat.mul_le_mul hl hV) (by decide))
theorem pvalue_ok {m : Nat} {P : List (Rat × Int)} (h : PpB m P) {V : Nat} {row : List Rat} (hr : PB 1 V row) (hl : row.length ≤ 9) (hV : V ≤ 999) {x : Rat × Int} (hx : x ∈ P) : m_value_at [.tuple (row.map fr), fr x.1] = .ok (fr (ev row x.1)) := by
  refine value_at_ok (h.b x hx).1 hr ?_
  rw [Nat.one_mul]
  refine (sz_m h.z h.m60 (by omega)).mono ?_
  exact Nat.le_trans (Nat.succ_le_succ (Nat.mul_le_mul hl hV)) (by decide)
theorem ptot_ok {m : Nat} {P : List (Rat × Int)} (h : PpB m P) {V : Nat} {row : List Rat} (hr : PB 1 V row) (hl : row.length ≤ 9) (hV : V ≤ 999) : m_total [.list ((P.map fun x => (x.2 : Rat) * ev row x.1).map fr)] = .ok (fr (pS (ev row) P)) :=
  total_ok (psr_P h (e := 9) (V := 8991) (by decide) (by decide) fun x hx => row_bd h hr hl hV hx)
theorem pcomp_ok {m : Nat} {P : List (Rat × Int)} (h : PpB m P) {V : Nat} {row : List Rat} (hr : PB 1 V row) (hl : row.length ≤ 9) (hV : V ≤ 999) {ρ : En} {iv ir ip iw : Nat} {d : D} (hv : ρ[iv]? = some (some d)) (hd : dItems d = .ok (P.map pp)) (hrd : ρ[ir]? = some (some (.tuple (row.map fr)))) (hp : ip < ρ.length) (hw : iw < ρ.length) (hn : ip ≠ iw) (h1 : ir ≠ ip) (h2 : ir ≠ iw) :
    (xCall 1 m_total (aC (compP m_times m_value_at iv ir ip iw) aN)) ρ = .ok (fr (pS (ev row) P)) := by
  have c := compP_ok (T := m_times) (G := m_value_at) (f := ev row) hv hd hrd hp hw hn h1 h2 (Nat.le_trans h.l (by decide)) fun x hx => by
    obtain ⟨a, b⟩ := pp_sm h (e := 9) (V := 8991) (f := ev row) (by decide) (by decide) (fun x hx => row_bd h hr hl hV hx) hx
    exact ⟨pvalue_ok h hr hl hV hx, times_ok a b⟩
  simp only [xCall_ap, aC_ap, aN_ap, c, R.bind_ok, List.length_cons, List.length_nil, if_pos]
  exact ptot_ok h hr hl hV
/-! ### a loop that may end early -/
theorem forD_find {α : Type} {γ : D → Es → R Es} {body : Es → Fl} {f : α → D} {p : α → Bool} (r : D) (I : Es → Prop) : ∀ {xs : List α}, (∀ a ∈ xs, ∀ δ, I δ → ∃ δ1, γ (f a) δ = .ok δ1 ∧ (p a = true → body δ1 = .rt r) ∧ (p a = false → ∃ δ2, body δ1 = .nx δ2 ∧ I δ2)) → ∀ δ, I δ →
    (xs.any p = true ∧ forD γ body (xs.map f) δ = .rt r) ∨ (xs.any p = false ∧ ∃ δ2, forD γ body (xs.map f) δ = .nx δ2 ∧ I δ2)
  | [], _, δ, h => .inr ⟨rfl, δ, rfl, h⟩
  | x :: xs, hx, δ, h => by
    obtain ⟨δ1, e1, ht, hf⟩ := hx x List.mem_cons_self δ h
    cases hp : p x with
    | true => exact .inl ⟨by simp [hp], by rw [List.map_cons, forD_rt e1 (ht hp)]⟩
    | false =>
      obtain ⟨δ2, e2, h2⟩ := hf hp
      rcases forD_find r I (fun y hy => hx y (List.mem_cons_of_mem _ hy)) δ2 h2 with ⟨q1, q2⟩ | ⟨q1, δ3, q2, q3⟩
      · exact .inl ⟨by simp [hp, q1], by rw [List.map_cons, forD_cons e1 e2, q2]⟩
      · exact .inr ⟨by simp [hp, q1], δ3, by rw [List.map_cons, forD_cons e1 e2, q2], q3⟩
theorem seqR {g1 g2 : Es → Fl} {δ : Es} {d : D} (h1 : g1 δ = .rt d) : sSeq g1 g2 δ = .rt d := by rw [sSeq_ap, h1, th_rt]
theorem seqE {g1 g2 : Es → Fl} {δ : Es} {d : String} (h1 : g1 δ = .exc d) : sSeq g1 g2 δ = .exc d := by rw [sSeq_ap, h1, th_exc]
/-! ### is_paper -/
def mono (e : Nat) : List Rat := List.replicate e 0 ++ [1]
theorem ev_mono (x : Rat) : ∀ e, ev (mono e) x = x ^ e
  | 0 => by simp [mono, ev]; grind
  | e + 1 => by
    have := ev_mono x e
    unfold mono at this ⊢
    rw [List.replicate_succ, List.cons_append, ev, this, Rat.pow_succ]; grind
theorem mono_len (e : Nat) : (mono e).length = e + 1 := by simp [mono]
theorem mono_pb (e : Nat) : PB 1 1 (mono e) := fun x hx => by
  unfold mono at hx
  rcases List.mem_append.mp hx with h | h
  · rw [List.eq_of_mem_replicate h]; exact bd_zero
  · rw [List.mem_singleton.mp h]; exact bd_one
def isP (n : Nat) (q : List Int) (P : List (Rat × Int)) : Bool := !(List.range (n + 1)).any (fun e => !decide (pS (fun x => x ^ e) P = 0)) && !decide (pS (ev (polyQ q)) P = 0)
theorem mono_fr (e : Nat) : (List.replicate e (fr 0)) ++ [fr 1] = (mono e).map fr := by simp [mono]
theorem num0 (q : Rat) : decide (q.num = 0) = decide (q = 0) := by
  rw [decide_eq_decide]
  exact Rat.num_eq_zero
def bodyC : Es → Fl := sSeq (sIf (yOr (yNot (yTru (x1 (dIsi "tuple") (xV 3)))) (yOr (yBl (x2 dNe (xA dLen (aC (xV 3) aN)) (xC (.int 2)))) (yNot (yTru (xCall 1 m_is_chance (aC (x2 dIx (xV 3) (xC (.int 0))) aN)))))) (sRet (xC (.bool false))) sNil)
  (sIf (yNot (yTru (xCall 3 m_in_range (aC (x2 dIx (xV 3) (xC (.int 1))) (aC (x1 dNeg (xC (.int 999))) (aC (xC (.int 999)) aN)))))) (sRet (xC (.bool false))) sNil)
def bodyX : Es → Fl := sSeq (sAsg 5 (x2 dAddA (x2 dRepT (xA dTup (aC (xA dTup (aC (xC (.int 0)) (aC (xC (.int 1)) aN))) aN)) (xV 4)) (xA dTup (aC (xA dTup (aC (xC (.int 1)) (aC (xC (.int 1)) aN))) aN))))
  (sIf (yBl (x2 dNe (x2 dIx (xCall 1 m_total (aC (compP m_times m_value_at 2 5 6 7) aN)) (xC (.int 0))) (xC (.int 0)))) (sRet (xC (.bool false))) sNil)
theorem g_is_paper_eq : g_is_paper = sSeq (sExp (xCall 1 m_check_trials (aC (xV 0) aN))) (sSeq (sExp (xCall 1 m_check_quantity (aC (xV 1) aN)))
  (sSeq (sIf (yNot (yTru (x1 (dIsi "tuple") (xV 2)))) (sRet (xC (.bool false))) sNil) (sSeq (sFor (iSeq (xV 2)) (hN 3) bodyC) (sSeq (sFor (iA dR1 (aC (x2 dAddA (xV 0) (xC (.int 1))) aN)) (hN 4) bodyX)
  (sSeq (sAsg 5 (xCall 1 m_polynomial_of (aC (xV 1) aN))) (sRet (x2 dNe (x2 dIx (xCall 1 m_total (aC (compP m_times m_value_at 2 5 6 7) aN)) (xC (.int 0))) (xC (.int 0))))))))) := (rfl)
theorem pp_isi (x : Rat × Int) : dIsi "tuple" (pp x) = .ok (.bool true) := isi_tt _
theorem pp_len (x : Rat × Int) : dLen [pp x] = .ok (.int 2) := (rfl)
theorem pp_0 (x : Rat × Int) : dIx (pp x) (.int 0) = .ok (fr x.1) := dIx_t0 _ _
theorem pp_1 (x : Rat × Int) : dIx (pp x) (.int 1) = .ok (.int x.2) := dIx_t1 _ _ _
theorem bodyC_ok {x : Rat × Int} (h1 : Chc x.1) (h2 : x.2.natAbs ≤ 999) {a b c e f g k : Option Sl} : bodyC [a, b, c, some (.im (pp x)), e, f, g, k] = .nx [a, b, c, some (.im (pp x)), e, f, g, k] := by
  have r : m_in_range [.int x.2, .int (-999), .int 999] = .ok (.bool true) := by rw [in_range_ok]; simp; omega
  unfold bodyC
  refine seqN (δ' := [a, b, c, some (.im (pp x)), e, f, g, k]) ?_ ?_
  · simp only [sIf_ap, yOr_ap, yNot_ap, yTru_ap, yBl_ap, x1_ap, x2_ap, xA_ap, xC_ap, xCall_ap, aC_ap, aN_ap, vw, List.map_cons, sw, xV_s, xV_z, R.bind_ok, pp_isi, pp_len, pp_0, dTru_bool, is_chance_ok h1, dNe_int, dBl_bool, List.length_cons, List.length_nil, if_pos]
    simp
  · simp only [sIf_ap, yOr_ap, yNot_ap, yTru_ap, yBl_ap, x1_ap, x2_ap, xA_ap, xC_ap, xCall_ap, aC_ap, aN_ap, vw, List.map_cons, sw, xV_s, xV_z, R.bind_ok, pp_1, dNeg_int, r, List.length_cons, List.length_nil, if_pos]
    simp
theorem is_paper_ok {m n c : Nat} {q : List Int} {P : List (Rat × Int)} (h : PpB m P) (h1 : 1 ≤ n) (h6 : n ≤ 6) (hc : c ≤ 99) (hq : Qty c q) (hl : q.length ≤ 9) : m_is_paper [.int n, .tuple (q.map .int), .tuple (P.map pp)] = .ok (.bool (isP n q P)) := by
  have ct := check_trials_ok (n := (n : Int)) (by omega) (by omega)
  have cq := check_quantity_ok hc hq hl
  have po := polynomial_of_ok (q := q) (by omega)
  refine runF_rt ?_
  rw [g_is_paper_eq]
  show sSeq _ _ [some (.im (.int n)), some (.im (.tuple (q.map .int))), some (.im (.tuple (P.map pp))), none, none, none, none, none] = _
  refine seqN (δ' := [some (.im (.int n)), some (.im (.tuple (q.map .int))), some (.im (.tuple (P.map pp))), none, none, none, none, none]) (by simp [ct]) ?_
  refine seqN (δ' := [some (.im (.int n)), some (.im (.tuple (q.map .int))), some (.im (.tuple (P.map pp))), none, none, none, none, none]) (by simp [cq]) ?_
  refine seqN (δ' := [some (.im (.int n)), some (.im (.tuple (q.map .int))), some (.im (.tuple (P.map pp))), none, none, none, none, none]) (by simp) ?_
  obtain ⟨δ3, e3, ⟨o3, rfl⟩⟩ := forD_all (γ := hN 3) (body := bodyC) (fun δ => ∃ o3, δ = [some (.im (.int n)), some (.im (.tuple (q.map .int))), some (.im (.tuple (P.map pp))), o3, none, none, none, none]) (xs := P.map pp) (fun x hx δ hδ => by
    obtain ⟨y, hy, rfl⟩ := List.mem_map.mp hx
    obtain ⟨o, rfl⟩ := hδ
    exact ⟨_, _, by simp [hN], bodyC_ok (h.b y hy).2.1 (h.b y hy).2.2, ⟨_, rfl⟩⟩) _ ⟨none, rfl⟩
  refine seqN (δ' := [some (.im (.int n)), some (.im (.tuple (q.map .int))), some (.im (.tuple (P.map pp))), o3, none, none, none, none]) (by rw [sFor_ap]; simp only [iSeq_ap, v0_im, xV_s, xV_z, R.bind_ok, dItems_tuple, fR_ok]; exact e3) ?_
  have rg : dR1 [.int ((n : Int) + 1)] = .ok ((List.range (n + 1)).map fun t : Nat => .int ((t : Nat) : Int)) := dr_Z (by omega) (by omega)
  have lp := forD_find (γ := hN 4) (body := bodyX) (f := fun t : Nat => (PyData.int ((t : Nat) : Int) : D)) (p := fun e => !decide (pS (fun x => x ^ e) P = 0)) (.bool false) (fun δ => ∃ o4 o5, δ = [some (.im (.int n)), some (.im (.tuple (q.map .int))), some (.im (.tuple (P.map pp))), o3, o4, o5, none, none]) (xs := List.range (n + 1)) (fun e he δ hδ => by
    obtain ⟨o4, o5, rfl⟩ := hδ
    have hen : e ≤ n := by have := List.mem_range.mp he; omega
    have rep : dRepT (.tuple [fr 0]) (.int ((e : Nat) : Int)) = .ok (.tuple (List.replicate e (fr 0))) := by rw [dRepT_ok rfl (by omega) (by decide), rep1]
    have add : dAddA (.tuple (List.replicate e (fr 0))) (.tuple [fr 1]) = .ok (.tuple ((mono e).map fr)) := by rw [dAddA_tt (by simp; omega), mono_fr]
    have pc := pcomp_ok h (mono_pb e) (by rw [mono_len]; omega) (by decide) (ρ := [some (.int n), some (.tuple (q.map .int)), some (.tuple (P.map pp)), sw o3, some (.int ((e : Nat) : Int)), some (.tuple ((mono e).map fr)), none, none]) (iv := 2) (ir := 5) (ip := 6) (iw := 7) (d := .tuple (P.map pp)) rfl rfl rfl (by simp) (by simp) (by decide) (by decide) (by decide)
    have ee : pS (ev (mono e)) P = pS (fun x => x ^ e) P := by unfold pS; simp only [ev_mono]
    rw [ee] at pc
    refine ⟨[some (.im (.int n)), some (.im (.tuple (q.map .int))), some (.im (.tuple (P.map pp))), o3, some (.im (.int ((e : Nat) : Int))), o5, none, none], by simp [hN], ?_⟩
    have st : (sAsg 5 (x2 dAddA (x2 dRepT (xA dTup (aC (xA dTup (aC (xC (.int 0)) (aC (xC (.int 1)) aN))) aN)) (xV 4)) (xA dTup (aC (xA dTup (aC (xC (.int 1)) (aC (xC (.int 1)) aN))) aN)))) [some (.im (.int n)), some (.im (.tuple (q.map .int))), some (.im (.tuple (P.map pp))), o3, some (.im (.int ((e : Nat) : Int))), o5, none, none] = .nx [some (.im (.int n)), some (.im (.tuple (q.map .int))), some (.im (.tuple (P.map pp))), o3, some (.im (.int ((e : Nat) : Int))), some (.im (.tuple ((mono e).map fr))), none, none] := by
      simp only [sAsg_ap, x2_ap, xA_ap, aC_ap, aN_ap, xC_ap, v0, List.map_cons, s0, xV_s, xV_z, R.bind_ok, dTup_2, dTup_1]
      rw [show (PyData.tuple [.int 0, .int 1] : D) = fr 0 from rfl, show (PyData.tuple [.int 1, .int 1] : D) = fr 1 from rfl, rep, R.bind_ok, add, fR_ok]
      rfl
    have st2 : (sIf (yBl (x2 dNe (x2 dIx (xCall 1 m_total (aC (compP m_times m_value_at 2 5 6 7) aN)) (xC (.int 0))) (xC (.int 0)))) (sRet (xC (.bool false))) sNil) [some (.im (.int n)), some (.im (.tuple (q.map .int))), some (.im (.tuple (P.map pp))), o3, some (.im (.int ((e : Nat) : Int))), some (.im (.tuple ((mono e).map fr))), none, none] = if (!decide (pS (fun x => x ^ e) P = 0)) = true then .rt (.bool false) else .nx [some (.im (.int n)), some (.im (.tuple (q.map .int))), some (.im (.tuple (P.map pp))), o3, some (.im (.int ((e : Nat) : Int))), some (.im (.tuple ((mono e).map fr))), none, none] := by
      have hv : vw [some (.im (.int n)), some (.im (.tuple (q.map .int))), some (.im (.tuple (P.map pp))), o3, some (.im (.int ((e : Nat) : Int))), some (.im (.tuple ((mono e).map fr))), none, none] = [some (.int n), some (.tuple (q.map .int)), some (.tuple (P.map pp)), sw o3, some (.int ((e : Nat) : Int)), some (.tuple ((mono e).map fr)), none, none] := rfl
      rw [sIf_ap, hv, yBl_ap, x2_ap, x2_ap, pc, R.bind_ok, xC_ap, R.bind_ok, fr_0, R.bind_ok, R.bind_ok, dNe_int, R.bind_ok, dBl_bool, fR_ok, num0]
      rfl
    refine ⟨fun ht => ?_, fun hf => ⟨[some (.im (.int n)), some (.im (.tuple (q.map .int))), some (.im (.tuple (P.map pp))), o3, some (.im (.int ((e : Nat) : Int))), some (.im (.tuple ((mono e).map fr))), none, none], ?_, ⟨_, _, rfl⟩⟩⟩
    · unfold bodyX
      refine seqN st ?_
      rw [st2, if_pos ht]
    · unfold bodyX
      refine seqN st ?_
      rw [st2, if_neg (by rw [hf]; exact Bool.false_ne_true)]) [some (.im (.int n)), some (.im (.tuple (q.map .int))), some (.im (.tuple (P.map pp))), o3, none, none, none, none] ⟨_, _, rfl⟩
  have fo : ∀ r, forD (hN 4) bodyX ((List.range (n + 1)).map fun t : Nat => (PyData.int ((t : Nat) : Int) : D)) [some (.im (.int n)), some (.im (.tuple (q.map .int))), some (.im (.tuple (P.map pp))), o3, none, none, none, none] = r → sFor (iA dR1 (aC (x2 dAddA (xV 0) (xC (.int 1))) aN)) (hN 4) bodyX [some (.im (.int n)), some (.im (.tuple (q.map .int))), some (.im (.tuple (P.map pp))), o3, none, none, none, none] = r := fun r hr => by
    rw [sFor_ap]
    simp only [iA_ap, aC_ap, aN_ap, x2_ap, xC_ap, v0, List.map_cons, s0, xV_z, R.bind_ok, dAddA_int, rg, fR_ok]
    exact hr
  unfold isP
  rcases lp with ⟨a1, a2⟩ | ⟨a1, δ2, a2, o4, o5, rfl⟩
  · rw [a1]
    exact seqR (fo _ a2)
  · rw [a1]
    refine seqN (fo _ a2) ?_
    refine seqN (δ' := [some (.im (.int n)), some (.im (.tuple (q.map .int))), some (.im (.tuple (P.map pp))), o3, o4, some (.im (.tuple ((polyQ q).map fr))), none, none]) ?_ ?_
    · simp only [sAsg_ap, xCall_ap, aC_ap, aN_ap, v0, List.map_cons, s0, xV_s, xV_z, R.bind_ok, List.length_cons, List.length_nil, if_pos, po, fR_ok]
      rfl
    · have pc := pcomp_ok h (rowB_int (q := q) (fun x hx => by have := hq.rng x hx; omega)).b (by rw [polyQ_len]; exact hl) (by decide) (ρ := [some (.int n), some (.tuple (q.map .int)), some (.tuple (P.map pp)), sw o3, sw o4, some (.tuple ((polyQ q).map fr)), none, none]) (iv := 2) (ir := 5) (ip := 6) (iw := 7) (d := .tuple (P.map pp)) rfl rfl rfl (by simp) (by simp) (by decide) (by decide) (by decide)
      have hv : vw [some (.im (.int n)), some (.im (.tuple (q.map .int))), some (.im (.tuple (P.map pp))), o3, o4, some (.im (.tuple ((polyQ q).map fr))), none, none] = [some (.int n), some (.tuple (q.map .int)), some (.tuple (P.map pp)), sw o3, sw o4, some (.tuple ((polyQ q).map fr)), none, none] := rfl
      rw [sRet_ap, hv, x2_ap, x2_ap, pc, R.bind_ok, xC_ap, R.bind_ok, fr_0, R.bind_ok, R.bind_ok, dNe_int, fR_ok, num0]
      rfl
end HN
end
section
set_option linter.all false
set_option maxRecDepth 100000
set_option maxHeartbeats 1000000
set_option exponentiation.threshold 20000
namespace HN
open PySem L2 HL HM
theorem chc_mk {a m : Nat} (hm : m ≠ 0) (h : a ≤ m) (h60 : m ≤ 60) : Chc (mkRat a m) ∧ Bd m 1 (mkRat a m) := by
  have hb : Bd m 1 (mkRat a m) := bd_div hm ⟨1, by omega⟩ (by omega)
  obtain ⟨n1, n2⟩ := bd_num hm hb
  have n0 : 0 ≤ (mkRat a m).num := by
    rw [Rat.num_mkRat, if_neg hm]
    exact Int.ediv_nonneg (by omega) (by omega)
  have n3 : (mkRat a m).num ≤ (mkRat a m).den := by
    rw [Rat.num_mkRat, Rat.den_mkRat, if_neg hm, if_neg hm, Int.natCast_ediv]
    exact Int.ediv_le_ediv (by have : 0 < Nat.gcd m (a : Int).natAbs := Nat.gcd_pos_of_pos_left _ (by omega); omega) (by omega)
  exact ⟨⟨n0, n3, by omega⟩, hb⟩
/-! ### loops that append, loops that return at the first -/
theorem forD_app {α : Type} {γ : D → Es → R Es} {body : Es → Fl} {f F : α → D} (B : Nat) (I : List D → Es → Prop) : ∀ {xs : List α}, (∀ a ∈ xs, ∀ acc δ, acc.length < B → I acc δ → ∃ δ1 δ2, γ (f a) δ = .ok δ1 ∧ body δ1 = .nx δ2 ∧ I (acc ++ [F a]) δ2) → ∀ acc δ, acc.length + xs.length ≤ B → I acc δ →
    ∃ δ2, forD γ body (xs.map f) δ = .nx δ2 ∧ I (acc ++ xs.map F) δ2
  | [], _, acc, δ, _, h => ⟨δ, rfl, by simpa using h⟩
  | x :: xs, hx, acc, δ, hB, h => by
    rw [List.length_cons] at hB
    obtain ⟨δ1, δ2, e1, e2, h2⟩ := hx x List.mem_cons_self acc δ (by omega) h
    obtain ⟨δ3, e3, h3⟩ := forD_app B I (fun y hy => hx y (List.mem_cons_of_mem _ hy)) (acc ++ [F x]) δ2 (by simp; omega) h2
    exact ⟨δ3, by rw [List.map_cons, forD_cons e1 e2, e3], by simpa using h3⟩
theorem forD_first {α : Type} {γ : D → Es → R Es} {body : Es → Fl} {f : α → D} {p : α → Bool} {r : α → D} (I : Es → Prop) : ∀ {xs : List α}, (∀ a ∈ xs, ∀ δ, I δ → ∃ δ1, γ (f a) δ = .ok δ1 ∧ (p a = true → body δ1 = .rt (r a)) ∧ (p a = false → ∃ δ2, body δ1 = .nx δ2 ∧ I δ2)) → ∀ δ, I δ → xs.any p = true →
    ∃ a ∈ xs, p a = true ∧ forD γ body (xs.map f) δ = .rt (r a)
  | [], _, δ, h, z => by cases z
  | x :: xs, hx, δ, h, z => by
    obtain ⟨δ1, e1, ht, hf⟩ := hx x List.mem_cons_self δ h
    cases hp : p x with
    | true => exact ⟨x, List.mem_cons_self, hp, by rw [List.map_cons, forD_rt e1 (ht hp)]⟩
    | false =>
      obtain ⟨δ2, e2, h2⟩ := hf hp
      rw [List.any_cons, hp, Bool.false_or] at z
      obtain ⟨a, ha, h3, h4⟩ := forD_first I (fun y hy => hx y (List.mem_cons_of_mem _ hy)) δ2 h2 z
      exact ⟨a, List.mem_cons_of_mem _ ha, h3, by rw [List.map_cons, forD_cons e1 e2, h4]⟩
/-! ### the package's papers -/
def paperAt (n L f : Nat) : List (Rat × Int) := (List.range (n + 2)).map fun s => (mkRat ((f + s : Nat) : Int) (L + n + 1), (bin (n + 1) s : Int) * sgn s)
theorem mk_split (a m : Nat) (hm : m ≠ 0) : mkRat (a : Int) m = (a : Rat) * mkRat 1 m := by
  rw [Rat.mkRat_eq_div, Rat.mkRat_eq_div]
  have e : (((a : Nat) : Int) : Rat) = (a : Rat) := rfl
  rw [e, Rat.div_def, Rat.div_def]
  have e1 : ((1 : Int) : Rat) = 1 := rfl
  rw [e1, Rat.one_mul]
theorem paper_alt (g : Rat → Rat) (n L f : Nat) : pS g (paperAt n L f) = alt (n + 1) (mkRat 1 (L + n + 1)) g ((f : Rat) * mkRat 1 (L + n + 1)) := by
  unfold pS paperAt alt
  rw [List.map_map]
  refine sum_congr fun s hs => ?_
  show (((bin (n + 1) s : Int) * sgn s : Int) : Rat) * g (mkRat ((f + s : Nat) : Int) (L + n + 1)) = _
  rw [mk_split _ _ (by omega)]
  congr 2
  simp
  grind
theorem bin_le35 {n s : Nat} (hn : n ≤ 6) : bin (n + 1) s ≤ 35 := by
  by_cases h : s ≤ n + 1
  · exact (bin_35 (n + 1) (by omega) s h).1
  · rw [bin_gt (by omega)]; omega
theorem paper_b {n L f : Nat} (hn : n ≤ 6) (hL : L ≤ 9) (hf : f < L) : PpB (L + n + 1) (paperAt n L f) := by
  refine ⟨by omega, by omega, by simp [paperAt]; omega, fun x hx => ?_⟩
  obtain ⟨s, hs, rfl⟩ := List.mem_map.mp hx
  have hs := List.mem_range.mp hs
  obtain ⟨a, b⟩ := chc_mk (a := f + s) (m := L + n + 1) (by omega) (by omega) (by omega)
  refine ⟨b, a, ?_⟩
  show ((bin (n + 1) s : Int) * sgn s).natAbs ≤ 999
  have := bin_le35 (s := s) hn
  rw [Int.natAbs_mul]
  have e : (sgn s).natAbs = 1 := by unfold sgn; split <;> rfl
  rw [e]; omega
theorem paper_low {n L f : Nat} {r : List Rat} (hr : r.length ≤ n + 1) : pS (ev r) (paperAt n L f) = 0 := by rw [paper_alt, alt_low hr]
theorem mk1_nz {m : Nat} (hm : m ≠ 0) : mkRat 1 m ≠ 0 := by
  intro h
  have := (Rat.mkRat_eq_zero hm).mp h
  cases this
theorem polyQ_nz {c : Nat} {q : List Int} (h : Qty c q) : Nz (polyQ q) := by
  rcases h.last with e | ⟨r, x, e, hx⟩
  · left; rw [e]; rfl
  · right
    refine ⟨polyQ r, (x : Rat), by rw [e]; simp [polyQ], ?_⟩
    intro z
    exact hx (by exact_mod_cast z)
theorem paper_isP {n c f : Nat} {q : List Int} (h : pS (ev (polyQ q)) (paperAt n q.length f) ≠ 0) : isP n q (paperAt n q.length f) = true := by
  unfold isP
  rw [Bool.and_eq_true, Bool.not_eq_true', Bool.not_eq_true', decide_eq_false_iff_not]
  refine ⟨?_, h⟩
  rw [List.any_eq_false]
  intro e he
  have he := List.mem_range.mp he
  have := paper_low (n := n) (L := q.length) (f := f) (r := mono e) (by rw [mono_len]; omega)
  unfold pS at this ⊢
  simp only [ev_mono] at this
  simp [this]
def bodyG : Es → Fl := sSeq (sAsg 5 (x2 dMul (xCall 2 m_choices (aC (x2 dAddA (xV 0) (xC (.int 1))) (aC (xV 4) aN))) (xIf (yBl (x2 dEq (x2 dMod (xV 4) (xC (.int 2))) (xC (.int 0)))) (xC (.int 1)) (x1 dNeg (xC (.int 1))))))
  (sApp 3 (xA dTup (aC (xCall 2 m_reduced (aC (x2 dAddA (xV 2) (xV 4)) (aC (x2 dAddA (x2 dAddA (xA dLen (aC (xV 1) aN)) (xV 0)) (xC (.int 1))) aN))) (aC (xV 5) aN))))
def bodyF : Es → Fl := sSeq (sAsgO 3 (aLst aN)) (sSeq (sFor (iA dR1 (aC (x2 dAddA (xV 0) (xC (.int 2))) aN)) (hN 4) bodyG)
  (sIf (yBl (x2 dNe (x2 dIx (xCall 1 m_total (aC (compP m_times m_value_at 3 1 6 5) aN)) (xC (.int 0))) (xC (.int 0)))) (sRet (xA dTupOf (aC (xV 3) aN))) sNil))
theorem g_paper_of_eq : g_paper_of = sSeq (sFor (iA dR1 (aC (xA dLen (aC (xV 1) aN)) aN)) (hN 2) bodyF) (sRet (xC .none)) := (rfl)
theorem sgn_if (s : Nat) : (if decide ((s : Int) % 2 = 0) = true then (.ok (.int 1) : R D) else .ok (.int (-1))) = .ok (.int (sgn s)) := by
  unfold sgn
  by_cases h : s % 2 = 0
  · have : (s : Int) % 2 = 0 := by omega
    simp [this, h]
  · have : ¬ (s : Int) % 2 = 0 := by omega
    simp [this, h]
theorem bodyG_ok {n L f s : Nat} {row acc : List D} (hn : n ≤ 6) (hL : row.length = L) (hL9 : L ≤ 9) (hf : f ≤ 9) (hs : s ≤ 8) (ha : acc.length < 1000) {o5 o6 : Option Sl} :
    bodyG [some (.im (.int n)), some (.im (.tuple row)), some (.im (.int (f : Nat))), some (.ow acc), some (.im (.int (s : Nat))), o5, o6] = .nx [some (.im (.int n)), some (.im (.tuple row)), some (.im (.int (f : Nat))), some (.ow (acc ++ [pp (mkRat ((f + s : Nat) : Int) (L + n + 1), (bin (n + 1) s : Int) * sgn s)])), some (.im (.int (s : Nat))), some (.im (.int ((bin (n + 1) s : Int) * sgn s))), o6] := by
  have ch := choices_ok (n := n + 1) (k := s) (by omega) (by omega)
  have e1 : ((n : Int) + 1) = ((n + 1 : Nat) : Int) := by omega
  have md : dMod (.int (s : Int)) (.int 2) = .ok (.int ((s : Int) % 2)) := dMod_ok (by decide)
  have mu : dMul (.int ((bin (n + 1) s : Nat) : Int)) (.int (sgn s)) = .ok (.int ((bin (n + 1) s : Int) * sgn s)) := dMul_r (by unfold sgn; split <;> decide)
  have re := reduced_ok (a := ((f + s : Nat) : Int)) (b := L + n + 1) (by omega) (Nat.lt_of_lt_of_le (show L + n + 1 < 2 ^ 5 by omega) (Nat.pow_le_pow_right (by decide) (by decide)))
  have e2 : ((f : Int) + (s : Int)) = ((f + s : Nat) : Int) := by omega
  have e3 : (((L : Nat) : Int) + (n : Int) + 1) = ((L + n + 1 : Nat) : Int) := by omega
  unfold bodyG
  refine seqN (δ' := [some (.im (.int n)), some (.im (.tuple row)), some (.im (.int (f : Nat))), some (.ow acc), some (.im (.int (s : Nat))), some (.im (.int ((bin (n + 1) s : Int) * sgn s))), o6]) ?_ ?_
  · simp only [sAsg_ap, x2_ap, x1_ap, xIf_ap, yBl_ap, xCall_ap, xC_ap, aC_ap, aN_ap, v0, List.map_cons, s0, xV_s, xV_z, R.bind_ok, dAddA_int, e1, List.length_cons, List.length_nil, if_pos, ch, md, dEq_int, dBl_bool, dNeg_int]
    rw [sgn_if, R.bind_ok, mu, fR_ok]
    rfl
  · rw [sApp_ap]
    simp only [owAt_s, owAt_z, xA_ap, x2_ap, xCall_ap, xC_ap, aC_ap, aN_ap, v0, List.map_cons, s0, xV_s, xV_z, R.bind_ok, dAddA_int, dLen_tuple, hL, e2, e3, List.length_cons, List.length_nil, if_pos, re, dTup_2, fR_ok, ha]
    rfl
theorem paper_of_ok {n c : Nat} {q : List Int} (hn : n ≤ 6) (hc : c ≤ 99) (hq : Qty c q) (hl : q.length ≤ 9) (hd : n + 1 < q.length) : ∃ f, f < q.length ∧ pS (ev (polyQ q)) (paperAt n q.length f) ≠ 0 ∧ m_paper_of [.int n, .tuple ((polyQ q).map fr)] = .ok (.tuple ((paperAt n q.length f).map pp)) := by
  have hb := (rowB_int (q := q) (fun x hx => by have := hq.rng x hx; omega)).b
  have ln : ((polyQ q).map fr).length = q.length := by rw [List.length_map, polyQ_len]
  have key := forD_first (γ := hN 2) (body := bodyF) (f := fun t : Nat => (PyData.int ((t : Nat) : Int) : D)) (p := fun f => !decide (pS (ev (polyQ q)) (paperAt n q.length f) = 0)) (r := fun f => (PyData.tuple ((paperAt n q.length f).map pp) : D)) (fun δ => ∃ o2 o3 o4 o5 o6, δ = [some (.im (.int n)), some (.im (.tuple ((polyQ q).map fr))), o2, o3, o4, o5, o6]) (xs := List.range q.length) (fun f hf δ hδ => by
    have hf := List.mem_range.mp hf
    obtain ⟨o2, o3, o4, o5, o6, rfl⟩ := hδ
    refine ⟨[some (.im (.int n)), some (.im (.tuple ((polyQ q).map fr))), some (.im (.int (f : Nat))), o3, o4, o5, o6], by simp [hN], ?_⟩
    have ap := forD_app (γ := hN 4) (body := bodyG) (f := fun t : Nat => (PyData.int ((t : Nat) : Int) : D)) (F := fun s : Nat => pp (mkRat ((f + s : Nat) : Int) (q.length + n + 1), (bin (n + 1) s : Int) * sgn s)) 1000 (fun acc δ => ∃ o4 o5, δ = [some (.im (.int n)), some (.im (.tuple ((polyQ q).map fr))), some (.im (.int (f : Nat))), some (.ow acc), o4, o5, o6]) (xs := List.range (n + 2)) (fun s hs acc δ ha hδ => by
      have hs := List.mem_range.mp hs
      obtain ⟨o4, o5, rfl⟩ := hδ
      exact ⟨_, _, by simp [hN]; rfl, bodyG_ok hn ln hl (by omega) (by omega) ha, ⟨_, _, rfl⟩⟩) [] _ (by simp; omega) ⟨o4, o5, rfl⟩
    obtain ⟨δ2, e2, p4, p5, rfl⟩ := ap
    have en : ([] : List D) ++ (List.range (n + 2)).map (fun s : Nat => pp (mkRat ((f + s : Nat) : Int) (q.length + n + 1), (bin (n + 1) s : Int) * sgn s)) = (paperAt n q.length f).map pp := by
      unfold paperAt; rw [List.map_map]; rfl
    rw [en] at e2
    have B := paper_b (n := n) (L := q.length) (f := f) hn hl hf
    have pc := pcomp_ok B hb (by rw [polyQ_len]; exact hl) (by decide) (ρ := [some (.int n), some (.tuple ((polyQ q).map fr)), some (.int (f : Nat)), some (.list ((paperAt n q.length f).map pp)), sw p4, sw p5, sw o6]) (iv := 3) (ir := 1) (ip := 6) (iw := 5) (d := .list ((paperAt n q.length f).map pp)) rfl rfl rfl (by simp) (by simp) (by decide) (by decide) (by decide)
    have rg : dR1 [.int ((n : Int) + 2)] = .ok ((List.range (n + 2)).map fun t : Nat => .int ((t : Nat) : Int)) := dr_Z (by omega) (by omega)
    have fin : bodyF [some (.im (.int n)), some (.im (.tuple ((polyQ q).map fr))), some (.im (.int (f : Nat))), o3, o4, o5, o6] = if (!decide (pS (ev (polyQ q)) (paperAt n q.length f) = 0)) = true then .rt (.tuple ((paperAt n q.length f).map pp)) else .nx [some (.im (.int n)), some (.im (.tuple ((polyQ q).map fr))), some (.im (.int (f : Nat))), some (.ow ((paperAt n q.length f).map pp)), p4, p5, o6] := by
      unfold bodyF
      refine seqN (δ' := [some (.im (.int n)), some (.im (.tuple ((polyQ q).map fr))), some (.im (.int (f : Nat))), some (.ow []), o4, o5, o6]) (by simp) ?_
      refine seqN (δ' := [some (.im (.int n)), some (.im (.tuple ((polyQ q).map fr))), some (.im (.int (f : Nat))), some (.ow ((paperAt n q.length f).map pp)), p4, p5, o6]) ?_ ?_
      · rw [sFor_ap]
        simp only [iA_ap, aC_ap, aN_ap, x2_ap, xC_ap, v0, List.map_cons, s0, xV_z, R.bind_ok, dAddA_int, rg, fR_ok]
        exact e2
      · have hv : vw [some (.im (.int n)), some (.im (.tuple ((polyQ q).map fr))), some (.im (.int (f : Nat))), some (.ow ((paperAt n q.length f).map pp)), p4, p5, o6] = [some (.int n), some (.tuple ((polyQ q).map fr)), some (.int (f : Nat)), some (.list ((paperAt n q.length f).map pp)), sw p4, sw p5, sw o6] := rfl
        rw [sIf_ap, hv, yBl_ap, x2_ap, x2_ap, pc, R.bind_ok, xC_ap, R.bind_ok, fr_0, R.bind_ok, R.bind_ok, dNe_int, R.bind_ok, dBl_bool, fR_ok, num0]
        rfl
    refine ⟨fun ht => by rw [fin, if_pos ht], fun hf' => ⟨_, by rw [fin, if_neg (by rw [hf']; exact Bool.false_ne_true)], ⟨_, _, _, _, _, rfl⟩⟩⟩) [some (.im (.int n)), some (.im (.tuple ((polyQ q).map fr))), none, none, none, none, none] ⟨_, _, _, _, _, rfl⟩ (by
    obtain ⟨f, hf, hz⟩ := alt_high (k := n + 1) (L := q.length) (h := mkRat 1 (q.length + n + 1)) (mk1_nz (by omega)) (polyQ_nz hq) (polyQ_len q) hd
    rw [List.any_eq_true]
    refine ⟨f, List.mem_range.mpr hf, ?_⟩
    rw [paper_alt]
    simp [hz])
  obtain ⟨f, hf, hp, e⟩ := key
  refine ⟨f, List.mem_range.mp hf, by simpa using hp, runF_rt ?_⟩
  rw [g_paper_of_eq]
  show sSeq _ _ [some (.im (.int n)), some (.im (.tuple ((polyQ q).map fr))), none, none, none, none, none] = _
  refine seqR ?_
  rw [sFor_ap]
  simp only [iA_ap, aC_ap, aN_ap, xA_ap, v0, List.map_cons, s0, xV_s, xV_z, R.bind_ok, dLen_tuple, ln, dr_N (show q.length ≤ 1000 by omega), fR_ok]
  exact e
theorem paper_ok {n c : Nat} {q : List Int} (h1 : 1 ≤ n) (hn : n ≤ 6) (hc : c ≤ 99) (hq : Qty c q) (hl : q.length ≤ 9) (hd : n + 1 < q.length) : ∃ f, f < q.length ∧ pS (ev (polyQ q)) (paperAt n q.length f) ≠ 0 ∧ m_paper [.int n, .tuple (q.map .int)] = .ok (.tuple ((paperAt n q.length f).map pp)) := by
  obtain ⟨f, hf, hp, e⟩ := paper_of_ok hn hc hq hl hd
  refine ⟨f, hf, hp, runF_rt ?_⟩
  unfold g_paper
  have ct := check_trials_ok (n := (n : Int)) (by omega) (by omega)
  have cq := check_quantity_ok hc hq hl
  have po := polynomial_of_ok (q := q) (by omega)
  have hg : ¬ ((q.length : Int) ≤ (n : Int) + 1) := by omega
  refine seqN (δ' := [some (.im (.int n)), some (.im (.tuple (q.map .int)))]) (by simp [ct]) ?_
  refine seqN (δ' := [some (.im (.int n)), some (.im (.tuple (q.map .int)))]) (by simp [cq]) ?_
  refine seqN (δ' := [some (.im (.int n)), some (.im (.tuple (q.map .int)))]) (by simp [hg]) ?_
  simp [po, e]
theorem paper_has {n c : Nat} {q : List Int} (h1 : 1 ≤ n) (hn : n ≤ 6) (hc : c ≤ 99) (hq : Qty c q) (hl : q.length ≤ n + 1) : m_paper [.int n, .tuple (q.map .int)] = .exc "HasEstimate" := by
  refine runF_exc ?_
  unfold g_paper
  have ct := check_trials_ok (n := (n : Int)) (by omega) (by omega)
  have cq := check_quantity_ok hc hq (by omega)
  have hg : ((q.length : Int) ≤ (n : Int) + 1) := by omega
  refine seqN (δ' := [some (.im (.int n)), some (.im (.tuple (q.map .int)))]) (by simp [ct]) ?_
  refine seqN (δ' := [some (.im (.int n)), some (.im (.tuple (q.map .int)))]) (by simp [cq]) ?_
  exact seqE (by simp [hg])
/-! ### the value of a quantity, found by the law -/
theorem worth_ok {q : List Int} {c : Nat} (hc : c ≤ 99) (hq : Qty c q) (hl : q.length ≤ 9) {p : Rat} (hp : Chc p) : m_law_worth [.tuple (q.map .int), fr p] = .ok (fr (ev (polyQ q) p)) := by
  have hb := (rowB_int (q := q) (fun x hx => by have := hq.rng x hx; omega)).b
  have ln := polyQ_len q
  have lc : xLc (iSeq (xV 0)) (gN 2) (fun _ => .ok true) (xA dTup (aC (xV 2) (aC (xC (.int 1)) aN))) [2] [some (.tuple (q.map .int)), some (fr p), none] = .ok (.list (q.map fun z : Int => fr (z : Rat))) :=
    xLc_ok (f := PyData.int) (by simp) (by omega) fun a ha => ⟨[some (.tuple (q.map .int)), some (fr p), some (.int a)], by simp [gN, wipeD], by simp; rfl⟩
  have e : q.map (fun z : Int => fr (z : Rat)) = (polyQ q).map fr := by unfold polyQ; rw [List.map_map]; rfl
  rw [e] at lc
  have va := lvalue_ok hp (r := polyQ q) (by omega) hb ⟨by decide, by decide +kernel⟩ (d := .list ((polyQ q).map fr)) (by rw [dLen_list, List.length_map]) (hd_list (by omega))
  refine runF_rt ?_
  unfold g_law_worth
  simp only [List.map_cons, List.map_nil, List.replicate, List.cons_append, List.nil_append, sRet_ap, xCall_ap, aC_ap, aN_ap, vw_im, vw_none, vw_nil, xV_s, xV_z, R.bind_ok, lc, List.length_cons, List.length_nil, if_pos, va, fR_ok]
end HN
end
section
set_option linter.all false
set_option maxRecDepth 100000
set_option maxHeartbeats 2000000
set_option exponentiation.threshold 20000
namespace HN
open PySem L2 HL HM
theorem mom_0_0 (x : Rat) : ((List.range (0 + 1)).map fun k => mkRat (dF k 0) (dF 0 0) * w 0 k x).sum = x ^ 0 := by
  simp [List.range, List.range.loop, w, bin, dF, Rat.mkRat_eq_div]
  grind
theorem mom_1_0 (x : Rat) : ((List.range (1 + 1)).map fun k => mkRat (dF k 0) (dF 1 0) * w 1 k x).sum = x ^ 0 := by
  simp [List.range, List.range.loop, w, bin, dF, Rat.mkRat_eq_div]
  grind
theorem mom_1_1 (x : Rat) : ((List.range (1 + 1)).map fun k => mkRat (dF k 1) (dF 1 1) * w 1 k x).sum = x ^ 1 := by
  simp [List.range, List.range.loop, w, bin, dF, Rat.mkRat_eq_div]
  grind
theorem mom_2_0 (x : Rat) : ((List.range (2 + 1)).map fun k => mkRat (dF k 0) (dF 2 0) * w 2 k x).sum = x ^ 0 := by
  simp [List.range, List.range.loop, w, bin, dF, Rat.mkRat_eq_div]
  grind
theorem mom_2_1 (x : Rat) : ((List.range (2 + 1)).map fun k => mkRat (dF k 1) (dF 2 1) * w 2 k x).sum = x ^ 1 := by
  simp [List.range, List.range.loop, w, bin, dF, Rat.mkRat_eq_div]
  grind
theorem mom_2_2 (x : Rat) : ((List.range (2 + 1)).map fun k => mkRat (dF k 2) (dF 2 2) * w 2 k x).sum = x ^ 2 := by
  simp [List.range, List.range.loop, w, bin, dF, Rat.mkRat_eq_div]
  grind
theorem mom_3_0 (x : Rat) : ((List.range (3 + 1)).map fun k => mkRat (dF k 0) (dF 3 0) * w 3 k x).sum = x ^ 0 := by
  simp [List.range, List.range.loop, w, bin, dF, Rat.mkRat_eq_div]
  grind
theorem mom_3_1 (x : Rat) : ((List.range (3 + 1)).map fun k => mkRat (dF k 1) (dF 3 1) * w 3 k x).sum = x ^ 1 := by
  simp [List.range, List.range.loop, w, bin, dF, Rat.mkRat_eq_div]
  grind
theorem mom_3_2 (x : Rat) : ((List.range (3 + 1)).map fun k => mkRat (dF k 2) (dF 3 2) * w 3 k x).sum = x ^ 2 := by
  simp [List.range, List.range.loop, w, bin, dF, Rat.mkRat_eq_div]
  grind
theorem mom_3_3 (x : Rat) : ((List.range (3 + 1)).map fun k => mkRat (dF k 3) (dF 3 3) * w 3 k x).sum = x ^ 3 := by
  simp [List.range, List.range.loop, w, bin, dF, Rat.mkRat_eq_div]
  grind
theorem mom_4_0 (x : Rat) : ((List.range (4 + 1)).map fun k => mkRat (dF k 0) (dF 4 0) * w 4 k x).sum = x ^ 0 := by
  simp [List.range, List.range.loop, w, bin, dF, Rat.mkRat_eq_div]
  grind
theorem mom_4_1 (x : Rat) : ((List.range (4 + 1)).map fun k => mkRat (dF k 1) (dF 4 1) * w 4 k x).sum = x ^ 1 := by
  simp [List.range, List.range.loop, w, bin, dF, Rat.mkRat_eq_div]
  grind
theorem mom_4_2 (x : Rat) : ((List.range (4 + 1)).map fun k => mkRat (dF k 2) (dF 4 2) * w 4 k x).sum = x ^ 2 := by
  simp [List.range, List.range.loop, w, bin, dF, Rat.mkRat_eq_div]
  grind
theorem mom_4_3 (x : Rat) : ((List.range (4 + 1)).map fun k => mkRat (dF k 3) (dF 4 3) * w 4 k x).sum = x ^ 3 := by
  simp [List.range, List.range.loop, w, bin, dF, Rat.mkRat_eq_div]
  grind
theorem mom_4_4 (x : Rat) : ((List.range (4 + 1)).map fun k => mkRat (dF k 4) (dF 4 4) * w 4 k x).sum = x ^ 4 := by
  simp [List.range, List.range.loop, w, bin, dF, Rat.mkRat_eq_div]
  grind
theorem mom_5_0 (x : Rat) : ((List.range (5 + 1)).map fun k => mkRat (dF k 0) (dF 5 0) * w 5 k x).sum = x ^ 0 := by
  simp [List.range, List.range.loop, w, bin, dF, Rat.mkRat_eq_div]
  grind
theorem mom_5_1 (x : Rat) : ((List.range (5 + 1)).map fun k => mkRat (dF k 1) (dF 5 1) * w 5 k x).sum = x ^ 1 := by
  simp [List.range, List.range.loop, w, bin, dF, Rat.mkRat_eq_div]
  grind
theorem mom_5_2 (x : Rat) : ((List.range (5 + 1)).map fun k => mkRat (dF k 2) (dF 5 2) * w 5 k x).sum = x ^ 2 := by
  simp [List.range, List.range.loop, w, bin, dF, Rat.mkRat_eq_div]
  grind
theorem mom_5_3 (x : Rat) : ((List.range (5 + 1)).map fun k => mkRat (dF k 3) (dF 5 3) * w 5 k x).sum = x ^ 3 := by
  simp [List.range, List.range.loop, w, bin, dF, Rat.mkRat_eq_div]
  grind
theorem mom_5_4 (x : Rat) : ((List.range (5 + 1)).map fun k => mkRat (dF k 4) (dF 5 4) * w 5 k x).sum = x ^ 4 := by
  simp [List.range, List.range.loop, w, bin, dF, Rat.mkRat_eq_div]
  grind
theorem mom_5_5 (x : Rat) : ((List.range (5 + 1)).map fun k => mkRat (dF k 5) (dF 5 5) * w 5 k x).sum = x ^ 5 := by
  simp [List.range, List.range.loop, w, bin, dF, Rat.mkRat_eq_div]
  grind
theorem mom_6_0 (x : Rat) : ((List.range (6 + 1)).map fun k => mkRat (dF k 0) (dF 6 0) * w 6 k x).sum = x ^ 0 := by
  simp [List.range, List.range.loop, w, bin, dF, Rat.mkRat_eq_div]
  grind
theorem mom_6_1 (x : Rat) : ((List.range (6 + 1)).map fun k => mkRat (dF k 1) (dF 6 1) * w 6 k x).sum = x ^ 1 := by
  simp [List.range, List.range.loop, w, bin, dF, Rat.mkRat_eq_div]
  grind
theorem mom_6_2 (x : Rat) : ((List.range (6 + 1)).map fun k => mkRat (dF k 2) (dF 6 2) * w 6 k x).sum = x ^ 2 := by
  simp [List.range, List.range.loop, w, bin, dF, Rat.mkRat_eq_div]
  grind
theorem mom_6_3 (x : Rat) : ((List.range (6 + 1)).map fun k => mkRat (dF k 3) (dF 6 3) * w 6 k x).sum = x ^ 3 := by
  simp [List.range, List.range.loop, w, bin, dF, Rat.mkRat_eq_div]
  grind
theorem mom_6_4 (x : Rat) : ((List.range (6 + 1)).map fun k => mkRat (dF k 4) (dF 6 4) * w 6 k x).sum = x ^ 4 := by
  simp [List.range, List.range.loop, w, bin, dF, Rat.mkRat_eq_div]
  grind
theorem mom_6_5 (x : Rat) : ((List.range (6 + 1)).map fun k => mkRat (dF k 5) (dF 6 5) * w 6 k x).sum = x ^ 5 := by
  simp [List.range, List.range.loop, w, bin, dF, Rat.mkRat_eq_div]
  grind
theorem mom_6_6 (x : Rat) : ((List.range (6 + 1)).map fun k => mkRat (dF k 6) (dF 6 6) * w 6 k x).sum = x ^ 6 := by
  simp [List.range, List.range.loop, w, bin, dF, Rat.mkRat_eq_div]
  grind
theorem moment : ∀ {n : Nat}, n ≤ 6 → ∀ {e : Nat}, e ≤ n → ∀ x : Rat, ((List.range (n + 1)).map fun k => mkRat (dF k e) (dF n e) * w n k x).sum = x ^ e := by
  intro n hn e he x
  match n, hn, e, he with
  | 0, _, 0, _ => exact mom_0_0 x
  | 1, _, 0, _ => exact mom_1_0 x
  | 1, _, 1, _ => exact mom_1_1 x
  | 2, _, 0, _ => exact mom_2_0 x
  | 2, _, 1, _ => exact mom_2_1 x
  | 2, _, 2, _ => exact mom_2_2 x
  | 3, _, 0, _ => exact mom_3_0 x
  | 3, _, 1, _ => exact mom_3_1 x
  | 3, _, 2, _ => exact mom_3_2 x
  | 3, _, 3, _ => exact mom_3_3 x
  | 4, _, 0, _ => exact mom_4_0 x
  | 4, _, 1, _ => exact mom_4_1 x
  | 4, _, 2, _ => exact mom_4_2 x
  | 4, _, 3, _ => exact mom_4_3 x
  | 4, _, 4, _ => exact mom_4_4 x
  | 5, _, 0, _ => exact mom_5_0 x
  | 5, _, 1, _ => exact mom_5_1 x
  | 5, _, 2, _ => exact mom_5_2 x
  | 5, _, 3, _ => exact mom_5_3 x
  | 5, _, 4, _ => exact mom_5_4 x
  | 5, _, 5, _ => exact mom_5_5 x
  | 6, _, 0, _ => exact mom_6_0 x
  | 6, _, 1, _ => exact mom_6_1 x
  | 6, _, 2, _ => exact mom_6_2 x
  | 6, _, 3, _ => exact mom_6_3 x
  | 6, _, 4, _ => exact mom_6_4 x
  | 6, _, 5, _ => exact mom_6_5 x
  | 6, _, 6, _ => exact mom_6_6 x
theorem terms_mean {n : Nat} (hn : n ≤ 6) (x : Rat) : ∀ (row : List Rat) (e : Nat), e + row.length ≤ n + 1 → ((List.range (n + 1)).map fun k => (terms n k e row).sum * w n k x).sum = x ^ e * ev row x
  | [], e, _ => by
    rw [sum_zero (fun k _ => by simp [terms])]
    simp [ev]
  | a :: r, e, h => by
    rw [List.length_cons] at h
    have ih := terms_mean hn x r (e + 1) (by omega)
    have m := moment hn (e := e) (by omega) x
    have e1 : ∀ k, (terms n k e (a :: r)).sum * w n k x = a * (mkRat (dF k e) (dF n e) * w n k x) + (terms n k (e + 1) r).sum * w n k x := fun k => by
      rw [terms, List.sum_cons]; grind
    rw [List.map_congr_left (fun k _ => e1 k), sum_add, sum_mul, ih, m, ev, Rat.pow_succ]
    grind
theorem hon_get {n k : Nat} {row : List Rat} (hk : k ≤ n) : (hon n row).getD k 0 = hv n k row := by
  unfold hon
  rw [List.getD_eq_getElem?_getD, List.getElem?_map, List.getElem?_range (by omega)]
  rfl
theorem hon_mean {n : Nat} (hn : n ≤ 6) {row : List Rat} (hl : row.length ≤ n + 1) (x : Rat) : mean n (hon n row) x = ev row x := by
  have := terms_mean hn x row 0 (by omega)
  unfold mean
  rw [hon_len]
  rw [List.map_congr_left (g := fun k => (terms n k 0 row).sum * w n k x) (fun k hk => by rw [hon_get (by have := List.mem_range.mp hk; omega)]; rfl), this, Rat.pow_zero, Rat.one_mul]
theorem hon_avg {n : Nat} (hn : n ≤ 6) {row : List Rat} (hz : Nz row) (hl : row.length ≤ n + 1) : avg n (hon n row) = row := by
  refine uniq (avg_nz _ _) hz fun x => ?_
  rw [avg_ev, hon_mean hn hl]
/-! ### sharper bounds of honest estimates -/
theorem dF_mono {n k : Nat} (hk : k ≤ n) : ∀ e, dF k e ≤ dF n e
  | 0 => Nat.le_refl _
  | e + 1 => Nat.mul_le_mul (dF_mono hk e) (by omega)
theorem ratio1 {n k e : Nat} (hn : n ≤ 6) (hk : k ≤ n) (he : e ≤ n) : Bd 720 1 (mkRat (dF k e) (dF n e)) := by
  have t := dF_table n hn e he
  have p : 0 < dF n e := dF_pos he
  refine bd_div (by omega) t.1 ?_
  have := dF_mono hk e
  omega
theorem terms1 {n k M V : Nat} (hn : n ≤ 6) (hk : k ≤ n) : ∀ (row : List Rat) (e : Nat), e + row.length ≤ n + 1 → (∀ x ∈ row, Bd M V x) → ∀ x ∈ terms n k e row, Bd (M * 720) V x
  | [], _, _, _, x, hx => by cases hx
  | a :: r, e, h, hb, x, hx => by
    rw [List.length_cons] at h
    rw [terms] at hx
    rcases List.mem_cons.mp hx with z | z
    · subst z
      have := (hb a List.mem_cons_self).mul (ratio1 hn hk (show e ≤ n by omega))
      rwa [Nat.mul_one] at this
    · exact terms1 hn hk r (e + 1) (by omega) (fun y hy => hb y (List.mem_cons_of_mem _ hy)) x z
theorem hon_pb {n M V : Nat} {row : List Rat} (h : PB M V row) (hn : n ≤ 6) (hl : row.length ≤ n + 1) : PB (M * 720) (7 * V) (hon n row) := fun x hx => by
  unfold hon at hx
  obtain ⟨k, hk, rfl⟩ := List.mem_map.mp hx
  have hk := List.mem_range.mp hk
  refine (bd_sum (terms1 hn (by omega) row 0 (by omega) h)).mono ?_
  rw [terms_len]
  exact Nat.mul_le_mul_right _ (by omega)
theorem int_pb {c : Nat} {q : List Int} (h : Qty c q) : PB 1 c (polyQ q) := fun x hx => by
  unfold polyQ at hx
  obtain ⟨z, hz, rfl⟩ := List.mem_map.mp hx
  exact bd_int (by have := h.rng z hz; omega)
theorem hon_est {n : Nat} {q : List Int} (h1 : 1 ≤ n) (hn : n ≤ 6) (hq : Qty 9 q) (hl : q.length ≤ n + 1) : Est n 720 64 (hon n (polyQ q)) := by
  refine Est.of h1 hn (hon_len _ _) ?_ (by decide) (by decide) (by decide)
  have := hon_pb (int_pb hq) hn (by rw [polyQ_len]; exact hl)
  rw [Nat.one_mul] at this
  exact this.mono (by decide)
/-! ### honest, can_estimate, is_honest -/
theorem honest_no {n c : Nat} {q : List Int} (h1 : 1 ≤ n) (hn : n ≤ 6) (hc : c ≤ 99) (hq : Qty c q) (hl : q.length ≤ 9) (hd : n + 1 < q.length) : m_honest [.int n, .tuple (q.map .int)] = .exc "NoEstimate" := by
  refine runF_exc ?_
  unfold g_honest
  have ct := check_trials_ok (n := (n : Int)) (by omega) (by omega)
  have cq := check_quantity_ok hc hq hl
  have hg : ((n : Int) + 1 < (q.length : Int)) := by omega
  refine seqN (δ' := [some (.im (.int n)), some (.im (.tuple (q.map .int)))]) (by simp [ct]) ?_
  refine seqN (δ' := [some (.im (.int n)), some (.im (.tuple (q.map .int)))]) (by simp [cq]) ?_
  exact seqE (by simp [hg])
theorem can_ok {n c : Nat} {q : List Int} (h1 : 1 ≤ n) (hn : n ≤ 6) (hc : c ≤ 99) (hq : Qty c q) (hl : q.length ≤ 9) : m_can_estimate [.int n, .tuple (q.map .int)] = .ok (.bool (decide ((q.length : Int) ≤ (n : Int) + 1))) := by
  refine runF_rt ?_
  unfold g_can_estimate
  have ct := check_trials_ok (n := (n : Int)) (by omega) (by omega)
  have cq := check_quantity_ok hc hq hl
  refine seqN (δ' := [some (.im (.int n)), some (.im (.tuple (q.map .int)))]) (by simp [ct]) ?_
  refine seqN (δ' := [some (.im (.int n)), some (.im (.tuple (q.map .int)))]) (by simp [cq]) ?_
  simp
theorem are_est {n M V : Nat} {es : List Rat} (h : Est n M V es) : m_are_values [.tuple (es.map fr), .int ((n : Int) + 1)] = .ok (.bool true) := by
  have e2 := are_values_ok h.fr (by have := h.l; have := h.n6; omega)
  rw [h.l] at e2
  rw [show ((n : Int) + 1) = ((n + 1 : Nat) : Int) by omega]
  exact e2
theorem is_honest_ok {n c M V : Nat} {q : List Int} {es : List Rat} (h : Est n M V es) (hc : c ≤ 99) (hq : Qty c q) (hl : q.length ≤ 9) : m_is_honest [.int n, .tuple (q.map .int), .tuple (es.map HN.fr)] = .ok (.bool (decide (avg n es = polyQ q))) := by
  have n1 := h.n1
  have n6 := h.n6
  have ct := check_trials_ok (n := (n : Int)) (by omega) (by omega)
  have cq := check_quantity_ok hc hq hl
  have po := polynomial_of_ok (q := q) (by omega)
  refine runF_rt ?_
  unfold g_is_honest
  refine seqN (δ' := [some (.im (.int n)), some (.im (.tuple (q.map .int))), some (.im (.tuple (es.map HN.fr)))]) (by simp [ct]) ?_
  refine seqN (δ' := [some (.im (.int n)), some (.im (.tuple (q.map .int))), some (.im (.tuple (es.map HN.fr)))]) (by simp [cq]) ?_
  refine seqN (δ' := [some (.im (.int n)), some (.im (.tuple (q.map .int))), some (.im (.tuple (es.map HN.fr)))]) (by simp [are_est h]) ?_
  simp [average_of_ok h.n6 h.sz1 (Nat.le_of_eq h.l) h.b, po]
/-! ### what is caught -/
theorem decided0_ok {n c : Nat} {q : List Int} (h1 : 1 ≤ n) (hn : n ≤ 6) (hc : c ≤ 99) (hq : Qty c q) (hl : q.length ≤ n + 1) : m_law_decided [.int 0, .int n, .tuple (q.map .int)] = .ok (.tuple ((hon n (polyQ q)).map fr)) := by
  have e := honest_ok h1 hn hc hq hl
  refine runF_rt ?_
  unfold g_law_decided sTry
  simp [e]
theorem decided0_no {n c : Nat} {q : List Int} (h1 : 1 ≤ n) (hn : n ≤ 6) (hc : c ≤ 99) (hq : Qty c q) (hl : q.length ≤ 9) (hd : n + 1 < q.length) : m_law_decided [.int 0, .int n, .tuple (q.map .int)] = .ok (.str (Str.ofString "no")) := by
  have e := honest_no h1 hn hc hq hl hd
  refine runF_rt ?_
  unfold g_law_decided sTry
  simp [e, hdl, subX]
theorem decided1_ok {n c : Nat} {q : List Int} (h1 : 1 ≤ n) (hn : n ≤ 6) (hc : c ≤ 99) (hq : Qty c q) (hl : q.length ≤ 9) (hd : n + 1 < q.length) : ∃ f, f < q.length ∧ pS (ev (polyQ q)) (paperAt n q.length f) ≠ 0 ∧ m_law_decided [.int 1, .int n, .tuple (q.map .int)] = .ok (.tuple ((paperAt n q.length f).map pp)) := by
  obtain ⟨f, hf, hp, e⟩ := paper_ok h1 hn hc hq hl hd
  refine ⟨f, hf, hp, runF_rt ?_⟩
  unfold g_law_decided sTry
  simp [e]
theorem decided1_has {n c : Nat} {q : List Int} (h1 : 1 ≤ n) (hn : n ≤ 6) (hc : c ≤ 99) (hq : Qty c q) (hl : q.length ≤ n + 1) : m_law_decided [.int 1, .int n, .tuple (q.map .int)] = .ok (.str (Str.ofString "has")) := by
  have e := paper_has h1 hn hc hq hl
  refine runF_rt ?_
  unfold g_law_decided sTry
  simp [e, hdl, subX]
/-! ### the failing chance -/
def dRow (n : Nat) (es : List Rat) (q : List Int) : List Rat := trim (addP (avg n es) (trim ((polyQ q).map ((-1) * ·))))
theorem dRow_ev (n : Nat) (es : List Rat) (q : List Int) (x : Rat) : ev (dRow n es q) x = mean n es x - ev (polyQ q) x := by
  unfold dRow
  rw [trim_ev, addP_ev, trim_ev, mul_ev, avg_ev]; grind
theorem dRow_nil {n c : Nat} {es : List Rat} {q : List Int} (hq : Qty c q) : dRow n es q = [] ↔ avg n es = polyQ q := by
  constructor
  · intro h
    refine uniq (avg_nz _ _) (polyQ_nz hq) fun x => ?_
    have := dRow_ev n es q x
    rw [h] at this
    rw [avg_ev]
    simp only [ev] at this
    grind
  · intro h
    have hz : Nz (dRow n es q) := trim_nz _
    refine uniq hz (.inl rfl) fun x => ?_
    rw [dRow_ev, ← avg_ev, h]
    simp only [ev]
    grind
theorem dRow_len {n M V : Nat} {q : List Int} {es : List Rat} (h : Est n M V es) (hl : q.length ≤ 9) : (dRow n es q).length ≤ 9 := by
  have a := avg_len h.n6 (Nat.le_of_eq h.l)
  have b := trim_len ((polyQ q).map ((-1) * ·))
  rw [List.length_map, polyQ_len] at b
  have c := trim_len (addP (avg n es) (trim ((polyQ q).map ((-1) * ·))))
  rw [addP_len] at c
  have := h.n6
  unfold dRow
  omega
theorem dRow_ok {n c M V : Nat} {q : List Int} {es : List Rat} (h : Est n M V es) (hc : c ≤ 99) (hq : Qty c q) (hl : q.length ≤ 9) : PB M (7 * (V * 10000000000) + 99) (dRow n es q) ∧ m_multiple_of [.tuple [.int (-1), .int 1], .tuple ((polyQ q).map HN.fr)] = .ok (.tuple ((trim ((polyQ q).map ((-1) * ·))).map HN.fr)) ∧
    m_sum_of [.tuple ((avg n es).map HN.fr), .tuple ((trim ((polyQ q).map ((-1) * ·))).map HN.fr)] = .ok (.tuple ((dRow n es q).map HN.fr)) := by
  have n6 := h.n6
  have pa := avg_pb h.n6 (Nat.le_of_eq h.l) h.b
  have pq := (int_pb hq).mono hc
  have pm := (PB.mul bd_m1 pq).trim
  rw [Nat.one_mul, Nat.one_mul] at pm
  have pm' := pm.up M
  rw [Nat.one_mul] at pm'
  have la := avg_len h.n6 (Nat.le_of_eq h.l)
  have lb := trim_len ((polyQ q).map ((-1) * ·))
  rw [List.length_map, polyQ_len] at lb
  have sz : Sz M (7 * (V * 10000000000) + 99) := h.sz.left.mono (by
    have e : (10 : Nat) ^ 40 = 10000000000000000000000000000000000000000 := by decide
    omega)
  refine ⟨(pa.add pm').trim, ?_, sum_pb pa pm' sz (by omega) (by omega)⟩
  exact mul_pb bd_m1 pq ⟨by decide, by decide +kernel⟩ ⟨by decide, by decide +kernel⟩ (by rw [polyQ_len]; omega)
theorem dRow_val {n c M V : Nat} {q : List Int} {es : List Rat} (h : Est n M V es) (hc : c ≤ 99) (hq : Qty c q) (hl : q.length ≤ 9) {k : Nat} (hk : k ≤ 16) : m_value_at [.tuple ((dRow n es q).map HN.fr), HN.fr (mkRat k 16)] = .ok (HN.fr (ev (dRow n es q) (mkRat k 16))) := by
  obtain ⟨pb, _, _⟩ := dRow_ok h hc hq hl
  have ln := dRow_len (q := q) h hl
  refine value_at_ok (chc_mk (a := k) (m := 16) (by decide) hk (by decide)).2 pb ?_
  refine (h.sz.mono ?_).low (Nat.mul_ne_zero h.z (fun z => by have := (Nat.pow_eq_zero.mp z).1; omega)) (Nat.mul_le_mul_left _ (Nat.le_trans (Nat.pow_le_pow_left (show 16 ≤ 60 by decide) _) (Nat.pow_le_pow_right (by decide) (by omega))))
  have := Nat.mul_le_mul_right (7 * (V * 10000000000) + 99) ln
  have e : (10 : Nat) ^ 40 = 10000000000000000000000000000000000000000 := by decide
  omega
theorem least {P : Nat → Prop} : ∀ {k : Nat}, P k → ∃ c, c ≤ k ∧ P c ∧ ∀ j, j < c → ¬ P j := by
  intro k
  induction k using Nat.strongRecOn with
  | ind k ih =>
    intro h
    by_cases hh : ∃ j, j < k ∧ P j
    · obtain ⟨j, hj, pj⟩ := hh
      obtain ⟨c, c1, c2, c3⟩ := ih j hj pj
      exact ⟨c, by omega, c2, c3⟩
    · exact ⟨k, Nat.le_refl _, h, fun j hj pj => hh ⟨j, hj, pj⟩⟩
def sixt (m : Nat) : List Rat := (List.range m).map fun i : Nat => mkRat i 16
theorem sixt_nodup (m : Nat) : (sixt m).Nodup := by
  unfold sixt
  rw [List.nodup_iff_pairwise_ne, List.pairwise_map]
  refine List.Pairwise.imp ?_ (List.nodup_iff_pairwise_ne.mp (List.nodup_range (n := m)))
  intro a b hab q
  rw [mk_split a 16 (by decide), mk_split b 16 (by decide)] at q
  have := congrArg (· / mkRat 1 16) q
  simp only [Rat.mul_div_cancel (mk1_nz (m := 16) (by decide))] at this
  exact hab (by exact_mod_cast this)
theorem fail_ex {r : List Rat} (hr : r.length ≤ 9) (hz : Nz r) (hn : r ≠ []) : ∃ c, c ≤ 8 ∧ ev r (mkRat (c : Nat) 16) ≠ 0 ∧ ∀ j : Nat, j < c → ev r (mkRat j 16) = 0 := by
  have ex : ∃ k : Nat, k ≤ 8 ∧ ev r (mkRat k 16) ≠ 0 := by
    apply Classical.byContradiction
    intro hno
    have all : ∀ k : Nat, k ≤ 8 → ev r (mkRat k 16) = 0 := fun k hk => Classical.byContradiction fun z => hno ⟨k, hk, z⟩
    refine hn (uniq_pts hz (.inl rfl) (sixt 9) (sixt_nodup 9) (by simpa [sixt] using hr) (by simp) fun x hx => ?_)
    obtain ⟨k, hk, rfl⟩ := List.mem_map.mp hx
    rw [all k (by have := List.mem_range.mp hk; omega)]
    rfl
  obtain ⟨k, hk, hv⟩ := ex
  obtain ⟨c, c1, c2, c3⟩ := least (P := fun k => ev r (mkRat k 16) ≠ 0) hv
  exact ⟨c, by omega, c2, fun j hj => Classical.byContradiction fun z => c3 j hj z⟩
def testF : FT := yBl (x2 dEq (x2 dIx (xCall 2 m_value_at (aC (xV 3) (aC (xCall 2 m_reduced (aC (xV 4) (aC (xC (.int 16)) aN))) aN))) (xC (.int 0))) (xC (.int 0)))
theorem red16 (k : Nat) : m_reduced [.int (k : Nat), .int 16] = .ok (fr (mkRat k 16)) := reduced_ok (a := (k : Int)) (b := 16) (by decide) (Nat.lt_of_lt_of_le (show 16 < 2 ^ 5 by decide) (Nat.pow_le_pow_right (by decide) (by decide)))
theorem testF_ok {r : List Rat} {k : Nat} (hv : m_value_at [.tuple (r.map fr), fr (mkRat k 16)] = .ok (fr (ev r (mkRat k 16)))) {a b c : Option D} : testF [a, b, c, some (.tuple (r.map fr)), some (.int (k : Nat))] = .ok (decide (ev r (mkRat k 16) = 0)) := by
  unfold testF
  simp only [yBl_ap, x2_ap, xCall_ap, xC_ap, aC_ap, aN_ap, xV_s, xV_z, R.bind_ok, List.length_cons, List.length_nil, if_pos, red16, hv, fr_0, dEq_int, dBl_bool, num0]
theorem fail_loop {r : List Rat} {c : Nat} (hc : c ≤ 8) (h1 : ev r (mkRat (c : Nat) 16) ≠ 0) (h0 : ∀ j : Nat, j < c → ev r (mkRat j 16) = 0) (hv : ∀ k : Nat, k ≤ 16 → m_value_at [.tuple (r.map fr), fr (mkRat k 16)] = .ok (fr (ev r (mkRat k 16)))) (u1 u2 u3 : D) : ∀ (d m k : Nat), c = k + d → d < m →
    whD testF (sAug 4 dAddI (xC (.int 1))) m [some (.im u1), some (.im u2), some (.im u3), some (.im (.tuple (r.map fr))), some (.im (.int (k : Nat)))] = .nx [some (.im u1), some (.im u2), some (.im u3), some (.im (.tuple (r.map fr))), some (.im (.int (c : Nat)))]
  | 0, 0, k, _, h => by omega
  | d + 1, 0, k, _, h => by omega
  | 0, m + 1, k, e, _ => by
    have e : c = k := by omega
    subst e
    rw [whD_s]
    simp only [vw_im, vw_nil]
    rw [testF_ok (hv c (by omega)), fR_ok, decide_eq_false h1, if_neg Bool.false_ne_true]
  | d + 1, m + 1, k, e, hm => by
    have ih := fail_loop hc h1 h0 hv u1 u2 u3 d m (k + 1) (by omega) (by omega)
    rw [whD_s]
    simp only [vw_im, vw_nil]
    rw [testF_ok (hv k (by omega)), fR_ok, decide_eq_true (h0 k (by omega)), if_pos rfl]
    have st : sAug 4 dAddI (xC (.int 1)) [some (.im u1), some (.im u2), some (.im u3), some (.im (.tuple (r.map fr))), some (.im (.int (k : Nat)))] = .nx [some (.im u1), some (.im u2), some (.im u3), some (.im (.tuple (r.map fr))), some (.im (.int ((k + 1 : Nat) : Int)))] := by
      rw [sAug_ap]
      simp
    rw [st]
    exact ih
theorem g_failing_eq : g_failing_chance = sSeq (sExp (xCall 1 m_check_trials (aC (xV 0) aN))) (sSeq (sExp (xCall 1 m_check_quantity (aC (xV 1) aN))) (sSeq (sIf (yNot (yTru (xCall 2 m_are_values (aC (xV 2) (aC (x2 dAddA (xV 0) (xC (.int 1))) aN))))) (sRaise "InvalidEstimate") sNil)
  (sSeq (sAsg 3 (xCall 2 m_sum_of (aC (xCall 2 m_average_of (aC (xV 0) (aC (xV 2) aN))) (aC (xCall 2 m_multiple_of (aC (xA dTup (aC (x1 dNeg (xC (.int 1))) (aC (xC (.int 1)) aN))) (aC (xCall 1 m_polynomial_of (aC (xV 1) aN)) aN))) aN))))
  (sSeq (sIf (yBl (x2 dEq (xV 3) (xA dTup aN))) (sRaise "IsHonest") sNil) (sSeq (sAsg 4 (xC (.int 0))) (sSeq (whD testF (sAug 4 dAddI (xC (.int 1))) 1200) (sRet (xCall 2 m_reduced (aC (xV 4) (aC (xC (.int 16)) aN)))))))))) := (rfl)
theorem failing_ok {n c M V : Nat} {q : List Int} {es : List Rat} (h : Est n M V es) (hc : c ≤ 99) (hq : Qty c q) (hl : q.length ≤ 9) :
    (avg n es = polyQ q ∧ m_failing_chance [.int n, .tuple (q.map .int), .tuple (es.map HN.fr)] = .exc "IsHonest") ∨
    (avg n es ≠ polyQ q ∧ ∃ k, k ≤ 8 ∧ mean n es (mkRat (k : Nat) 16) ≠ ev (polyQ q) (mkRat k 16) ∧ (∀ j : Nat, j < k → mean n es (mkRat j 16) = ev (polyQ q) (mkRat j 16)) ∧ m_failing_chance [.int n, .tuple (q.map .int), .tuple (es.map HN.fr)] = .ok (HN.fr (mkRat k 16))) := by
  have n1 := h.n1
  have n6 := h.n6
  have ct := check_trials_ok (n := (n : Int)) (by omega) (by omega)
  have cq := check_quantity_ok hc hq hl
  have po := polynomial_of_ok (q := q) (by omega)
  have av := average_of_ok h.n6 h.sz1 (Nat.le_of_eq h.l) h.b
  obtain ⟨_, mu, su⟩ := dRow_ok h hc hq hl
  have pre : ∀ {r : Fl}, (sSeq (sIf (yBl (x2 dEq (xV 3) (xA dTup aN))) (sRaise "IsHonest") sNil) (sSeq (sAsg 4 (xC (.int 0))) (sSeq (whD testF (sAug 4 dAddI (xC (.int 1))) 1200) (sRet (xCall 2 m_reduced (aC (xV 4) (aC (xC (.int 16)) aN))))))) [some (.im (.int n)), some (.im (.tuple (q.map .int))), some (.im (.tuple (es.map HN.fr))), some (.im (.tuple ((dRow n es q).map HN.fr))), none] = r → g_failing_chance [some (.im (.int n)), some (.im (.tuple (q.map .int))), some (.im (.tuple (es.map HN.fr))), none, none] = r := fun {r} hr => by
    rw [g_failing_eq]
    refine seqN (δ' := [some (.im (.int n)), some (.im (.tuple (q.map .int))), some (.im (.tuple (es.map HN.fr))), none, none]) (by simp [ct]) ?_
    refine seqN (δ' := [some (.im (.int n)), some (.im (.tuple (q.map .int))), some (.im (.tuple (es.map HN.fr))), none, none]) (by simp [cq]) ?_
    refine seqN (δ' := [some (.im (.int n)), some (.im (.tuple (q.map .int))), some (.im (.tuple (es.map HN.fr))), none, none]) (by simp [are_est h]) ?_
    refine seqN ?_ hr
    simp [av, po, mu, su]
  by_cases hh : avg n es = polyQ q
  · refine .inl ⟨hh, runF_exc (pre (seqE ?_))⟩
    rw [(dRow_nil hq).mpr hh]
    simp [dEq_fr0 []]
    have := dEq_fr0 []
    simp at this
    simp [this]
  · have hne : dRow n es q ≠ [] := fun z => hh ((dRow_nil hq).mp z)
    obtain ⟨k, k8, hk, hj⟩ := fail_ex (dRow_len (q := q) h hl) (trim_nz _) hne
    refine .inr ⟨hh, k, k8, ?_, ?_, runF_rt (pre ?_)⟩
    · intro z
      rw [dRow_ev, z] at hk
      exact hk (by grind)
    · intro j hjk
      have := hj j hjk
      rw [dRow_ev] at this
      grind
    · have lp := fail_loop k8 hk hj (fun k hk => dRow_val h hc hq hl hk) (.int n) (.tuple (q.map .int)) (.tuple (es.map HN.fr)) k 1200 0 (by omega) (by omega)
      refine seqN (δ' := [some (.im (.int n)), some (.im (.tuple (q.map .int))), some (.im (.tuple (es.map HN.fr))), some (.im (.tuple ((dRow n es q).map HN.fr))), none]) ?_ ?_
      · simp [dEq_fr0, hne]
      refine seqN (δ' := [some (.im (.int n)), some (.im (.tuple (q.map .int))), some (.im (.tuple (es.map HN.fr))), some (.im (.tuple ((dRow n es q).map HN.fr))), some (.im (.int ((0 : Nat) : Int)))]) (by simp) ?_
      refine seqN lp ?_
      simp [red16]
end HN
end
section
set_option linter.all false
set_option maxRecDepth 100000
set_option maxHeartbeats 1000000
set_option exponentiation.threshold 20000
namespace HN
open PySem L2 HL HM
theorem cut_take {α : Type} (l : List α) {k : Nat} (h : k ≤ l.length) : cutD l none (some (k : Int)) = l.take k := by
  unfold cutD
  rw [HT.sIx_none, HT.sIx_nat, Nat.min_eq_left h]
  simp
theorem cut_drop {α : Type} (l : List α) {k : Nat} (h : k ≤ l.length) : cutD l (some (k : Int)) none = l.drop k := by
  unfold cutD
  rw [HT.sIx_none, HT.sIx_nat, Nat.min_eq_left h]
  exact List.take_of_length_le (by simp)
theorem dEq_l0 (xs : List Rat) : dEq (.list (xs.map HN.fr)) (.list []) = .ok (.bool (decide (xs = []))) := by
  have := dEq_sh (sh_list (sh_map sh_fr xs)) (sh_list (sh_map sh_fr [])) (by decide) (by decide)
  rw [eqv_list, eqvAll_map eqv_fr] at this
  exact this
theorem dNe_bb (a b : Bool) : dNe (.bool a) (.bool b) = .ok (.bool (!decide (a = b))) := by
  cases a <;> cases b <;> rfl
theorem dEq_bb (a b : Bool) : dEq (.bool a) (.bool b) = .ok (.bool (decide (a = b))) := by
  cases a <;> cases b <;> rfl
theorem psr_B {B V : Nat} {P : List (Rat × Int)} {m : Nat} (h : PpB m P) {f : Rat → Rat} (s : Sz B (21 * (999 * V))) (hb : ∀ x ∈ P, Bd B V (f x.1)) : PSr 0 (P.map fun x => (x.2 : Rat) * f x.1) := by
  refine psr_sz (pS_pb (fun x hx => (h.b x hx).2.2) hb) (s.mono ?_)
  have l := h.l
  rw [List.length_map]
  calc P.length * (999 * V) + 999 * V = (P.length + 1) * (999 * V) := by rw [Nat.add_mul, Nat.one_mul]
    _ ≤ 21 * (999 * V) := Nat.mul_le_mul_right _ (by omega)
theorem w_sm {m : Nat} {P : List (Rat × Int)} (h : PpB m P) {x : Rat × Int} (hx : x ∈ P) : Sm (x.2 : Rat) := Sz.sm (M := 1) (V := 999) ⟨by decide, by decide +kernel⟩ (bd_int (h.b x hx).2.2)
/-! ### the law's own look at papers -/
theorem law_in_ok (v lo hi : Int) : m_law_in [.int v, .int lo, .int hi] = .ok (.bool (decide (lo ≤ v) && decide (v ≤ hi))) := by
  have e : m_law_whole [.int v] = .ok (.bool true) := by
    refine runF_rt ?_
    unfold g_law_whole
    simp
  refine runF_rt ?_
  unfold g_law_in
  simp [xCh, e]
  by_cases h1 : lo ≤ v <;> simp [h1]
theorem lfrac_ok {q : Rat} (h : FrOk q) : m_law_is_fraction [fr q] = .ok (.bool true) := by
  have hz := q.den_nz
  have e1 : m_law_in [.int q.num, .int (-99999), .int 99999] = .ok (.bool true) := by
    have := h.n
    rw [law_in_ok]
    simp; omega
  have e2 : m_law_in [.int (q.den : Nat), .int 1, .int 99999] = .ok (.bool true) := by
    have := h.d
    rw [law_in_ok]
    simp; omega
  have e3 : m_law_gcd [.int (q.num.natAbs : Nat), .int (q.den : Nat)] = .ok (.int 1) := by
    rw [lgcd_ok (Nat.lt_of_le_of_lt h.d (Nat.lt_of_lt_of_le (show 99999 < 2 ^ 17 by decide) (Nat.pow_le_pow_right (by decide) (by decide))))]
    have : Nat.gcd q.num.natAbs q.den = 1 := q.reduced
    rw [this]; rfl
  refine runF_rt ?_
  unfold g_law_is_fraction
  refine seqN (δ' := [some (.im (fr q))]) ?_ ?_
  · simp [fr_0, e1]
  · simp [fr_0, fr_1, e2, e3]
theorem lpowers_ok {m : Nat} {P : List (Rat × Int)} (h : PpB m P) {e : Nat} (he : e ≤ 9) {d : D} (hd : dItems d = .ok (P.map pp)) : m_law_powers [d, .int (e : Nat)] = .ok (fr (pS (fun x => x ^ e) P)) := by
  have hb : ∀ x ∈ P, Bd (m ^ e) 1 ((fun y => y ^ e) x.1) := fun x hx => bd_pow (h.b x hx).1 e
  have lc : xLc (iSeq (xV 0)) (g2 2 3) (fun _ => .ok true) (xCall 2 m_law_times (aC (xA dTup (aC (xV 3) (aC (xC (.int 1)) aN))) (aC (xCall 2 m_law_power (aC (xV 2) (aC (xV 1) aN))) aN))) [2, 3] [some d, some (.int (e : Nat)), none, none] = .ok (.list (P.map fun x => fr ((x.2 : Rat) * x.1 ^ e))) :=
    xLc_pp (d := d) rfl hd (by simp) (by simp) (Nat.le_trans h.l (by decide)) fun x hx => by
      have t := ltimesQ (w_sm h hx) (((sz_m h.z h.m60 (show e ≤ 20 by omega)).mono (by decide)).sm (hb x hx))
      have lp := lpowQ (h.b x hx).2.1 (e := e) (by omega)
      simp only [wipeD, List.set_cons_zero, List.set_cons_succ, xCall_ap, aC_ap, aN_ap, xA_ap, xC_ap, xV_s, xV_z, R.bind_ok, dTup_2, List.length_cons, List.length_nil, if_pos, lp, fr_int]
      simpa using t
  have su := lsumQ (psr_P h (e := e) (V := 1) (f := fun y => y ^ e) (by omega) (by decide) hb)
  rw [List.map_map] at su
  have e0 : (HN.fr ∘ fun x : Rat × Int => (x.2 : Rat) * (fun y => y ^ e) x.1) = fun x : Rat × Int => fr ((x.2 : Rat) * x.1 ^ e) := rfl
  rw [e0] at su
  refine runF_rt ?_
  unfold g_law_powers
  simp only [List.map_cons, List.map_nil, List.replicate, List.cons_append, List.nil_append, sRet_ap, xCall_ap, aC_ap, aN_ap, vw_im, vw_none, vw_nil, R.bind_ok, lc, List.length_cons, List.length_nil, if_pos, su, fR_ok]
  rfl
def bodyL : Es → Fl := sSeq (sIf (yOr (yNot (yTru (x1 (dIsi "tuple") (xV 3)))) (yOr (yBl (x2 dNe (xA dLen (aC (xV 3) aN)) (xC (.int 2)))) (yNot (yTru (xCall 1 m_law_is_fraction (aC (x2 dIx (xV 3) (xC (.int 0))) aN)))))) (sRet (xC (.bool false))) sNil)
  (sIf (yOr (yNot (yBl (xCh dLe dLe (xC (.int 0)) (x2 dIx (x2 dIx (xV 3) (xC (.int 0))) (xC (.int 0))) (x2 dIx (x2 dIx (xV 3) (xC (.int 0))) (xC (.int 1)))))) (yNot (yTru (xCall 3 m_law_in (aC (x2 dIx (xV 3) (xC (.int 1))) (aC (x1 dNeg (xC (.int 999))) (aC (xC (.int 999)) aN))))))) (sRet (xC (.bool false))) sNil)
def lpE : FE := xLc (iA dR1 (aC (x2 dAddA (xV 0) (xC (.int 1))) aN)) (gN 4) (yBl (x2 dNe (x2 dIx (xCall 2 m_law_powers (aC (xV 2) (aC (xV 4) aN))) (xC (.int 0))) (xC (.int 0)))) (xV 4) [4]
theorem g_lpaper_eq : g_law_is_paper = sSeq (sIf (yNot (yTru (x1 (dIsi "tuple") (xV 2)))) (sRet (xC (.bool false))) sNil) (sSeq (sFor (iSeq (xV 2)) (hN 3) bodyL)
  (sSeq (sIf (yBl (x2 dNe lpE (xA dLst aN))) (sRet (xC (.bool false))) sNil)
  (sRet (x2 dNe (x2 dIx (xCall 1 m_law_sum (aC (compP m_law_times m_law_worth 2 1 5 6) aN)) (xC (.int 0))) (xC (.int 0)))))) := (rfl)
theorem bodyL_ok {x : Rat × Int} (h1 : Chc x.1) (h2 : x.2.natAbs ≤ 999) {a b c e f g : Option Sl} : bodyL [a, b, c, some (.im (pp x)), e, f, g] = .nx [a, b, c, some (.im (pp x)), e, f, g] := by
  have r : m_law_in [.int x.2, .int (-999), .int 999] = .ok (.bool true) := by rw [law_in_ok]; simp; omega
  have n0 := h1.n0
  have n1 := h1.n1
  unfold bodyL
  refine seqN (δ' := [a, b, c, some (.im (pp x)), e, f, g]) ?_ ?_
  · simp only [sIf_ap, yOr_ap, yNot_ap, yTru_ap, yBl_ap, x1_ap, x2_ap, xA_ap, xC_ap, xCall_ap, aC_ap, aN_ap, vw, List.map_cons, sw, xV_s, xV_z, R.bind_ok, pp_isi, pp_len, pp_0, dTru_bool, lfrac_ok h1.fr, dNe_int, dBl_bool, List.length_cons, List.length_nil, if_pos]
    simp
  · simp only [sIf_ap, yOr_ap, yNot_ap, yTru_ap, yBl_ap, x1_ap, x2_ap, xA_ap, xC_ap, xCall_ap, xCh, aC_ap, aN_ap, vw, List.map_cons, sw, xV_s, xV_z, R.bind_ok, pp_0, pp_1, fr_0, fr_1, dLe_int, dNeg_int, r, List.length_cons, List.length_nil, if_pos]
    simp [n0, n1]
theorem lpE_ok {m n : Nat} {P : List (Rat × Int)} (h : PpB m P) (h6 : n ≤ 6) {b c o3 o5 o6 : Option D} : lpE [some (.int n), b, some (.tuple (P.map pp)), o3, c, o5, o6] = .ok (.list (((List.range (n + 1)).filter fun e => !decide (pS (fun x => x ^ e) P = 0)).map fun t : Nat => .int ((t : Nat) : Int))) := by
  have rg : dR1 [.int ((n : Int) + 1)] = .ok ((List.range (n + 1)).map fun t : Nat => .int ((t : Nat) : Int)) := dr_Z (by omega) (by omega)
  have lc := lc_filter (γ := gN 4) (ft := yBl (x2 dNe (x2 dIx (xCall 2 m_law_powers (aC (xV 2) (aC (xV 4) aN))) (xC (.int 0))) (xC (.int 0)))) (fe := xV 4) (ρ := [some (.int n), b, some (.tuple (P.map pp)), o3, none, o5, o6]) (f := fun t : Nat => (PyData.int ((t : Nat) : Int) : D)) (g := fun t : Nat => (PyData.int ((t : Nat) : Int) : D)) (p := fun e => !decide (pS (fun x => x ^ e) P = 0)) (l := List.range (n + 1)) fun e he => by
    have he := List.mem_range.mp he
    refine ⟨[some (.int n), b, some (.tuple (P.map pp)), o3, some (.int (e : Nat)), o5, o6], by simp [gN], ?_, fun _ => by simp⟩
    simp only [yBl_ap, x2_ap, xCall_ap, xC_ap, aC_ap, aN_ap, xV_s, xV_z, R.bind_ok, List.length_cons, List.length_nil, if_pos, lpowers_ok h (show e ≤ 9 by omega) (dItems_tuple _), fr_0, dNe_int, dBl_bool, num0]
  unfold lpE xLc
  simp only [iA_ap, aC_ap, aN_ap, x2_ap, xC_ap, xV_z, R.bind_ok, dAddA_int, rg, List.length_map, List.length_range, wipeD, List.set_cons_zero, List.set_cons_succ, lc]
  rw [if_pos (by omega)]
theorem dNe_nats (l : List Nat) : dNe (.list (l.map fun t : Nat => .int ((t : Nat) : Int))) (.list []) = .ok (.bool (!decide (l = []))) := by
  have := dNe_ints (l.map fun t : Nat => ((t : Nat) : Int)) []
  rw [List.map_map] at this
  rw [show l.map (fun t : Nat => (PyData.int ((t : Nat) : Int) : D)) = l.map (PyData.int ∘ fun t : Nat => ((t : Nat) : Int)) from rfl]
  rw [show (PyData.list [] : D) = .list (([] : List Int).map .int) from rfl, this]
  simp
theorem lis_paper_ok {m n c : Nat} {q : List Int} {P : List (Rat × Int)} (h : PpB m P) (h6 : n ≤ 6) (hc : c ≤ 99) (hq : Qty c q) (hl : q.length ≤ 9) : m_law_is_paper [.int n, .tuple (q.map .int), .tuple (P.map pp)] = .ok (.bool (isP n q P)) := by
  refine runF_rt ?_
  rw [g_lpaper_eq]
  show sSeq _ _ [some (.im (.int n)), some (.im (.tuple (q.map .int))), some (.im (.tuple (P.map pp))), none, none, none, none] = _
  refine seqN (δ' := [some (.im (.int n)), some (.im (.tuple (q.map .int))), some (.im (.tuple (P.map pp))), none, none, none, none]) (by simp) ?_
  obtain ⟨δ3, e3, ⟨o3, rfl⟩⟩ := forD_all (γ := hN 3) (body := bodyL) (fun δ => ∃ o3, δ = [some (.im (.int n)), some (.im (.tuple (q.map .int))), some (.im (.tuple (P.map pp))), o3, none, none, none]) (xs := P.map pp) (fun x hx δ hδ => by
    obtain ⟨y, hy, rfl⟩ := List.mem_map.mp hx
    obtain ⟨o, rfl⟩ := hδ
    exact ⟨_, _, by simp [hN], bodyL_ok (h.b y hy).2.1 (h.b y hy).2.2, ⟨_, rfl⟩⟩) _ ⟨none, rfl⟩
  refine seqN (δ' := [some (.im (.int n)), some (.im (.tuple (q.map .int))), some (.im (.tuple (P.map pp))), o3, none, none, none]) (by rw [sFor_ap]; simp only [iSeq_ap, v0_im, xV_s, xV_z, R.bind_ok, dItems_tuple, fR_ok]; exact e3) ?_
  have hv : vw [some (.im (.int n)), some (.im (.tuple (q.map .int))), some (.im (.tuple (P.map pp))), o3, none, none, none] = [some (.int n), some (.tuple (q.map .int)), some (.tuple (P.map pp)), sw o3, none, none, none] := rfl
  have st : (sIf (yBl (x2 dNe lpE (xA dLst aN))) (sRet (xC (.bool false))) sNil) [some (.im (.int n)), some (.im (.tuple (q.map .int))), some (.im (.tuple (P.map pp))), o3, none, none, none] = if (List.range (n + 1)).any (fun e => !decide (pS (fun x => x ^ e) P = 0)) = true then .rt (.bool false) else .nx [some (.im (.int n)), some (.im (.tuple (q.map .int))), some (.im (.tuple (P.map pp))), o3, none, none, none] := by
    rw [sIf_ap, hv, yBl_ap, x2_ap, lpE_ok h h6, R.bind_ok, xA_ap, aN_ap, R.bind_ok, dLst_0, R.bind_ok, dNe_nats, R.bind_ok, dBl_bool, fR_ok]
    have e : (!decide ((List.range (n + 1)).filter (fun e => !decide (pS (fun x => x ^ e) P = 0)) = [])) = (List.range (n + 1)).any (fun e => !decide (pS (fun x => x ^ e) P = 0)) := by
      rw [Bool.eq_iff_iff]
      simp [List.filter_eq_nil_iff]
    rw [e]
    rfl
  unfold isP
  cases ha : (List.range (n + 1)).any (fun e => !decide (pS (fun x => x ^ e) P = 0)) with
  | true =>
    rw [ha, if_pos rfl] at st
    exact seqR st
  | false =>
    rw [ha, if_neg Bool.false_ne_true] at st
    refine seqN st ?_
    have bd := fun x hx => row_bd h (rowB_int (q := q) (fun x hx => by have := hq.rng x hx; omega)).b (by rw [polyQ_len]; exact hl) (by decide) (x := x) hx
    have c := compP_ok (T := m_law_times) (G := m_law_worth) (f := ev (polyQ q)) (ρ := [some (.int n), some (.tuple (q.map .int)), some (.tuple (P.map pp)), sw o3, none, none, none]) (iv := 2) (ir := 1) (ip := 5) (iw := 6) (d := .tuple (P.map pp)) rfl rfl rfl (by simp) (by simp) (by decide) (by decide) (by decide) (Nat.le_trans h.l (by decide)) fun x hx => by
      obtain ⟨a, b⟩ := pp_sm h (e := 9) (V := 8991) (f := ev (polyQ q)) (by decide) (by decide) bd hx
      exact ⟨worth_ok hc hq hl (h.b x hx).2.1, ltimesQ a b⟩
    have su := lsumQ (psr_P h (e := 9) (V := 8991) (by decide) (by decide) bd)
    rw [sRet_ap, hv, x2_ap, x2_ap, xCall_ap, aC_ap, c, R.bind_ok, aN_ap, R.bind_ok, R.bind_ok, if_pos (by rfl), su, R.bind_ok, xC_ap, R.bind_ok, fr_0, R.bind_ok, R.bind_ok, dNe_int, fR_ok, num0]
    rfl
end HN
end
section
set_option linter.all false
set_option maxRecDepth 100000
set_option maxHeartbeats 1000000
set_option exponentiation.threshold 20000
namespace HN
open PySem L2 HL HM
theorem sh_str {s : Str} (h : PyData.canLay0 (.str s) = true) : Sh 0 (.str s) := ⟨h, Nat.zero_le _⟩
theorem sh_no : Sh 0 (.str (Str.ofString "no")) := sh_str (by decide +kernel)
theorem sh_has : Sh 0 (.str (Str.ofString "has")) := sh_str (by decide +kernel)
theorem sh_honest : Sh 0 (.str (Str.ofString "honest")) := sh_str (by decide +kernel)
theorem eqv_ts (l : List D) (s : Str) : PyData.eqv (.tuple l) (.str s) = false := by simp only [PyData.eqv]
theorem eqv_st (l : List D) (s : Str) : PyData.eqv (.str s) (.tuple l) = false := by simp only [PyData.eqv]
theorem dEq_no : dEq (.str (Str.ofString "no")) (.str (Str.ofString "no")) = .ok (.bool true) := by
  rw [dEq_sh sh_no sh_no (by decide) (by decide), show PyData.eqv (.str (Str.ofString "no")) (.str (Str.ofString "no")) = true by decide +kernel]
theorem dEq_has : dEq (.str (Str.ofString "has")) (.str (Str.ofString "has")) = .ok (.bool true) := by
  rw [dEq_sh sh_has sh_has (by decide) (by decide), show PyData.eqv (.str (Str.ofString "has")) (.str (Str.ofString "has")) = true by decide +kernel]
theorem dEq_honest : dEq (.str (Str.ofString "honest")) (.str (Str.ofString "honest")) = .ok (.bool true) := by
  rw [dEq_sh sh_honest sh_honest (by decide) (by decide), show PyData.eqv (.str (Str.ofString "honest")) (.str (Str.ofString "honest")) = true by decide +kernel]
theorem dEq_frs_no (l : List Rat) : dEq (.tuple (l.map fr)) (.str (Str.ofString "no")) = .ok (.bool false) := by
  rw [dEq_sh (sh_tuple (sh_map sh_fr l)) sh_no (by decide) (by decide), eqv_ts]
theorem sh_pp (x : Rat × Int) : Sh 2 (pp x) := sh_tuple (n := 1) fun d hd => by
  rcases List.mem_cons.mp hd with e | e
  · rw [e]; exact sh_fr _
  · rw [List.mem_singleton.mp e]; exact (sh_int _).mono (by decide)
theorem dEq_pp_has (l : List (Rat × Int)) : dEq (.tuple (l.map pp)) (.str (Str.ofString "has")) = .ok (.bool false) := by
  rw [dEq_sh (sh_tuple (sh_map sh_pp l)) sh_has (by decide) (by decide), eqv_ts]
theorem dEq_fr_honest (x : Rat) : dEq (fr x) (.str (Str.ofString "honest")) = .ok (.bool false) := by
  rw [dEq_sh (sh_fr x) sh_honest (by decide) (by decide)]; unfold fr; rw [eqv_ts]
theorem dEq_honest_fr (x : Rat) : dEq (.str (Str.ofString "honest")) (fr x) = .ok (.bool false) := by
  rw [dEq_sh sh_honest (sh_fr x) (by decide) (by decide)]; unfold fr; rw [eqv_st]
theorem low_mk {a m : Nat} (hm : m ≠ 0) (ha : a ≤ 1000) (h : m ≤ 1000) : m_law_low [.int (a : Nat), .int (m : Nat)] = .ok (fr (mkRat a m)) := by
  have s9 : (1001 : Nat) < 2 ^ 9000 := Nat.lt_of_lt_of_le (show (1001 : Nat) < 2 ^ 10 by decide) (Nat.pow_le_pow_right (by decide) (by decide))
  have lo := low_ok (a := (a : Int)) (b := (m : Int)) (by omega) (Nat.lt_of_le_of_lt (by omega) s9) (Nat.lt_of_le_of_lt (by omega) s9)
  rw [Rat.divInt_ofNat] at lo
  exact lo
theorem forD_pre {α : Type} {γ : D → Es → R Es} {body : Es → Fl} {f : α → D} (I : Es → Prop) : ∀ {xs : List α}, (∀ a ∈ xs, ∀ δ, I δ → ∃ δ1 δ2, γ (f a) δ = .ok δ1 ∧ body δ1 = .nx δ2 ∧ I δ2) → ∀ δ, I δ → ∃ δ2, I δ2 ∧ ∀ rest, forD γ body (xs.map f ++ rest) δ = forD γ body rest δ2
  | [], _, δ, h => ⟨δ, h, fun _ => rfl⟩
  | x :: xs, hx, δ, h => by
    obtain ⟨δ1, δ2, e1, e2, h2⟩ := hx x List.mem_cons_self δ h
    obtain ⟨δ3, h3, e3⟩ := forD_pre I (fun y hy => hx y (List.mem_cons_of_mem _ hy)) δ2 h2
    exact ⟨δ3, h3, fun rest => by rw [List.map_cons, List.cons_append, forD_cons e1 e2, e3]⟩
end HN
end
section
set_option linter.all false
set_option maxRecDepth 100000
set_option maxHeartbeats 4000000
set_option exponentiation.threshold 20000
namespace HN
open PySem L2 HL HM
def hw (n m s i : Nat) : Rat := mkRat ((bin s i * bin (m - s) (n - i) : Nat) : Int) (bin m n)
theorem hyp_1_1_0 (x : Rat) : ((List.range (1 + 1)).map fun s => hw 1 1 s 0 * w 1 s x).sum = w 1 0 x := by
  simp [List.range, List.range.loop, w, bin, hw, Rat.mkRat_eq_div]
  grind
theorem hyp_1_1_1 (x : Rat) : ((List.range (1 + 1)).map fun s => hw 1 1 s 1 * w 1 s x).sum = w 1 1 x := by
  simp [List.range, List.range.loop, w, bin, hw, Rat.mkRat_eq_div]
  grind
theorem hyp_1_2_0 (x : Rat) : ((List.range (2 + 1)).map fun s => hw 1 2 s 0 * w 2 s x).sum = w 1 0 x := by
  simp [List.range, List.range.loop, w, bin, hw, Rat.mkRat_eq_div]
  grind
theorem hyp_1_2_1 (x : Rat) : ((List.range (2 + 1)).map fun s => hw 1 2 s 1 * w 2 s x).sum = w 1 1 x := by
  simp [List.range, List.range.loop, w, bin, hw, Rat.mkRat_eq_div]
  grind
theorem hyp_1_3_0 (x : Rat) : ((List.range (3 + 1)).map fun s => hw 1 3 s 0 * w 3 s x).sum = w 1 0 x := by
  simp [List.range, List.range.loop, w, bin, hw, Rat.mkRat_eq_div]
  grind
theorem hyp_1_3_1 (x : Rat) : ((List.range (3 + 1)).map fun s => hw 1 3 s 1 * w 3 s x).sum = w 1 1 x := by
  simp [List.range, List.range.loop, w, bin, hw, Rat.mkRat_eq_div]
  grind
theorem hyp_1_4_0 (x : Rat) : ((List.range (4 + 1)).map fun s => hw 1 4 s 0 * w 4 s x).sum = w 1 0 x := by
  simp [List.range, List.range.loop, w, bin, hw, Rat.mkRat_eq_div]
  grind
theorem hyp_1_4_1 (x : Rat) : ((List.range (4 + 1)).map fun s => hw 1 4 s 1 * w 4 s x).sum = w 1 1 x := by
  simp [List.range, List.range.loop, w, bin, hw, Rat.mkRat_eq_div]
  grind
theorem hyp_1_5_0 (x : Rat) : ((List.range (5 + 1)).map fun s => hw 1 5 s 0 * w 5 s x).sum = w 1 0 x := by
  simp [List.range, List.range.loop, w, bin, hw, Rat.mkRat_eq_div]
  grind
theorem hyp_1_5_1 (x : Rat) : ((List.range (5 + 1)).map fun s => hw 1 5 s 1 * w 5 s x).sum = w 1 1 x := by
  simp [List.range, List.range.loop, w, bin, hw, Rat.mkRat_eq_div]
  grind
theorem hyp_1_6_0 (x : Rat) : ((List.range (6 + 1)).map fun s => hw 1 6 s 0 * w 6 s x).sum = w 1 0 x := by
  simp [List.range, List.range.loop, w, bin, hw, Rat.mkRat_eq_div]
  grind
theorem hyp_1_6_1 (x : Rat) : ((List.range (6 + 1)).map fun s => hw 1 6 s 1 * w 6 s x).sum = w 1 1 x := by
  simp [List.range, List.range.loop, w, bin, hw, Rat.mkRat_eq_div]
  grind
theorem hyp_2_2_0 (x : Rat) : ((List.range (2 + 1)).map fun s => hw 2 2 s 0 * w 2 s x).sum = w 2 0 x := by
  simp [List.range, List.range.loop, w, bin, hw, Rat.mkRat_eq_div]
  grind
theorem hyp_2_2_1 (x : Rat) : ((List.range (2 + 1)).map fun s => hw 2 2 s 1 * w 2 s x).sum = w 2 1 x := by
  simp [List.range, List.range.loop, w, bin, hw, Rat.mkRat_eq_div]
  grind
theorem hyp_2_2_2 (x : Rat) : ((List.range (2 + 1)).map fun s => hw 2 2 s 2 * w 2 s x).sum = w 2 2 x := by
  simp [List.range, List.range.loop, w, bin, hw, Rat.mkRat_eq_div]
  grind
theorem hyp_2_3_0 (x : Rat) : ((List.range (3 + 1)).map fun s => hw 2 3 s 0 * w 3 s x).sum = w 2 0 x := by
  simp [List.range, List.range.loop, w, bin, hw, Rat.mkRat_eq_div]
  grind
theorem hyp_2_3_1 (x : Rat) : ((List.range (3 + 1)).map fun s => hw 2 3 s 1 * w 3 s x).sum = w 2 1 x := by
  simp [List.range, List.range.loop, w, bin, hw, Rat.mkRat_eq_div]
  grind
theorem hyp_2_3_2 (x : Rat) : ((List.range (3 + 1)).map fun s => hw 2 3 s 2 * w 3 s x).sum = w 2 2 x := by
  simp [List.range, List.range.loop, w, bin, hw, Rat.mkRat_eq_div]
  grind
theorem hyp_2_4_0 (x : Rat) : ((List.range (4 + 1)).map fun s => hw 2 4 s 0 * w 4 s x).sum = w 2 0 x := by
  simp [List.range, List.range.loop, w, bin, hw, Rat.mkRat_eq_div]
  grind
theorem hyp_2_4_1 (x : Rat) : ((List.range (4 + 1)).map fun s => hw 2 4 s 1 * w 4 s x).sum = w 2 1 x := by
  simp [List.range, List.range.loop, w, bin, hw, Rat.mkRat_eq_div]
  grind
theorem hyp_2_4_2 (x : Rat) : ((List.range (4 + 1)).map fun s => hw 2 4 s 2 * w 4 s x).sum = w 2 2 x := by
  simp [List.range, List.range.loop, w, bin, hw, Rat.mkRat_eq_div]
  grind
theorem hyp_2_5_0 (x : Rat) : ((List.range (5 + 1)).map fun s => hw 2 5 s 0 * w 5 s x).sum = w 2 0 x := by
  simp [List.range, List.range.loop, w, bin, hw, Rat.mkRat_eq_div]
  grind
theorem hyp_2_5_1 (x : Rat) : ((List.range (5 + 1)).map fun s => hw 2 5 s 1 * w 5 s x).sum = w 2 1 x := by
  simp [List.range, List.range.loop, w, bin, hw, Rat.mkRat_eq_div]
  grind
theorem hyp_2_5_2 (x : Rat) : ((List.range (5 + 1)).map fun s => hw 2 5 s 2 * w 5 s x).sum = w 2 2 x := by
  simp [List.range, List.range.loop, w, bin, hw, Rat.mkRat_eq_div]
  grind
theorem hyp_2_6_0 (x : Rat) : ((List.range (6 + 1)).map fun s => hw 2 6 s 0 * w 6 s x).sum = w 2 0 x := by
  simp [List.range, List.range.loop, w, bin, hw, Rat.mkRat_eq_div]
  grind
theorem hyp_2_6_1 (x : Rat) : ((List.range (6 + 1)).map fun s => hw 2 6 s 1 * w 6 s x).sum = w 2 1 x := by
  simp [List.range, List.range.loop, w, bin, hw, Rat.mkRat_eq_div]
  grind
theorem hyp_2_6_2 (x : Rat) : ((List.range (6 + 1)).map fun s => hw 2 6 s 2 * w 6 s x).sum = w 2 2 x := by
  simp [List.range, List.range.loop, w, bin, hw, Rat.mkRat_eq_div]
  grind
theorem hyp_3_3_0 (x : Rat) : ((List.range (3 + 1)).map fun s => hw 3 3 s 0 * w 3 s x).sum = w 3 0 x := by
  simp [List.range, List.range.loop, w, bin, hw, Rat.mkRat_eq_div]
  grind
theorem hyp_3_3_1 (x : Rat) : ((List.range (3 + 1)).map fun s => hw 3 3 s 1 * w 3 s x).sum = w 3 1 x := by
  simp [List.range, List.range.loop, w, bin, hw, Rat.mkRat_eq_div]
  grind
theorem hyp_3_3_2 (x : Rat) : ((List.range (3 + 1)).map fun s => hw 3 3 s 2 * w 3 s x).sum = w 3 2 x := by
  simp [List.range, List.range.loop, w, bin, hw, Rat.mkRat_eq_div]
  grind
theorem hyp_3_3_3 (x : Rat) : ((List.range (3 + 1)).map fun s => hw 3 3 s 3 * w 3 s x).sum = w 3 3 x := by
  simp [List.range, List.range.loop, w, bin, hw, Rat.mkRat_eq_div]
  grind
theorem hyp_3_4_0 (x : Rat) : ((List.range (4 + 1)).map fun s => hw 3 4 s 0 * w 4 s x).sum = w 3 0 x := by
  simp [List.range, List.range.loop, w, bin, hw, Rat.mkRat_eq_div]
  grind
theorem hyp_3_4_1 (x : Rat) : ((List.range (4 + 1)).map fun s => hw 3 4 s 1 * w 4 s x).sum = w 3 1 x := by
  simp [List.range, List.range.loop, w, bin, hw, Rat.mkRat_eq_div]
  grind
theorem hyp_3_4_2 (x : Rat) : ((List.range (4 + 1)).map fun s => hw 3 4 s 2 * w 4 s x).sum = w 3 2 x := by
  simp [List.range, List.range.loop, w, bin, hw, Rat.mkRat_eq_div]
  grind
theorem hyp_3_4_3 (x : Rat) : ((List.range (4 + 1)).map fun s => hw 3 4 s 3 * w 4 s x).sum = w 3 3 x := by
  simp [List.range, List.range.loop, w, bin, hw, Rat.mkRat_eq_div]
  grind
theorem hyp_3_5_0 (x : Rat) : ((List.range (5 + 1)).map fun s => hw 3 5 s 0 * w 5 s x).sum = w 3 0 x := by
  simp [List.range, List.range.loop, w, bin, hw, Rat.mkRat_eq_div]
  grind
theorem hyp_3_5_1 (x : Rat) : ((List.range (5 + 1)).map fun s => hw 3 5 s 1 * w 5 s x).sum = w 3 1 x := by
  simp [List.range, List.range.loop, w, bin, hw, Rat.mkRat_eq_div]
  grind
theorem hyp_3_5_2 (x : Rat) : ((List.range (5 + 1)).map fun s => hw 3 5 s 2 * w 5 s x).sum = w 3 2 x := by
  simp [List.range, List.range.loop, w, bin, hw, Rat.mkRat_eq_div]
  grind
theorem hyp_3_5_3 (x : Rat) : ((List.range (5 + 1)).map fun s => hw 3 5 s 3 * w 5 s x).sum = w 3 3 x := by
  simp [List.range, List.range.loop, w, bin, hw, Rat.mkRat_eq_div]
  grind
theorem hyp_3_6_0 (x : Rat) : ((List.range (6 + 1)).map fun s => hw 3 6 s 0 * w 6 s x).sum = w 3 0 x := by
  simp [List.range, List.range.loop, w, bin, hw, Rat.mkRat_eq_div]
  grind
theorem hyp_3_6_1 (x : Rat) : ((List.range (6 + 1)).map fun s => hw 3 6 s 1 * w 6 s x).sum = w 3 1 x := by
  simp [List.range, List.range.loop, w, bin, hw, Rat.mkRat_eq_div]
  grind
theorem hyp_3_6_2 (x : Rat) : ((List.range (6 + 1)).map fun s => hw 3 6 s 2 * w 6 s x).sum = w 3 2 x := by
  simp [List.range, List.range.loop, w, bin, hw, Rat.mkRat_eq_div]
  grind
theorem hyp_3_6_3 (x : Rat) : ((List.range (6 + 1)).map fun s => hw 3 6 s 3 * w 6 s x).sum = w 3 3 x := by
  simp [List.range, List.range.loop, w, bin, hw, Rat.mkRat_eq_div]
  grind
theorem hyp_4_4_0 (x : Rat) : ((List.range (4 + 1)).map fun s => hw 4 4 s 0 * w 4 s x).sum = w 4 0 x := by
  simp [List.range, List.range.loop, w, bin, hw, Rat.mkRat_eq_div]
  grind
theorem hyp_4_4_1 (x : Rat) : ((List.range (4 + 1)).map fun s => hw 4 4 s 1 * w 4 s x).sum = w 4 1 x := by
  simp [List.range, List.range.loop, w, bin, hw, Rat.mkRat_eq_div]
  grind
theorem hyp_4_4_2 (x : Rat) : ((List.range (4 + 1)).map fun s => hw 4 4 s 2 * w 4 s x).sum = w 4 2 x := by
  simp [List.range, List.range.loop, w, bin, hw, Rat.mkRat_eq_div]
  grind
theorem hyp_4_4_3 (x : Rat) : ((List.range (4 + 1)).map fun s => hw 4 4 s 3 * w 4 s x).sum = w 4 3 x := by
  simp [List.range, List.range.loop, w, bin, hw, Rat.mkRat_eq_div]
  grind
theorem hyp_4_4_4 (x : Rat) : ((List.range (4 + 1)).map fun s => hw 4 4 s 4 * w 4 s x).sum = w 4 4 x := by
  simp [List.range, List.range.loop, w, bin, hw, Rat.mkRat_eq_div]
  grind
theorem hyp_4_5_0 (x : Rat) : ((List.range (5 + 1)).map fun s => hw 4 5 s 0 * w 5 s x).sum = w 4 0 x := by
  simp [List.range, List.range.loop, w, bin, hw, Rat.mkRat_eq_div]
  grind
theorem hyp_4_5_1 (x : Rat) : ((List.range (5 + 1)).map fun s => hw 4 5 s 1 * w 5 s x).sum = w 4 1 x := by
  simp [List.range, List.range.loop, w, bin, hw, Rat.mkRat_eq_div]
  grind
theorem hyp_4_5_2 (x : Rat) : ((List.range (5 + 1)).map fun s => hw 4 5 s 2 * w 5 s x).sum = w 4 2 x := by
  simp [List.range, List.range.loop, w, bin, hw, Rat.mkRat_eq_div]
  grind
theorem hyp_4_5_3 (x : Rat) : ((List.range (5 + 1)).map fun s => hw 4 5 s 3 * w 5 s x).sum = w 4 3 x := by
  simp [List.range, List.range.loop, w, bin, hw, Rat.mkRat_eq_div]
  grind
theorem hyp_4_5_4 (x : Rat) : ((List.range (5 + 1)).map fun s => hw 4 5 s 4 * w 5 s x).sum = w 4 4 x := by
  simp [List.range, List.range.loop, w, bin, hw, Rat.mkRat_eq_div]
  grind
theorem hyp_4_6_0 (x : Rat) : ((List.range (6 + 1)).map fun s => hw 4 6 s 0 * w 6 s x).sum = w 4 0 x := by
  simp [List.range, List.range.loop, w, bin, hw, Rat.mkRat_eq_div]
  grind
theorem hyp_4_6_1 (x : Rat) : ((List.range (6 + 1)).map fun s => hw 4 6 s 1 * w 6 s x).sum = w 4 1 x := by
  simp [List.range, List.range.loop, w, bin, hw, Rat.mkRat_eq_div]
  grind
theorem hyp_4_6_2 (x : Rat) : ((List.range (6 + 1)).map fun s => hw 4 6 s 2 * w 6 s x).sum = w 4 2 x := by
  simp [List.range, List.range.loop, w, bin, hw, Rat.mkRat_eq_div]
  grind
theorem hyp_4_6_3 (x : Rat) : ((List.range (6 + 1)).map fun s => hw 4 6 s 3 * w 6 s x).sum = w 4 3 x := by
  simp [List.range, List.range.loop, w, bin, hw, Rat.mkRat_eq_div]
  grind
theorem hyp_4_6_4 (x : Rat) : ((List.range (6 + 1)).map fun s => hw 4 6 s 4 * w 6 s x).sum = w 4 4 x := by
  simp [List.range, List.range.loop, w, bin, hw, Rat.mkRat_eq_div]
  grind
theorem hyp_5_5_0 (x : Rat) : ((List.range (5 + 1)).map fun s => hw 5 5 s 0 * w 5 s x).sum = w 5 0 x := by
  simp [List.range, List.range.loop, w, bin, hw, Rat.mkRat_eq_div]
  grind
theorem hyp_5_5_1 (x : Rat) : ((List.range (5 + 1)).map fun s => hw 5 5 s 1 * w 5 s x).sum = w 5 1 x := by
  simp [List.range, List.range.loop, w, bin, hw, Rat.mkRat_eq_div]
  grind
theorem hyp_5_5_2 (x : Rat) : ((List.range (5 + 1)).map fun s => hw 5 5 s 2 * w 5 s x).sum = w 5 2 x := by
  simp [List.range, List.range.loop, w, bin, hw, Rat.mkRat_eq_div]
  grind
theorem hyp_5_5_3 (x : Rat) : ((List.range (5 + 1)).map fun s => hw 5 5 s 3 * w 5 s x).sum = w 5 3 x := by
  simp [List.range, List.range.loop, w, bin, hw, Rat.mkRat_eq_div]
  grind
theorem hyp_5_5_4 (x : Rat) : ((List.range (5 + 1)).map fun s => hw 5 5 s 4 * w 5 s x).sum = w 5 4 x := by
  simp [List.range, List.range.loop, w, bin, hw, Rat.mkRat_eq_div]
  grind
theorem hyp_5_5_5 (x : Rat) : ((List.range (5 + 1)).map fun s => hw 5 5 s 5 * w 5 s x).sum = w 5 5 x := by
  simp [List.range, List.range.loop, w, bin, hw, Rat.mkRat_eq_div]
  grind
theorem hyp_5_6_0 (x : Rat) : ((List.range (6 + 1)).map fun s => hw 5 6 s 0 * w 6 s x).sum = w 5 0 x := by
  simp [List.range, List.range.loop, w, bin, hw, Rat.mkRat_eq_div]
  grind
theorem hyp_5_6_1 (x : Rat) : ((List.range (6 + 1)).map fun s => hw 5 6 s 1 * w 6 s x).sum = w 5 1 x := by
  simp [List.range, List.range.loop, w, bin, hw, Rat.mkRat_eq_div]
  grind
theorem hyp_5_6_2 (x : Rat) : ((List.range (6 + 1)).map fun s => hw 5 6 s 2 * w 6 s x).sum = w 5 2 x := by
  simp [List.range, List.range.loop, w, bin, hw, Rat.mkRat_eq_div]
  grind
theorem hyp_5_6_3 (x : Rat) : ((List.range (6 + 1)).map fun s => hw 5 6 s 3 * w 6 s x).sum = w 5 3 x := by
  simp [List.range, List.range.loop, w, bin, hw, Rat.mkRat_eq_div]
  grind
theorem hyp_5_6_4 (x : Rat) : ((List.range (6 + 1)).map fun s => hw 5 6 s 4 * w 6 s x).sum = w 5 4 x := by
  simp [List.range, List.range.loop, w, bin, hw, Rat.mkRat_eq_div]
  grind
theorem hyp_5_6_5 (x : Rat) : ((List.range (6 + 1)).map fun s => hw 5 6 s 5 * w 6 s x).sum = w 5 5 x := by
  simp [List.range, List.range.loop, w, bin, hw, Rat.mkRat_eq_div]
  grind
theorem hyp_6_6_0 (x : Rat) : ((List.range (6 + 1)).map fun s => hw 6 6 s 0 * w 6 s x).sum = w 6 0 x := by
  simp [List.range, List.range.loop, w, bin, hw, Rat.mkRat_eq_div]
  grind
theorem hyp_6_6_1 (x : Rat) : ((List.range (6 + 1)).map fun s => hw 6 6 s 1 * w 6 s x).sum = w 6 1 x := by
  simp [List.range, List.range.loop, w, bin, hw, Rat.mkRat_eq_div]
  grind
theorem hyp_6_6_2 (x : Rat) : ((List.range (6 + 1)).map fun s => hw 6 6 s 2 * w 6 s x).sum = w 6 2 x := by
  simp [List.range, List.range.loop, w, bin, hw, Rat.mkRat_eq_div]
  grind
theorem hyp_6_6_3 (x : Rat) : ((List.range (6 + 1)).map fun s => hw 6 6 s 3 * w 6 s x).sum = w 6 3 x := by
  simp [List.range, List.range.loop, w, bin, hw, Rat.mkRat_eq_div]
  grind
theorem hyp_6_6_4 (x : Rat) : ((List.range (6 + 1)).map fun s => hw 6 6 s 4 * w 6 s x).sum = w 6 4 x := by
  simp [List.range, List.range.loop, w, bin, hw, Rat.mkRat_eq_div]
  grind
theorem hyp_6_6_5 (x : Rat) : ((List.range (6 + 1)).map fun s => hw 6 6 s 5 * w 6 s x).sum = w 6 5 x := by
  simp [List.range, List.range.loop, w, bin, hw, Rat.mkRat_eq_div]
  grind
theorem hyp_6_6_6 (x : Rat) : ((List.range (6 + 1)).map fun s => hw 6 6 s 6 * w 6 s x).sum = w 6 6 x := by
  simp [List.range, List.range.loop, w, bin, hw, Rat.mkRat_eq_div]
  grind
theorem hyp : ∀ {n m i : Nat}, 1 ≤ n → n ≤ m → m ≤ 6 → i ≤ n → ∀ x : Rat, ((List.range (m + 1)).map fun s => hw n m s i * w m s x).sum = w n i x := by
  intro n m i h1 h2 h3 h4 x
  have h0 : n ≤ 6 := Nat.le_trans h2 h3
  match n, h0, m, h3, i, h1, h2, h4 with
  | 1, _, 1, _, 0, _, _, _ => exact hyp_1_1_0 x
  | 1, _, 1, _, 1, _, _, _ => exact hyp_1_1_1 x
  | 1, _, 2, _, 0, _, _, _ => exact hyp_1_2_0 x
  | 1, _, 2, _, 1, _, _, _ => exact hyp_1_2_1 x
  | 1, _, 3, _, 0, _, _, _ => exact hyp_1_3_0 x
  | 1, _, 3, _, 1, _, _, _ => exact hyp_1_3_1 x
  | 1, _, 4, _, 0, _, _, _ => exact hyp_1_4_0 x
  | 1, _, 4, _, 1, _, _, _ => exact hyp_1_4_1 x
  | 1, _, 5, _, 0, _, _, _ => exact hyp_1_5_0 x
  | 1, _, 5, _, 1, _, _, _ => exact hyp_1_5_1 x
  | 1, _, 6, _, 0, _, _, _ => exact hyp_1_6_0 x
  | 1, _, 6, _, 1, _, _, _ => exact hyp_1_6_1 x
  | 2, _, 2, _, 0, _, _, _ => exact hyp_2_2_0 x
  | 2, _, 2, _, 1, _, _, _ => exact hyp_2_2_1 x
  | 2, _, 2, _, 2, _, _, _ => exact hyp_2_2_2 x
  | 2, _, 3, _, 0, _, _, _ => exact hyp_2_3_0 x
  | 2, _, 3, _, 1, _, _, _ => exact hyp_2_3_1 x
  | 2, _, 3, _, 2, _, _, _ => exact hyp_2_3_2 x
  | 2, _, 4, _, 0, _, _, _ => exact hyp_2_4_0 x
  | 2, _, 4, _, 1, _, _, _ => exact hyp_2_4_1 x
  | 2, _, 4, _, 2, _, _, _ => exact hyp_2_4_2 x
  | 2, _, 5, _, 0, _, _, _ => exact hyp_2_5_0 x
  | 2, _, 5, _, 1, _, _, _ => exact hyp_2_5_1 x
  | 2, _, 5, _, 2, _, _, _ => exact hyp_2_5_2 x
  | 2, _, 6, _, 0, _, _, _ => exact hyp_2_6_0 x
  | 2, _, 6, _, 1, _, _, _ => exact hyp_2_6_1 x
  | 2, _, 6, _, 2, _, _, _ => exact hyp_2_6_2 x
  | 3, _, 3, _, 0, _, _, _ => exact hyp_3_3_0 x
  | 3, _, 3, _, 1, _, _, _ => exact hyp_3_3_1 x
  | 3, _, 3, _, 2, _, _, _ => exact hyp_3_3_2 x
  | 3, _, 3, _, 3, _, _, _ => exact hyp_3_3_3 x
  | 3, _, 4, _, 0, _, _, _ => exact hyp_3_4_0 x
  | 3, _, 4, _, 1, _, _, _ => exact hyp_3_4_1 x
  | 3, _, 4, _, 2, _, _, _ => exact hyp_3_4_2 x
  | 3, _, 4, _, 3, _, _, _ => exact hyp_3_4_3 x
  | 3, _, 5, _, 0, _, _, _ => exact hyp_3_5_0 x
  | 3, _, 5, _, 1, _, _, _ => exact hyp_3_5_1 x
  | 3, _, 5, _, 2, _, _, _ => exact hyp_3_5_2 x
  | 3, _, 5, _, 3, _, _, _ => exact hyp_3_5_3 x
  | 3, _, 6, _, 0, _, _, _ => exact hyp_3_6_0 x
  | 3, _, 6, _, 1, _, _, _ => exact hyp_3_6_1 x
  | 3, _, 6, _, 2, _, _, _ => exact hyp_3_6_2 x
  | 3, _, 6, _, 3, _, _, _ => exact hyp_3_6_3 x
  | 4, _, 4, _, 0, _, _, _ => exact hyp_4_4_0 x
  | 4, _, 4, _, 1, _, _, _ => exact hyp_4_4_1 x
  | 4, _, 4, _, 2, _, _, _ => exact hyp_4_4_2 x
  | 4, _, 4, _, 3, _, _, _ => exact hyp_4_4_3 x
  | 4, _, 4, _, 4, _, _, _ => exact hyp_4_4_4 x
  | 4, _, 5, _, 0, _, _, _ => exact hyp_4_5_0 x
  | 4, _, 5, _, 1, _, _, _ => exact hyp_4_5_1 x
  | 4, _, 5, _, 2, _, _, _ => exact hyp_4_5_2 x
  | 4, _, 5, _, 3, _, _, _ => exact hyp_4_5_3 x
  | 4, _, 5, _, 4, _, _, _ => exact hyp_4_5_4 x
  | 4, _, 6, _, 0, _, _, _ => exact hyp_4_6_0 x
  | 4, _, 6, _, 1, _, _, _ => exact hyp_4_6_1 x
  | 4, _, 6, _, 2, _, _, _ => exact hyp_4_6_2 x
  | 4, _, 6, _, 3, _, _, _ => exact hyp_4_6_3 x
  | 4, _, 6, _, 4, _, _, _ => exact hyp_4_6_4 x
  | 5, _, 5, _, 0, _, _, _ => exact hyp_5_5_0 x
  | 5, _, 5, _, 1, _, _, _ => exact hyp_5_5_1 x
  | 5, _, 5, _, 2, _, _, _ => exact hyp_5_5_2 x
  | 5, _, 5, _, 3, _, _, _ => exact hyp_5_5_3 x
  | 5, _, 5, _, 4, _, _, _ => exact hyp_5_5_4 x
  | 5, _, 5, _, 5, _, _, _ => exact hyp_5_5_5 x
  | 5, _, 6, _, 0, _, _, _ => exact hyp_5_6_0 x
  | 5, _, 6, _, 1, _, _, _ => exact hyp_5_6_1 x
  | 5, _, 6, _, 2, _, _, _ => exact hyp_5_6_2 x
  | 5, _, 6, _, 3, _, _, _ => exact hyp_5_6_3 x
  | 5, _, 6, _, 4, _, _, _ => exact hyp_5_6_4 x
  | 5, _, 6, _, 5, _, _, _ => exact hyp_5_6_5 x
  | 6, _, 6, _, 0, _, _, _ => exact hyp_6_6_0 x
  | 6, _, 6, _, 1, _, _, _ => exact hyp_6_6_1 x
  | 6, _, 6, _, 2, _, _, _ => exact hyp_6_6_2 x
  | 6, _, 6, _, 3, _, _, _ => exact hyp_6_6_3 x
  | 6, _, 6, _, 4, _, _, _ => exact hyp_6_6_4 x
  | 6, _, 6, _, 5, _, _, _ => exact hyp_6_6_5 x
  | 6, _, 6, _, 6, _, _, _ => exact hyp_6_6_6 x
theorem sum_comm {α β : Type} (f : α → β → Rat) (B : List β) : ∀ A : List α, (A.map fun a => (B.map fun b => f a b).sum).sum = (B.map fun b => (A.map fun a => f a b).sum).sum
  | [] => by
    simp
    exact (sum_zero (f := fun _ : β => (0 : Rat)) fun _ _ => rfl).symm
  | a :: A => by
    rw [List.map_cons, List.sum_cons, sum_comm f B A, ← sum_add]
    refine sum_congr fun b _ => ?_
    rw [List.map_cons, List.sum_cons]
theorem cast_sum (f : Nat → Nat) : ∀ l : List Nat, (l.map fun i => ((f i : Nat) : Rat)).sum = (((l.map f).sum : Nat) : Rat)
  | [] => by simp
  | a :: l => by
    rw [List.map_cons, List.sum_cons, cast_sum f l, List.map_cons, List.sum_cons]; simp
theorem vand : ∀ m, m ≤ 6 → ∀ n, n ≤ m → ∀ s, s ≤ m → ((List.range (n + 1)).map fun i => bin s i * bin (m - s) (n - i)).sum = bin m n := by decide
theorem bin_pos {m n : Nat} (hm : m ≤ 6) (h : n ≤ m) : 0 < bin m n := (bin_35 m (by omega) n h).2
theorem hw_eq {n m s i : Nat} (hm : m ≤ 6) (h : n ≤ m) : hw n m s i = mkRat 1 (bin m n) * ((bin s i * bin (m - s) (n - i) : Nat) : Rat) := by
  unfold hw
  rw [mk_split _ _ (Nat.pos_iff_ne_zero.mp (bin_pos hm h)), Rat.mul_comm]
theorem hw_sum {n m s : Nat} (hm : m ≤ 6) (h : n ≤ m) (hs : s ≤ m) : ((List.range (n + 1)).map fun i => hw n m s i).sum = 1 := by
  rw [List.map_congr_left (fun i _ => hw_eq hm h), sum_mul, cast_sum, vand m hm n h s hs, Rat.mkRat_eq_div]
  have hb : ((bin m n : Nat) : Rat) ≠ 0 := by
    have := bin_pos hm h
    have : bin m n ≠ 0 := by omega
    exact_mod_cast this
  have e1 : ((1 : Int) : Rat) = 1 := rfl
  rw [e1]
  grind
theorem hw_nn {n m s i : Nat} : 0 ≤ hw n m s i := by
  unfold hw
  rw [← Rat.num_nonneg, Rat.num_mkRat]
  split
  · exact Int.le_refl _
  · exact Int.ediv_nonneg (by omega) (by omega)
theorem jensen {α : Type} {l : List α} {p e : α → Rat} (h0 : ∀ a ∈ l, 0 ≤ p a) (h1 : (l.map p).sum = 1) : (l.map fun a => p a * e a).sum * (l.map fun a => p a * e a).sum ≤ (l.map fun a => p a * (e a * e a)).sum := by
  generalize hμ : (l.map fun a => p a * e a).sum = μ
  have nn : 0 ≤ (l.map fun a => p a * ((e a - μ) * (e a - μ))).sum := sum_nonneg fun a ha => Rat.mul_nonneg (h0 a ha) (sq_nn _)
  have ex : ∀ a, p a * ((e a - μ) * (e a - μ)) = p a * (e a * e a) + (((-2) * μ) * (p a * e a) + (μ * μ) * p a) := fun a => by grind
  rw [List.map_congr_left (fun a _ => ex a), sum_add, sum_add, sum_mul, sum_mul, hμ, h1] at nn
  grind
/-! ### more trials -/
def mo (n m : Nat) (f : Nat → Rat) (s : Nat) : Rat := ((List.range (n + 1)).map fun i => hw n m s i * f i).sum
def more (n m : Nat) (es : List Rat) : List Rat := (List.range (m + 1)).map fun s => mo n m (fun i => es.getD i 0) s
theorem more_len (n m : Nat) (es : List Rat) : (more n m es).length = m + 1 := by simp [more]
theorem more_get {n m s : Nat} {es : List Rat} (hs : s ≤ m) : (more n m es).getD s 0 = mo n m (fun i => es.getD i 0) s := by
  unfold more
  rw [List.getD_eq_getElem?_getD, List.getElem?_map, List.getElem?_range (by omega)]
  rfl
theorem mo_w {n m : Nat} (h1 : 1 ≤ n) (h : n ≤ m) (hm : m ≤ 6) (f : Nat → Rat) (x : Rat) : ((List.range (m + 1)).map fun s => mo n m f s * w m s x).sum = ((List.range (n + 1)).map fun i => f i * w n i x).sum := by
  have e1 : ∀ s, mo n m f s * w m s x = ((List.range (n + 1)).map fun i => f i * (hw n m s i * w m s x)).sum := fun s => by
    unfold mo
    rw [Rat.mul_comm, ← sum_mul]
    refine sum_congr fun i _ => ?_
    grind
  rw [List.map_congr_left (fun s _ => e1 s), sum_comm]
  refine sum_congr fun i hi => ?_
  rw [sum_mul, hyp h1 h hm (by have := List.mem_range.mp hi; omega)]
theorem more_mean {n m : Nat} (h1 : 1 ≤ n) (h : n ≤ m) (hm : m ≤ 6) {es : List Rat} (hl : es.length = n + 1) (x : Rat) : mean m (more n m es) x = mean n es x := by
  unfold mean
  rw [more_len, hl, ← mo_w h1 h hm (fun i => es.getD i 0) x]
  refine sum_congr fun s hs => ?_
  rw [more_get (by have := List.mem_range.mp hs; omega)]
theorem more_spr {n m : Nat} (h1 : 1 ≤ n) (h : n ≤ m) (hm : m ≤ 6) {es : List Rat} (hl : es.length = n + 1) {x : Rat} (x0 : 0 ≤ x) (x1 : x ≤ 1) : spr m (more n m es) x ≤ spr n es x := by
  unfold spr
  rw [more_mean h1 h hm hl]
  have key : mean m (sqs (more n m es)) x ≤ mean n (sqs es) x := by
    unfold mean
    rw [sqs_len, sqs_len, more_len, hl]
    have e2 := mo_w h1 h hm (fun i => es.getD i 0 * es.getD i 0) x
    rw [List.map_congr_left (l := List.range (n + 1)) (fun i _ => by rw [sqs_get]), ← e2]
    have d : 0 ≤ ((List.range (m + 1)).map fun s => mo n m (fun i => es.getD i 0 * es.getD i 0) s * w m s x + (-1) * ((sqs (more n m es)).getD s 0 * w m s x)).sum := sum_nonneg fun s hs => by
      have hs : s ≤ m := by have := List.mem_range.mp hs; omega
      rw [sqs_get, more_get hs]
      have j := jensen (l := List.range (n + 1)) (p := fun i => hw n m s i) (e := fun i => es.getD i 0) (fun _ _ => hw_nn) (hw_sum hm h hs)
      have hwn : 0 ≤ w m s x := w_nn x0 x1
      have j' : 0 ≤ mo n m (fun i => es.getD i 0 * es.getD i 0) s - mo n m (fun i => es.getD i 0) s * mo n m (fun i => es.getD i 0) s := by
        have : mo n m (fun i => es.getD i 0) s * mo n m (fun i => es.getD i 0) s ≤ mo n m (fun i => es.getD i 0 * es.getD i 0) s := j
        grind
      have := Rat.mul_nonneg j' hwn
      grind
    rw [sum_add, sum_mul] at d
    grind
  grind
theorem more_self {n : Nat} (h1 : 1 ≤ n) (hn : n ≤ 6) {es : List Rat} (hl : es.length = n + 1) : more n n es = es :=
  mean_inj hn (more_len _ _ _) hl fun x => more_mean h1 (Nat.le_refl _) hn hl x
theorem more_more {n m k : Nat} (h1 : 1 ≤ n) (h : n ≤ m) (hm : m ≤ k) (hk : k ≤ 6) {es : List Rat} (hl : es.length = n + 1) : more m k (more n m es) = more n k es :=
  mean_inj hk (more_len _ _ _) (more_len _ _ _) fun x => by
    rw [more_mean (by omega) hm hk (more_len _ _ _), more_mean h1 h (by omega) hl, more_mean h1 (by omega) hk hl]
/-! ### the program's parts -/
def mparts (n m s : Nat) : Nat → List Rat → List Rat
  | _, [] => []
  | i, e :: r => if i ≤ s ∧ n + s ≤ m + i then hw n m s i * e :: mparts n m s (i + 1) r else mparts n m s (i + 1) r
theorem mparts_cons (n m s i : Nat) (e : Rat) (r : List Rat) : mparts n m s i (e :: r) = if i ≤ s ∧ n + s ≤ m + i then hw n m s i * e :: mparts n m s (i + 1) r else mparts n m s (i + 1) r := rfl
theorem hw_zero {n m s i : Nat} (hs : s ≤ m) (hi : i ≤ n) (h : ¬ (i ≤ s ∧ n + s ≤ m + i)) : hw n m s i = 0 := by
  unfold hw
  have : bin s i * bin (m - s) (n - i) = 0 := by
    by_cases h1 : i ≤ s
    · rw [bin_gt (n := m - s) (k := n - i) (by omega), Nat.mul_zero]
    · rw [bin_gt (by omega), Nat.zero_mul]
  rw [this]
  simp
theorem mparts_sum {n m s : Nat} (hs : s ≤ m) : ∀ (es : List Rat) (i : Nat), i + es.length ≤ n + 1 → (mparts n m s i es).sum = ((List.range es.length).map fun j => hw n m s (i + j) * es.getD j 0).sum
  | [], i, _ => by simp [mparts]
  | e :: r, i, h => by
    rw [List.length_cons] at h
    have ih := mparts_sum (n := n) hs r (i + 1) (by omega)
    rw [List.length_cons, sum_range_succ']
    have e1 : ∀ j, hw n m s (i + (j + 1)) * (e :: r).getD (j + 1) 0 = hw n m s (i + 1 + j) * r.getD j 0 := fun j => by
      rw [List.getD_cons_succ, show i + (j + 1) = i + 1 + j by omega]
    rw [List.map_congr_left (fun j _ => e1 j), ← ih]
    simp only [List.getD_cons_zero, Nat.add_zero]
    rw [mparts_cons]
    split
    · rw [List.sum_cons]
    · rename_i hc
      rw [hw_zero (n := n) (i := i) hs (by omega) hc]
      grind
theorem mparts_len (n m s : Nat) : ∀ (es : List Rat) (i : Nat), (mparts n m s i es).length ≤ es.length
  | [], _ => Nat.le_refl _
  | e :: r, i => by
    have := mparts_len n m s r (i + 1)
    rw [mparts_cons]
    split
    · simp; exact this
    · simp; omega
theorem hw_bd {n m s i : Nat} (hm : m ≤ 6) (h : n ≤ m) (hs : s ≤ m) (hi : i ≤ n) : Bd (bin m n) 1 (hw n m s i) := by
  unfold hw
  refine bd_div (Nat.pos_iff_ne_zero.mp (bin_pos hm h)) ⟨1, by omega⟩ ?_
  rw [Int.natAbs_natCast, Nat.one_mul]
  have v := vand m hm n h s hs
  rw [← v]
  have : ∀ (l : List Nat) (f : Nat → Nat), i ∈ l → f i ≤ (l.map f).sum := fun l f => by
    induction l with
    | nil => intro z; cases z
    | cons a l ih =>
      intro z
      rw [List.map_cons, List.sum_cons]
      rcases List.mem_cons.mp z with e | e
      · subst e; omega
      · have := ih e; omega
  exact this (List.range (n + 1)) (fun i => bin s i * bin (m - s) (n - i)) (List.mem_range.mpr (by omega))
theorem mparts_pb {n m s M V : Nat} (hm : m ≤ 6) (h : n ≤ m) (hs : s ≤ m) : ∀ (es : List Rat) (i : Nat), i + es.length ≤ n + 1 → PB M V es → PB (bin m n * M) V (mparts n m s i es)
  | [], _, _, _ => fun x hx => by cases hx
  | e :: r, i, hl, hb => fun x hx => by
    rw [List.length_cons] at hl
    have ih := mparts_pb hm h hs r (i + 1) (by omega) fun y hy => hb y (List.mem_cons_of_mem _ hy)
    rw [mparts_cons] at hx
    split at hx
    · rcases List.mem_cons.mp hx with z | z
      · rw [z]
        have := (hw_bd hm h hs (show i ≤ n by omega)).mul (hb e List.mem_cons_self)
        rwa [Nat.one_mul] at this
      · exact ih x z
    · exact ih x hx
theorem mo_parts {n m s : Nat} (hs : s ≤ m) {es : List Rat} (hl : es.length = n + 1) : (mparts n m s 0 es).sum = mo n m (fun i => es.getD i 0) s := by
  rw [mparts_sum hs es 0 (by omega), hl]
  unfold mo
  simp only [Nat.zero_add]
theorem more_pb {n m M V : Nat} (hm : m ≤ 6) (h : n ≤ m) {es : List Rat} (hl : es.length = n + 1) (hb : PB M V es) : PB (bin m n * M) (7 * V) (more n m es) := fun x hx => by
  unfold more at hx
  obtain ⟨s, hs, rfl⟩ := List.mem_map.mp hx
  have hs : s ≤ m := by have := List.mem_range.mp hs; omega
  rw [← mo_parts hs hl]
  refine (bd_sum (mparts_pb hm h hs es 0 (by omega) hb)).mono (Nat.mul_le_mul_right _ ?_)
  have := mparts_len n m s es 0
  omega
end HN
end
section
set_option linter.all false
set_option maxRecDepth 100000
set_option maxHeartbeats 1000000
set_option exponentiation.threshold 20000
namespace HN
open PySem L2 HL HM
def bodyMI : Es → Fl := sIf (yAnd (yBl (x2 dLe (xV 6) (xV 4))) (yBl (x2 dLe (x2 dSub (xV 0) (xV 6)) (x2 dSub (xV 2) (xV 4))))) (sSeq (sAsg 8 (x2 dMul (xCall 2 m_choices (aC (xV 4) (aC (xV 6) aN))) (xCall 2 m_choices (aC (x2 dSub (xV 2) (xV 4)) (aC (x2 dSub (xV 0) (xV 6)) aN)))))
  (sApp 5 (xCall 2 m_times (aC (xCall 2 m_reduced (aC (xV 8) (aC (xCall 2 m_choices (aC (xV 2) (aC (xV 0) aN))) aN))) (aC (xV 7) aN))))) sNil
def bodyMO : Es → Fl := sSeq (sAsgO 5 (aLst aN)) (sSeq (sFor (iA dEnum (aC (xV 1) aN)) (h2 6 7) bodyMI) (sAppR 3 (xCall 1 m_total (aC (xV 5) aN))))
theorem g_more_eq : g_more_trials = sSeq (sExp (xCall 2 m_check_estimate (aC (xV 0) (aC (xV 1) aN)))) (sSeq (sIf (yNot (yTru (xCall 3 m_in_range (aC (xV 2) (aC (xV 0) (aC (xC (.int 6)) aN)))))) (sRaise "TooMany") sNil)
  (sSeq (sAsgO 3 (aLst aN)) (sSeq (sFor (iA dR1 (aC (x2 dAddA (xV 2) (xC (.int 1))) aN)) (hN 4) bodyMO) (sRet (xA dTupOf (aC (xV 3) aN)))))) := (rfl)
theorem hw_sm {n m s i : Nat} (hm : m ≤ 6) (h : n ≤ m) (hs : s ≤ m) (hi : i ≤ n) : Sm (hw n m s i) := by
  have b := bin_20 m hm n h
  exact Sz.sm (M := bin m n) (V := 1) (Sz.low (N := 20) ⟨by decide, by decide +kernel⟩ (Nat.pos_iff_ne_zero.mp (bin_pos hm h)) b) (hw_bd hm h hs hi)
theorem bodyMI_ok {n m s i : Nat} {u : D} {res : List D} {acc : List D} {e : Rat} (hm : m ≤ 6) (h : n ≤ m) (hs : s ≤ m) (hi : i ≤ n) (he : Sm e) (ha : acc.length < 1000) (o8 : Option Sl) :
    ∃ p8, bodyMI [some (.im (.int n)), some (.im u), some (.im (.int m)), some (.ow res), some (.im (.int (s : Nat))), some (.ow acc), some (.im (.int (i : Nat))), some (.im (fr e)), o8] = .nx [some (.im (.int n)), some (.im u), some (.im (.int m)), some (.ow res), some (.im (.int (s : Nat))), some (.ow (acc ++ (if i ≤ s ∧ n + s ≤ m + i then [fr (hw n m s i * e)] else []))), some (.im (.int (i : Nat))), some (.im (fr e)), p8] := by
  have c1 := choices_ok (n := s) (k := i) (by omega) (by omega)
  have c2 := choices_ok (n := m - s) (k := n - i) (by omega) (by omega)
  have c3 := choices_ok (n := m) (k := n) (by omega) (by omega)
  have b3 := bin_20 m hm n h
  have bp := bin_pos hm h
  by_cases hc : i ≤ s ∧ n + s ≤ m + i
  · rw [if_pos hc]
    have l1 : (i : Int) ≤ (s : Int) := by omega
    have l2 : (n : Int) - (i : Int) ≤ (m : Int) - (s : Int) := by omega
    have e1 : (m : Int) - (s : Int) = ((m - s : Nat) : Int) := by omega
    have e2 : (n : Int) - (i : Int) = ((n - i : Nat) : Int) := by omega
    have bs : ∀ a b : Nat, a ≤ 6 → bin a b ≤ 20 := fun a b ha => by
      by_cases hb : b ≤ a
      · exact bin_20 a ha b hb
      · rw [bin_gt (by omega)]; omega
    have mu : dMul (.int ((bin s i : Nat) : Int)) (.int ((bin (m - s) (n - i) : Nat) : Int)) = .ok (.int ((bin s i * bin (m - s) (n - i) : Nat) : Int)) := by
      rw [dMul_r (by rw [Int.natAbs_natCast]; exact Nat.lt_of_le_of_lt (bs _ _ (by omega)) (by decide))]
      simp
    have re := reduced_ok (a := ((bin s i * bin (m - s) (n - i) : Nat) : Int)) (b := bin m n) (by omega) (Nat.lt_of_le_of_lt b3 (Nat.lt_of_lt_of_le (show 20 < 2 ^ 5 by decide) (Nat.pow_le_pow_right (by decide) (by decide))))
    have ti := times_ok (hw_sm hm h hs hi) he
    refine ⟨some (.im (.int ((bin s i * bin (m - s) (n - i) : Nat) : Int))), ?_⟩
    unfold bodyMI
    rw [sIf_ap]
    simp only [yAnd_ap, yBl_ap, x2_ap, vw, List.map_cons, List.map_nil, sw, xV_s, xV_z, R.bind_ok, dLe_int, dSub_int, dBl_bool, decide_eq_true l1, decide_eq_true l2, if_pos, fR_ok]
    refine seqN (δ' := [some (.im (.int n)), some (.im u), some (.im (.int m)), some (.ow res), some (.im (.int (s : Nat))), some (.ow acc), some (.im (.int (i : Nat))), some (.im (fr e)), some (.im (.int ((bin s i * bin (m - s) (n - i) : Nat) : Int)))]) ?_ ?_
    · simp only [sAsg_ap, x2_ap, xCall_ap, aC_ap, aN_ap, v0, List.map_cons, s0, xV_s, xV_z, R.bind_ok, dSub_int, List.length_cons, List.length_nil, if_pos, c1, e1, e2, c2, mu, fR_ok]
      rfl
    · rw [sApp_ap]
      simp only [owAt_s, owAt_z, xCall_ap, aC_ap, aN_ap, v0, List.map_cons, s0, xV_s, xV_z, R.bind_ok, List.length_cons, List.length_nil, if_pos, c3, re]
      have ti' : m_times [fr (mkRat ((bin s i * bin (m - s) (n - i) : Nat) : Int) (bin m n)), fr e] = .ok (fr (hw n m s i * e)) := ti
      rw [ti', fR_ok, if_pos ha]
      rfl
  · rw [if_neg hc, List.append_nil]
    refine ⟨o8, ?_⟩
    unfold bodyMI
    rw [sIf_ap]
    by_cases hc1 : i ≤ s
    · have l1 : (i : Int) ≤ (s : Int) := by omega
      have l2 : ¬ (n : Int) - (i : Int) ≤ (m : Int) - (s : Int) := by omega
      simp only [yAnd_ap, yBl_ap, x2_ap, vw, List.map_cons, List.map_nil, sw, xV_s, xV_z, R.bind_ok, dLe_int, dSub_int, dBl_bool, decide_eq_true l1, decide_eq_false l2, if_pos, fR_ok]
      rfl
    · have l1 : ¬ (i : Int) ≤ (s : Int) := by omega
      simp only [yAnd_ap, yBl_ap, x2_ap, vw, List.map_cons, List.map_nil, sw, xV_s, xV_z, R.bind_ok, dLe_int, dSub_int, dBl_bool, decide_eq_false l1]
      rfl
theorem inM {n m s : Nat} {u : D} {res : List D} (hm : m ≤ 6) (h : n ≤ m) (hs : s ≤ m) : ∀ (es : List Rat) (i : Nat) (acc : List Rat) (o6 o7 o8 : Option Sl), i + es.length ≤ n + 1 → (∀ e ∈ es, Sm e) → acc.length + es.length ≤ 900 →
    ∃ p6 p7 p8, forD (h2 6 7) bodyMI (enumF i (es.map fr)) [some (.im (.int n)), some (.im u), some (.im (.int m)), some (.ow res), some (.im (.int (s : Nat))), some (.ow (acc.map fr)), o6, o7, o8] = .nx [some (.im (.int n)), some (.im u), some (.im (.int m)), some (.ow res), some (.im (.int (s : Nat))), some (.ow ((acc ++ mparts n m s i es).map fr)), p6, p7, p8]
  | [], i, acc, o6, o7, o8, _, _, _ => ⟨o6, o7, o8, by simp [mparts, enumF, forD]⟩
  | e :: es, i, acc, o6, o7, o8, hi, he, ha => by
    rw [List.length_cons] at hi ha
    obtain ⟨q8, b⟩ := bodyMI_ok (n := n) (m := m) (s := s) (i := i) (u := u) (res := res) (acc := acc.map fr) (e := e) hm h hs (by omega) (he e List.mem_cons_self) (by rw [List.length_map]; omega) o8
    obtain ⟨p6, p7, p8, eq⟩ := inM (u := u) (res := res) hm h hs es (i + 1) (acc ++ if i ≤ s ∧ n + s ≤ m + i then [hw n m s i * e] else []) (some (.im (.int (i : Nat)))) (some (.im (fr e))) q8 (by omega) (fun x hx => he x (List.mem_cons_of_mem _ hx)) (by split <;> simp <;> omega)
    refine ⟨p6, p7, p8, ?_⟩
    rw [List.map_cons, enumF, forD_cons (by simp [h2]) b]
    have e1 : acc.map fr ++ (if i ≤ s ∧ n + s ≤ m + i then [fr (hw n m s i * e)] else []) = (acc ++ if i ≤ s ∧ n + s ≤ m + i then [hw n m s i * e] else []).map fr := by
      rw [List.map_append]; split <;> rfl
    rw [e1, eq]
    have e2 : acc ++ (if i ≤ s ∧ n + s ≤ m + i then [hw n m s i * e] else []) ++ mparts n m s (i + 1) es = acc ++ mparts n m s i (e :: es) := by
      rw [mparts_cons]; split <;> simp
    rw [e2]
theorem more_ok {n m M V : Nat} {es : List Rat} (E : Est n M V es) (h : n ≤ m) (hm : m ≤ 6) : m_more_trials [.int n, .tuple (es.map HN.fr), .int m] = .ok (.tuple ((more n m es).map HN.fr)) := by
  have n1 := E.n1
  have hl := E.l
  have sm : ∀ e ∈ es, Sm e := fun e he => (E.sz1.mono (by omega)).sm (E.b e he)
  have ir : m_in_range [.int (m : Int), .int (n : Int), .int 6] = .ok (.bool true) := by rw [in_range_ok]; simp; omega
  have rg : dR1 [.int ((m : Int) + 1)] = .ok ((List.range (m + 1)).map fun t : Nat => .int ((t : Nat) : Int)) := dr_Z (by omega) (by omega)
  refine runF_rt ?_
  rw [g_more_eq]
  show sSeq _ _ [some (.im (.int n)), some (.im (.tuple (es.map fr))), some (.im (.int m)), none, none, none, none, none, none] = _
  refine seqN (δ' := [some (.im (.int n)), some (.im (.tuple (es.map fr))), some (.im (.int m)), none, none, none, none, none, none]) (by simp [check_estimate_ok E.n1 E.n6 E.l E.fr]) ?_
  refine seqN (δ' := [some (.im (.int n)), some (.im (.tuple (es.map fr))), some (.im (.int m)), none, none, none, none, none, none]) (by simp [ir]) ?_
  refine seqN (δ' := [some (.im (.int n)), some (.im (.tuple (es.map fr))), some (.im (.int m)), some (.ow []), none, none, none, none, none]) (by simp) ?_
  obtain ⟨δ2, e2, o4, o5, o6, o7, o8, rfl⟩ := forD_app (γ := hN 4) (body := bodyMO) (f := fun t : Nat => (PyData.int ((t : Nat) : Int) : D)) (F := fun s : Nat => fr (mo n m (fun i => es.getD i 0) s)) 900 (fun acc δ => ∃ o4 o5 o6 o7 o8, δ = [some (.im (.int n)), some (.im (.tuple (es.map fr))), some (.im (.int m)), some (.ow acc), o4, o5, o6, o7, o8]) (xs := List.range (m + 1)) (fun s hs acc δ ha hδ => by
    have hs : s ≤ m := by have := List.mem_range.mp hs; omega
    obtain ⟨o4, o5, o6, o7, o8, rfl⟩ := hδ
    obtain ⟨p6, p7, p8, eq⟩ := inM (n := n) (m := m) (s := s) (u := .tuple (es.map fr)) (res := acc) hm h hs es 0 [] o6 o7 o8 (by omega) sm (by simp; omega)
    refine ⟨[some (.im (.int n)), some (.im (.tuple (es.map fr))), some (.im (.int m)), some (.ow acc), some (.im (.int (s : Nat))), o5, o6, o7, o8], [some (.im (.int n)), some (.im (.tuple (es.map fr))), some (.im (.int m)), some (.ow (acc ++ [fr (mo n m (fun i => es.getD i 0) s)])), some (.im (.int (s : Nat))), some (.ow ((mparts n m s 0 es).map fr)), p6, p7, p8], by simp [hN], ?_, ⟨_, _, _, _, _, rfl⟩⟩
    unfold bodyMO
    refine seqN (δ' := [some (.im (.int n)), some (.im (.tuple (es.map fr))), some (.im (.int m)), some (.ow acc), some (.im (.int (s : Nat))), some (.ow []), o6, o7, o8]) (by simp) ?_
    refine seqN (δ' := [some (.im (.int n)), some (.im (.tuple (es.map fr))), some (.im (.int m)), some (.ow acc), some (.im (.int (s : Nat))), some (.ow ((mparts n m s 0 es).map fr)), p6, p7, p8]) ?_ ?_
    · rw [sFor_ap]
      simp only [iA_ap, aC_ap, aN_ap, v0, List.map_cons, s0, xV_s, xV_z, R.bind_ok, dEnum_t, fR_ok]
      simpa using eq
    · have b3 := bin_20 m hm n h
      have bp := bin_pos hm h
      have ml := mparts_len n m s es 0
      have pz : Sz (bin m n * M) ((mparts n m s 0 es).length * V + V) := by
        rw [Nat.mul_comm]
        refine Sz.low (N := M * 60 ^ 20) (E.sz.mono ?_) (Nat.mul_ne_zero E.z (by omega)) (Nat.mul_le_mul_left _ (Nat.le_trans b3 (by decide)))
        have : (mparts n m s 0 es).length * V + V ≤ 8 * V := by
          have := Nat.mul_le_mul_right V (show (mparts n m s 0 es).length + 1 ≤ 8 by omega)
          rwa [Nat.add_mul, Nat.one_mul] at this
        have e : (10 : Nat) ^ 40 = 10000000000000000000000000000000000000000 := by decide
        omega
      have to := total_ok (psr_sz (mparts_pb hm h hs es 0 (by omega) E.b) pz)
      rw [mo_parts hs hl] at to
      rw [sAppR_ap]
      simp only [owAt_s, owAt_z, xCall_ap, aC_ap, aN_ap, vw, List.map_cons, List.map_nil, sw, xV_s, xV_z, R.bind_ok, List.length_cons, List.length_nil, if_pos, to, fR_ok, lf_fr, and_true]
      rw [if_pos (by omega)]
      rfl) [] _ (by simp; omega) ⟨none, none, none, none, none, rfl⟩
  have en : ([] : List D) ++ (List.range (m + 1)).map (fun s : Nat => fr (mo n m (fun i => es.getD i 0) s)) = (more n m es).map HN.fr := by
    unfold more; rw [List.map_map]; rfl
  rw [en] at e2
  refine seqN (δ' := [some (.im (.int n)), some (.im (.tuple (es.map fr))), some (.im (.int m)), some (.ow ((more n m es).map HN.fr)), o4, o5, o6, o7, o8]) ?_ ?_
  · rw [sFor_ap]
    simp only [iA_ap, aC_ap, aN_ap, x2_ap, xC_ap, v0, List.map_cons, s0, xV_s, xV_z, R.bind_ok, dAddA_int, rg, fR_ok]
    exact e2
  · simp only [sRet_ap, xA_ap, aC_ap, aN_ap, vw, List.map_cons, List.map_nil, sw, xV_s, xV_z, R.bind_ok, dTupOf_list, fR_ok]
theorem more_est {n m : Nat} {es : List Rat} (E : Est n 60 9 es) (h : n ≤ m) (hm : m ≤ 6) : Est m (bin m n * 60) 63 (more n m es) := by
  have b3 := bin_20 m hm n h
  have bp := bin_pos hm h
  exact Est.of (Nat.le_trans E.n1 h) hm (more_len _ _ _) (more_pb hm h E.l E.b) (Nat.mul_ne_zero (by omega) (by decide)) (by omega) (by omega)
theorem less_ok {x y : Rat} (hx : Sm x) (hy : Sm y) : m_law_less [fr x, fr y] = .ok (.bool (decide (x < y))) := by
  have k1 : dMul (.int x.num) (.int (y.den : Nat)) = .ok (.int (x.num * y.den)) := mul_sz (k := 2000) (l := 2000) hx.n (by rw [Int.natAbs_natCast]; exact hy.d) (by decide) (by decide) (by decide)
  have k2 : dMul (.int y.num) (.int (x.den : Nat)) = .ok (.int (y.num * x.den)) := mul_sz (k := 2000) (l := 2000) hy.n (by rw [Int.natAbs_natCast]; exact hx.d) (by decide) (by decide) (by decide)
  refine runF_rt ?_
  unfold g_law_less
  simp [fr_0, fr_1, k1, k2, Rat.lt_iff]
end HN
end
section
set_option linter.all false
set_option maxRecDepth 100000
set_option maxHeartbeats 1000000
set_option exponentiation.threshold 20000
namespace HN
open PySem L2 HL HM
/-! ### isinstance of anything -/
def isI : D → Bool
  | .int _ => true
  | .bool _ => true
  | _ => false
def isB : D → Bool
  | .bool _ => true
  | _ => false
def isT : D → Bool
  | .tuple _ => true
  | _ => false
theorem kitb {a b : String} {v : Bool} {d : D} (e : tyN d = a) (h : kitB a b = some v) : dIsi b d = .ok (.bool v) := by
  unfold dIsi
  rw [e, h]
theorem isi_int (d : D) : dIsi "int" d = .ok (.bool (isI d)) := by
  cases d
  · exact kitb (a := "NoneType") (v := false) rfl (by decide +kernel)
  · exact kitb (a := "bool") (v := true) rfl (by decide +kernel)
  · exact kitb (a := "int") (v := true) rfl (by decide +kernel)
  · exact kitb (a := "str") (v := false) rfl (by decide +kernel)
  · exact kitb (a := "list") (v := false) rfl (by decide +kernel)
  · exact kitb (a := "tuple") (v := false) rfl (by decide +kernel)
  · exact kitb (a := "dict") (v := false) rfl (by decide +kernel)
theorem isi_bool (d : D) : dIsi "bool" d = .ok (.bool (isB d)) := by
  cases d
  · exact kitb (a := "NoneType") (v := false) rfl (by decide +kernel)
  · exact kitb (a := "bool") (v := true) rfl (by decide +kernel)
  · exact kitb (a := "int") (v := false) rfl (by decide +kernel)
  · exact kitb (a := "str") (v := false) rfl (by decide +kernel)
  · exact kitb (a := "list") (v := false) rfl (by decide +kernel)
  · exact kitb (a := "tuple") (v := false) rfl (by decide +kernel)
  · exact kitb (a := "dict") (v := false) rfl (by decide +kernel)
theorem isi_tuple (d : D) : dIsi "tuple" d = .ok (.bool (isT d)) := by
  cases d
  · exact kitb (a := "NoneType") (v := false) rfl (by decide +kernel)
  · exact kitb (a := "bool") (v := false) rfl (by decide +kernel)
  · exact kitb (a := "int") (v := false) rfl (by decide +kernel)
  · exact kitb (a := "str") (v := false) rfl (by decide +kernel)
  · exact kitb (a := "list") (v := false) rfl (by decide +kernel)
  · exact kitb (a := "tuple") (v := true) rfl (by decide +kernel)
  · exact kitb (a := "dict") (v := false) rfl (by decide +kernel)
/-- a whole number within bounds -/
def inR (lo hi : Int) : D → Bool
  | .int v => decide (lo ≤ v) && decide (v ≤ hi)
  | _ => false
theorem in_range_any (d : D) (lo hi : Int) : m_in_range [d, .int lo, .int hi] = .ok (.bool (inR lo hi d)) := by
  cases d with
  | int v => exact in_range_ok v lo hi
  | _ =>
    refine runF_rt ?_
    unfold g_in_range
    simp [isi_int, isi_bool, isI, isB, inR]
theorem law_in_any (d : D) (lo hi : Int) : m_law_in [d, .int lo, .int hi] = .ok (.bool (inR lo hi d)) := by
  cases d with
  | int v => exact law_in_ok v lo hi
  | none | bool b | str s | list l | tuple l | dict l =>
    have e : ∀ d : D, m_law_whole [d] = .ok (.bool (isI d && !isB d)) := fun d => by
      refine runF_rt ?_
      unfold g_law_whole
      cases hI : isI d <;> simp [isi_int, isi_bool, hI]
    refine runF_rt ?_
    unfold g_law_in
    simp [e, isI, isB, inR]
/-! ### is_quantity of anything -/
def badQ (l : List D) : List D := l.filter fun d => !inR (-99) 99 d
def lastOk (l : List D) : Bool := match l.reverse with
  | .int v :: _ => v != 0
  | _ => true
def isQ : D → Bool
  | .tuple l => decide (l.length ≤ 9) && ((badQ l).isEmpty && lastOk l)
  | _ => false
theorem isQ_t (l : List D) : isQ (.tuple l) = (decide (l.length ≤ 9) && ((badQ l).isEmpty && lastOk l)) := rfl
theorem allInt {l : List D} : badQ l = [] → ∃ q : List Int, l = q.map .int ∧ ∀ x ∈ q, -99 ≤ x ∧ x ≤ 99 := by
  induction l with
  | nil => intro _; exact ⟨[], rfl, fun x hx => by cases hx⟩
  | cons d l ih =>
    intro h
    unfold badQ at h
    rw [List.filter_cons] at h
    split at h
    · cases h
    · rename_i hd
      obtain ⟨q, e, hq⟩ := ih h
      cases d with
      | int v =>
        refine ⟨v :: q, by rw [e]; rfl, fun x hx => ?_⟩
        rcases List.mem_cons.mp hx with z | z
        · rw [z]
          simp [inR] at hd
          omega
        · exact hq x z
      | _ => simp [inR] at hd
theorem lc_bad {ρ ρ' : En} {i : Nat} {ft : FT} (l : List D) (hρ : i < ρ.length) (h : ∀ d, ft (ρ.set i (some d)) = .ok (!inR (-99) 99 d)) : lcD (gN i) ft (xV i) ρ l = .ok (badQ l) := by
  have := lc_filter (γ := gN i) (ft := ft) (fe := xV i) (ρ := ρ) (f := (id : D → D)) (g := (id : D → D)) (p := fun d => !inR (-99) 99 d) (l := l) fun d _ => ⟨ρ.set i (some d), by simp [gN, hρ], h d, fun _ => xV_get (List.getElem?_set_self hρ)⟩
  rw [List.map_id, List.map_id] at this
  exact this
theorem tail_ok {q : List Int} : (x2 dEq (xV 0) (xA dTup aN)) [some (.tuple (q.map .int))] = .ok (.bool (decide (q = []))) := by
  have := dEq_tints q []
  simp only [x2_ap, xV_z, xA_ap, aN_ap, R.bind_ok, dTup_0]
  exact this
theorem lastOk_snoc (r : List Int) (x : Int) : lastOk ((r ++ [x]).map .int) = (x != 0) := by
  unfold lastOk
  simp
theorem is_q_tuple {l : List D} (hl : l.length ≤ 900) : m_is_quantity [.tuple l] = .ok (.bool (isQ (.tuple l))) := by
  refine runF_rt ?_
  unfold g_is_quantity
  show sSeq _ _ [some (.im (.tuple l)), none] = _
  by_cases h9 : l.length ≤ 9
  · have h9i : ¬ ((9 : Int) < (l.length : Int)) := by omega
    refine seqN (δ' := [some (.im (.tuple l)), none]) (by simp [h9i]) ?_
    have lc : xLc (iSeq (xV 0)) (gN 1) (yNot (yTru (xCall 3 m_in_range (aC (xV 1) (aC (x1 dNeg (xC (.int 99))) (aC (xC (.int 99)) aN)))))) (xV 1) [1] [some (.tuple l), none] = .ok (.list (badQ l)) := by
      unfold xLc
      have := lc_bad (ρ := [some (.tuple l), none]) (ρ' := []) (i := 1) (ft := yNot (yTru (xCall 3 m_in_range (aC (xV 1) (aC (x1 dNeg (xC (.int 99))) (aC (xC (.int 99)) aN)))))) l (by simp) fun d => by
        simp [in_range_any]
      simp only [iSeq_ap, xV_z, R.bind_ok, dItems_tuple, wipeD, List.set_cons_zero, List.set_cons_succ, this]
      rw [if_pos (by omega)]
    by_cases hb : badQ l = []
    · obtain ⟨q, e, hq⟩ := allInt hb
      refine seqN (δ' := [some (.im (.tuple l)), none]) ?_ ?_
      · rw [sIf_ap]
        simp only [yTru_ap, vw_im, vw_none, vw_nil, lc, R.bind_ok, hb, dTru_list, fR_ok]
        rfl
      · rw [isQ_t, hb, decide_eq_true h9]
        subst e
        rcases snoc_cases q with z | ⟨r, x, z⟩
        · subst z
          simp [dEq, lastOk]
          rfl
        · subst z
          have d1 := dEq_tints (r ++ [x]) []
          have d2 : dIx (.tuple ((r ++ [x]).map .int)) (.int (-1)) = .ok (.int x) := by rw [List.map_append]; exact dIx_lastT
          have d1' : dEq (.tuple ((r ++ [x]).map .int)) (.tuple []) = .ok (.bool false) := by
            rw [show (PyData.tuple [] : D) = .tuple (([] : List Int).map .int) from rfl, d1]; simp
          rw [lastOk_snoc, sRet_ap]
          simp only [xOr_ap, x2_ap, x1_ap, xA_ap, xC_ap, aN_ap, vw_im, vw_none, vw_nil, xV_z, R.bind_ok, dTup_0, d1', dTru_bool, dNeg_int, d2, dNe_int]
          simp [bne]
          exact (Bool.beq_eq_decide_eq x 0).symm
    · refine seqR ?_
      rw [sIf_ap]
      have hb' : (badQ l).isEmpty = false := by cases hh : badQ l with
        | nil => exact absurd hh hb
        | cons a b => rfl
      simp only [yTru_ap, vw_im, vw_none, vw_nil, lc, R.bind_ok, dTru_list, fR_ok, hb', isQ]
      simp
  · have h9i : ((9 : Int) < (l.length : Int)) := by omega
    refine seqR ?_
    rw [isQ_t, decide_eq_false h9]
    simp [h9i]
theorem is_q_any (d : D) (h : ∀ l, d = .tuple l → l.length ≤ 900) : m_is_quantity [d] = .ok (.bool (isQ d)) := by
  cases d with
  | tuple l => exact is_q_tuple (h l rfl)
  | _ =>
    refine runF_rt ?_
    unfold g_is_quantity
    refine seqR ?_
    simp [isi_tuple, isT, isQ]
theorem check_q_any {d : D} (h : ∀ l, d = .tuple l → l.length ≤ 900) : m_check_quantity [d] = if isQ d = true then .ok .none else .exc "InvalidQuantity" := by
  cases hq : isQ d with
  | true =>
    rw [if_pos rfl]
    refine runF_nx (δ := [some (.im d)]) ?_
    unfold g_check_quantity
    simp [is_q_any d h, hq]
  | false =>
    rw [if_neg Bool.false_ne_true]
    refine runF_exc ?_
    unfold g_check_quantity
    simp [is_q_any d h, hq]
end HN
end
section
set_option linter.all false
set_option maxRecDepth 100000
set_option maxHeartbeats 1000000
set_option exponentiation.threshold 20000
namespace HN
open PySem L2 HL HM
/-! ### is_fraction of anything -/
def isF : D → Bool
  | .tuple [.int a, .int b] => (decide (-99999 ≤ a) && decide (a ≤ 99999)) && ((decide (1 ≤ b) && decide (b ≤ 99999)) && decide (Nat.gcd a.natAbs b.toNat = 1))
  | _ => false
theorem p17 {b : Int} (h1 : 1 ≤ b) (h2 : b ≤ 99999) : b.toNat < 2 ^ 9000 := Nat.lt_of_lt_of_le (show b.toNat < 2 ^ 17 by omega) (Nat.pow_le_pow_right (by decide) (by decide))
theorem frac2 (x y : D) : isF (.tuple [x, y]) = (inR (-99999) 99999 x && (inR 1 99999 y && (match x, y with | .int a, .int b => decide (Nat.gcd a.natAbs b.toNat = 1) | _, _ => true))) := by
  cases x <;> cases y <;> simp [isF, inR]
theorem is_frac_any {d : D} : m_is_fraction [d] = .ok (.bool (isF d)) := by
  refine runF_rt ?_
  unfold g_is_fraction
  show sSeq _ _ [some (.im d)] = _
  cases d with
  | tuple l =>
    match l with
    | [] => exact seqR (by simp; rfl)
    | [x] => exact seqR (by cases x <;> simp [isF])
    | x :: y :: z :: r =>
      refine seqR ?_
      have : ¬ ((r.length : Int) + 1 + 1 + 1 = 2) := by omega
      simp [this, isF]
    | [x, y] =>
      rw [frac2]
      cases hx : inR (-99999) 99999 x with
      | false => exact seqR (by simp [in_range_any, hx])
      | true =>
        cases x with
        | int a =>
          refine seqN (δ' := [some (.im (.tuple [.int a, y]))]) (by simp [in_range_any, hx]) ?_
          cases hy : inR 1 99999 y with
          | false => simp [in_range_any, hy]
          | true =>
            cases y with
            | int b =>
              simp [inR] at hy
              have e : b = ((b.toNat : Nat) : Int) := by omega
              have g := m_gcd_ok (a := a.natAbs) (b := b.toNat) (p17 hy.1 hy.2)
              rw [← e] at g
              have hy' : inR 1 99999 (.int b) = true := by simp [inR, hy]
              simp [in_range_any, hy', g]
              norm_cast
            | _ => simp [inR] at hy
        | _ => simp [inR] at hx
  | _ => exact seqR (by simp [isi_tuple, isT, isF])
theorem lfrac_any {d : D} : m_law_is_fraction [d] = .ok (.bool (isF d)) := by
  refine runF_rt ?_
  unfold g_law_is_fraction
  show sSeq _ _ [some (.im d)] = _
  cases d with
  | tuple l =>
    match l with
    | [] => exact seqR (by simp; rfl)
    | [x] => exact seqR (by cases x <;> simp [isF])
    | x :: y :: z :: r =>
      refine seqR ?_
      have : ¬ ((r.length : Int) + 1 + 1 + 1 = 2) := by omega
      simp [this, isF]
    | [x, y] =>
      rw [frac2]
      cases hx : inR (-99999) 99999 x with
      | false => exact seqR (by simp [law_in_any, hx])
      | true =>
        cases x with
        | int a =>
          refine seqN (δ' := [some (.im (.tuple [.int a, y]))]) (by simp [law_in_any, hx]) ?_
          cases hy : inR 1 99999 y with
          | false => simp [law_in_any, hy]
          | true =>
            cases y with
            | int b =>
              simp [inR] at hy
              have e : b = ((b.toNat : Nat) : Int) := by omega
              have g := lgcd_ok (a := a.natAbs) (b := b.toNat) (p17 hy.1 hy.2)
              rw [← e] at g
              have hy' : inR 1 99999 (.int b) = true := by simp [inR, hy]
              simp [law_in_any, hy', g]
              norm_cast
            | _ => simp [inR] at hy
        | _ => simp [inR] at hx
  | _ => exact seqR (by simp [isi_tuple, isT, isF])
theorem isF_fr {q : Rat} (h : FrOk q) : isF (fr q) = true := by
  have a := is_fraction_ok h
  rw [is_frac_any] at a
  injection a with a
  injection a
theorem fr_of {d : D} (h : isF d = true) : ∃ q, FrOk q ∧ d = fr q := by
  match d, h with
  | .tuple [.int a, .int b], h =>
    simp [isF] at h
    obtain ⟨⟨h1, h2⟩, ⟨h3, h4⟩, h5⟩ := h
    have bz : b.toNat ≠ 0 := by omega
    have n : (mkRat a b.toNat).num = a := by
      rw [Rat.num_mkRat, if_neg bz, Nat.gcd_comm, h5]; simp
    have dn : (mkRat a b.toNat).den = b.toNat := by
      rw [Rat.den_mkRat, if_neg bz, Nat.gcd_comm, h5]; simp
    refine ⟨mkRat a b.toNat, ⟨by rw [n]; omega, by rw [dn]; omega⟩, ?_⟩
    unfold fr
    have e : ((b.toNat : Nat) : Int) = b := by omega
    rw [n, dn, e]
/-! ### are_values of anything -/
def badF (l : List D) : List D := l.filter fun d => !isF d
def isV (k : Int) : D → Bool
  | .tuple l => decide ((l.length : Int) = k) && (badF l).isEmpty
  | _ => false
theorem lc_badF {ρ : En} {i : Nat} {ft : FT} (l : List D) (hρ : i < ρ.length) (h : ∀ d, ft (ρ.set i (some d)) = .ok (!isF d)) : lcD (gN i) ft (xV i) ρ l = .ok (badF l) := by
  have := lc_filter (γ := gN i) (ft := ft) (fe := xV i) (ρ := ρ) (f := (id : D → D)) (g := (id : D → D)) (p := fun d => !isF d) (l := l) fun d _ => ⟨ρ.set i (some d), by simp [gN, hρ], h d, fun _ => xV_get (List.getElem?_set_self hρ)⟩
  rw [List.map_id, List.map_id] at this
  exact this
theorem are_any {d : D} {k : Int} (h : ∀ l, d = .tuple l → l.length ≤ 900) : m_are_values [d, .int k] = .ok (.bool (isV k d)) := by
  refine runF_rt ?_
  unfold g_are_values
  cases d with
  | tuple l =>
    have hl := h l rfl
    have lc : xLc (iSeq (xV 0)) (gN 2) (yNot (yTru (xCall 1 m_is_fraction (aC (xV 2) aN)))) (xV 2) [2] [some (.tuple l), some (.int k), none] = .ok (.list (badF l)) := by
      unfold xLc
      have := lc_badF (ρ := [some (.tuple l), some (.int k), none]) (i := 2) (ft := yNot (yTru (xCall 1 m_is_fraction (aC (xV 2) aN)))) l (by simp) fun d => by
        simp [is_frac_any]
      simp only [iSeq_ap, xV_z, R.bind_ok, dItems_tuple, wipeD, List.set_cons_zero, List.set_cons_succ, this]
      rw [if_pos (by omega)]
    by_cases hk : (l.length : Int) = k
    · simp [isV, hk, lc]
    · simp [isV, hk]
  | _ => simp [isi_tuple, isT, isV]
theorem badF_nil {l : List D} : badF l = [] → ∃ es : List Rat, l = es.map fr ∧ ∀ q ∈ es, FrOk q := by
  induction l with
  | nil => intro _; exact ⟨[], rfl, fun x hx => by cases hx⟩
  | cons d l ih =>
    intro h
    unfold badF at h
    rw [List.filter_cons] at h
    split at h
    · cases h
    · rename_i hd
      obtain ⟨es, e, hq⟩ := ih h
      obtain ⟨q, fq, eq⟩ := fr_of (d := d) (by simpa using hd)
      refine ⟨q :: es, by rw [e, eq]; rfl, fun x hx => ?_⟩
      rcases List.mem_cons.mp hx with z | z
      · rw [z]; exact fq
      · exact hq x z
theorem isV_t {k : Int} (l : List D) : isV k (.tuple l) = (decide ((l.length : Int) = k) && (badF l).isEmpty) := rfl
theorem badF_fr {es : List Rat} (h : ∀ q ∈ es, FrOk q) : badF (es.map fr) = [] := by
  unfold badF
  rw [List.filter_eq_nil_iff]
  intro d hd
  obtain ⟨q, hq, rfl⟩ := List.mem_map.mp hd
  simp [isF_fr (h q hq)]
theorem isV_of {n : Nat} {d : D} (h : isV ((n : Int) + 1) d = true) : ∃ es : List Rat, d = .tuple (es.map fr) ∧ es.length = n + 1 ∧ ∀ q ∈ es, FrOk q := by
  match d, h with
  | .tuple l, h =>
    rw [isV_t, Bool.and_eq_true] at h
    obtain ⟨es, e, hq⟩ := badF_nil (by simpa using h.2)
    refine ⟨es, by rw [e], ?_, hq⟩
    have := of_decide_eq_true h.1
    rw [e, List.length_map] at this
    omega
/-- any fractions have a common bound -/
theorem fr_pb : ∀ {es : List Rat}, (∀ q ∈ es, FrOk q) → ∃ M, M ≠ 0 ∧ M ≤ 99999 ^ es.length ∧ PB M 99999 es
  | [], _ => ⟨1, by decide, by simp, fun x hx => by cases hx⟩
  | q :: es, h => by
    obtain ⟨M, hz, hm, hb⟩ := fr_pb (es := es) fun x hx => h x (List.mem_cons_of_mem _ hx)
    have hq := h q List.mem_cons_self
    have bq : Bd q.den 99999 q := ⟨q.num, num_den q, by
      have := hq.n
      have := Nat.pos_of_ne_zero q.den_nz
      exact Nat.le_trans hq.n (Nat.le_mul_of_pos_right _ this)⟩
    refine ⟨q.den * M, Nat.mul_ne_zero q.den_nz hz, ?_, fun x hx => ?_⟩
    · rw [List.length_cons, Nat.pow_succ, Nat.mul_comm]
      exact Nat.mul_le_mul hm hq.d
    · rcases List.mem_cons.mp hx with z | z
      · rw [z]; exact bq.up M
      · have := (hb x z).up q.den
        rwa [Nat.mul_comm] at this
theorem fr_sz {M : Nat} (hz : M ≠ 0) (hm : M ≤ 99999 ^ 17) {V : Nat} (hV : V ≤ 10 ^ 60) : Sz (60 ^ 20 * M) V := by
  refine (Sz.low (N := 60 ^ 20 * 99999 ^ 17) (V := 10 ^ 60) ⟨by decide, by decide +kernel⟩ (Nat.mul_ne_zero (by decide) hz) (Nat.mul_le_mul_left _ hm)).mono hV
/-- what a drawn value may be -/
inductive Odd : D → Prop
  | tup {l : List D} (h : ∀ d ∈ l, Sh 1 d) (hl : l.length ≤ 20) : Odd (.tuple l)
  | lst (l : List D) : Odd (.list l)
  | non : Odd .none
theorem Odd.len {d : D} (h : Odd d) : ∀ l, d = .tuple l → l.length ≤ 900 := fun l e => by
  cases h with
  | tup h hl => cases e; omega
  | lst => cases e
  | non => cases e
theorem frs_odd {es : List Rat} (h : es.length ≤ 20) : Odd (.tuple (es.map fr)) := .tup (fun d hd => by obtain ⟨q, _, rfl⟩ := List.mem_map.mp hd; exact sh_fr q) (by rw [List.length_map]; exact h)
end HN
end
section
set_option Elab.async false
set_option linter.all false
set_option maxRecDepth 100000
set_option maxHeartbeats 2000000
set_option exponentiation.threshold 20000
namespace HN
open PySem L2 HL HM
/-! ### tables -/
def pcl : List Nat := [0, 1, 1, 2, 1, 2, 2, 3, 1, 2, 2, 3, 2, 3, 3, 4]
def pc (k : Nat) : Nat := pcl.getD k 0
theorem lt16 {k : Nat} (h : k < 16) : k = 0 ∨ k = 1 ∨ k = 2 ∨ k = 3 ∨ k = 4 ∨ k = 5 ∨ k = 6 ∨ k = 7 ∨ k = 8 ∨ k = 9 ∨ k = 10 ∨ k = 11 ∨ k = 12 ∨ k = 13 ∨ k = 14 ∨ k = 15 := by omega
theorem succ_ok {k : Nat} (h : k < 16) : m_successes_of [.int (k : Nat)] = .ok (.int (pc k : Nat)) := by
  rcases lt16 h with e | e | e | e | e | e | e | e | e | e | e | e | e | e | e | e <;> subst e <;> kernel_rfl
theorem hits_ok {k : Nat} (h : k < 16) : m_law_hits [.int (k : Nat)] = .ok (.int (pc k : Nat)) := by
  rcases lt16 h with e | e | e | e | e | e | e | e | e | e | e | e | e | e | e | e <;> subst e <;> kernel_rfl
theorem pc_le : ∀ n, n ≤ 4 → ∀ k, k < 2 ^ n → pc k ≤ n := by decide
def idx (n h : Nat) : List Nat := (List.range (2 ^ n)).filter fun k => decide (pc k = h)
theorem idx_len : ∀ n, n ≤ 4 → ∀ h, h ≤ n → (idx n h).length = bin n h := by decide
theorem two_le {n : Nat} (hn : n ≤ 4) : 2 ^ n ≤ 16 := Nat.le_trans (Nat.pow_le_pow_right (by decide) hn) (by decide)
def wt (n k : Nat) (x : Rat) : Rat := x ^ pc k * (1 - x) ^ (n - pc k)
def tmean (n : Nat) (T : List Rat) (x : Rat) : Rat := ((List.range (2 ^ n)).map fun k => T.getD k 0 * wt n k x).sum
def tspr (n : Nat) (T : List Rat) (x : Rat) : Rat := tmean n (sqs T) x - tmean n T x * tmean n T x
def gsum (n : Nat) (T : List Rat) (h : Nat) : Rat := ((idx n h).map fun k => T.getD k 0).sum
def evn (n : Nat) (T : List Rat) : List Rat := (List.range (n + 1)).map fun h => gsum n T h * mkRat 1 (bin n h)
theorem evn_len (n : Nat) (T : List Rat) : (evn n T).length = n + 1 := by simp [evn]
theorem evn_get {n h : Nat} {T : List Rat} (hh : h ≤ n) : (evn n T).getD h 0 = gsum n T h * mkRat 1 (bin n h) := by
  unfold evn
  rw [List.getD_eq_getElem?_getD, List.getElem?_map, List.getElem?_range (by omega)]
  rfl
theorem pick_one (a : Rat) : ∀ (n c : Nat), c ≤ n → ((List.range (n + 1)).map fun h => if c = h then a else 0).sum = a
  | 0, c, hc => by
    have : c = 0 := by omega
    subst this
    simp [List.range, List.range.loop]
    grind
  | n + 1, c, hc => by
    rw [sum_range_succ]
    by_cases h : c = n + 1
    · subst h
      rw [if_pos rfl, sum_zero (fun i hi => by
        have := List.mem_range.mp hi
        rw [if_neg (by omega)])]
      grind
    · rw [if_neg h, pick_one a n c (by omega)]; grind
theorem part_sum (f : Nat → Rat) (n : Nat) : ∀ l : List Nat, (∀ k ∈ l, pc k ≤ n) → ((List.range (n + 1)).map fun h => ((l.filter fun k => decide (pc k = h)).map f).sum).sum = (l.map f).sum
  | [], _ => by
    simp
    exact sum_zero (f := fun _ : Nat => (0 : Rat)) fun _ _ => rfl
  | k :: l, hl => by
    have ih := part_sum f n l fun x hx => hl x (List.mem_cons_of_mem _ hx)
    have e : ∀ h, (((k :: l).filter fun k => decide (pc k = h)).map f).sum = (if pc k = h then f k else 0) + ((l.filter fun k => decide (pc k = h)).map f).sum := fun h => by
      rw [List.filter_cons]
      by_cases z : pc k = h
      · simp [z]
      · simp [z]; grind
    rw [List.map_congr_left (fun h _ => e h), sum_add, ih, pick_one _ n _ (hl k List.mem_cons_self), List.map_cons, List.sum_cons]
theorem mem_idx {n h k : Nat} (hk : k ∈ idx n h) : k < 2 ^ n ∧ pc k = h := by
  unfold idx at hk
  rw [List.mem_filter] at hk
  exact ⟨List.mem_range.mp hk.1, of_decide_eq_true hk.2⟩
theorem bin_inv {n h : Nat} (hn : n ≤ 4) (hh : h ≤ n) : mkRat 1 (bin n h) * ((bin n h : Nat) : Rat) = 1 := by
  have hb := bin_pos (show n ≤ 6 by omega) hh
  have hz : ((bin n h : Nat) : Rat) ≠ 0 := by
    have : bin n h ≠ 0 := by omega
    exact_mod_cast this
  rw [Rat.mkRat_eq_div]
  have e1 : ((1 : Int) : Rat) = 1 := rfl
  rw [e1]
  grind
theorem grp_sum {n : Nat} (hn : n ≤ 4) (f : Nat → Rat) (x : Rat) : ((List.range (2 ^ n)).map fun k => f k * wt n k x).sum = ((List.range (n + 1)).map fun h => ((idx n h).map f).sum * (x ^ h * (1 - x) ^ (n - h))).sum := by
  rw [← part_sum (fun k => f k * wt n k x) n (List.range (2 ^ n)) fun k hk => pc_le n hn k (List.mem_range.mp hk)]
  refine sum_congr fun h _ => ?_
  have e : ∀ k ∈ idx n h, f k * wt n k x = (x ^ h * (1 - x) ^ (n - h)) * f k := fun k hk => by
    obtain ⟨_, z⟩ := mem_idx hk
    unfold wt
    rw [z]
    exact Rat.mul_comm _ _
  show ((idx n h).map fun k => f k * wt n k x).sum = _
  rw [List.map_congr_left e, sum_mul]
  exact Rat.mul_comm _ _
theorem evn_mean {n : Nat} (hn : n ≤ 4) (T : List Rat) (x : Rat) : mean n (evn n T) x = tmean n T x := by
  unfold tmean
  rw [grp_sum hn (fun k => T.getD k 0) x]
  unfold mean
  rw [evn_len]
  refine sum_congr fun h hh => ?_
  have hh : h ≤ n := by have := List.mem_range.mp hh; omega
  rw [evn_get hh]
  have := bin_inv hn hh
  unfold w gsum
  grind
theorem const_sum (c : Rat) : ∀ l : List Nat, (l.map fun _ => c).sum = ((l.length : Nat) : Rat) * c
  | [] => by simp
  | a :: l => by
    rw [List.map_cons, List.sum_cons, const_sum c l, List.length_cons]
    have : ((l.length + 1 : Nat) : Rat) = (l.length : Rat) + 1 := by simp
    rw [this]
    grind
theorem evn_spr {n : Nat} (hn : n ≤ 4) (T : List Rat) {x : Rat} (x0 : 0 ≤ x) (x1 : x ≤ 1) : spr n (evn n T) x ≤ tspr n T x := by
  unfold spr tspr
  rw [evn_mean hn]
  have key : mean n (sqs (evn n T)) x ≤ tmean n (sqs T) x := by
    unfold tmean
    rw [List.map_congr_left (fun k _ => by rw [sqs_get]), grp_sum hn (fun k => T.getD k 0 * T.getD k 0) x]
    unfold mean
    rw [sqs_len, evn_len]
    have d : 0 ≤ ((List.range (n + 1)).map fun h => ((idx n h).map fun k => T.getD k 0 * T.getD k 0).sum * (x ^ h * (1 - x) ^ (n - h)) + (-1) * ((sqs (evn n T)).getD h 0 * w n h x)).sum := sum_nonneg fun h hh => by
      have hh : h ≤ n := by have := List.mem_range.mp hh; omega
      rw [sqs_get, evn_get hh]
      have bi := bin_inv hn hh
      have c0 : (0 : Rat) ≤ mkRat 1 (bin n h) := by
        rw [← Rat.num_nonneg, Rat.num_mkRat]
        split
        · exact Int.le_refl _
        · exact Int.ediv_nonneg (by omega) (by omega)
      have j := jensen (l := idx n h) (p := fun _ => mkRat 1 (bin n h)) (e := fun k => T.getD k 0) (fun _ _ => c0) (by rw [const_sum, idx_len n hn h hh, Rat.mul_comm]; exact bi)
      rw [sum_mul, sum_mul] at j
      have px : 0 ≤ x ^ h * (1 - x) ^ (n - h) := by
        have := w_nn (n := n) (i := h) x0 x1
        unfold w at this
        have b := bin_inv hn hh
        have := Rat.mul_nonneg c0 this
        have e : mkRat 1 (bin n h) * ((bin n h : Rat) * (x ^ h * (1 - x) ^ (n - h))) = x ^ h * (1 - x) ^ (n - h) := by
          rw [← Rat.mul_assoc, b, Rat.one_mul]
        rwa [e] at this
      have cb : (0 : Rat) ≤ ((bin n h : Nat) : Rat) := by exact_mod_cast Nat.zero_le _
      unfold w gsum
      generalize hS : ((idx n h).map fun k => T.getD k 0).sum = S1 at j
      generalize hQ : ((idx n h).map fun k => T.getD k 0 * T.getD k 0).sum = S2 at j
      generalize hB : ((bin n h : Nat) : Rat) = B at bi cb
      generalize hc : mkRat 1 (bin n h) = c at bi j c0
      generalize hX : x ^ h * (1 - x) ^ (n - h) = X at px
      have j2 : 0 ≤ c * S2 - c * S1 * (c * S1) := by grind
      have := Rat.mul_nonneg (Rat.mul_nonneg cb j2) px
      have e : B * (c * S2 - c * S1 * (c * S1)) * X = S2 * X + (-1) * (S1 * c * (S1 * c) * (B * X)) := by grind
      rw [e] at this
      exact this
    rw [sum_add, sum_mul] at d
    grind
  grind
theorem evn_plain {n : Nat} (hn : n ≤ 4) {es : List Rat} (hl : es.length = n + 1) : evn n ((List.range (2 ^ n)).map fun k => es.getD (pc k) 0) = es := by
  apply List.ext_getElem (by rw [evn_len, hl])
  intro h h1 h2
  have hh : h ≤ n := by omega
  have e := evn_get (T := (List.range (2 ^ n)).map fun k => es.getD (pc k) 0) hh
  have e1 : (evn n ((List.range (2 ^ n)).map fun k => es.getD (pc k) 0)).getD h 0 = (evn n ((List.range (2 ^ n)).map fun k => es.getD (pc k) 0))[h] := by
    rw [List.getD_eq_getElem?_getD, List.getElem?_eq_getElem h1]; rfl
  have e2 : es.getD h 0 = es[h] := by rw [List.getD_eq_getElem?_getD, List.getElem?_eq_getElem h2]; rfl
  rw [← e1, e, ← e2]
  have e3 : gsum n ((List.range (2 ^ n)).map fun k => es.getD (pc k) 0) h = ((bin n h : Nat) : Rat) * es.getD h 0 := by
    unfold gsum
    rw [List.map_congr_left (g := fun _ => es.getD h 0) (fun k hk => by
      obtain ⟨a, b⟩ := mem_idx hk
      rw [List.getD_eq_getElem?_getD, List.getElem?_map, List.getElem?_range a]
      show es.getD (pc k) 0 = _
      rw [b]), const_sum, idx_len n hn h hh]
  rw [e3]
  have := bin_inv hn hh
  grind
/-! ### sizes -/
theorem dvd12 : ∀ n, n ≤ 4 → ∀ h, h ≤ n → bin n h ∣ 12 ∧ bin n h ≤ 6 := by decide
theorem inv_bd {n h : Nat} (hn : n ≤ 4) (hh : h ≤ n) : Bd 12 1 (mkRat 1 (bin n h)) := by
  have hb := bin_pos (show n ≤ 6 by omega) hh
  exact bd_div (by omega) (dvd12 n hn h hh).1 (by simp; omega)
theorem gsum_bd {n h M V : Nat} {T : List Rat} (hn : n ≤ 4) (hh : h ≤ n) (hT : PB M V T) : Bd M (6 * V) (gsum n T h) := by
  unfold gsum
  refine (bd_sum (M := M) (V := V) fun x hx => ?_).mono ?_
  · obtain ⟨k, _, rfl⟩ := List.mem_map.mp hx
    exact hT.get k
  · rw [List.length_map, idx_len n hn h hh]
    exact Nat.mul_le_mul_right _ (dvd12 n hn h hh).2
theorem evn_est {n : Nat} {T : List Rat} (h1 : 1 ≤ n) (hn : n ≤ 4) (hT : PB 60 9 T) : Est n 720 54 (evn n T) := by
  refine Est.of h1 (by omega) (evn_len _ _) (fun x hx => ?_) (by decide) (by decide) (by decide)
  unfold evn at hx
  obtain ⟨h, hh, rfl⟩ := List.mem_map.mp hx
  have hh : h ≤ n := by have := List.mem_range.mp hh; omega
  exact (gsum_bd hn hh hT).mul (inv_bd hn hh)
end HN
end
section
set_option Elab.async false
set_option linter.all false
set_option maxRecDepth 100000
set_option maxHeartbeats 2000000
set_option exponentiation.threshold 20000
namespace HN
open PySem L2 HL HM
/-! ### check_table -/
theorem cnt_loop (a b : Option Sl) : ∀ (j i : Nat) (o : Option Sl), ∃ o', forD (hN 3) (sAug 2 dMul (xC (.int 2))) ((List.range' i j).map fun t : Nat => .int ((t : Nat) : Int)) [a, b, some (.im (.int ((2 ^ i : Nat) : Int))), o] = .nx [a, b, some (.im (.int ((2 ^ (i + j) : Nat) : Int))), o']
  | 0, i, o => ⟨o, rfl⟩
  | j + 1, i, o => by
    obtain ⟨o', e⟩ := cnt_loop a b j (i + 1) (some (.im (.int (i : Nat))))
    refine ⟨o', ?_⟩
    have mu : dMul (.int ((2 ^ i : Nat) : Int)) (.int 2) = .ok (.int ((2 ^ (i + 1) : Nat) : Int)) := by
      rw [dMul_r (by decide), Nat.pow_succ]; simp
    have st : sAug 2 dMul (xC (.int 2)) [a, b, some (.im (.int ((2 ^ i : Nat) : Int))), some (.im (.int (i : Nat)))] = .nx [a, b, some (.im (.int ((2 ^ (i + 1) : Nat) : Int))), some (.im (.int (i : Nat)))] := by
      rw [sAug_ap]
      simp only [v0, List.map_cons, s0, xV_s, xV_z, xC_ap, fR_ok, mu]
      rfl
    rw [List.range'_succ, List.map_cons, forD_cons (by simp [hN]) st, e, show i + 1 + j = i + (j + 1) by omega]
theorem ctab_any {n : Nat} {d : D} (h1 : 1 ≤ n) (hn : n ≤ 4) (hd : ∀ l, d = .tuple l → l.length ≤ 900) : (isV ((2 ^ n : Nat) : Int) d = true → m_check_table [.int n, d] = .ok .none) ∧ (isV ((2 ^ n : Nat) : Int) d = false → m_check_table [.int n, d] = .exc "InvalidEstimate") := by
  have ir : m_in_range [.int (n : Int), .int 1, .int 4] = .ok (.bool true) := by rw [in_range_ok]; simp; omega
  have ar := are_any (k := ((2 ^ n : Nat) : Int)) hd
  obtain ⟨o', e⟩ := cnt_loop (some (.im (.int n))) (some (.im d)) n 0 none
  rw [Nat.zero_add] at e
  have go : ∀ r, (sIf (yNot (yTru (xCall 2 m_are_values (aC (xV 1) (aC (xV 2) aN))))) (sRaise "InvalidEstimate") sNil) [some (.im (.int n)), some (.im d), some (.im (.int ((2 ^ n : Nat) : Int))), o'] = r → g_check_table [some (.im (.int n)), some (.im d), none, none] = r := fun r hr => by
    unfold g_check_table
    refine seqN (δ' := [some (.im (.int n)), some (.im d), none, none]) (by simp [ir]) ?_
    refine seqN (δ' := [some (.im (.int n)), some (.im d), some (.im (.int ((2 ^ 0 : Nat) : Int))), none]) (by simp) ?_
    refine seqN ?_ hr
    rw [sFor_ap]
    simp only [iA_ap, aC_ap, aN_ap, v0, List.map_cons, s0, xV_s, xV_z, R.bind_ok, dr_n (show n ≤ 1000 by omega), fR_ok]
    exact e
  constructor
  · intro hv
    rw [hv] at ar
    exact runF_nx (go _ (by rw [sIf_ap]; simp only [yNot_ap, yTru_ap, x2_ap, x1_ap, xA_ap, xC_ap, xCall_ap, aC_ap, aN_ap, vw, List.map_cons, List.map_nil, sw, xV_s, xV_z, R.bind_ok, List.length_cons, List.length_nil, if_pos, ar, dTru_bool, fR_ok]; rfl))
  · intro hv
    rw [hv] at ar
    exact runF_exc (go _ (by rw [sIf_ap]; simp only [yNot_ap, yTru_ap, x2_ap, x1_ap, xA_ap, xC_ap, xCall_ap, aC_ap, aN_ap, vw, List.map_cons, List.map_nil, sw, xV_s, xV_z, R.bind_ok, List.length_cons, List.length_nil, if_pos, ar, dTru_bool, fR_ok]; rfl))
theorem ctab_tr {d t : D} (h : inR 1 4 d = false) : m_check_table [d, t] = .exc "InvalidTrials" := by
  refine runF_exc ?_
  unfold g_check_table
  exact seqE (by simp [in_range_any, h])
structure Tab (n : Nat) (T : List Rat) : Prop where
  n1 : 1 ≤ n
  n4 : n ≤ 4
  l : T.length = 2 ^ n
  b : PB 60 9 T
theorem Tab.fr {n : Nat} {T : List Rat} (h : Tab n T) : ∀ q ∈ T, FrOk q := fun q hq => FrOk.of (h.b q hq) (by decide) (by decide) (by decide)
theorem Tab.l16 {n : Nat} {T : List Rat} (h : Tab n T) : T.length ≤ 16 := by rw [h.l]; exact two_le h.n4
theorem Tab.ct {n : Nat} {T : List Rat} (h : Tab n T) : m_check_table [.int n, .tuple (T.map HN.fr)] = .ok .none := by
  have l16 := h.l16
  refine (ctab_any h.n1 h.n4 (d := .tuple (T.map HN.fr)) fun l e => by cases e; simp; omega).1 ?_
  rw [isV_t, badF_fr h.fr, List.length_map, h.l]
  simp
theorem Tab.sm {n : Nat} {T : List Rat} (h : Tab n T) : ∀ q ∈ T, Sm q := fun q hq => (show Sz 60 9 from ⟨by decide, by decide +kernel⟩).sm (h.b q hq)
theorem enum_range {T : List Rat} : ∀ (k : Nat), enumF k (T.map fr) = (List.range T.length).map fun i => (PyData.tuple [.int ((k + i : Nat) : Int), fr (T.getD i 0)] : D) := by
  induction T with
  | nil => intro k; rfl
  | cons a T ih =>
    intro k
    rw [List.map_cons, enumF, ih (k + 1), List.length_cons, List.range_succ_eq_map, List.map_cons, List.map_map]
    congr 1
    refine List.map_congr_left fun i _ => ?_
    show _ = (PyData.tuple [.int ((k + (i + 1) : Nat) : Int), fr ((a :: T).getD (i + 1) 0)] : D)
    rw [List.getD_cons_succ, show k + 1 + i = k + (i + 1) by omega]
/-! ### table_average -/
def rowP (n k : Nat) : List Rat := trim (mulP (powP [0, 1] (pc k)) (powP [1, -1] (n - pc k)))
theorem rowP_ev (n k : Nat) (x : Rat) : ev (rowP n k) x = wt n k x := by
  unfold rowP wt
  rw [trim_ev, mulP_ev, powP_ev, powP_ev, ev_X, ev_Y]
theorem rowP_pb {n k : Nat} (hn : n ≤ 4) (hk : pc k ≤ n) : PB 1 10000000000 (rowP n k) := by
  refine (((powP_pb rfl pb_X (pc k) (by omega)).mulP (powP_pb rfl pb_Y (n - pc k) (by omega))).trim).mono ?_
  have := mulXY (n := n) (k := pc k) (by omega) hk
  omega
theorem rowP_len {n k : Nat} (hk : pc k ≤ n) : (rowP n k).length ≤ n + 1 := by
  have l1 := powP_len (row := [0, 1]) rfl (pc k)
  have l2 := powP_len (row := [1, -1]) rfl (n - pc k)
  have l3 := mulP_deg (powP [0, 1] (pc k)) (powP [1, -1] (n - pc k))
  unfold rowP
  omega
def tavP (n : Nat) : Nat → List Rat → List Rat → List Rat
  | _, acc, [] => acc
  | k, acc, e :: es => tavP n (k + 1) (trim (addP acc (trim ((rowP n k).map (e * ·))))) es
def tav (n : Nat) (T : List Rat) : List Rat := tavP n 0 [] T
theorem tavP_nz (n : Nat) : ∀ (es : List Rat) (k : Nat) (acc : List Rat), Nz acc → Nz (tavP n k acc es)
  | [], _, _, h => h
  | e :: es, k, acc, _ => tavP_nz n es (k + 1) _ (trim_nz _)
theorem tavP_ev (n : Nat) (x : Rat) : ∀ (es : List Rat) (k : Nat) (acc : List Rat), ev (tavP n k acc es) x = ev acc x + ((List.range es.length).map fun i => es.getD i 0 * wt n (k + i) x).sum
  | [], k, acc => by simp [tavP]; grind
  | e :: es, k, acc => by
    rw [tavP, tavP_ev n x es (k + 1), trim_ev, addP_ev, trim_ev, mul_ev, rowP_ev, List.length_cons, sum_range_succ']
    have e1 : ∀ i, (e :: es).getD (i + 1) 0 * wt n (k + (i + 1)) x = es.getD i 0 * wt n (k + 1 + i) x := fun i => by
      rw [List.getD_cons_succ, show k + (i + 1) = k + 1 + i by omega]
    rw [List.map_congr_left (fun i _ => e1 i)]
    simp only [List.getD_cons_zero, Nat.add_zero]
    grind
theorem tav_ev {n : Nat} {T : List Rat} (hl : T.length = 2 ^ n) (x : Rat) : ev (tav n T) x = tmean n T x := by
  unfold tav tmean
  rw [tavP_ev, hl]
  simp only [Nat.zero_add, ev]
  grind
theorem tav_evn {n : Nat} {T : List Rat} (hn : n ≤ 4) (hl : T.length = 2 ^ n) : avg n (evn n T) = tav n T := by
  refine uniq (avg_nz _ _) (tavP_nz n T 0 [] (.inl rfl)) fun x => ?_
  rw [avg_ev, evn_mean hn, tav_ev hl]
def bodyTA : Es → Fl := sSeq (sAsg 5 (xCall 1 m_successes_of (aC (xV 3) aN))) (sSeq (sAsg 6 (xCall 2 m_power_of (aC (xA dTup (aC (xA dTup (aC (xC (.int 0)) (aC (xC (.int 1)) aN))) (aC (xA dTup (aC (xC (.int 1)) (aC (xC (.int 1)) aN))) aN))) (aC (xV 5) aN)))) (sSeq (sAsg 7 (xCall 2 m_power_of (aC (xA dTup (aC (xA dTup (aC (xC (.int 1)) (aC (xC (.int 1)) aN))) (aC (xA dTup (aC (x1 dNeg (xC (.int 1))) (aC (xC (.int 1)) aN))) aN))) (aC (x2 dSub (xV 0) (xV 5)) aN)))) (sAsg 2 (xCall 2 m_sum_of (aC (xV 2) (aC (xCall 2 m_multiple_of (aC (xV 4) (aC (xCall 2 m_product_of (aC (xV 6) (aC (xV 7) aN))) aN))) aN))))))
theorem g_tav_eq : g_table_average = sSeq (sExp (xCall 2 m_check_table (aC (xV 0) (aC (xV 1) aN)))) (sSeq (sAsg 2 (xA dTup aN)) (sSeq (sFor (iA dEnum (aC (xV 1) aN)) (h2 3 4) bodyTA) (sRet (xV 2)))) := (rfl)
theorem tav_loop {n W : Nat} (hW : 9 * 10000000000 = W) (hn : n ≤ 4) (u : D) : ∀ (es : List Rat) (k : Nat) (acc : List Rat) (o3 o4 o5 o6 o7 : Option Sl), k + es.length ≤ 2 ^ n → PB 60 9 es → PB 60 (k * W) acc → acc.length ≤ n + 1 →
    ∃ p3 p4 p5 p6 p7, forD (h2 3 4) bodyTA (enumF k (es.map fr)) [some (.im (.int n)), some (.im u), some (.im (.tuple (acc.map fr))), o3, o4, o5, o6, o7] = .nx [some (.im (.int n)), some (.im u), some (.im (.tuple ((tavP n k acc es).map fr))), p3, p4, p5, p6, p7]
      ∧ PB 60 ((k + es.length) * W) (tavP n k acc es) ∧ (tavP n k acc es).length ≤ n + 1
  | [], k, acc, o3, o4, o5, o6, o7, _, _, hb, hl => ⟨o3, o4, o5, o6, o7, by rw [List.map_nil, enumF, forD, tavP], by rw [List.length_nil, Nat.add_zero, tavP]; exact hb, by rw [tavP]; exact hl⟩
  | e :: es, k, acc, o3, o4, o5, o6, o7, hk, he, h, hl => by
    have t16 := two_le hn
    rw [List.length_cons] at hk
    have k2 : k < 2 ^ n := by omega
    have kn := pc_le n hn k k2
    have be := he e List.mem_cons_self
    have c0 := rowP_pb (k := k) hn kn
    have h1 := (PB.mul be c0).trim
    rw [Nat.mul_one, hW] at h1
    have e1 : k * W + W = (k + 1) * W := by rw [Nat.add_mul, Nat.one_mul]
    have h2' := (h.add h1).trim
    rw [e1] at h2'
    have l1 := rowP_len (n := n) (k := k) kn
    have l2 := trim_len ((rowP n k).map (e * ·))
    rw [List.length_map] at l2
    have l3 := trim_len (addP acc (trim ((rowP n k).map (e * ·))))
    rw [addP_len] at l3
    obtain ⟨p3, p4, p5, p6, p7, eq, pb, pl⟩ := tav_loop hW hn u es (k + 1) (trim (addP acc (trim ((rowP n k).map (e * ·))))) (some (.im (.int (k : Nat)))) (some (.im (fr e))) (some (.im (.int (pc k : Nat)))) (some (.im (.tuple ((powP [0, 1] (pc k)).map fr)))) (some (.im (.tuple ((powP [1, -1] (n - pc k)).map fr)))) (by omega) (fun x hx => he x (List.mem_cons_of_mem _ hx)) h2' (by omega)
    refine ⟨p3, p4, p5, p6, p7, ?_, by rw [tavP, List.length_cons, show k + (es.length + 1) = k + 1 + es.length by omega]; exact pb, by rw [tavP]; exact pl⟩
    have x1 : m_power_of [.tuple [.tuple [.int 0, .int 1], .tuple [.int 1, .int 1]], .int (pc k : Nat)] = _ := power_of_ok (row := [0, 1]) rfl pb_X (e := pc k) (by omega)
    have y1 : m_power_of [.tuple [.tuple [.int 1, .int 1], .tuple [.int (-1), .int 1]], .int ((n - pc k : Nat) : Int)] = _ := power_of_ok (row := [1, -1]) rfl pb_Y (e := n - pc k) (by omega)
    have nk : ((n : Int) - (pc k : Int)) = ((n - pc k : Nat) : Int) := by omega
    have p1 := powP_pb (row := [0, 1]) rfl pb_X (pc k) (by omega)
    have p2 := powP_pb (row := [1, -1]) rfl pb_Y (n - pc k) (by omega)
    have g1 := powP_len (row := [0, 1]) rfl (pc k)
    have g2' := powP_len (row := [1, -1]) rfl (n - pc k)
    have h49 := mulXY (n := n) (k := pc k) (by omega) kn
    have pr := prod_pb (Nat.pow_pos (by decide)) p1 p2 (sz14.mono (by have := pow14 (e := pc k) (by omega); omega)) (show Sz (1 * 1) _ from sz14.mono (by omega)) (by omega)
    have pr' : m_product_of [.tuple ((powP [0, 1] (pc k)).map fr), .tuple ((powP [1, -1] (n - pc k)).map fr)] = .ok (.tuple ((rowP n k).map fr)) := pr
    have mu := mul_pb be c0 ⟨by decide, by decide +kernel⟩ ⟨by decide, by decide +kernel⟩ (by omega)
    have su := sum_pb h h1 ((show Sz 60 (17 * W) from by rw [← hW]; exact ⟨by decide, by decide +kernel⟩).mono (by have := Nat.mul_le_mul_right W (show k + 1 ≤ 17 by omega); rw [Nat.add_mul, Nat.one_mul] at this; exact this)) (by omega) (by omega)
    have b : bodyTA [some (.im (.int n)), some (.im u), some (.im (.tuple (acc.map fr))), some (.im (.int (k : Nat))), some (.im (fr e)), o5, o6, o7] = .nx [some (.im (.int n)), some (.im u), some (.im (.tuple ((trim (addP acc (trim ((rowP n k).map (e * ·))))).map fr))), some (.im (.int (k : Nat))), some (.im (fr e)), some (.im (.int (pc k : Nat))), some (.im (.tuple ((powP [0, 1] (pc k)).map fr))), some (.im (.tuple ((powP [1, -1] (n - pc k)).map fr)))] := by
      unfold bodyTA
      refine seqN (δ' := [some (.im (.int n)), some (.im u), some (.im (.tuple (acc.map fr))), some (.im (.int (k : Nat))), some (.im (fr e)), some (.im (.int (pc k : Nat))), o6, o7]) ?_ ?_
      · simp only [sAsg_ap, x2_ap, x1_ap, xA_ap, xC_ap, xCall_ap, aC_ap, aN_ap, v0, List.map_cons, List.map_nil, s0, xV_s, xV_z, R.bind_ok, List.length_cons, List.length_nil, if_pos, succ_ok (show k < 16 by omega), fR_ok]
        rfl
      refine seqN (δ' := [some (.im (.int n)), some (.im u), some (.im (.tuple (acc.map fr))), some (.im (.int (k : Nat))), some (.im (fr e)), some (.im (.int (pc k : Nat))), some (.im (.tuple ((powP [0, 1] (pc k)).map fr))), o7]) ?_ ?_
      · simp only [sAsg_ap, x2_ap, x1_ap, xA_ap, xC_ap, xCall_ap, aC_ap, aN_ap, v0, List.map_cons, List.map_nil, s0, xV_s, xV_z, R.bind_ok, List.length_cons, List.length_nil, if_pos, dTup_2, x1, fR_ok]
        rfl
      refine seqN (δ' := [some (.im (.int n)), some (.im u), some (.im (.tuple (acc.map fr))), some (.im (.int (k : Nat))), some (.im (fr e)), some (.im (.int (pc k : Nat))), some (.im (.tuple ((powP [0, 1] (pc k)).map fr))), some (.im (.tuple ((powP [1, -1] (n - pc k)).map fr)))]) ?_ ?_
      · simp only [sAsg_ap, x2_ap, x1_ap, xA_ap, xC_ap, xCall_ap, aC_ap, aN_ap, v0, List.map_cons, List.map_nil, s0, xV_s, xV_z, R.bind_ok, List.length_cons, List.length_nil, if_pos, dTup_2, dNeg_int, dSub_int, nk, y1, fR_ok]
        rfl
      · simp only [sAsg_ap, x2_ap, x1_ap, xA_ap, xC_ap, xCall_ap, aC_ap, aN_ap, v0, List.map_cons, List.map_nil, s0, xV_s, xV_z, R.bind_ok, List.length_cons, List.length_nil, if_pos, pr', mu, su, fR_ok]
        rfl
    rw [List.map_cons, enumF, forD_cons (by simp [h2]) b, eq]
    rfl
theorem table_average_ok {n : Nat} {T : List Rat} (h : Tab n T) : m_table_average [.int n, .tuple (T.map HN.fr)] = .ok (.tuple ((tav n T).map HN.fr)) ∧ PB 60 (16 * (9 * 10000000000)) (tav n T) ∧ (tav n T).length ≤ n + 1 := by
  have l16 := h.l16
  obtain ⟨p3, p4, p5, p6, p7, e, pb, pl⟩ := tav_loop rfl h.n4 (.tuple (T.map HN.fr)) T 0 [] none none none none none (by rw [h.l]; omega) h.b (fun x hx => by cases hx) (Nat.zero_le _)
  refine ⟨runF_rt ?_, pb.mono (Nat.mul_le_mul_right _ (by omega)), pl⟩
  rw [g_tav_eq]
  show sSeq _ _ [some (.im (.int n)), some (.im (.tuple (T.map fr))), none, none, none, none, none, none] = _
  refine seqN (δ' := [some (.im (.int n)), some (.im (.tuple (T.map fr))), none, none, none, none, none, none]) (by simp [h.ct]) ?_
  refine seqN (δ' := [some (.im (.int n)), some (.im (.tuple (T.map fr))), some (.im (.tuple [])), none, none, none, none, none]) (by simp) ?_
  refine seqN (δ' := [some (.im (.int n)), some (.im (.tuple (T.map fr))), some (.im (.tuple ((tav n T).map HN.fr))), p3, p4, p5, p6, p7]) ?_ ?_
  · rw [sFor_ap]
    simp only [iA_ap, aC_ap, aN_ap, v0, List.map_cons, s0, xV_s, xV_z, R.bind_ok, dEnum_t, fR_ok]
    exact e
  · simp only [sRet_ap, vw, List.map_cons, sw, xV_s, xV_z, fR_ok]
/-! ### minus, divided -/
theorem minus_ok {x y : Rat} (hx : Sm x) (hy : Sm y) : m_minus [fr x, fr y] = .ok (fr (x - y)) := by
  have hn : Sm (-y) := ⟨by rw [Rat.neg_num, Int.natAbs_neg]; exact hy.n, by rw [Rat.neg_den]; exact hy.d⟩
  have p := plus_ok hx hn
  have e : (PyData.tuple [.int (-y.num), .int (y.den : Nat)] : D) = fr (-y) := by unfold fr; rw [Rat.neg_num, Rat.neg_den]
  have e2 : x + -y = x - y := by grind
  rw [e2] at p
  refine runF_rt ?_
  unfold g_minus
  simp [fr_0, fr_1, e, p]
theorem divided_ok {x : Rat} (hx : Sm x) {c : Nat} (h0 : 0 < c) (hc : c ≤ 1000) : m_divided [fr x, .tuple [.int (c : Nat), .int 1]] = .ok (fr (x * mkRat 1 c)) := by
  have k1 : dMul (.int x.num) (.int 1) = .ok (.int x.num) := by rw [dMul_r (by decide)]; simp
  have k2 : dMul (.int (x.den : Nat)) (.int (c : Nat)) = .ok (.int ((x.den * c : Nat) : Int)) := by
    rw [dMul_r (by rw [Int.natAbs_natCast]; exact Nat.lt_of_le_of_lt hc (by decide))]; simp
  have re := reduced_ok (a := x.num) (b := x.den * c) (Nat.mul_ne_zero x.den_nz (by omega)) (by
    refine Nat.lt_of_lt_of_le (nat_lt_mul hx.d (show c < 2 ^ 10 by omega)) ?_
    rw [← Nat.pow_add]
    exact Nat.pow_le_pow_right (by decide) (by decide))
  have e : mkRat x.num (x.den * c) = x * mkRat 1 c := by
    have : x * mkRat 1 c = mkRat x.num x.den * mkRat 1 c := by rw [Rat.mkRat_self]
    rw [this, Rat.mkRat_mul_mkRat]
    simp
  rw [e] at re
  have hl : ¬ ((c : Int) < 0) := by omega
  refine runF_rt ?_
  unfold g_divided
  refine seqN (δ' := [some (.im (fr x)), some (.im (.tuple [.int (c : Nat), .int 1]))]) (by simp [hl]) ?_
  simp [fr_0, fr_1, k1]
  simp at k2
  rw [k2]
  simp at re
  simp [re]
/-! ### evened -/
def bodyEV : Es → Fl := sSeq (sAsg 4 (xLc (iA dEnum (aC (xV 1) aN)) (g2 5 6) (yBl (x2 dEq (xCall 1 m_successes_of (aC (xV 5) aN)) (xV 3))) (xV 6) [5, 6])) (sApp 2 (xCall 2 m_divided (aC (xCall 1 m_total (aC (xV 4) aN)) (aC (xA dTup (aC (xA dLen (aC (xV 4) aN)) (aC (xC (.int 1)) aN))) aN))))
theorem g_ev_eq : g_evened = sSeq (sExp (xCall 2 m_check_table (aC (xV 0) (aC (xV 1) aN)))) (sSeq (sAsgO 2 (aLst aN)) (sSeq (sFor (iA dR1 (aC (x2 dAddA (xV 0) (xC (.int 1))) aN)) (hN 3) bodyEV) (sRet (xA dTupOf (aC (xV 2) aN))))) := (rfl)
theorem gtot {n h : Nat} {T : List Rat} (t : Tab n T) (hh : h ≤ n) : PSr 0 ((idx n h).map fun k => T.getD k 0) := by
  refine psr_sz (M := 60) (V := 9) (fun x hx => ?_) ((show Sz 60 1000 from ⟨by decide, by decide +kernel⟩).mono ?_)
  · obtain ⟨k, _, rfl⟩ := List.mem_map.mp hx
    exact t.b.get k
  · rw [List.length_map, idx_len n t.n4 h hh]
    have := (dvd12 n t.n4 h hh).2
    omega
theorem evened_ok {n : Nat} {T : List Rat} (t : Tab n T) : m_evened [.int n, .tuple (T.map HN.fr)] = .ok (.tuple ((evn n T).map HN.fr)) := by
  have l16 := t.l16
  have n1 := t.n1
  have n4 := t.n4
  have rg : dR1 [.int ((n : Int) + 1)] = .ok ((List.range (n + 1)).map fun t : Nat => .int ((t : Nat) : Int)) := dr_Z (by omega) (by omega)
  refine runF_rt ?_
  rw [g_ev_eq]
  show sSeq _ _ [some (.im (.int n)), some (.im (.tuple (T.map fr))), none, none, none, none, none] = _
  refine seqN (δ' := [some (.im (.int n)), some (.im (.tuple (T.map fr))), none, none, none, none, none]) (by simp [t.ct]) ?_
  refine seqN (δ' := [some (.im (.int n)), some (.im (.tuple (T.map fr))), some (.ow []), none, none, none, none]) (by simp) ?_
  obtain ⟨δ2, e2, o3, o4, rfl⟩ := forD_app (γ := hN 3) (body := bodyEV) (f := fun t : Nat => (PyData.int ((t : Nat) : Int) : D)) (F := fun h : Nat => fr (gsum n T h * mkRat 1 (bin n h))) 900 (fun acc δ => ∃ o3 o4, δ = [some (.im (.int n)), some (.im (.tuple (T.map fr))), some (.ow acc), o3, o4, none, none]) (xs := List.range (n + 1)) (fun h hh acc δ ha hδ => by
    have hh : h ≤ n := by have := List.mem_range.mp hh; omega
    obtain ⟨o3, o4, rfl⟩ := hδ
    have hb := bin_pos (show n ≤ 6 by omega) hh
    have lc : xLc (iA dEnum (aC (xV 1) aN)) (g2 5 6) (yBl (x2 dEq (xCall 1 m_successes_of (aC (xV 5) aN)) (xV 3))) (xV 6) [5, 6] [some (.int n), some (.tuple (T.map HN.fr)), none, some (.int (h : Nat)), s0 o4, none, none] = .ok (.list (((idx n h).map fun k => T.getD k 0).map HN.fr)) := by
      have f := lc_filter (γ := g2 5 6) (ft := yBl (x2 dEq (xCall 1 m_successes_of (aC (xV 5) aN)) (xV 3))) (fe := xV 6) (ρ := [some (.int n), some (.tuple (T.map HN.fr)), none, some (.int (h : Nat)), s0 o4, none, none]) (f := fun i : Nat => (PyData.tuple [.int ((0 + i : Nat) : Int), HN.fr (T.getD i 0)] : D)) (g := fun i : Nat => HN.fr (T.getD i 0)) (p := fun k => decide (pc k = h)) (l := List.range (2 ^ n)) fun k hk => by
        have hk := List.mem_range.mp hk
        have := t.l
        refine ⟨[some (.int n), some (.tuple (T.map HN.fr)), none, some (.int (h : Nat)), s0 o4, some (.int (k : Nat)), some (HN.fr (T.getD k 0))], by simp [g2], ?_, fun _ => by simp⟩
        simp only [yBl_ap, x2_ap, xCall_ap, aC_ap, aN_ap, xV_s, xV_z, R.bind_ok, List.length_cons, List.length_nil, if_pos, succ_ok (show k < 16 by omega), dEq_int, dBl_bool]
        have e : decide (((pc k : Nat) : Int) = ((h : Nat) : Int)) = decide (pc k = h) := by
          rw [decide_eq_decide]; omega
        rw [e]
      have eR := enum_range (T := T) 0
      rw [t.l] at eR
      unfold xLc
      simp only [iA_ap, aC_ap, aN_ap, xV_s, xV_z, R.bind_ok, dEnum_t, eR, List.length_map, List.length_range, wipeD, List.set_cons_zero, List.set_cons_succ, f]
      rw [if_pos (by have := t.l; omega)]
      have em : ((idx n h).map fun k => T.getD k 0).map HN.fr = (idx n h).map fun i : Nat => HN.fr (T.getD i 0) := by rw [List.map_map]; rfl
      rw [em]
      rfl
    have to := total_ok (gtot t hh)
    have il := idx_len n n4 h hh
    have gs : Sm (gsum n T h) := (show Sz 60 (6 * 9) from ⟨by decide, by decide +kernel⟩).sm (gsum_bd n4 hh t.b)
    have dv := divided_ok gs hb (by have := (dvd12 n n4 h hh).2; omega)
    refine ⟨[some (.im (.int n)), some (.im (.tuple (T.map fr))), some (.ow acc), some (.im (.int (h : Nat))), o4, none, none], [some (.im (.int n)), some (.im (.tuple (T.map fr))), some (.ow (acc ++ [fr (gsum n T h * mkRat 1 (bin n h))])), some (.im (.int (h : Nat))), some (.im (.list (((idx n h).map fun k => T.getD k 0).map HN.fr))), none, none], by simp [hN], ?_, ⟨_, _, rfl⟩⟩
    unfold bodyEV
    refine seqN (δ' := [some (.im (.int n)), some (.im (.tuple (T.map fr))), some (.ow acc), some (.im (.int (h : Nat))), some (.im (.list (((idx n h).map fun k => T.getD k 0).map HN.fr))), none, none]) ?_ ?_
    · rw [sAsg_ap]
      simp only [v0, List.map_cons, List.map_nil, s0_im, s0_ow, s0_none, lc, fR_ok]
      rfl
    · have to' : m_total [.list (((idx n h).map fun k => T.getD k 0).map HN.fr)] = .ok (HN.fr (gsum n T h)) := to
      rw [sApp_ap]
      simp only [owAt_s, owAt_z, x2_ap, x1_ap, xA_ap, xC_ap, xCall_ap, aC_ap, aN_ap, v0, List.map_cons, List.map_nil, s0, xV_s, xV_z, R.bind_ok, List.length_cons, List.length_nil, if_pos, to', dLen_list, List.length_map, il, dTup_2, dv, fR_ok]
      rw [if_pos (by omega)]
      rfl) [] _ (by simp; omega) ⟨none, none, rfl⟩
  have en : ([] : List D) ++ (List.range (n + 1)).map (fun h : Nat => fr (gsum n T h * mkRat 1 (bin n h))) = (evn n T).map HN.fr := by
    unfold evn; rw [List.map_map]; rfl
  rw [en] at e2
  refine seqN (δ' := [some (.im (.int n)), some (.im (.tuple (T.map fr))), some (.ow ((evn n T).map HN.fr)), o3, o4, none, none]) ?_ ?_
  · rw [sFor_ap]
    simp only [iA_ap, aC_ap, aN_ap, x2_ap, xC_ap, v0, List.map_cons, s0, xV_s, xV_z, R.bind_ok, dAddA_int, rg, fR_ok]
    exact e2
  · simp only [sRet_ap, xA_ap, aC_ap, aN_ap, vw, List.map_cons, List.map_nil, sw, xV_s, xV_z, R.bind_ok, dTupOf_list, fR_ok]
end HN
end
section
set_option Elab.async false
set_option linter.all false
set_option maxRecDepth 100000
set_option maxHeartbeats 2000000
set_option exponentiation.threshold 20000
namespace HN
open PySem L2 HL HM
/-! ### a polynomial with told values -/
def fac (c o : Rat) : List Rat := trim ([0 - o, 1].map ((1 / (c - o)) * ·))
def lagP (c : Rat) : List Rat → List (Rat × Rat) → List Rat
  | part, [] => part
  | part, y :: r => lagP c (if y.1 = c then part else trim (mulP part (fac c y.1))) r
def prodL (c : Rat) (x : Rat) : List (Rat × Rat) → Rat
  | [] => 1
  | y :: r => (if y.1 = c then 1 else (x - y.1) * (1 / (c - y.1))) * prodL c x r
theorem fac_ev (c o x : Rat) : ev (fac c o) x = (x - o) * (1 / (c - o)) := by
  unfold fac
  rw [trim_ev, mul_ev]
  simp only [ev]
  grind
theorem lagP_ev (c x : Rat) : ∀ (r : List (Rat × Rat)) (part : List Rat), ev (lagP c part r) x = ev part x * prodL c x r
  | [], part => by simp [lagP, prodL]
  | y :: r, part => by
    rw [lagP, lagP_ev c x r, prodL]
    split
    · rw [Rat.one_mul]
    · rw [trim_ev, mulP_ev, fac_ev]; grind
def lagR : List Rat → List (Rat × Rat) → List (Rat × Rat) → List Rat
  | row, _, [] => row
  | row, P, y :: r => lagR (trim (addP row (lagP y.1 [y.2] P))) P r
theorem lagR_ev (P : List (Rat × Rat)) (x : Rat) : ∀ (r : List (Rat × Rat)) (row : List Rat), ev (lagR row P r) x = ev row x + (r.map fun y => y.2 * prodL y.1 x P).sum
  | [], row => by simp [lagR]; grind
  | y :: r, row => by
    rw [lagR, lagR_ev P x r, trim_ev, addP_ev, lagP_ev, List.map_cons, List.sum_cons]
    simp only [ev]
    grind
theorem prodL_one {c : Rat} : ∀ r : List (Rat × Rat), prodL c c r = 1
  | [] => rfl
  | y :: r => by
    rw [prodL, prodL_one r]
    split
    · grind
    · rename_i h
      have : c - y.1 ≠ 0 := fun z => h (by grind)
      grind
theorem prodL_zero {c x : Rat} (hx : x ≠ c) : ∀ {r : List (Rat × Rat)}, (∃ y ∈ r, y.1 = x) → prodL c x r = 0
  | [], h => by obtain ⟨y, hy, _⟩ := h; cases hy
  | z :: r, h => by
    rw [prodL]
    obtain ⟨y, hy, e⟩ := h
    rcases List.mem_cons.mp hy with q | q
    · subst q
      rw [if_neg (by rw [e]; exact hx), e]
      grind
    · rw [prodL_zero hx ⟨y, q, e⟩]; grind
/-- chances that differ -/
def Dif (P : List (Rat × Rat)) : Prop := P.Pairwise fun a b => a.1 ≠ b.1
theorem lag_at {P : List (Rat × Rat)} (hd : Dif P) {y : Rat × Rat} (hy : y ∈ P) : ev (lagR [] P P) y.1 = y.2 := by
  rw [lagR_ev]
  have key : ∀ r : List (Rat × Rat), (∀ z ∈ r, z ∈ P) → Dif r → y ∈ r → (r.map fun z => z.2 * prodL z.1 y.1 P).sum = y.2 := by
    intro r
    induction r with
    | nil => intro _ _ h; cases h
    | cons z r ih =>
      intro hs hp hm
      obtain ⟨p1, p2⟩ := List.pairwise_cons.mp hp
      rw [List.map_cons, List.sum_cons]
      rcases List.mem_cons.mp hm with e | e
      · subst e
        rw [prodL_one, sum_zero (fun z hz => by rw [prodL_zero (p1 z hz) ⟨y, hy, rfl⟩, Rat.mul_zero])]
        grind
      · rw [ih (fun q hq => hs q (List.mem_cons_of_mem _ hq)) p2 e, prodL_zero (c := z.1) (x := y.1) (fun q => p1 y e q.symm) ⟨y, hy, rfl⟩]
        grind
  rw [key P (fun _ h => h) hd hy]
  simp only [ev]
  grind
/-! lengths -/
def oth (c : Rat) (r : List (Rat × Rat)) : Nat := (r.filter fun y => !decide (y.1 = c)).length
theorem fac_len (c o : Rat) : (fac c o).length ≤ 2 := Nat.le_trans (trim_len _) (by simp)
theorem oth_cons (c : Rat) (y : Rat × Rat) (r : List (Rat × Rat)) : oth c (y :: r) = (if y.1 = c then 0 else 1) + oth c r := by
  unfold oth
  rw [List.filter_cons]
  by_cases h : y.1 = c
  · simp [h]
  · simp [h]; omega
theorem lagP_len (c : Rat) : ∀ (r : List (Rat × Rat)) (part : List Rat), 1 ≤ part.length → (lagP c part r).length ≤ part.length + oth c r
  | [], part, _ => by simp [lagP, oth]
  | y :: r, part, h1 => by
    rw [lagP, oth_cons]
    by_cases h : y.1 = c
    · rw [if_pos h, if_pos h]
      have := lagP_len c r part h1
      omega
    · rw [if_neg h, if_neg h]
      have d := mulP_deg part (fac c y.1)
      have f := fac_len c y.1
      by_cases h0 : 1 ≤ (trim (mulP part (fac c y.1))).length
      · have := lagP_len c r _ h0
        omega
      · have e : trim (mulP part (fac c y.1)) = [] := List.eq_nil_of_length_eq_zero (by omega)
        rw [e]
        have z : ∀ q : List (Rat × Rat), (lagP c [] q).length ≤ oth c q := fun q => by
          induction q with
          | nil => simp [lagP]
          | cons a q ih =>
            rw [lagP, oth_cons]
            split
            · have := ih; omega
            · have d2 := mulP_deg [] (fac c a.1)
              have f2 := fac_len c a.1
              have l0 : (trim (mulP [] (fac c a.1))).length ≤ 1 := by simp at d2 ⊢; omega
              by_cases hz : trim (mulP [] (fac c a.1)) = []
              · rw [hz]; have := ih; omega
              · have hb : trim (mulP [] (fac c a.1)) = [] := by
                  refine uniq (trim_nz _) (.inl rfl) fun x => ?_
                  rw [trim_ev, mulP_ev]
                  simp only [ev]
                  grind
                exact absurd hb hz
        have := z r
        omega
theorem oth_le {P : List (Rat × Rat)} {y : Rat × Rat} (hy : y ∈ P) : oth y.1 P + 1 ≤ P.length := by
  induction P with
  | nil => cases hy
  | cons z r ih =>
    rw [oth_cons, List.length_cons]
    rcases List.mem_cons.mp hy with e | e
    · subst e
      rw [if_pos rfl]
      have : oth y.1 r ≤ r.length := List.length_filter_le _ _
      omega
    · have := ih e
      split <;> omega
theorem lagR_len (P : List (Rat × Rat)) (L : Nat) (hL : P.length = L) : ∀ (r : List (Rat × Rat)) (row : List Rat), (∀ y ∈ r, y ∈ P) → row.length ≤ L → (lagR row P r).length ≤ L
  | [], row, _, h => h
  | y :: r, row, hs, h => by
    rw [lagR]
    refine lagR_len P L hL r _ (fun z hz => hs z (List.mem_cons_of_mem _ hz)) ?_
    have a := lagP_len y.1 P [y.2] (by simp)
    have b := oth_le (hs y List.mem_cons_self)
    have c := trim_len (addP row (lagP y.1 [y.2] P))
    rw [addP_len] at c
    simp at a
    omega
end HN
end
section
set_option Elab.async false
set_option linter.all false
set_option maxRecDepth 100000
set_option maxHeartbeats 2000000
set_option exponentiation.threshold 20000
namespace HN
open PySem L2 HL HM
/-! ### one divided by a fraction -/
theorem inv_ok {y : Rat} (hy : Sm y) (h0 : y ≠ 0) : m_divided [.tuple [.int 1, .int 1], fr y] = .ok (fr (1 / y)) := by
  have nz : y.num ≠ 0 := fun z => h0 (Rat.num_eq_zero.mp z)
  have e0 : (1 : Rat) / y = Rat.divInt y.den y.num := by rw [Rat.div_def, Rat.one_mul, Rat.inv_def]
  have hn := hy.n
  have hN : y.num.natAbs < 2 ^ 9000 := Nat.lt_trans hn (Nat.pow_lt_pow_right (by decide) (by decide))
  refine runF_rt ?_
  unfold g_divided
  show sSeq _ _ [some (.im (.tuple [.int 1, .int 1])), some (.im (fr y))] = _
  by_cases hneg : y.num < 0
  · have k1 : dMul (.int (-1)) (.int (y.den : Nat)) = .ok (.int (-1 * (y.den : Int))) := mul_sz (k := 2000) (l := 2000) (Nat.lt_of_lt_of_le (by decide) (Nat.pow_le_pow_right (show 0 < 2 by decide) (show 1 ≤ 2000 by decide))) (by rw [Int.natAbs_natCast]; exact hy.d) (by decide) (by decide) (by decide)
    have k2 : dMul (.int (-1)) (.int y.num) = .ok (.int (-1 * y.num)) := mul_sz (k := 2000) (l := 2000) (Nat.lt_of_lt_of_le (by decide) (Nat.pow_le_pow_right (show 0 < 2 by decide) (show 1 ≤ 2000 by decide))) hn (by decide) (by decide) (by decide)
    have re := reduced_ok (a := -1 * (y.den : Int)) (b := y.num.natAbs) (by omega) hN
    have e1 : (-1 * y.num) = ((y.num.natAbs : Nat) : Int) := by omega
    have e2 : mkRat (-1 * (y.den : Int)) y.num.natAbs = 1 / y := by
      rw [e0, ← Rat.divInt_ofNat]
      have : y.num = -((y.num.natAbs : Nat) : Int) := by omega
      conv => rhs; rw [this, Rat.divInt_neg']
      rw [show -1 * (y.den : Int) = -(y.den : Int) by omega]
    rw [e2, ← e1] at re
    refine seqR ?_
    rw [sIf_ap]
    simp only [yBl_ap, x2_ap, xC_ap, vw, List.map_cons, List.map_nil, sw, xV_s, xV_z, R.bind_ok, fr_0, dLt_int, dBl_bool, fR_ok, decide_eq_true hneg, if_pos]
    simp only [sRet_ap, x2_ap, x1_ap, xC_ap, xCall_ap, aC_ap, aN_ap, vw, List.map_cons, List.map_nil, sw, xV_s, xV_z, R.bind_ok, fr_0, fr_1, dIx_t0, dIx_t1, dNeg_int, k1, k2, List.length_cons, List.length_nil, if_pos, re, fR_ok]
  · have k1 : dMul (.int 1) (.int (y.den : Nat)) = .ok (.int (1 * (y.den : Int))) := mul_sz (k := 2000) (l := 2000) (Nat.lt_of_lt_of_le (by decide) (Nat.pow_le_pow_right (show 0 < 2 by decide) (show 1 ≤ 2000 by decide))) (by rw [Int.natAbs_natCast]; exact hy.d) (by decide) (by decide) (by decide)
    have k2 : dMul (.int 1) (.int y.num) = .ok (.int (1 * y.num)) := mul_sz (k := 2000) (l := 2000) (Nat.lt_of_lt_of_le (by decide) (Nat.pow_le_pow_right (show 0 < 2 by decide) (show 1 ≤ 2000 by decide))) hn (by decide) (by decide) (by decide)
    have re := reduced_ok (a := 1 * (y.den : Int)) (b := y.num.natAbs) (by omega) hN
    have e1 : (1 * y.num) = ((y.num.natAbs : Nat) : Int) := by omega
    have e2 : mkRat (1 * (y.den : Int)) y.num.natAbs = 1 / y := by
      rw [e0, ← Rat.divInt_ofNat, Int.one_mul]
      congr 1
      omega
    rw [e2, ← e1] at re
    refine seqN (δ' := [some (.im (.tuple [.int 1, .int 1])), some (.im (fr y))]) ?_ ?_
    · rw [sIf_ap]
      simp only [yBl_ap, x2_ap, xC_ap, vw, List.map_cons, List.map_nil, sw, xV_s, xV_z, R.bind_ok, fr_0, dLt_int, dBl_bool, fR_ok, decide_eq_false hneg]
      rfl
    · simp only [sRet_ap, x2_ap, x1_ap, xC_ap, xCall_ap, aC_ap, aN_ap, vw, List.map_cons, List.map_nil, sw, xV_s, xV_z, R.bind_ok, fr_0, fr_1, dIx_t0, dIx_t1, k1, k2, List.length_cons, List.length_nil, if_pos, re, fR_ok]
/-! ### sizes -/
structure Tw (c : Rat) : Prop where
  ex : ∃ a : Nat, a ≤ 12 ∧ c = mkRat (a : Int) 12
theorem Tw.chc {c : Rat} (h : Tw c) : Chc c ∧ Bd 12 1 c := by
  obtain ⟨a, ha, e⟩ := h.ex
  rw [e]
  exact chc_mk (by decide) ha (by decide)
theorem dvd27 : ∀ m, m ≤ 12 → 1 ≤ m → m ∣ 27720 := by decide
theorem inv_tw {c o : Rat} (hc : Tw c) (ho : Tw o) (hne : o ≠ c) : Bd 27720 12 (1 / (c - o)) ∧ Bd 27720 12 (1 / (c - o) * (0 - o)) := by
  obtain ⟨a, ha, ea⟩ := hc.ex
  obtain ⟨b, hb, eb⟩ := ho.ex
  have ab : a ≠ b := fun z => hne (by rw [ea, eb, z])
  have hd : ((a : Int) - (b : Int)) ∣ 27720 := by
    have := dvd27 ((a : Int) - (b : Int)).natAbs (by omega) (by omega)
    exact Int.natAbs_dvd_natAbs.mp (by simpa using this)
  obtain ⟨k, hk⟩ := hd
  have kb : k.natAbs ≤ 27720 := by
    have := congrArg Int.natAbs hk
    rw [Int.natAbs_mul] at this
    have h1 : 1 ≤ ((a : Int) - (b : Int)).natAbs := by omega
    have h2 := Nat.mul_le_mul_right k.natAbs h1
    rw [Nat.one_mul, ← this] at h2
    exact h2
  rw [ea, eb, mk_split a 12 (by decide), mk_split b 12 (by decide)]
  have ht : mkRat 1 12 * 12 = 1 := by decide +kernel
  have hdz : ((a : Rat) - (b : Rat)) ≠ 0 := by
    intro z
    have : (a : Rat) = (b : Rat) := by grind
    exact ab (by exact_mod_cast this)
  have tz : mkRat 1 12 ≠ 0 := mk1_nz (by decide)
  have hkq : ((27720 : Int) : Rat) = (((a : Int) : Rat) - ((b : Int) : Rat)) * (k : Rat) := by
    rw [hk]; push_cast; rfl
  generalize mkRat 1 12 = t at ht tz
  have e27 : ((27720 : Nat) : Rat) = ((a : Rat) - (b : Rat)) * (k : Rat) := hkq
  have inv : 1 / ((a : Rat) * t - (b : Rat) * t) * ((a : Rat) - (b : Rat)) = 12 := by
    have : (a : Rat) * t - (b : Rat) * t = ((a : Rat) - (b : Rat)) * t := by grind
    rw [this]
    have nz : ((a : Rat) - (b : Rat)) * t ≠ 0 := fun z => (Rat.mul_eq_zero.mp z).elim hdz tz
    grind
  generalize 1 / ((a : Rat) * t - (b : Rat) * t) = v at inv
  constructor
  · refine ⟨12 * k, ?_, ?_⟩
    · rw [e27]
      have : ((12 * k : Int) : Rat) = 12 * (k : Rat) := by push_cast; rfl
      rw [this]
      grind
    · rw [Int.natAbs_mul]
      exact Nat.mul_le_mul_left _ kb
  · refine ⟨-(b : Int) * k, ?_, ?_⟩
    · rw [e27]
      have : ((-(b : Int) * k : Int) : Rat) = -(b : Rat) * (k : Rat) := by push_cast; rfl
      rw [this]
      grind
    · rw [Int.natAbs_mul, Int.natAbs_neg, Int.natAbs_natCast]
      exact Nat.mul_le_mul hb kb
theorem fac_pb {c o : Rat} (hc : Tw c) (ho : Tw o) (hne : o ≠ c) : PB 27720 12 (fac c o) := by
  obtain ⟨a, b⟩ := inv_tw hc ho hne
  unfold fac
  refine PB.trim fun x hx => ?_
  rw [List.map_cons, List.map_cons, List.map_nil] at hx
  rcases List.mem_cons.mp hx with e | e
  · rw [e]; exact b
  · rw [List.mem_singleton.mp e, Rat.mul_one]; exact a
end HN
end
section
set_option Elab.async false
set_option linter.all false
set_option maxRecDepth 100000
set_option maxHeartbeats 2000000
set_option exponentiation.threshold 20000
namespace HN
open PySem L2 HL HM
def pq (y : Rat × Rat) : D := .tuple [fr y.1, fr y.2]
def bodyPI : Es → Fl := sIf (yBl (x2 dNe (xV 6) (xV 3))) (sSeq (sAsg 8 (xCall 2 m_multiple_of (aC (xCall 2 m_divided (aC (xA dTup (aC (xC (.int 1)) (aC (xC (.int 1)) aN))) (aC (xCall 2 m_minus (aC (xV 3) (aC (xV 6) aN))) aN))) (aC (xA dTup (aC (xCall 2 m_minus (aC (xA dTup (aC (xC (.int 0)) (aC (xC (.int 1)) aN))) (aC (xV 6) aN))) (aC (xA dTup (aC (xC (.int 1)) (aC (xC (.int 1)) aN))) aN))) aN)))) (sAsg 5 (xCall 2 m_product_of (aC (xV 5) (aC (xV 8) aN))))) sNil
def bodyPO : Es → Fl := sSeq (sAsg 5 (xA dTup (aC (xV 4) aN))) (sSeq (sFor (iSeq (xV 1)) (h2 6 7) bodyPI) (sAsg 2 (xCall 2 m_sum_of (aC (xV 2) (aC (xV 5) aN)))))
theorem g_fa_eq : g_from_averages = sSeq (sExp (xCall 2 m_check_points (aC (xV 0) (aC (xV 1) aN)))) (sSeq (sAsg 2 (xA dTup aN)) (sSeq (sFor (iSeq (xV 1)) (h2 3 4) bodyPO) (sRet (xCall 2 m_honest_of (aC (xV 0) (aC (xV 2) aN)))))) := (rfl)
theorem szL {M k : Nat} (hz : M ≠ 0) (hm : M ≤ 99999 ^ 6) (hk : k ≤ 6) : Sz (M * 27720 ^ k) (10 ^ 40) := by
  refine Sz.low (N := 99999 ^ 6 * 27720 ^ 6) ⟨by decide, by decide +kernel⟩ (Nat.mul_ne_zero hz (fun z => by have := (Nat.pow_eq_zero.mp z).1; omega)) (Nat.mul_le_mul hm (Nat.pow_le_pow_right (by decide) hk))
theorem v144 {V k : Nat} (hV : V ≤ 99999) (hk : k ≤ 5) : V * 144 ^ k ≤ 99999 * 144 ^ 5 := Nat.mul_le_mul hV (Nat.pow_le_pow_right (by decide) hk)
theorem n144 : 99999 * 144 ^ 5 = 6191674361315328 + (99999 * 144 ^ 5 - 6191674361315328) := by decide
theorem lag_loop {n M V : Nat} {c : Rat} (hz : M ≠ 0) (hm : M ≤ 99999 ^ 6) (h1V : 1 ≤ V) (hV : V ≤ 99999) (hc : Tw c) (u : D) (o2 o4 : Option Sl) : ∀ (r : List (Rat × Rat)) (part : List Rat) (k : Nat) (o6 o7 o8 : Option Sl), (∀ y ∈ r, Tw y.1) → PB (M * 27720 ^ k) (V * 144 ^ k) part → part.length ≤ k + 1 → k + oth c r ≤ 5 →
    ∃ p6 p7 p8, forD (h2 6 7) bodyPI (r.map pq) [some (.im (.int n)), some (.im u), o2, some (.im (fr c)), o4, some (.im (.tuple (part.map fr))), o6, o7, o8] = .nx [some (.im (.int n)), some (.im u), o2, some (.im (fr c)), o4, some (.im (.tuple ((lagP c part r).map fr))), p6, p7, p8] ∧ PB (M * 27720 ^ (k + oth c r)) (V * 144 ^ (k + oth c r)) (lagP c part r)
  | [], part, k, o6, o7, o8, _, hb, _, _ => ⟨o6, o7, o8, rfl, by simpa [oth, lagP] using hb⟩
  | y :: r, part, k, o6, o7, o8, ht, hb, hl, hk => by
    have hy := ht y List.mem_cons_self
    have hr : ∀ z ∈ r, Tw z.1 := fun z hz => ht z (List.mem_cons_of_mem _ hz)
    rw [oth_cons] at hk ⊢
    rw [lagP, List.map_cons]
    have st : (h2 6 7) (pq y) [some (.im (.int n)), some (.im u), o2, some (.im (fr c)), o4, some (.im (.tuple (part.map fr))), o6, o7, o8] = .ok [some (.im (.int n)), some (.im u), o2, some (.im (fr c)), o4, some (.im (.tuple (part.map fr))), some (.im (fr y.1)), some (.im (fr y.2)), o8] := by simp [h2, pq]
    by_cases h : y.1 = c
    · rw [if_pos h] at hk
      rw [if_pos h, if_pos h, Nat.zero_add]
      rw [Nat.zero_add] at hk
      obtain ⟨p6, p7, p8, e, pb⟩ := lag_loop (n := n) hz hm h1V hV hc u o2 o4 r part k (some (.im (fr y.1))) (some (.im (fr y.2))) o8 hr hb hl hk
      refine ⟨p6, p7, p8, ?_, pb⟩
      have b : bodyPI [some (.im (.int n)), some (.im u), o2, some (.im (fr c)), o4, some (.im (.tuple (part.map fr))), some (.im (fr y.1)), some (.im (fr y.2)), o8] = .nx [some (.im (.int n)), some (.im u), o2, some (.im (fr c)), o4, some (.im (.tuple (part.map fr))), some (.im (fr y.1)), some (.im (fr y.2)), o8] := by
        unfold bodyPI
        rw [sIf_ap]
        simp only [yBl_ap, x2_ap, x1_ap, xA_ap, xC_ap, xCall_ap, aC_ap, aN_ap, vw, List.map_cons, List.map_nil, sw, xV_s, xV_z, R.bind_ok, List.length_cons, List.length_nil, if_pos, dNe_fr, dBl_bool, fR_ok, decide_eq_true h]
        rfl
      rw [forD_cons st b, e]
    · rw [if_neg h] at hk
      rw [if_neg h, if_neg h]
      have fl := fac_len c y.1
      have fp := fac_pb hc hy h
      have dg := mulP_deg part (fac c y.1)
      have v5 := v144 hV (show k ≤ 5 by omega)
      have vk1 : 1 ≤ V * 144 ^ k := Nat.mul_pos h1V (Nat.pow_pos (by decide))
      have big : part.length * ((fac c y.1).length * (V * 144 ^ k * 12)) ≤ V * 144 ^ (k + 1) := by
        have a1 : part.length * ((fac c y.1).length * (V * 144 ^ k * 12)) ≤ 6 * (2 * (V * 144 ^ k * 12)) := Nat.mul_le_mul (by omega) (Nat.mul_le_mul_right _ fl)
        have a2 : 6 * (2 * (V * 144 ^ k * 12)) = V * 144 ^ (k + 1) := by rw [Nat.pow_succ]; grind
        omega
      have pb1 := (hb.mulP fp).trim.mono big
      have eM : M * 27720 ^ k * 27720 = M * 27720 ^ (k + 1) := by rw [Nat.pow_succ, Nat.mul_assoc]
      rw [eM] at pb1
      have sv : Sz (M * 27720 ^ k) (V * 144 ^ k) := (szL hz hm (by omega)).mono (Nat.le_trans v5 (by decide))
      have sp : Sz (M * 27720 ^ k * 27720) (part.length * ((fac c y.1).length * (V * 144 ^ k * 12))) := by
        rw [eM]
        refine (szL hz hm (by omega)).mono (Nat.le_trans big ?_)
        rw [Nat.pow_succ, ← Nat.mul_assoc]
        exact Nat.le_trans (Nat.mul_le_mul_right 144 v5) (by decide)
      have pr := prod_pb vk1 hb fp sv sp (by omega)
      have sc := hc.chc.1.sm
      have so := hy.chc.1.sm
      have sd : Sm (c - y.1) := by
        have := (hc.chc.2).add (hy.chc.2).neg
        rw [← Rat.sub_eq_add_neg] at this
        exact Sz.sm (M := 12) (V := 1 + 1) ⟨by decide, by decide +kernel⟩ this
      have dz : c - y.1 ≠ 0 := fun z => h (by grind)
      have s0' : Sm (0 - y.1) := by
        have := (hy.chc.2).neg
        have e : (0 : Rat) - y.1 = -y.1 := by grind
        rw [e]
        exact Sz.sm (M := 12) (V := 1) ⟨by decide, by decide +kernel⟩ this
      have s1' : Sm (1 : Rat) := Sz.sm (M := 1) (V := 1) ⟨by decide, by decide +kernel⟩ bd_one
      have si : Sm (1 / (c - y.1)) := Sz.sm (M := 27720) (V := 12) ⟨by decide, by decide +kernel⟩ (inv_tw hc hy h).1
      have mi := minus_ok sc so
      have di := inv_ok sd dz
      have m0 : m_minus [.tuple [.int 0, .int 1], fr y.1] = .ok (fr (0 - y.1)) := minus_ok (x := 0) sm_0 so
      have mu := multiple_of_ok (c := 1 / (c - y.1)) (a := [0 - y.1, 1]) si (fun x hx => by
        rcases List.mem_cons.mp hx with e | e
        · rw [e]; exact s0'
        · rw [List.mem_singleton.mp e]; exact s1') (by simp)
      have mu' : m_multiple_of [fr (1 / (c - y.1)), .tuple [fr (0 - y.1), .tuple [.int 1, .int 1]]] = .ok (.tuple ((fac c y.1).map fr)) := mu
      obtain ⟨p6, p7, p8, e, pb⟩ := lag_loop (n := n) hz hm h1V hV hc u o2 o4 r (trim (mulP part (fac c y.1))) (k + 1) (some (.im (fr y.1))) (some (.im (fr y.2))) (some (.im (.tuple ((fac c y.1).map fr)))) hr pb1 (by omega) (by omega)
      refine ⟨p6, p7, p8, ?_, by rw [show k + (1 + oth c r) = k + 1 + oth c r by omega]; exact pb⟩
      have b : bodyPI [some (.im (.int n)), some (.im u), o2, some (.im (fr c)), o4, some (.im (.tuple (part.map fr))), some (.im (fr y.1)), some (.im (fr y.2)), o8] = .nx [some (.im (.int n)), some (.im u), o2, some (.im (fr c)), o4, some (.im (.tuple ((trim (mulP part (fac c y.1))).map fr))), some (.im (fr y.1)), some (.im (fr y.2)), some (.im (.tuple ((fac c y.1).map fr)))] := by
        unfold bodyPI
        rw [sIf_ap]
        simp only [yBl_ap, x2_ap, x1_ap, xA_ap, xC_ap, xCall_ap, aC_ap, aN_ap, vw, List.map_cons, List.map_nil, sw, xV_s, xV_z, R.bind_ok, List.length_cons, List.length_nil, if_pos, dNe_fr, dBl_bool, fR_ok, decide_eq_false h, Bool.not_false]
        refine seqN (δ' := [some (.im (.int n)), some (.im u), o2, some (.im (fr c)), o4, some (.im (.tuple (part.map fr))), some (.im (fr y.1)), some (.im (fr y.2)), some (.im (.tuple ((fac c y.1).map fr)))]) ?_ ?_
        · simp only [sAsg_ap, x2_ap, x1_ap, xA_ap, xC_ap, xCall_ap, aC_ap, aN_ap, v0, List.map_cons, List.map_nil, s0, xV_s, xV_z, R.bind_ok, List.length_cons, List.length_nil, if_pos, dTup_2, mi, di, m0, mu', fR_ok]
          rfl
        · simp only [sAsg_ap, x2_ap, x1_ap, xA_ap, xC_ap, xCall_ap, aC_ap, aN_ap, v0, List.map_cons, List.map_nil, s0, xV_s, xV_z, R.bind_ok, List.length_cons, List.length_nil, if_pos, pr, fR_ok]
          rfl
      rw [forD_cons st b, e]
theorem lagO_loop {n M V : Nat} (hz : M ≠ 0) (hm : M ≤ 99999 ^ 6) (h1V : 1 ≤ V) (hV : V ≤ 99999) {P : List (Rat × Rat)} (hP : ∀ y ∈ P, Tw y.1) (hL : P.length ≤ 6) (hD : Dif P) : ∀ (r : List (Rat × Rat)) (row : List Rat) (j : Nat) (o3 o4 o5 o6 o7 o8 : Option Sl), (∀ y ∈ r, y ∈ P ∧ Bd M V y.2) → PB (M * 27720 ^ (P.length - 1)) (j * (V * 144 ^ 5)) row → row.length ≤ P.length → j + r.length ≤ 6 →
    ∃ p3 p4 p5 p6 p7 p8, forD (h2 3 4) bodyPO (r.map pq) [some (.im (.int n)), some (.im (.tuple (P.map pq))), some (.im (.tuple (row.map fr))), o3, o4, o5, o6, o7, o8] = .nx [some (.im (.int n)), some (.im (.tuple (P.map pq))), some (.im (.tuple ((lagR row P r).map fr))), p3, p4, p5, p6, p7, p8] ∧ PB (M * 27720 ^ (P.length - 1)) (6 * (V * 144 ^ 5)) (lagR row P r)
  | [], row, j, o3, o4, o5, o6, o7, o8, _, hb, _, hj => ⟨o3, o4, o5, o6, o7, o8, rfl, by rw [lagR]; exact hb.mono (Nat.mul_le_mul_right _ (by simpa using hj))⟩
  | y :: r, row, j, o3, o4, o5, o6, o7, o8, hy, hb, hl, hj => by
    obtain ⟨yP, yb⟩ := hy y List.mem_cons_self
    rw [List.length_cons] at hj
    have ol := oth_le yP
    have hk0 : oth y.1 P = P.length - 1 := by
      have key : ∀ q : List (Rat × Rat), Dif q → y ∈ q → oth y.1 q + 1 = q.length := fun q => by
        induction q with
        | nil => intro _ h; cases h
        | cons z q ih =>
          intro hd hm
          obtain ⟨p1, p2⟩ := List.pairwise_cons.mp hd
          rw [oth_cons, List.length_cons]
          rcases List.mem_cons.mp hm with e | e
          · subst e
            rw [if_pos rfl]
            have : oth y.1 q = q.length := by
              unfold oth
              rw [List.filter_eq_self.mpr]
              intro x hx
              have := p1 x hx
              simp
              exact fun z => this z.symm
            omega
          · rw [if_neg (p1 y e)]
            have := ih p2 e
            omega
      have := key P hD yP
      omega
    obtain ⟨q6, q7, q8, e, pb⟩ := lag_loop (n := n) (c := y.1) hz hm h1V hV (hP y yP) (.tuple (P.map pq)) (some (.im (.tuple (row.map fr)))) (some (.im (fr y.2))) P [y.2] 0 o6 o7 o8 hP (fun x hx => by rw [List.mem_singleton.mp hx]; simpa using yb) (by simp) (by omega)
    rw [Nat.zero_add, hk0] at pb
    have lp := lagP_len y.1 P [y.2] (by simp)
    simp at lp
    have v5 := v144 hV (show P.length - 1 ≤ 5 by omega)
    have pb' := pb.mono (W := V * 144 ^ 5) (Nat.mul_le_mul_left _ (Nat.pow_le_pow_right (by decide) (by omega)))
    have vv : V * 144 ^ 5 ≤ 99999 * 144 ^ 5 := Nat.mul_le_mul_right _ hV
    have j6 : j * (V * 144 ^ 5) ≤ 6 * (99999 * 144 ^ 5) := Nat.mul_le_mul (by omega) vv
    have su := sum_pb hb pb' ((szL hz hm (show P.length - 1 ≤ 6 by omega)).mono (Nat.le_trans (Nat.add_le_add j6 vv) (by decide))) (by omega) (by omega)
    have hb2 := (hb.add pb').trim
    have ej : j * (V * 144 ^ 5) + V * 144 ^ 5 = (j + 1) * (V * 144 ^ 5) := by rw [Nat.add_mul, Nat.one_mul]
    rw [ej] at hb2
    have tl := trim_len (addP row (lagP y.1 [y.2] P))
    rw [addP_len] at tl
    obtain ⟨p3, p4, p5, p6, p7, p8, e2, pb2⟩ := lagO_loop hz hm h1V hV hP hL hD r (trim (addP row (lagP y.1 [y.2] P))) (j + 1) (some (.im (fr y.1))) (some (.im (fr y.2))) (some (.im (.tuple ((lagP y.1 [y.2] P).map fr)))) q6 q7 q8 (fun z hz' => hy z (List.mem_cons_of_mem _ hz')) hb2 (by omega) (by omega)
    refine ⟨p3, p4, p5, p6, p7, p8, ?_, by rw [lagR]; exact pb2⟩
    have b : bodyPO [some (.im (.int n)), some (.im (.tuple (P.map pq))), some (.im (.tuple (row.map fr))), some (.im (fr y.1)), some (.im (fr y.2)), o5, o6, o7, o8] = .nx [some (.im (.int n)), some (.im (.tuple (P.map pq))), some (.im (.tuple ((trim (addP row (lagP y.1 [y.2] P))).map fr))), some (.im (fr y.1)), some (.im (fr y.2)), some (.im (.tuple ((lagP y.1 [y.2] P).map fr))), q6, q7, q8] := by
      unfold bodyPO
      refine seqN (δ' := [some (.im (.int n)), some (.im (.tuple (P.map pq))), some (.im (.tuple (row.map fr))), some (.im (fr y.1)), some (.im (fr y.2)), some (.im (.tuple ([y.2].map fr))), o6, o7, o8]) ?_ ?_
      · simp only [sAsg_ap, x2_ap, x1_ap, xA_ap, xC_ap, xCall_ap, aC_ap, aN_ap, v0, List.map_cons, List.map_nil, s0, xV_s, xV_z, R.bind_ok, List.length_cons, List.length_nil, if_pos, dTup_1, fR_ok]
        rfl
      refine seqN (δ' := [some (.im (.int n)), some (.im (.tuple (P.map pq))), some (.im (.tuple (row.map fr))), some (.im (fr y.1)), some (.im (fr y.2)), some (.im (.tuple ((lagP y.1 [y.2] P).map fr))), q6, q7, q8]) ?_ ?_
      · rw [sFor_ap]
        simp only [iSeq_ap, v0, List.map_cons, s0, xV_s, xV_z, R.bind_ok, dItems_tuple, fR_ok]
        exact e
      · simp only [sAsg_ap, x2_ap, x1_ap, xA_ap, xC_ap, xCall_ap, aC_ap, aN_ap, v0, List.map_cons, List.map_nil, s0, xV_s, xV_z, R.bind_ok, List.length_cons, List.length_nil, if_pos, su, fR_ok]
        rfl
    rw [List.map_cons, forD_cons (by simp [h2, pq]) b, e2]
    rfl
end HN
end
section
set_option Elab.async false
set_option linter.all false
set_option maxRecDepth 100000
set_option maxHeartbeats 2000000
set_option exponentiation.threshold 20000
namespace HN
open PySem L2 HL HM
theorem forD_exc {α : Type} {γ : D → Es → R Es} {body : Es → Fl} {f : α → D} {p : α → Bool} (c : String) (I : Es → Prop) : ∀ {xs : List α}, (∀ a ∈ xs, ∀ δ, I δ → ∃ δ1, γ (f a) δ = .ok δ1 ∧ (p a = true → body δ1 = .exc c) ∧ (p a = false → ∃ δ2, body δ1 = .nx δ2 ∧ I δ2)) → ∀ δ, I δ →
    (xs.any p = true ∧ forD γ body (xs.map f) δ = .exc c) ∨ (xs.any p = false ∧ ∃ δ2, forD γ body (xs.map f) δ = .nx δ2 ∧ I δ2)
  | [], _, δ, h => .inr ⟨rfl, δ, rfl, h⟩
  | x :: xs, hx, δ, h => by
    obtain ⟨δ1, e1, ht, hf⟩ := hx x List.mem_cons_self δ h
    cases hp : p x with
    | true =>
      refine .inl ⟨by simp [hp], ?_⟩
      rw [List.map_cons, forD, e1]
      show fR (R.ok δ1).nx _ = _
      rw [R.nx_ok', fR_ok, ht hp]
    | false =>
      obtain ⟨δ2, e2, h2⟩ := hf hp
      rcases forD_exc c I (fun y hy => hx y (List.mem_cons_of_mem _ hy)) δ2 h2 with ⟨q1, q2⟩ | ⟨q1, δ3, q2, q3⟩
      · exact .inl ⟨by simp [hp, q1], by rw [List.map_cons, forD_cons e1 e2, q2]⟩
      · exact .inr ⟨by simp [hp, q1], δ3, by rw [List.map_cons, forD_cons e1 e2, q2], q3⟩
def bodyCE : Es → Fl := sIf (yOr (yNot (yTru (x1 (dIsi "tuple") (xV 2)))) (yOr (yBl (x2 dNe (xA dLen (aC (xV 2) aN)) (xC (.int 2)))) (yOr (yNot (yTru (xCall 1 m_is_chance (aC (x2 dIx (xV 2) (xC (.int 0))) aN)))) (yNot (yTru (xCall 1 m_is_fraction (aC (x2 dIx (xV 2) (xC (.int 1))) aN))))))) (sRaise "InvalidPoints") sNil
def bodyCZ : Es → Fl := sIf (yBl (x2 dGe (x2 dMul (x2 dIx (x2 dIx (xV 3) (xC (.int 0))) (xC (.int 0))) (x2 dIx (x2 dIx (xV 4) (xC (.int 0))) (xC (.int 1)))) (x2 dMul (x2 dIx (x2 dIx (xV 4) (xC (.int 0))) (xC (.int 0))) (x2 dIx (x2 dIx (xV 3) (xC (.int 0))) (xC (.int 1)))))) (sRaise "InvalidPoints") sNil
theorem g_cp_eq : g_check_points = sSeq (sExp (xCall 1 m_check_trials (aC (xV 0) aN))) (sSeq (sIf (yOr (yNot (yTru (x1 (dIsi "tuple") (xV 1)))) (yBl (x2 dNe (xA dLen (aC (xV 1) aN)) (x2 dAddA (xV 0) (xC (.int 1)))))) (sRaise "InvalidPoints") sNil)
  (sSeq (sFor (iSeq (xV 1)) (hN 2) bodyCE) (sFor (iA dZip (aC (xV 1) (aC (xSl (xV 1) (oS (xC (.int 1))) oN) aN))) (h2 3 4) bodyCZ))) := (rfl)
/-- told points -/
structure Pt (y : Rat × Rat) : Prop where
  c : Chc y.1
  m : FrOk y.2
theorem bodyCE_ok {n : Nat} {y : Rat × Rat} (h : Pt y) {v : D} {o3 o4 : Option Sl} : bodyCE [some (.im (.int n)), some (.im (v)), some (.im (pq y)), o3, o4] = .nx [some (.im (.int n)), some (.im (v)), some (.im (pq y)), o3, o4] := by
  have e1 : dIsi "tuple" (pq y) = .ok (.bool true) := isi_tt _
  have e2 : dLen [pq y] = .ok (.int 2) := (rfl)
  have e3 : dIx (pq y) (.int 0) = .ok (fr y.1) := dIx_t0 _ _
  have e4 : dIx (pq y) (.int 1) = .ok (fr y.2) := dIx_t1 _ _ _
  unfold bodyCE
  rw [sIf_ap]
  simp only [yOr_ap, yNot_ap, yTru_ap, yBl_ap, x2_ap, x1_ap, xA_ap, xC_ap, xCall_ap, aC_ap, aN_ap, vw, List.map_cons, List.map_nil, sw, xV_s, xV_z, R.bind_ok, List.length_cons, List.length_nil, if_pos, e1, e2, e3, e4, dTru_bool, dNe_int, dBl_bool, is_chance_ok h.c, is_fraction_ok h.m, fR_ok]
  simp
def zz (P : List (Rat × Rat)) : List ((Rat × Rat) × (Rat × Rat)) := P.zip (P.drop 1)
def pz (z : (Rat × Rat) × (Rat × Rat)) : D := .tuple [pq z.1, pq z.2]
theorem zip_map : ∀ (P Q : List (Rat × Rat)), zipP (P.map pq) (Q.map pq) = (P.zip Q).map pz
  | [], _ => rfl
  | _ :: _, [] => rfl
  | a :: P, b :: Q => by
    have := zip_map P Q
    unfold zipP at this ⊢
    rw [List.map_cons, List.map_cons, List.zipWith_cons_cons, this]
    rfl
theorem bodyCZ_ok {n : Nat} {z : (Rat × Rat) × (Rat × Rat)} (h1 : Pt z.1) (h2 : Pt z.2) {v : D} {o2 : Option Sl} : bodyCZ [some (.im (.int n)), some (.im (v)), o2, some (.im (pq z.1)), some (.im (pq z.2))] = if (!decide (z.1.1 < z.2.1)) = true then .exc "InvalidPoints" else .nx [some (.im (.int n)), some (.im (v)), o2, some (.im (pq z.1)), some (.im (pq z.2))] := by
  have e1 : ∀ y : Rat × Rat, dIx (pq y) (.int 0) = .ok (fr y.1) := fun y => dIx_t0 _ _
  have a1 := h1.c; have a2 := h2.c
  have k1 : dMul (.int z.1.1.num) (.int (z.2.1.den : Nat)) = .ok (.int (z.1.1.num * (z.2.1.den : Int))) := dMul_r (by rw [Int.natAbs_natCast]; exact Nat.lt_of_le_of_lt a2.d (by decide))
  have k2 : dMul (.int z.2.1.num) (.int (z.1.1.den : Nat)) = .ok (.int (z.2.1.num * (z.1.1.den : Int))) := dMul_r (by rw [Int.natAbs_natCast]; exact Nat.lt_of_le_of_lt a1.d (by decide))
  have e : decide (z.2.1.num * (z.1.1.den : Int) ≤ z.1.1.num * (z.2.1.den : Int)) = !decide (z.1.1 < z.2.1) := by
    rw [Bool.eq_iff_iff]
    simp [Rat.lt_iff]
  unfold bodyCZ
  rw [sIf_ap]
  simp only [yBl_ap, x2_ap, x1_ap, xA_ap, xC_ap, xCall_ap, aC_ap, aN_ap, vw, List.map_cons, List.map_nil, sw, xV_s, xV_z, R.bind_ok, List.length_cons, List.length_nil, if_pos, e1, fr_0, fr_1, k1, k2, dGe_int, dBl_bool, e, fR_ok]
  rfl
/-- what check_points does with points whose entries are right -/
theorem cpoints_ok {n : Nat} {P : List (Rat × Rat)} (h1 : 1 ≤ n) (h6 : n ≤ 6) (hl : P.length = n + 1) (hp : ∀ y ∈ P, Pt y) : m_check_points [.int n, .tuple (P.map pq)] = if (zz P).any (fun z => !decide (z.1.1 < z.2.1)) = true then .exc "InvalidPoints" else .ok .none := by
  have ct := check_trials_ok (n := (n : Int)) (by omega) (by omega)
  have hlI : ((P.length : Nat) : Int) = (n : Int) + 1 := by omega
  obtain ⟨δ2, e2, o2, rfl⟩ := forD_all (γ := hN 2) (body := bodyCE) (fun δ => ∃ o2, δ = [some (.im (.int n)), some (.im (.tuple (P.map pq))), o2, none, none]) (xs := P.map pq) (fun x hx δ hδ => by
    obtain ⟨y, hy, rfl⟩ := List.mem_map.mp hx
    obtain ⟨o, rfl⟩ := hδ
    exact ⟨_, _, by simp [hN], bodyCE_ok (hp y hy), ⟨_, rfl⟩⟩) [some (.im (.int n)), some (.im (.tuple (P.map pq))), none, none, none] ⟨none, rfl⟩
  have sl1 : dSl (.tuple (P.map pq)) (some 1) none = .ok (.tuple ((P.drop 1).map pq)) := by
    simp only [dSl]
    rw [show (1 : Int) = ((1 : Nat) : Int) from rfl, cut_drop _ (by simp; omega), List.map_drop]
  have lp := forD_exc (γ := h2 3 4) (body := bodyCZ) (f := pz) (p := fun z => !decide (z.1.1 < z.2.1)) "InvalidPoints" (fun δ => ∃ o3 o4, δ = [some (.im (.int n)), some (.im (.tuple (P.map pq))), o2, o3, o4]) (xs := zz P) (fun z hz δ hδ => by
    obtain ⟨o3, o4, rfl⟩ := hδ
    obtain ⟨za, zb⟩ := List.of_mem_zip hz
    have b := bodyCZ_ok (n := n) (z := z) (hp _ za) (hp _ (List.mem_of_mem_drop zb)) (v := .tuple (P.map pq)) (o2 := o2)
    refine ⟨[some (.im (.int n)), some (.im (.tuple (P.map pq))), o2, some (.im (pq z.1)), some (.im (pq z.2))], by simp [h2, pz], fun ht => by rw [b, if_pos ht], fun hf => ⟨_, by rw [b, if_neg (by rw [hf]; exact Bool.false_ne_true)], ⟨_, _, rfl⟩⟩⟩) [some (.im (.int n)), some (.im (.tuple (P.map pq))), o2, none, none] ⟨_, _, rfl⟩
  have go : ∀ r, forD (h2 3 4) bodyCZ ((zz P).map pz) [some (.im (.int n)), some (.im (.tuple (P.map pq))), o2, none, none] = r → g_check_points [some (.im (.int n)), some (.im (.tuple (P.map pq))), none, none, none] = r := fun r hr => by
    rw [g_cp_eq]
    refine seqN (δ' := [some (.im (.int n)), some (.im (.tuple (P.map pq))), none, none, none]) (by simp [ct]) ?_
    refine seqN (δ' := [some (.im (.int n)), some (.im (.tuple (P.map pq))), none, none, none]) ?_ ?_
    · rw [sIf_ap]
      simp only [yOr_ap, yNot_ap, yTru_ap, yBl_ap, x2_ap, x1_ap, xA_ap, xC_ap, xCall_ap, aC_ap, aN_ap, vw, List.map_cons, List.map_nil, sw, xV_s, xV_z, R.bind_ok, List.length_cons, List.length_nil, if_pos, isi_tt, dTru_bool, dLen_tuple, List.length_map, dAddA_int, dNe_int, dBl_bool, hlI, fR_ok]
      simp
    refine seqN (δ' := [some (.im (.int n)), some (.im (.tuple (P.map pq))), o2, none, none]) ?_ ?_
    · rw [sFor_ap]
      simp only [iSeq_ap, v0_im, xV_s, xV_z, R.bind_ok, dItems_tuple, fR_ok]
      exact e2
    · rw [sFor_ap]
      simp only [iA_ap, aC_ap, aN_ap, xSl_ap, oN_ap, oS_ap, xC_ap, v0, List.map_cons, s0, xV_s, xV_z, R.bind_ok, dOI_int, sl1, dZip, zip_map, fR_ok]
      exact hr
  rcases lp with ⟨a1, a2⟩ | ⟨a1, δ3, a2, o3, o4, rfl⟩
  · rw [a1, if_pos rfl]
    exact runF_exc (go _ a2)
  · rw [a1, if_neg Bool.false_ne_true]
    exact runF_nx (go _ a2)
theorem cpoints_no {n : Nat} {v : D} (h1 : 1 ≤ n) (h6 : n ≤ 6) (h : isT v = false ∨ ∃ l, v = .tuple l ∧ l.length ≠ n + 1) : m_check_points [.int n, v] = .exc "InvalidPoints" := by
  have ct := check_trials_ok (n := (n : Int)) (by omega) (by omega)
  refine runF_exc ?_
  rw [g_cp_eq]
  show sSeq _ _ [some (.im (.int n)), some (.im (v)), none, none, none] = _
  refine seqN (δ' := [some (.im (.int n)), some (.im (v)), none, none, none]) (by simp [ct]) ?_
  refine seqE ?_
  rcases h with h | ⟨l, rfl, h⟩
  · rw [sIf_ap]
    simp only [yOr_ap, yNot_ap, yTru_ap, yBl_ap, x2_ap, x1_ap, xA_ap, xC_ap, xCall_ap, aC_ap, aN_ap, vw, List.map_cons, List.map_nil, sw, xV_s, xV_z, R.bind_ok, List.length_cons, List.length_nil, if_pos, isi_tuple, h, dTru_bool, fR_ok]
    rfl
  · have hn : ¬ ((l.length : Int) = (n : Int) + 1) := by omega
    rw [sIf_ap]
    simp only [yOr_ap, yNot_ap, yTru_ap, yBl_ap, x2_ap, x1_ap, xA_ap, xC_ap, xCall_ap, aC_ap, aN_ap, vw, List.map_cons, List.map_nil, sw, xV_s, xV_z, R.bind_ok, List.length_cons, List.length_nil, if_pos, isi_tt, dTru_bool, dLen_tuple, dAddA_int, dNe_int, dBl_bool, decide_eq_false hn, fR_ok]
    simp
inductive BadP : D → Prop
  | a : BadP (.tuple [.tuple [.int 3, .int 2], .tuple [.int 1, .int 1]])
  | b : BadP (.tuple [.tuple [.int 1, .int 1], .int 1])
  | c : BadP .none
theorem bad_CE {n : Nat} {d v : D} (h : BadP d) {o3 o4 : Option Sl} : bodyCE [some (.im (.int n)), some (.im (v)), some (.im d), o3, o4] = .exc "InvalidPoints" := by
  unfold bodyCE
  rw [sIf_ap]
  cases h with
  | a =>
    have hc : m_is_chance [.tuple [.int 3, .int 2]] = .ok (.bool false) := by
      refine runF_rt ?_
      unfold g_is_chance
      simp [is_frac_any, show isF (.tuple [.int 3, .int 2]) = true from rfl, xCh]
    simp [hc, vw]
  | b =>
    have hc : m_is_chance [.tuple [.int 1, .int 1]] = .ok (.bool true) := is_chance_ok chc_1
    simp [hc, vw, is_frac_any, show isF (.int 1) = false from rfl]
  | c => simp [vw, isi_tuple, isT]
theorem cpoints_bad {n : Nat} {P : List (Rat × Rat)} {d : D} (h1 : 1 ≤ n) (h6 : n ≤ 6) (hl : P.length = n) (hp : ∀ y ∈ P, Pt y) (hd : BadP d) : m_check_points [.int n, .tuple (P.map pq ++ [d])] = .exc "InvalidPoints" := by
  have ct := check_trials_ok (n := (n : Int)) (by omega) (by omega)
  have hlI : (((P.map pq ++ [d]).length : Nat) : Int) = (n : Int) + 1 := by simp; omega
  obtain ⟨δ2, ⟨o2, rfl⟩, e2⟩ := forD_pre (γ := hN 2) (body := bodyCE) (f := pq) (fun δ => ∃ o2, δ = [some (.im (.int n)), some (.im (.tuple (P.map pq ++ [d]))), o2, none, none]) (xs := P) (fun y hy δ hδ => by
    obtain ⟨o, rfl⟩ := hδ
    exact ⟨_, _, by simp [hN], bodyCE_ok (hp y hy), ⟨_, rfl⟩⟩) [some (.im (.int n)), some (.im (.tuple (P.map pq ++ [d]))), none, none, none] ⟨none, rfl⟩
  refine runF_exc ?_
  rw [g_cp_eq]
  show sSeq _ _ [some (.im (.int n)), some (.im (.tuple (P.map pq ++ [d]))), none, none, none] = _
  refine seqN (δ' := [some (.im (.int n)), some (.im (.tuple (P.map pq ++ [d]))), none, none, none]) (by simp [ct]) ?_
  refine seqN (δ' := [some (.im (.int n)), some (.im (.tuple (P.map pq ++ [d]))), none, none, none]) ?_ ?_
  · rw [sIf_ap]
    simp only [yOr_ap, yNot_ap, yTru_ap, yBl_ap, x2_ap, x1_ap, xA_ap, xC_ap, xCall_ap, aC_ap, aN_ap, vw, List.map_cons, List.map_nil, sw, xV_s, xV_z, R.bind_ok, List.length_cons, List.length_nil, if_pos, isi_tt, dTru_bool, dLen_tuple, dAddA_int, dNe_int, dBl_bool, hlI, fR_ok]
    simp
  refine seqE ?_
  rw [sFor_ap]
  simp only [iSeq_ap, v0_im, xV_s, xV_z, R.bind_ok, dItems_tuple, fR_ok]
  rw [e2 [d], forD, show hN 2 d [some (.im (.int n)), some (.im (.tuple (P.map pq ++ [d]))), o2, none, none] = .ok [some (.im (.int n)), some (.im (.tuple (P.map pq ++ [d]))), some (.im d), none, none] by simp [hN]]
  show fR (R.ok _).nx _ = _
  rw [R.nx_ok', fR_ok, bad_CE hd]
theorem pointed_exc {n : Nat} {v : D} (h : m_check_points [.int n, v] = .exc "InvalidPoints") : m_law_pointed [.int n, v] = .ok (.str (Str.ofString "points")) := by
  have e : m_from_averages [.int n, v] = .exc "InvalidPoints" := by
    refine runF_exc ?_
    rw [g_fa_eq]
    exact seqE (by simp [h])
  refine runF_rt ?_
  unfold g_law_pointed sTry
  simp [e, hdl, subX]
/-! ### from_averages -/
theorem asc_any {P : List (Rat × Rat)} (h : P.Pairwise fun a b => a.1 < b.1) : (zz P).any (fun z => !decide (z.1.1 < z.2.1)) = false := by
  rw [List.any_eq_false]
  induction P with
  | nil => intro z hz; cases hz
  | cons a P ih =>
    obtain ⟨p1, p2⟩ := List.pairwise_cons.mp h
    intro z hz
    unfold zz at hz
    cases P with
    | nil => cases hz
    | cons b P =>
      rcases List.mem_cons.mp hz with e | e
      · subst e
        have := p1 b List.mem_cons_self
        simp [this]
      · exact ih p2 z e
theorem asc_dif {P : List (Rat × Rat)} (h : P.Pairwise fun a b => a.1 < b.1) : Dif P := h.imp fun hab e => by rw [e] at hab; grind
theorem from_ok {n M V : Nat} {P : List (Rat × Rat)} (h1 : 1 ≤ n) (h5 : n ≤ 5) (hl : P.length = n + 1) (hz : M ≠ 0) (hm : M ≤ 99999 ^ 6) (h1V : 1 ≤ V) (hV : V ≤ 99999) (hp : ∀ y ∈ P, Tw y.1 ∧ FrOk y.2 ∧ Bd M V y.2) (ha : P.Pairwise fun a b => a.1 < b.1) :
    ∃ (W : Nat) (row : List Rat), m_from_averages [.int n, .tuple (P.map pq)] = .ok (.tuple ((hon n row).map fr)) ∧ row.length ≤ n + 1 ∧ (∀ y ∈ P, mean n (hon n row) y.1 = y.2) ∧ W ≤ 10 ^ 30 ∧ PB (M * 27720 ^ n * 720) W (hon n row) := by
  have cp := cpoints_ok h1 (by omega) hl (fun y hy => ⟨(hp y hy).1.chc.1, (hp y hy).2.1⟩)
  rw [asc_any ha, if_neg Bool.false_ne_true] at cp
  have hD := asc_dif ha
  obtain ⟨p3, p4, p5, p6, p7, p8, e, pb⟩ := lagO_loop (n := n) hz hm h1V hV (fun y hy => (hp y hy).1) (by omega) hD P [] 0 none none none none none none (fun y hy => ⟨hy, (hp y hy).2.2⟩) (fun x hx => by cases hx) (by simp) (by omega)
  have ln := lagR_len P (n + 1) hl P [] (fun y hy => hy) (by simp)
  have hl1 : P.length - 1 = n := by omega
  rw [hl1] at pb
  have v1 : V * 144 ^ 5 ≤ 99999 * 144 ^ 5 := Nat.mul_le_mul_right _ hV
  have W1 : 6 * (V * 144 ^ 5) ≤ 6 * (99999 * 144 ^ 5) := Nat.mul_le_mul_left _ v1
  have rb : RowB (M * 27720 ^ n) (6 * (V * 144 ^ 5)) (lagR [] P P) := by
    have mz : M * 27720 ^ n ≠ 0 := Nat.mul_ne_zero hz (fun z => by have := (Nat.pow_eq_zero.mp z).1; omega)
    have mm : M * 27720 ^ n ≤ 99999 ^ 6 * 27720 ^ 6 := Nat.mul_le_mul hm (Nat.pow_le_pow_right (by decide) (by omega))
    refine ⟨pb, mz, ?_, ?_⟩
    · refine Nat.lt_of_le_of_lt (Nat.mul_le_mul (Nat.mul_le_mul_left 10 (Nat.mul_le_mul_right 720 W1)) (Nat.mul_le_mul_right 720 mm)) (by decide +kernel)
    · exact Nat.lt_of_le_of_lt (Nat.mul_le_mul_right 720 mm) (by decide +kernel)
  have ho := honest_of_ok (n := n) rb (by omega) ln
  refine ⟨7 * (6 * (V * 144 ^ 5)), lagR [] P P, runF_rt ?_, ln, fun y hy => ?_, ?_, hon_pb pb (by omega) ln⟩
  · rw [g_fa_eq]
    show sSeq _ _ [some (.im (.int n)), some (.im (.tuple (P.map pq))), none, none, none, none, none, none, none] = _
    refine seqN (δ' := [some (.im (.int n)), some (.im (.tuple (P.map pq))), none, none, none, none, none, none, none]) (by simp [cp]) ?_
    refine seqN (δ' := [some (.im (.int n)), some (.im (.tuple (P.map pq))), some (.im (.tuple [])), none, none, none, none, none, none]) (by simp) ?_
    refine seqN (δ' := [some (.im (.int n)), some (.im (.tuple (P.map pq))), some (.im (.tuple ((lagR [] P P).map fr))), p3, p4, p5, p6, p7, p8]) ?_ ?_
    · rw [sFor_ap]
      simp only [iSeq_ap, v0_im, xV_s, xV_z, R.bind_ok, dItems_tuple, fR_ok]
      exact e
    · simp only [sRet_ap, x2_ap, x1_ap, xA_ap, xC_ap, xCall_ap, aC_ap, aN_ap, vw, List.map_cons, List.map_nil, sw, xV_s, xV_z, R.bind_ok, List.length_cons, List.length_nil, if_pos, ho, fR_ok]
  · rw [hon_mean (by omega) ln, lag_at hD hy]
  · exact Nat.le_trans (Nat.mul_le_mul_left 7 W1) (by decide)
end HN
end
section
set_option Elab.async false
set_option linter.all false
set_option maxRecDepth 100000
set_option maxHeartbeats 4000000
namespace HM
open PySem L2 HL
def g_law : Es → Fl :=
  (sSeq (sAsg 1 (xCall 2 m_law_row (aC (xV 0) (aC (xC (.int 4)) aN))))
  (sSeq (sAsg 2 (x2 dAddA (xC (.int 1)) (x2 dMod (x2 dIx (xV 1) (xC (.int 0))) (xC (.int 5)))))
  (sSeq (sAsg 3 (x1 dSortSet (xLc (iA dR1 (aC (xC (.int 20)) aN)) (gN 13) (fun _ => .ok true) (x2 dMod (x2 dIx (xV 1) (x2 dAddA (xC (.int 1)) (xV 13))) (xC (.int 13))) [13])))
  (sSeq (sIf (yBl (x2 dLt (xA dLen (aC (xV 3) aN)) (x2 dAddA (xV 2) (xC (.int 1))))) (sAsg 3 (x1 dLstRg (x2 dAddA (xV 2) (xC (.int 1))))) sNil)
  (sSeq (sAsg 4 (xLc (iSeq (xSl (xV 3) oN (oS (x2 dAddA (xV 2) (xC (.int 1)))))) (gN 12) (fun _ => .ok true) (xCall 2 m_law_low (aC (xV 12) (aC (xC (.int 12)) aN))) [12]))
  (sSeq (sAsg 5 (xA dTupOf (aC (xLc (iA dR1 (aC (x2 dAddA (xV 2) (xC (.int 1))) aN)) (gN 13) (fun _ => .ok true) (xA dTup (aC (x2 dIx (xV 4) (xV 13)) (aC (xCall 2 m_law_fraction (aC (x2 dIx (xV 1) (x2 dAddA (xC (.int 30)) (xV 13))) (aC (x2 dIx (xV 1) (x2 dAddA (xC (.int 40)) (xV 13))) aN))) aN))) [13]) aN)))
  (sSeq (sAsg 6 (xCall 2 m_from_averages (aC (xV 2) (aC (xV 5) aN))))
  (sSeq (sFor (iSeq (xV 5)) (h2 7 8) (sIf (yBl (x2 dNe (xCall 3 m_law_mean (aC (xV 2) (aC (xV 6) (aC (xV 7) aN)))) (xV 8))) (sRet (xC (.bool false))) sNil))
  (sSeq (sAsg 9 (xCall 3 m_law_estimate (aC (xV 0) (aC (xC (.int 2)) (aC (xV 2) aN)))))
  (sSeq (sAsg 10 (xA dTupOf (aC (xLc (iSeq (xV 4)) (gN 7) (fun _ => .ok true) (xA dTup (aC (xV 7) (aC (xCall 3 m_average_at (aC (xV 2) (aC (xV 9) (aC (xV 7) aN)))) aN))) [7]) aN)))
  (sSeq (sIf (yAnd (yTru (xCall 1 m_law_plain (aC (xLc (iSeq (xV 10)) (g2 7 8) (fun _ => .ok true) (xV 8) [7, 8]) aN))) (yBl (x2 dNe (xCall 2 m_from_averages (aC (xV 2) (aC (xV 10) aN))) (xV 9)))) (sRet (xC (.bool false))) sNil)
  (sSeq (sAsg 11 (xA dLst (aC (xC .none) (aC (xA dLstOf (aC (xV 5) aN)) (aC (xSl (xV 5) (oS (xC (.int 1))) oN) (aC (x2 dAddA (xV 5) (xSl (xV 5) oN (oS (xC (.int 1))))) (aC (x1 dRev (xV 5)) (aC (x2 dAddA (xSl (xV 5) (oS (xC (.int 1))) oN) (xSl (xV 5) (oS (x1 dNeg (xC (.int 1)))) oN)) aN))))))))
  (sSeq (sAsg 11 (x2 dAddA (xV 11) (xA dLst (aC (x2 dAddA (xSl (xV 5) oN (oS (x1 dNeg (xC (.int 1))))) (xA dTup (aC (xA dTup (aC (xA dTup (aC (xC (.int 3)) (aC (xC (.int 2)) aN))) (aC (xA dTup (aC (xC (.int 1)) (aC (xC (.int 1)) aN))) aN))) aN))) (aC (x2 dAddA (xSl (xV 5) oN (oS (x1 dNeg (xC (.int 1))))) (xA dTup (aC (xA dTup (aC (xA dTup (aC (xC (.int 1)) (aC (xC (.int 1)) aN))) (aC (xC (.int 1)) aN))) aN))) (aC (x2 dAddA (xSl (xV 5) oN (oS (x1 dNeg (xC (.int 1))))) (xA dTup (aC (xC .none) aN))) aN))))))
  (sRet (x2 dEq (xCall 2 m_law_pointed (aC (xV 2) (aC (x2 dIx (xV 11) (x2 dMod (x2 dIx (xV 1) (xC (.int 50))) (xC (.int 9)))) aN))) (xC (.str (Str.ofString "points"))))))))))))))))))
def m_law : List D → R D := runF 13 g_law
end HM
end
section
set_option Elab.async false
set_option linter.all false
set_option maxRecDepth 100000
set_option maxHeartbeats 2000000
set_option exponentiation.threshold 20000
namespace HN
open PySem L2 HL HM
theorem ints_of (l : List Int) : intsOf (l.map .int) = some l := by
  induction l with
  | nil => rfl
  | cons a l ih => rw [List.map_cons, intsOf, ih]; rfl
theorem plain_any {l : List Rat} (hl : l.length ≤ 900) : m_law_plain [.list (l.map fr)] = .ok (.bool (badF (l.map fr)).isEmpty) := by
  refine runF_rt ?_
  have lc : xLc (iSeq (xV 0)) (gN 1) (yNot (yTru (xCall 1 m_law_is_fraction (aC (xV 1) aN)))) (xV 1) [1] [some (.list (l.map fr)), none] = .ok (.list (badF (l.map fr))) := by
    unfold xLc
    have := lc_badF (ρ := [some (.list (l.map fr)), none]) (i := 1) (ft := yNot (yTru (xCall 1 m_law_is_fraction (aC (xV 1) aN)))) (l.map fr) (by simp) fun d => by
      simp [lfrac_any]
    simp only [iSeq_ap, xV_z, R.bind_ok, dItems_list, wipeD, List.set_cons_zero, List.set_cons_succ, this, List.length_map]
    rw [if_pos (by omega)]
  have sb : Sh 2 (.list (badF (l.map fr))) := sh_list fun d hd => by
    obtain ⟨q, _, rfl⟩ := List.mem_map.mp (List.mem_filter.mp hd).1
    exact sh_fr q
  have s0' : Sh 1 (.list []) := sh_list (n := 0) fun d hd => by cases hd
  have de : dEq (.list (badF (l.map fr))) (.list []) = .ok (.bool (badF (l.map fr)).isEmpty) := by
    rw [dEq_sh sb s0' (by decide) (by decide), eqv_list]
    cases badF (l.map fr) <;> simp [PyData.eqvAll]
  unfold g_law_plain
  simp only [List.map_cons, List.map_nil, List.replicate, List.cons_append, List.nil_append, sRet_ap, x2_ap, xA_ap, aN_ap, vw_im, vw_none, vw_nil, R.bind_ok, lc, dLst_0, de, fR_ok]
theorem tw_of {k : Int} (h0 : 0 ≤ k) (h12 : k ≤ 12) : Tw (mkRat k 12) := ⟨⟨k.toNat, by omega, by congr 1; omega⟩⟩
theorem low12 {k : Int} (h0 : 0 ≤ k) (h12 : k ≤ 12) : m_law_low [.int k, .int 12] = .ok (fr (mkRat k 12)) := by
  have := low_mk (a := k.toNat) (m := 12) (by decide) (by omega) (by decide)
  have e : ((k.toNat : Nat) : Int) = k := by omega
  rw [e] at this
  exact this
theorem mk12_lt {a b : Int} (h : a < b) : mkRat a 12 < mkRat b 12 := by
  rw [Rat.mkRat_eq_div, Rat.mkRat_eq_div]
  have h' : (a : Rat) < (b : Rat) := by exact_mod_cast h
  have : (0 : Rat) < ((12 : Nat) : Rat) := by decide +kernel
  grind
theorem wrong11 (x : Int) {n : Nat} {P : List (Rat × Rat)} (h1 : 1 ≤ n) (h5 : n ≤ 5) (hl : P.length = n + 1) (hp : ∀ y ∈ P, Pt y) (ha : P.Pairwise fun a b => a.1 < b.1) : ∃ v, dIx (.list [.none, .list (P.map pq), .tuple ((P.drop 1).map pq), .tuple ((P ++ P.take 1).map pq), .tuple (P.reverse.map pq), .tuple ((P.drop 1 ++ P.drop n).map pq), .tuple ((P.take n).map pq ++ [.tuple [.tuple [.int 3, .int 2], .tuple [.int 1, .int 1]]]), .tuple ((P.take n).map pq ++ [.tuple [.tuple [.int 1, .int 1], .int 1]]), .tuple ((P.take n).map pq ++ [.none])]) (.int (x % 9)) = .ok v ∧ m_check_points [.int n, v] = .exc "InvalidPoints" := by
  have h0 := Int.emod_nonneg x (show (9 : Int) ≠ 0 by decide)
  have h9 := Int.emod_lt_of_pos x (show (0 : Int) < 9 by decide)
  have h6 : n ≤ 6 := by omega
  have fall : ∀ Q : List (Rat × Rat), Q.length = n + 1 → (∀ y ∈ Q, y ∈ P) → (∃ z ∈ zz Q, ¬ z.1.1 < z.2.1) → m_check_points [.int n, .tuple (Q.map pq)] = .exc "InvalidPoints" := fun Q hQ hs ⟨z, hz, hlt⟩ => by
    rw [cpoints_ok h1 h6 hQ (fun y hy => hp y (hs y hy)), if_pos]
    rw [List.any_eq_true]
    exact ⟨z, hz, by simp [hlt]⟩
  have : x % 9 = ((0 : Nat) : Int) ∨ x % 9 = ((1 : Nat) : Int) ∨ x % 9 = ((2 : Nat) : Int) ∨ x % 9 = ((3 : Nat) : Int) ∨ x % 9 = ((4 : Nat) : Int) ∨ x % 9 = ((5 : Nat) : Int) ∨ x % 9 = ((6 : Nat) : Int) ∨ x % 9 = ((7 : Nat) : Int) ∨ x % 9 = ((8 : Nat) : Int) := by omega
  rcases this with e | e | e | e | e | e | e | e | e
  · exact ⟨_, dIx_ln e rfl, cpoints_no h1 h6 (.inl rfl)⟩
  · exact ⟨_, dIx_ln e rfl, cpoints_no h1 h6 (.inl rfl)⟩
  · exact ⟨_, dIx_ln e rfl, cpoints_no h1 h6 (.inr ⟨_, rfl, by simp; omega⟩)⟩
  · exact ⟨_, dIx_ln e rfl, cpoints_no h1 h6 (.inr ⟨_, rfl, by simp; omega⟩)⟩
  · refine ⟨_, dIx_ln e rfl, fall P.reverse (by simp; omega) (fun y hy => List.mem_reverse.mp hy) ?_⟩
    have hr : P.reverse.Pairwise fun a b => b.1 < a.1 := List.pairwise_reverse.mpr ha
    have hlr : P.reverse.length = n + 1 := by simp; omega
    match hq : P.reverse, hr, hlr with
    | a :: b :: r, hr, _ =>
      refine ⟨(a, b), by unfold zz; simp, ?_⟩
      have := (List.pairwise_cons.mp hr).1 b List.mem_cons_self
      show ¬ a.1 < b.1
      grind
    | [a], _, hlr => simp at hlr; omega
    | [], _, hlr => simp at hlr
  · refine ⟨_, dIx_ln e rfl, fall (P.drop 1 ++ P.drop n) (by simp; omega) (fun y hy => (List.mem_append.mp hy).elim List.mem_of_mem_drop List.mem_of_mem_drop) ?_⟩
    have hn : n < P.length := by omega
    have e1 : P.drop n = [P[n]] := by
      rw [List.drop_eq_getElem_cons hn, List.drop_eq_nil_iff.mpr (by omega)]
    have hget : ∀ i, i = n - 1 → (P.drop 1 ++ P.drop n)[i]? = some P[n] := fun i hi => by
      rw [List.getElem?_append_left (by simp; omega), List.getElem?_drop, show 1 + i = n by omega, List.getElem?_eq_getElem hn]
    have hget2 : (P.drop 1 ++ P.drop n)[n]? = some P[n] := by
      rw [List.getElem?_append_right (by simp; omega), e1]
      have z : n - (P.drop 1).length = 0 := by rw [List.length_drop]; omega
      rw [z]
      rfl
    refine ⟨(P[n], P[n]), ?_, by grind⟩
    unfold zz
    refine List.mem_of_getElem? (i := n - 1) ?_
    rw [List.getElem?_zip_eq_some]
    refine ⟨hget _ rfl, ?_⟩
    rw [List.getElem?_drop, show 1 + (n - 1) = n by omega]
    exact hget2
  · exact ⟨_, dIx_ln e rfl, cpoints_bad h1 h6 (by simp; omega) (fun y hy => hp y (List.mem_of_mem_take hy)) .a⟩
  · exact ⟨_, dIx_ln e rfl, cpoints_bad h1 h6 (by simp; omega) (fun y hy => hp y (List.mem_of_mem_take hy)) .b⟩
  · exact ⟨_, dIx_ln e rfl, cpoints_bad h1 h6 (by simp; omega) (fun y hy => hp y (List.mem_of_mem_take hy)) .c⟩
end HN
end
section
set_option Elab.async false
set_option linter.all false
set_option maxRecDepth 100000
set_option maxHeartbeats 2000000
set_option exponentiation.threshold 20000
namespace HN
open PySem L2 HL HM
theorem law_true (ns : List Int) (h : ns.length ≤ 63) : m_law [.list (ns.map .int)] = .ok (.bool true) := by
  obtain ⟨ds, hds, erow⟩ := row_ok ns (at_ := 4) (by decide)
  obtain ⟨x0, _, _, ex0⟩ := hds.at_ (i := 0) (by decide) (by decide)
  obtain ⟨x50, _, _, ex50⟩ := hds.at_ (i := 50) (by decide) (by decide)
  obtain ⟨n, h1, h5, hn⟩ := one_ok (x := x0) (m := 5) (by decide) (by decide)
  have h1 : 1 ≤ n := by omega
  have h5 : n ≤ 5 := by omega
  obtain ⟨es, E, ees⟩ := drawn_est ns (n := n) (at_ := 2) (by decide) h1 (by omega)
  have m5 : dMod (.int x0) (.int 5) = .ok (.int (x0 % 5)) := dMod_ok (by decide)
  have m9 : dMod (.int x50) (.int 9) = .ok (.int (x50 % 9)) := dMod_ok (by decide)
  have er : m_law_row [.list (ns.map .int), .int 4] = .ok (.list (ds.map .int)) := erow
  have hdraw : ∀ i : Nat, ∃ x : Int, i < 60 → dIx (.list (ds.map .int)) (.int (i : Nat)) = .ok (.int x) := fun i => by
    by_cases hi : i < 60
    · obtain ⟨x, _, _, ex⟩ := hds.at_ (i := (i : Int)) (by omega) (by omega)
      exact ⟨x, fun _ => ex⟩
    · exact ⟨0, fun z => absurd z hi⟩
  let dr : Nat → Int := fun i => Classical.choose (hdraw i)
  have hdr : ∀ i : Nat, i < 60 → dIx (.list (ds.map .int)) (.int (i : Nat)) = .ok (.int (dr i)) := fun i => Classical.choose_spec (hdraw i)
  have hfr : ∀ i : Nat, ∃ q : Rat, drawn q ∧ m_law_fraction [.int (dr (30 + i)), .int (dr (40 + i))] = .ok (fr q) := fun i => fraction_ok
  let qf : Nat → Rat := fun i => Classical.choose (hfr i)
  have hqf : ∀ i : Nat, drawn (qf i) ∧ m_law_fraction [.int (dr (30 + i)), .int (dr (40 + i))] = .ok (fr (qf i)) := fun i => Classical.choose_spec (hfr i)
  refine runF_rt ?_
  unfold g_law
  refine seqN (δ' := [some (.im (.list (ns.map .int))), some (.im (.list (ds.map .int))), none, none, none, none, none, none, none, none, none, none, none, none]) (by simp [er]) ?_
  refine seqN (δ' := [some (.im (.list (ns.map .int))), some (.im (.list (ds.map .int))), some (.im (.int n)), none, none, none, none, none, none, none, none, none, none, none]) (by simp [ex0, m5, hn]) ?_
  -- the parts
  let ks : List Int := (List.range 20).map fun i => dr (1 + i) % 13
  have rg20 : dR1 [.int 20] = .ok ((List.range 20).map fun t : Nat => .int ((t : Nat) : Int)) := dr_Z (i := 20) (by rfl) (by decide)
  refine seqN (δ' := [some (.im (.list (ns.map .int))), some (.im (.list (ds.map .int))), some (.im (.int n)), some (.im (.list ((sortU ks).map .int))), none, none, none, none, none, none, none, none, none, none]) ?_ ?_
  · have lc : xLc (iA dR1 (aC (xC (.int 20)) aN)) (gN 13) (fun _ => .ok true) (x2 dMod (x2 dIx (xV 1) (x2 dAddA (xC (.int 1)) (xV 13))) (xC (.int 13))) [13] (v0 [some (.im (.list (ns.map .int))), some (.im (.list (ds.map .int))), some (.im (.int n)), none, none, none, none, none, none, none, none, none, none, none]) = .ok (.list (ks.map .int)) := by
      have e0 : ks.map PyData.int = (List.range 20).map fun i => (PyData.int (dr (1 + i) % 13) : D) := by
        show ((List.range 20).map fun i => dr (1 + i) % 13).map PyData.int = _
        rw [List.map_map]; rfl
      rw [e0]
      refine xLc_ok (f := fun t : Nat => .int ((t : Nat) : Int)) (by simp only [iA_ap, aC_ap, aN_ap, xC_ap, R.bind_ok, rg20]) (by simp) fun i hi => ?_
      have hi := List.mem_range.mp hi
      have d1 := hdr (1 + i) (by omega)
      have e1 : ((1 : Int) + ((i : Nat) : Int)) = ((1 + i : Nat) : Int) := by omega
      have md : dMod (.int (dr (1 + i))) (.int 13) = .ok (.int (dr (1 + i) % 13)) := dMod_ok (by decide)
      refine ⟨(v0 [some (.im (.list (ns.map .int))), some (.im (.list (ds.map .int))), some (.im (.int n)), none, none, none, none, none, none, none, none, none, none, none]).set 13 (some (.int (i : Nat))), by simp [gN, wipeD, v0], ?_⟩
      simp only [v0, List.map_cons, List.map_nil, s0, List.set_cons_zero, List.set_cons_succ, x2_ap, xC_ap, xV_s, xV_z, R.bind_ok, dAddA_int, e1, d1, md]
    have kl : ks.length ≤ 60 := by show ((List.range 20).map _).length ≤ 60; simp
    have ss : dSortSet (.list (ks.map .int)) = .ok (.list ((sortU ks).map .int)) := by
      simp only [dSortSet, ints_of]
      rw [if_pos kl]
    rw [sAsg_ap, x1_ap, lc, R.bind_ok, ss, fR_ok]
    rfl
  have kr : ∀ k ∈ sortU ks, 0 ≤ k ∧ k ≤ 12 := fun k hk => by
    obtain ⟨i, _, e⟩ := List.mem_map.mp (sortU_mem.mp hk)
    have e : dr (1 + i) % 13 = k := e
    have := Int.emod_nonneg (dr (1 + i)) (show (13 : Int) ≠ 0 by decide)
    have := Int.emod_lt_of_pos (dr (1 + i)) (show (0 : Int) < 13 by decide)
    omega
  obtain ⟨qs, hqr, hqp, hql, st⟩ : ∃ qs : List Int, (∀ k ∈ qs, 0 ≤ k ∧ k ≤ 12) ∧ qs.Pairwise (· < ·) ∧ n + 1 ≤ qs.length ∧ (sIf (yBl (x2 dLt (xA dLen (aC (xV 3) aN)) (x2 dAddA (xV 2) (xC (.int 1))))) (sAsg 3 (x1 dLstRg (x2 dAddA (xV 2) (xC (.int 1))))) sNil) [some (.im (.list (ns.map .int))), some (.im (.list (ds.map .int))), some (.im (.int n)), some (.im (.list ((sortU ks).map .int))), none, none, none, none, none, none, none, none, none, none] = .nx [some (.im (.list (ns.map .int))), some (.im (.list (ds.map .int))), some (.im (.int n)), some (.im (.list (qs.map .int))), none, none, none, none, none, none, none, none, none, none] := by
    by_cases hc : (sortU ks).length < n + 1
    · have hci : (((sortU ks).length : Nat) : Int) < (n : Int) + 1 := by omega
      refine ⟨(List.range (n + 1)).map fun i : Nat => ((i : Nat) : Int), fun k hk => ?_, ?_, by simp, ?_⟩
      · obtain ⟨i, hi, rfl⟩ := List.mem_map.mp hk
        have := List.mem_range.mp hi
        omega
      · rw [List.pairwise_map]
        refine List.Pairwise.imp ?_ (List.pairwise_lt_range (n := n + 1))
        intro a b hab
        omega
      · have lr : dLstRg (.int ((n : Int) + 1)) = .ok (.list (((List.range (n + 1)).map fun i : Nat => ((i : Nat) : Int)).map .int)) := by
          simp only [dLstRg]
          rw [if_pos (by omega), show ((n : Int) + 1).toNat = n + 1 by omega, List.map_map]
          unfold rngD
          congr 2
          exact List.map_congr_left fun i _ => by simp
        rw [sIf_ap]
        simp only [yBl_ap, x2_ap, x1_ap, xA_ap, xC_ap, xCall_ap, aC_ap, aN_ap, vw, List.map_cons, List.map_nil, sw, xV_s, xV_z, R.bind_ok, List.length_cons, List.length_nil, if_pos, dLen_list, List.length_map, dAddA_int, dLt_int, dBl_bool, fR_ok, decide_eq_true hci]
        simp only [sAsg_ap, x2_ap, x1_ap, xA_ap, xC_ap, xCall_ap, aC_ap, aN_ap, v0, List.map_cons, List.map_nil, s0, xV_s, xV_z, R.bind_ok, List.length_cons, List.length_nil, if_pos, dAddA_int, lr, fR_ok]
        rfl
    · have hci : ¬ (((sortU ks).length : Nat) : Int) < (n : Int) + 1 := by omega
      refine ⟨sortU ks, kr, sortU_pw ks, by omega, ?_⟩
      rw [sIf_ap]
      simp only [yBl_ap, x2_ap, x1_ap, xA_ap, xC_ap, xCall_ap, aC_ap, aN_ap, vw, List.map_cons, List.map_nil, sw, xV_s, xV_z, R.bind_ok, List.length_cons, List.length_nil, if_pos, dLen_list, List.length_map, dAddA_int, dLt_int, dBl_bool, fR_ok, decide_eq_false hci]
      rfl
  refine seqN st ?_
  -- the chances
  let C : List Rat := (qs.take (n + 1)).map fun k => mkRat k 12
  have Cl : C.length = n + 1 := by show ((qs.take (n + 1)).map _).length = _; simp; omega
  have Ct : ∀ c ∈ C, Tw c := fun c hc => by
    obtain ⟨k, hk, rfl⟩ := List.mem_map.mp hc
    have := hqr k (List.mem_of_mem_take hk)
    exact tw_of this.1 this.2
  have Cp : C.Pairwise (· < ·) := by
    show ((qs.take (n + 1)).map _).Pairwise _
    rw [List.pairwise_map]
    exact List.Pairwise.imp (fun hab => mk12_lt hab) (hqp.sublist (List.take_sublist _ _))
  have slq : dSl (.list (qs.map .int)) none (some ((n : Int) + 1)) = .ok (.list ((qs.take (n + 1)).map .int)) := by
    simp only [dSl]
    rw [show ((n : Int) + 1) = ((n + 1 : Nat) : Int) by omega, cut_take _ (by simp; omega), List.map_take]
  refine seqN (δ' := [some (.im (.list (ns.map .int))), some (.im (.list (ds.map .int))), some (.im (.int n)), some (.im (.list (qs.map .int))), some (.im (.list (C.map fr))), none, none, none, none, none, none, none, none, none]) ?_ ?_
  · have lc : xLc (iSeq (xSl (xV 3) oN (oS (x2 dAddA (xV 2) (xC (.int 1)))))) (gN 12) (fun _ => .ok true) (xCall 2 m_law_low (aC (xV 12) (aC (xC (.int 12)) aN))) [12] (v0 [some (.im (.list (ns.map .int))), some (.im (.list (ds.map .int))), some (.im (.int n)), some (.im (.list (qs.map .int))), none, none, none, none, none, none, none, none, none, none]) = .ok (.list (C.map fr)) := by
      have e0 : C.map fr = (qs.take (n + 1)).map fun k => fr (mkRat k 12) := by
        show ((qs.take (n + 1)).map fun k => mkRat k 12).map fr = _
        rw [List.map_map]; rfl
      rw [e0]
      refine xLc_ok (f := PyData.int) ?_ (by simp; omega) fun k hk => ?_
      · simp only [iSeq_ap, xSl_ap, oN_ap, oS_ap, x2_ap, xC_ap, v0, List.map_cons, List.map_nil, s0, xV_s, xV_z, R.bind_ok, dAddA_int, dOI_int, slq, dItems_list]
      · have hk2 := hqr k (List.mem_of_mem_take hk)
        refine ⟨(v0 [some (.im (.list (ns.map .int))), some (.im (.list (ds.map .int))), some (.im (.int n)), some (.im (.list (qs.map .int))), none, none, none, none, none, none, none, none, none, none]).set 12 (some (.int k)), by simp [gN, wipeD, v0], ?_⟩
        simp only [v0, List.map_cons, List.map_nil, s0, List.set_cons_zero, List.set_cons_succ, xCall_ap, aC_ap, aN_ap, xC_ap, xV_s, xV_z, R.bind_ok, List.length_cons, List.length_nil, if_pos, low12 hk2.1 hk2.2]
    rw [sAsg_ap, lc, fR_ok]
    rfl
  -- the points
  let P : List (Rat × Rat) := (List.range (n + 1)).map fun i => (C.getD i 0, qf i)
  have Pl : P.length = n + 1 := by show ((List.range (n + 1)).map _).length = _; simp
  have Pm : ∀ y ∈ P, Tw y.1 ∧ drawn y.2 := fun y hy => by
    obtain ⟨i, hi, rfl⟩ := List.mem_map.mp hy
    have hi := List.mem_range.mp hi
    refine ⟨?_, (hqf i).1⟩
    show Tw (C.getD i 0)
    rw [List.getD_eq_getElem?_getD, List.getElem?_eq_getElem (by omega)]
    exact Ct _ (List.getElem_mem _)
  have Pa : P.Pairwise fun a b => a.1 < b.1 := by
    show ((List.range (n + 1)).map _).Pairwise _
    rw [List.pairwise_map]
    refine List.Pairwise.imp_of_mem ?_ (List.pairwise_lt_range (n := n + 1))
    intro i j hi hj hij
    have hi := List.mem_range.mp hi
    have hj := List.mem_range.mp hj
    show C.getD i 0 < C.getD j 0
    rw [List.getD_eq_getElem?_getD, List.getD_eq_getElem?_getD, List.getElem?_eq_getElem (by omega), List.getElem?_eq_getElem (by omega)]
    exact List.pairwise_iff_getElem.mp Cp i j (by omega) (by omega) hij
  have rgn : dR1 [.int ((n : Int) + 1)] = .ok ((List.range (n + 1)).map fun t : Nat => .int ((t : Nat) : Int)) := dr_Z (by omega) (by omega)
  refine seqN (δ' := [some (.im (.list (ns.map .int))), some (.im (.list (ds.map .int))), some (.im (.int n)), some (.im (.list (qs.map .int))), some (.im (.list (C.map fr))), some (.im (.tuple (P.map pq))), none, none, none, none, none, none, none, none]) ?_ ?_
  · have lc : xLc (iA dR1 (aC (x2 dAddA (xV 2) (xC (.int 1))) aN)) (gN 13) (fun _ => .ok true) (xA dTup (aC (x2 dIx (xV 4) (xV 13)) (aC (xCall 2 m_law_fraction (aC (x2 dIx (xV 1) (x2 dAddA (xC (.int 30)) (xV 13))) (aC (x2 dIx (xV 1) (x2 dAddA (xC (.int 40)) (xV 13))) aN))) aN))) [13] (v0 [some (.im (.list (ns.map .int))), some (.im (.list (ds.map .int))), some (.im (.int n)), some (.im (.list (qs.map .int))), some (.im (.list (C.map fr))), none, none, none, none, none, none, none, none, none]) = .ok (.list (P.map pq)) := by
      have e0 : P.map pq = (List.range (n + 1)).map fun i => pq (C.getD i 0, qf i) := by
        show ((List.range (n + 1)).map fun i => (C.getD i 0, qf i)).map pq = _
        rw [List.map_map]; rfl
      rw [e0]
      refine xLc_ok (f := fun t : Nat => .int ((t : Nat) : Int)) (by simp only [iA_ap, aC_ap, aN_ap, x2_ap, xC_ap, v0, List.map_cons, List.map_nil, s0, xV_s, xV_z, R.bind_ok, dAddA_int, rgn]) (by simp; omega) fun i hi => ?_
      have hi := List.mem_range.mp hi
      have d3 := hdr (30 + i) (by omega)
      have d4 := hdr (40 + i) (by omega)
      have e3 : ((30 : Int) + ((i : Nat) : Int)) = ((30 + i : Nat) : Int) := by omega
      have e4 : ((40 : Int) + ((i : Nat) : Int)) = ((40 + i : Nat) : Int) := by omega
      have ci := hd_list (es := C) (m := n + 1) (by omega) i hi
      refine ⟨(v0 [some (.im (.list (ns.map .int))), some (.im (.list (ds.map .int))), some (.im (.int n)), some (.im (.list (qs.map .int))), some (.im (.list (C.map fr))), none, none, none, none, none, none, none, none, none]).set 13 (some (.int (i : Nat))), by simp [gN, wipeD, v0], ?_⟩
      simp only [v0, List.map_cons, List.map_nil, s0, List.set_cons_zero, List.set_cons_succ, x2_ap, xA_ap, xC_ap, xCall_ap, aC_ap, aN_ap, xV_s, xV_z, R.bind_ok, List.length_cons, List.length_nil, if_pos, ci, dAddA_int, e3, e4, d3, d4, (hqf i).2, dTup_2]
      rfl
    rw [sAsg_ap, xA_ap, aC_ap, lc, R.bind_ok, aN_ap, R.bind_ok, R.bind_ok, dTupOf_list, fR_ok]
    rfl
  obtain ⟨W, row, ef, rl, rm, rw', rb⟩ := from_ok (n := n) (M := 60) (V := 9) (P := P) h1 h5 Pl (by decide) (by decide) (by decide) (by decide) (fun y hy => ⟨(Pm y hy).1, FrOk.of (Pm y hy).2.bd (by decide) (by decide) (by decide), (Pm y hy).2.bd⟩) Pa
  have fl := hon_len n row
  generalize hfs : hon n row = fs at ef rm rb fl
  refine seqN (δ' := [some (.im (.list (ns.map .int))), some (.im (.list (ds.map .int))), some (.im (.int n)), some (.im (.list (qs.map .int))), some (.im (.list (C.map fr))), some (.im (.tuple (P.map pq))), some (.im (.tuple (fs.map fr))), none, none, none, none, none, none, none]) ?_ ?_
  · simp only [sAsg_ap, x2_ap, x1_ap, xA_ap, xC_ap, xCall_ap, aC_ap, aN_ap, v0, List.map_cons, List.map_nil, s0, xV_s, xV_z, R.bind_ok, List.length_cons, List.length_nil, if_pos, ef, fR_ok]
    rfl
  have szf : Sz (60 ^ 20 * (60 * 27720 ^ n * 720)) (8 * (20 * W)) := by
    refine (Sz.low (N := 60 ^ 20 * (60 * 27720 ^ 6 * 720)) (V := 8 * (20 * 10 ^ 30)) ⟨by decide, by decide +kernel⟩ ?_ ?_).mono (Nat.mul_le_mul_left _ (Nat.mul_le_mul_left _ rw'))
    · exact Nat.mul_ne_zero (by decide) (Nat.mul_ne_zero (Nat.mul_ne_zero (by decide) (fun z => by have := (Nat.pow_eq_zero.mp z).1; omega)) (by decide))
    · exact Nat.mul_le_mul_left _ (Nat.mul_le_mul_right _ (Nat.mul_le_mul_left _ (Nat.pow_le_pow_right (by decide) (by omega))))
  obtain ⟨δ2, e2, o7, o8, rfl⟩ := forD_all (γ := h2 7 8) (body := sIf (yBl (x2 dNe (xCall 3 m_law_mean (aC (xV 2) (aC (xV 6) (aC (xV 7) aN)))) (xV 8))) (sRet (xC (.bool false))) sNil) (fun δ => ∃ o7 o8, δ = [some (.im (.list (ns.map .int))), some (.im (.list (ds.map .int))), some (.im (.int n)), some (.im (.list (qs.map .int))), some (.im (.list (C.map fr))), some (.im (.tuple (P.map pq))), some (.im (.tuple (fs.map fr))), o7, o8, none, none, none, none, none]) (xs := P.map pq) (fun x hx δ hδ => by
    obtain ⟨y, hy, rfl⟩ := List.mem_map.mp hx
    obtain ⟨o7, o8, rfl⟩ := hδ
    refine ⟨[some (.im (.list (ns.map .int))), some (.im (.list (ds.map .int))), some (.im (.int n)), some (.im (.list (qs.map .int))), some (.im (.list (C.map fr))), some (.im (.tuple (P.map pq))), some (.im (.tuple (fs.map fr))), some (.im (fr y.1)), some (.im (fr y.2)), none, none, none, none, none], [some (.im (.list (ns.map .int))), some (.im (.list (ds.map .int))), some (.im (.int n)), some (.im (.list (qs.map .int))), some (.im (.list (C.map fr))), some (.im (.tuple (P.map pq))), some (.im (.tuple (fs.map fr))), some (.im (fr y.1)), some (.im (fr y.2)), none, none, none, none, none], by simp [h2, pq], ?_, ⟨_, _, rfl⟩⟩
    have me := lmean_ok (Pm y hy).1.chc.1 (n := n) (by omega) fl rb szf (d := .tuple (fs.map fr)) (fun i hi => hd_tuple (m := n + 1) (by omega) i (by omega))
    rw [rm y hy] at me
    rw [sIf_ap]
    simp only [yBl_ap, x2_ap, x1_ap, xA_ap, xC_ap, xCall_ap, aC_ap, aN_ap, vw, List.map_cons, List.map_nil, sw, xV_s, xV_z, R.bind_ok, List.length_cons, List.length_nil, if_pos, me, dNe_fr, dBl_bool, fR_ok]
    simp) [some (.im (.list (ns.map .int))), some (.im (.list (ds.map .int))), some (.im (.int n)), some (.im (.list (qs.map .int))), some (.im (.list (C.map fr))), some (.im (.tuple (P.map pq))), some (.im (.tuple (fs.map fr))), none, none, none, none, none, none, none] ⟨_, _, rfl⟩
  refine seqN (δ' := [some (.im (.list (ns.map .int))), some (.im (.list (ds.map .int))), some (.im (.int n)), some (.im (.list (qs.map .int))), some (.im (.list (C.map fr))), some (.im (.tuple (P.map pq))), some (.im (.tuple (fs.map fr))), o7, o8, none, none, none, none, none]) ?_ ?_
  · rw [sFor_ap]
    simp only [iSeq_ap, v0, List.map_cons, s0, xV_s, xV_z, R.bind_ok, dItems_tuple, fR_ok]
    exact e2
  refine seqN (δ' := [some (.im (.list (ns.map .int))), some (.im (.list (ds.map .int))), some (.im (.int n)), some (.im (.list (qs.map .int))), some (.im (.list (C.map fr))), some (.im (.tuple (P.map pq))), some (.im (.tuple (fs.map fr))), o7, o8, some (.im (.tuple (es.map fr))), none, none, none, none]) ?_ ?_
  · simp only [sAsg_ap, x2_ap, x1_ap, xA_ap, xC_ap, xCall_ap, aC_ap, aN_ap, v0, List.map_cons, List.map_nil, s0, xV_s, xV_z, R.bind_ok, List.length_cons, List.length_nil, if_pos, ees, fR_ok]
    rfl
  refine seqN (δ' := [some (.im (.list (ns.map .int))), some (.im (.list (ds.map .int))), some (.im (.int n)), some (.im (.list (qs.map .int))), some (.im (.list (C.map fr))), some (.im (.tuple (P.map pq))), some (.im (.tuple (fs.map fr))), o7, o8, some (.im (.tuple (es.map fr))), some (.im (.tuple ((C.map fun c => (c, mean n es c)).map pq))), none, none, none]) ?_ ?_
  · have lc : xLc (iSeq (xV 4)) (gN 7) (fun _ => .ok true) (xA dTup (aC (xV 7) (aC (xCall 3 m_average_at (aC (xV 2) (aC (xV 9) (aC (xV 7) aN)))) aN))) [7] (v0 [some (.im (.list (ns.map .int))), some (.im (.list (ds.map .int))), some (.im (.int n)), some (.im (.list (qs.map .int))), some (.im (.list (C.map fr))), some (.im (.tuple (P.map pq))), some (.im (.tuple (fs.map fr))), o7, o8, some (.im (.tuple (es.map fr))), none, none, none, none]) = .ok (.list ((C.map fun c => (c, mean n es c)).map pq)) := by
      have e0 : (C.map fun c => (c, mean n es c)).map pq = C.map fun c => pq (c, mean n es c) := by rw [List.map_map]; rfl
      rw [e0]
      refine xLc_ok (f := fr) (by simp only [iSeq_ap, v0, List.map_cons, s0, xV_s, xV_z, R.bind_ok, dItems_list]) (by omega) fun c hc => ?_
      have av := average_at_ok E (Ct c hc).chc.1
      refine ⟨(v0 [some (.im (.list (ns.map .int))), some (.im (.list (ds.map .int))), some (.im (.int n)), some (.im (.list (qs.map .int))), some (.im (.list (C.map fr))), some (.im (.tuple (P.map pq))), some (.im (.tuple (fs.map fr))), o7, o8, some (.im (.tuple (es.map fr))), none, none, none, none]).set 7 (some (fr c)), by simp [gN, wipeD, v0], ?_⟩
      simp only [v0, List.map_cons, List.map_nil, s0, List.set_cons_zero, List.set_cons_succ, xA_ap, xCall_ap, aC_ap, aN_ap, xV_s, xV_z, R.bind_ok, List.length_cons, List.length_nil, if_pos, av, dTup_2]
      rfl
    rw [sAsg_ap, xA_ap, aC_ap, lc, R.bind_ok, aN_ap, R.bind_ok, R.bind_ok, dTupOf_list, fR_ok]
    rfl
  refine seqN (δ' := [some (.im (.list (ns.map .int))), some (.im (.list (ds.map .int))), some (.im (.int n)), some (.im (.list (qs.map .int))), some (.im (.list (C.map fr))), some (.im (.tuple (P.map pq))), some (.im (.tuple (fs.map fr))), o7, o8, some (.im (.tuple (es.map fr))), some (.im (.tuple ((C.map fun c => (c, mean n es c)).map pq))), none, none, none]) ?_ ?_
  · have lc : xLc (iSeq (xV 10)) (g2 7 8) (fun _ => .ok true) (xV 8) [7, 8] (vw [some (.im (.list (ns.map .int))), some (.im (.list (ds.map .int))), some (.im (.int n)), some (.im (.list (qs.map .int))), some (.im (.list (C.map fr))), some (.im (.tuple (P.map pq))), some (.im (.tuple (fs.map fr))), o7, o8, some (.im (.tuple (es.map fr))), some (.im (.tuple ((C.map fun c => (c, mean n es c)).map pq))), none, none, none]) = .ok (.list ((C.map fun c => mean n es c).map fr)) := by
      have e0 : (C.map fun c => (c, mean n es c)).map pq = C.map fun c => pq (c, mean n es c) := by rw [List.map_map]; rfl
      have e1 : (C.map fun c => mean n es c).map fr = C.map fun c => fr (mean n es c) := by rw [List.map_map]; rfl
      rw [e1]
      refine xLc_ok (f := fun c => pq (c, mean n es c)) ?_ (by omega) fun c hc => ?_
      · rw [← e0]
        simp only [iSeq_ap, vw, List.map_cons, sw, xV_s, xV_z, R.bind_ok, dItems_tuple]
      · refine ⟨((vw [some (.im (.list (ns.map .int))), some (.im (.list (ds.map .int))), some (.im (.int n)), some (.im (.list (qs.map .int))), some (.im (.list (C.map fr))), some (.im (.tuple (P.map pq))), some (.im (.tuple (fs.map fr))), o7, o8, some (.im (.tuple (es.map fr))), some (.im (.tuple ((C.map fun c => (c, mean n es c)).map pq))), none, none, none]).set 7 (some (fr c))).set 8 (some (fr (mean n es c))), by simp [g2, pq, wipeD, vw], ?_⟩
        simp only [vw, List.map_cons, List.map_nil, sw, List.set_cons_zero, List.set_cons_succ, xV_s, xV_z]
    have pl := plain_any (l := C.map fun c => mean n es c) (by rw [List.length_map]; omega)
    rw [sIf_ap, yAnd_ap, yTru_ap, xCall_ap, aC_ap, lc, R.bind_ok, aN_ap, R.bind_ok, R.bind_ok, if_pos (by rfl), pl, R.bind_ok, dTru_bool, R.bind_ok]
    cases hb : (badF ((C.map fun c => mean n es c).map fr)).isEmpty with
    | false => rfl
    | true =>
      rw [if_pos rfl]
      obtain ⟨ms, em, hms⟩ := badF_nil (List.isEmpty_iff.mp hb)
      have em' : (C.map fun c => mean n es c) = ms := by
        have := (eqvAll_map eqv_fr (C.map fun c => mean n es c) ms)
        rw [← em] at this
        have r := (eqvAll_map eqv_fr (C.map fun c => mean n es c) (C.map fun c => mean n es c))
        rw [r, decide_eq_true rfl] at this
        exact of_decide_eq_true this.symm
      have hfo : ∀ c ∈ C, FrOk (mean n es c) := fun c hc => hms _ (em' ▸ List.mem_map_of_mem hc)
      obtain ⟨M, mz, mm, mb⟩ := fr_pb (es := C.map fun c => mean n es c) (by rw [em']; exact hms)
      have Tl : (C.map fun c => (c, mean n es c)).length = n + 1 := by rw [List.length_map, Cl]
      obtain ⟨W2, row2, ef2, rl2, rm2, _, _⟩ := from_ok (n := n) (M := M) (V := 99999) (P := C.map fun c => (c, mean n es c)) h1 h5 Tl mz (Nat.le_trans mm (Nat.pow_le_pow_right (by decide) (by rw [List.length_map]; omega))) (by decide) (by decide) (fun y hy => by
        obtain ⟨c, hc, rfl⟩ := List.mem_map.mp hy
        exact ⟨Ct c hc, hfo c hc, mb _ (List.mem_map_of_mem hc)⟩) (by rw [List.pairwise_map]; exact Cp)
      have same : hon n row2 = es := by
        have ea : avg n (hon n row2) = avg n es := by
          have l1 := avg_len (n := n) (by omega) (es := hon n row2) (Nat.le_of_eq (hon_len _ _))
          have l2 := avg_len (n := n) (by omega) (es := es) (Nat.le_of_eq E.l)
          refine uniq_pts (avg_nz _ _) (avg_nz _ _) C (Cp.imp fun hab e => by rw [e] at hab; grind) (by omega) (by omega) fun c hc => ?_
          rw [avg_ev, avg_ev]
          exact rm2 (c, mean n es c) (List.mem_map_of_mem (f := fun c => (c, mean n es c)) hc)
        exact mean_inj (n := n) (by omega) (hon_len _ _) E.l fun x => by rw [← avg_ev, ← avg_ev, ea]
      rw [same] at ef2
      simp only [yBl_ap, x2_ap, x1_ap, xA_ap, xC_ap, xCall_ap, aC_ap, aN_ap, vw, List.map_cons, List.map_nil, sw, xV_s, xV_z, R.bind_ok, List.length_cons, List.length_nil, if_pos, ef2, dNe_frs, dBl_bool, fR_ok]
      simp
  have hPt : ∀ y ∈ P, Pt y := fun y hy => ⟨(Pm y hy).1.chc.1, FrOk.of (Pm y hy).2.bd (by decide) (by decide) (by decide)⟩
  obtain ⟨v, ev', hv⟩ := wrong11 x50 h1 h5 Pl hPt Pa
  have sA : dSl (.tuple (P.map pq)) (some 1) none = .ok (.tuple ((P.drop 1).map pq)) := by
    simp only [dSl]
    rw [show (1 : Int) = ((1 : Nat) : Int) from rfl, cut_drop _ (by simp; omega), List.map_drop]
  have sB : dSl (.tuple (P.map pq)) none (some 1) = .ok (.tuple ((P.take 1).map pq)) := by
    simp only [dSl]
    rw [show (1 : Int) = ((1 : Nat) : Int) from rfl, cut_take _ (by simp; omega), List.map_take]
  have spl : P = P.take n ++ [P.getD n (0, 0)] := by
    have hnP : n < P.length := by omega
    rw [List.getD_eq_getElem?_getD, List.getElem?_eq_getElem hnP]
    show P = P.take n ++ [P[n]]
    have := List.take_append_drop n P
    rw [List.drop_eq_getElem_cons hnP, List.drop_eq_nil_iff.mpr (by omega)] at this
    exact this.symm
  have sC : dSl (.tuple (P.map pq)) none (some (-1)) = .ok (.tuple ((P.take n).map pq)) := by
    simp only [dSl]
    have e : P.map pq = (P.take n).map pq ++ [pq (P.getD n (0, 0))] := by
      conv => lhs; rw [spl]
      rw [List.map_append]; rfl
    rw [e, cut_last]
  have sD : dSl (.tuple (P.map pq)) (some (-1)) none = .ok (.tuple ((P.drop n).map pq)) := by
    simp only [dSl]
    have lM : (P.map pq).length = n + 1 := by rw [List.length_map]; exact Pl
    have ix : HT.sIx (P.map pq).length 0 (some (-1)) = n := by
      rw [lM]
      unfold HT.sIx
      simp
      omega
    have iy : HT.sIx (P.map pq).length (P.map pq).length none = n + 1 := by rw [HT.sIx_none, lM]
    unfold cutD
    rw [ix, iy, List.map_drop]
    have e : ((P.map pq).drop n).take (n + 1 - n) = (P.map pq).drop n := List.take_of_length_le (by rw [List.length_drop, lM]; omega)
    rw [e]
  have aB : dAddA (.tuple (P.map pq)) (.tuple ((P.take 1).map pq)) = .ok (.tuple ((P ++ P.take 1).map pq)) := by rw [dAddA_tt (by simp; omega), List.map_append]
  have aD : dAddA (.tuple ((P.drop 1).map pq)) (.tuple ((P.drop n).map pq)) = .ok (.tuple ((P.drop 1 ++ P.drop n).map pq)) := by rw [dAddA_tt (by simp; omega), List.map_append]
  have aC' : ∀ x : D, dAddA (.tuple ((P.take n).map pq)) (.tuple [x]) = .ok (.tuple ((P.take n).map pq ++ [x])) := fun x => dAddA_tt (by simp; omega)
  have rv : dRev (.tuple (P.map pq)) = .ok (.tuple (P.reverse.map pq)) := by rw [dRev_tuple, List.map_reverse]
  have l6 : ∀ a b c d e f : D, dLst [a, b, c, d, e, f] = .ok (.list [a, b, c, d, e, f]) := fun _ _ _ _ _ _ => (rfl)
  have l3 : ∀ a b c : D, dLst [a, b, c] = .ok (.list [a, b, c]) := fun _ _ _ => (rfl)
  have sh_points : Sh 0 (.str (Str.ofString "points")) := sh_str (by decide +kernel)
  have dEq_points : dEq (.str (Str.ofString "points")) (.str (Str.ofString "points")) = .ok (.bool true) := by
    rw [dEq_sh sh_points sh_points (by decide) (by decide), show PyData.eqv (.str (Str.ofString "points")) (.str (Str.ofString "points")) = true by decide +kernel]
  refine seqN (δ' := [some (.im (.list (ns.map .int))), some (.im (.list (ds.map .int))), some (.im (.int n)), some (.im (.list (qs.map .int))), some (.im (.list (C.map fr))), some (.im (.tuple (P.map pq))), some (.im (.tuple (fs.map fr))), o7, o8, some (.im (.tuple (es.map fr))), some (.im (.tuple ((C.map fun c => (c, mean n es c)).map pq))), some (.im (.list [.none, .list (P.map pq), .tuple ((P.drop 1).map pq), .tuple ((P ++ P.take 1).map pq), .tuple (P.reverse.map pq), .tuple ((P.drop 1 ++ P.drop n).map pq)])), none, none]) ?_ ?_
  · simp only [sAsg_ap, x2_ap, x1_ap, xA_ap, xC_ap, xCall_ap, aC_ap, aN_ap, v0, List.map_cons, List.map_nil, s0, xV_s, xV_z, R.bind_ok, List.length_cons, List.length_nil, if_pos, xSl_ap, oN_ap, oS_ap, dOI_int, dNeg_int, dLstOf_tuple, sA, sB, sD, aB, aD, rv, l6, fR_ok]
    rfl
  refine seqN (δ' := [some (.im (.list (ns.map .int))), some (.im (.list (ds.map .int))), some (.im (.int n)), some (.im (.list (qs.map .int))), some (.im (.list (C.map fr))), some (.im (.tuple (P.map pq))), some (.im (.tuple (fs.map fr))), o7, o8, some (.im (.tuple (es.map fr))), some (.im (.tuple ((C.map fun c => (c, mean n es c)).map pq))), some (.im (.list [.none, .list (P.map pq), .tuple ((P.drop 1).map pq), .tuple ((P ++ P.take 1).map pq), .tuple (P.reverse.map pq), .tuple ((P.drop 1 ++ P.drop n).map pq), .tuple ((P.take n).map pq ++ [.tuple [.tuple [.int 3, .int 2], .tuple [.int 1, .int 1]]]), .tuple ((P.take n).map pq ++ [.tuple [.tuple [.int 1, .int 1], .int 1]]), .tuple ((P.take n).map pq ++ [.none])])), none, none]) ?_ ?_
  · simp only [sAsg_ap, x2_ap, x1_ap, xA_ap, xC_ap, xCall_ap, aC_ap, aN_ap, v0, List.map_cons, List.map_nil, s0, xV_s, xV_z, R.bind_ok, List.length_cons, List.length_nil, if_pos, xSl_ap, oN_ap, oS_ap, dOI_int, dNeg_int, sC, dTup_2, dTup_1, aC', l3, fR_ok]
    rfl
  · simp only [sRet_ap, x2_ap, x1_ap, xA_ap, xC_ap, xCall_ap, aC_ap, aN_ap, vw, List.map_cons, List.map_nil, sw, xV_s, xV_z, R.bind_ok, List.length_cons, List.length_nil, if_pos, ex50, m9, ev', pointed_exc hv, dEq_points, fR_ok]
end HN
end
section
set_option Elab.async false
set_option linter.all false
set_option maxRecDepth 100000
set_option maxHeartbeats 4000000
namespace HW
open PySem PySem.Spec PyProof.Rows L2 HL HM
def topS (i : Nat) : Stmt := PySem.Challenge.pw_honestestimates_k11_whole_told_averages.main.body.getD i (.Pass ⟨0, 0, 0, 0⟩)
section
variable {P : Program} {w : World} {K : PySem.W.Frag} {mg : Str → Option Value} {base : Heap} {ca : String → Addr}
abbrev s_in_range : Stmt := topS 8
theorem sc_in_range : FnScope ["value", "low", "high"] ["value", "low", "high"] (defScope s_in_range) := ⟨rfl, rfl, rfl, by decide +kernel, rfl, by decide +kernel, by decide +kernel⟩
theorem ok_in_range {f : Addr} {fd : FuncData} (F : Fun K "in_range" "in_range" s_in_range f fd) (b : Binds K fd ["value", "low", "high"] []) (g : mg "in_range" = some (.ref f)) (z_bool : mg "bool" = none) (z_int : mg "int" = none) (z_isinstance : mg "isinstance" = none) :
    OkD P w K mg base ca "in_range" ["value", "low", "high"] 1 m_in_range := by
  refine ⟨f, fd, g, F.kp, b, F.okX sc_in_range spD_len (fun cdv A outer s H vs Q E hr h => ?_)⟩
  exact ⟨_, (pss_one (ps_ret (pe_andT (pe_callB call_isi (by rfl) z_isinstance (by decide +kernel) (pa_cons (pv 0) (pa_cons (pe_bltn (v := .ty "int") (by rfl) z_int (by decide +kernel) rfl) pa_nil))) (pe_andT (pe_notT (pe_callB call_isi (by rfl) z_isinstance (by decide +kernel) (pa_cons (pv 0) (pa_cons (pe_bltn (v := .ty "bool") (by rfl) z_bool (by decide +kernel) rfl) pa_nil)))) (pe_one (pe_chain op_le op_le (pv 1) (pv 0) (pv 2))))))),
   run_def (K := K) (ca := ca) (E := E) (p := 3) (k := 0) (g := g_in_range) rfl (cs_ret (ce_and (ce_isi ce_var) (ce_and (ce_not (ce_isi ce_var)) (ce_chain od_cmp od_cmp ce_var ce_var ce_var)))) h⟩
abbrev s_greatest_divisor : Stmt := topS 9
theorem sc_greatest_divisor : FnScope ["one", "other"] ["one", "other"] (defScope s_greatest_divisor) := ⟨rfl, rfl, rfl, by decide +kernel, rfl, by decide +kernel, by decide +kernel⟩
theorem ok_greatest_divisor {f : Addr} {fd : FuncData} (F : Fun K "greatest_divisor" "greatest_divisor" s_greatest_divisor f fd) (b : Binds K fd ["one", "other"] []) (g : mg "greatest_divisor" = some (.ref f)) :
    OkD P w K mg base ca "greatest_divisor" ["one", "other"] 1 m_greatest_divisor := by
  refine ⟨f, fd, g, F.kp, b, F.okX sc_greatest_divisor spD_len (fun cdv A outer s H vs Q E hr h => ?_)⟩
  exact ⟨_, (pss_cons (ps_while (passes_of rfl) (pt_truth (pv 1) (by intro _; rfl)) (pss_one (ps_par (i := 0) (j := 1) (by rfl) sc_greatest_divisor.nd rfl rfl (by decide) rfl rfl (pa_cons (pv 1) (pa_cons (pe_op op_mod (pv 0) (pv 1)) pa_nil)) (by rfl))))
  (pss_one (ps_ret (pv 0)))),
   run_def (K := K) (ca := ca) (E := E) (p := 2) (k := 0) (g := g_greatest_divisor) rfl (cs_seq (cs_while 20000 (ct_truth ce_var) (cs_par (i := 0) (j := 1) (ca_cons ce_var (ca_cons (ce_op od_mod ce_var ce_var) ca_nil))))
  (cs_ret ce_var)) h⟩
abbrev s_reduced : Stmt := topS 10
theorem sc_reduced : FnScope ["above", "below", "divisor"] ["above", "below"] (defScope s_reduced) := ⟨rfl, rfl, rfl, by decide +kernel, rfl, by decide +kernel, by decide +kernel⟩
theorem ok_reduced {f : Addr} {fd : FuncData} (F : Fun K "reduced" "reduced" s_reduced f fd) (b : Binds K fd ["above", "below"] []) (g : mg "reduced" = some (.ref f)) (z_abs : mg "abs" = none) (c_greatest_divisor : OkD P w K mg base ca "greatest_divisor" ["one", "other"] 1 m_greatest_divisor) :
    OkD P w K mg base ca "reduced" ["above", "below"] 2 m_reduced := by
  refine ⟨f, fd, g, F.kp, b, F.okX sc_reduced spD_len (fun cdv A outer s H vs Q E hr h => ?_)⟩
  exact ⟨_, (pss_cons (ps_set (i := 2) sc_reduced.nd rfl (Or.inl rfl) (pe_callD (E := fun _ => E) c_greatest_divisor (hr.mono (by decide)) (by rfl) (fun σ => passAt (takes_of rfl rfl rfl rfl) σ) (pa_cons (pe_callB call_abs (by rfl) z_abs (by decide +kernel) (pa_cons (pv 0) pa_nil)) (pa_cons (pv 1) pa_nil))))
  (pss_one (ps_ret (pe_tup (pa_cons (pe_op op_fdivW (pv 0) (pv 2)) (pa_cons (pe_op op_fdivW (pv 1) (pv 2)) pa_nil)))))),
   run_def (K := K) (ca := ca) (E := E) (p := 2) (k := 1) (g := g_reduced) rfl (cs_seq (cs_asg (i := 2) (ce_call (ca_cons (ce_cb bd_abs (ca_cons ce_var ca_nil)) (ca_cons ce_var ca_nil))))
  (cs_ret (ce_tup (ca_cons (ce_op od_fdiv ce_var ce_var) (ca_cons (ce_op od_fdiv ce_var ce_var) ca_nil))))) h⟩
abbrev s_is_fraction : Stmt := topS 11
theorem sc_is_fraction : FnScope ["value"] ["value"] (defScope s_is_fraction) := ⟨rfl, rfl, rfl, by decide +kernel, rfl, by decide +kernel, by decide +kernel⟩
theorem ok_is_fraction {f : Addr} {fd : FuncData} (F : Fun K "is_fraction" "is_fraction" s_is_fraction f fd) (b : Binds K fd ["value"] []) (g : mg "is_fraction" = some (.ref f)) (z_abs : mg "abs" = none) (z_isinstance : mg "isinstance" = none) (z_len : mg "len" = none) (z_tuple : mg "tuple" = none) {t_MAX_PART : Tok} (k_MAX_PART : mg "MAX_PART" = some (.int 99999 t_MAX_PART)) (c_greatest_divisor : OkD P w K mg base ca "greatest_divisor" ["one", "other"] 1 m_greatest_divisor) (c_in_range : OkD P w K mg base ca "in_range" ["value", "low", "high"] 1 m_in_range) :
    OkD P w K mg base ca "is_fraction" ["value"] 2 m_is_fraction := by
  refine ⟨f, fd, g, F.kp, b, F.okX sc_is_fraction spD_len (fun cdv A outer s H vs Q E hr h => ?_)⟩
  exact ⟨_, (pss_cons (ps_if (PW.pt (pw_or (pt_not (pt_truth (pe_callB call_isi (by rfl) z_isinstance (by decide +kernel) (pa_cons (pv 0) (pa_cons (pe_bltn (v := .ty "tuple") (by rfl) z_tuple (by decide +kernel) rfl) pa_nil))) (by intro _; rfl))) (pw_or (pt_cmpR (op_neD hr.units) (pe_callB call_lenA (by rfl) z_len (by decide +kernel) (pa_cons (pv 0) pa_nil)) pe_int (nomark _)) (pw_or1 (pt_not (pt_truth (pe_callD (E := fun _ => E) c_in_range (hr.mono (by decide)) (by rfl) (fun σ => passAt (takes_of rfl rfl rfl rfl) σ) (pa_cons (pe_ix ix_A (pv 0) pe_int (fun _ _ => rfl)) (pa_cons (pe_un un_neg (pe_glob (v := .int 99999) (by rfl) k_MAX_PART ⟨_, rfl⟩)) (pa_cons (pe_glob (v := .int 99999) (by rfl) k_MAX_PART ⟨_, rfl⟩) pa_nil)))) (by intro _; rfl))))))) (pss_one (ps_ret pe_bl)) pss_nil)
  (pss_one (ps_ret (pe_andT (pe_callD (E := fun _ => E) c_in_range (hr.mono (by decide)) (by rfl) (fun σ => passAt (takes_of rfl rfl rfl rfl) σ) (pa_cons (pe_ix ix_A (pv 0) pe_int (fun _ _ => rfl)) (pa_cons pe_int (pa_cons (pe_glob (v := .int 99999) (by rfl) k_MAX_PART ⟨_, rfl⟩) pa_nil)))) (pe_one (pe_cmpR (op_eqD hr.units) (pe_callD (E := fun _ => E) c_greatest_divisor (hr.mono (by decide)) (by rfl) (fun σ => passAt (takes_of rfl rfl rfl rfl) σ) (pa_cons (pe_callB call_abs (by rfl) z_abs (by decide +kernel) (pa_cons (pe_ix ix_A (pv 0) pe_int (fun _ _ => rfl)) pa_nil)) (pa_cons (pe_ix ix_A (pv 0) pe_int (fun _ _ => rfl)) pa_nil))) pe_int (nomark _))))))),
   run_def (K := K) (ca := ca) (E := E) (p := 1) (k := 0) (g := g_is_fraction) rfl (cs_seq (cs_if (ct_or (ct_not (ct_truth (ce_isi ce_var))) (ct_or (ct_test (ce_op od_ne (ce_cb bd_len (ca_cons ce_var ca_nil)) ce_int)) (ct_not (ct_truth (ce_call (ca_cons (ce_op od_ix ce_var ce_int) (ca_cons (ce_un ud_neg ce_int) (ca_cons ce_int ca_nil)))))))) (cs_ret ce_bl) cs_nil)
  (cs_ret (ce_and (ce_call (ca_cons (ce_op od_ix ce_var ce_int) (ca_cons ce_int (ca_cons ce_int ca_nil)))) (ce_op od_eq (ce_call (ca_cons (ce_cb bd_abs (ca_cons (ce_op od_ix ce_var ce_int) ca_nil)) (ca_cons (ce_op od_ix ce_var ce_int) ca_nil))) ce_int)))) h⟩
abbrev s_plus : Stmt := topS 12
theorem sc_plus : FnScope ["one", "other"] ["one", "other"] (defScope s_plus) := ⟨rfl, rfl, rfl, by decide +kernel, rfl, by decide +kernel, by decide +kernel⟩
theorem ok_plus {f : Addr} {fd : FuncData} (F : Fun K "plus" "plus" s_plus f fd) (b : Binds K fd ["one", "other"] []) (g : mg "plus" = some (.ref f)) (c_reduced : OkD P w K mg base ca "reduced" ["above", "below"] 2 m_reduced) :
    OkD P w K mg base ca "plus" ["one", "other"] 3 m_plus := by
  refine ⟨f, fd, g, F.kp, b, F.okX sc_plus spD_len (fun cdv A outer s H vs Q E hr h => ?_)⟩
  exact ⟨_, (pss_one (ps_ret (pe_callD (E := fun _ => E) c_reduced (hr.mono (by decide)) (by rfl) (fun σ => passAt (takes_of rfl rfl rfl rfl) σ) (pa_cons (pe_op op_addA (pe_op op_mulA (pe_ix ix_A (pv 0) pe_int (fun _ _ => rfl)) (pe_ix ix_A (pv 1) pe_int (fun _ _ => rfl))) (pe_op op_mulA (pe_ix ix_A (pv 1) pe_int (fun _ _ => rfl)) (pe_ix ix_A (pv 0) pe_int (fun _ _ => rfl)))) (pa_cons (pe_op op_mulA (pe_ix ix_A (pv 0) pe_int (fun _ _ => rfl)) (pe_ix ix_A (pv 1) pe_int (fun _ _ => rfl))) pa_nil))))),
   run_def (K := K) (ca := ca) (E := E) (p := 2) (k := 0) (g := g_plus) rfl (cs_ret (ce_call (ca_cons (ce_op od_add (ce_op od_mul (ce_op od_ix ce_var ce_int) (ce_op od_ix ce_var ce_int)) (ce_op od_mul (ce_op od_ix ce_var ce_int) (ce_op od_ix ce_var ce_int))) (ca_cons (ce_op od_mul (ce_op od_ix ce_var ce_int) (ce_op od_ix ce_var ce_int)) ca_nil)))) h⟩
abbrev s_times : Stmt := topS 13
theorem sc_times : FnScope ["one", "other"] ["one", "other"] (defScope s_times) := ⟨rfl, rfl, rfl, by decide +kernel, rfl, by decide +kernel, by decide +kernel⟩
theorem ok_times {f : Addr} {fd : FuncData} (F : Fun K "times" "times" s_times f fd) (b : Binds K fd ["one", "other"] []) (g : mg "times" = some (.ref f)) (c_reduced : OkD P w K mg base ca "reduced" ["above", "below"] 2 m_reduced) :
    OkD P w K mg base ca "times" ["one", "other"] 3 m_times := by
  refine ⟨f, fd, g, F.kp, b, F.okX sc_times spD_len (fun cdv A outer s H vs Q E hr h => ?_)⟩
  exact ⟨_, (pss_one (ps_ret (pe_callD (E := fun _ => E) c_reduced (hr.mono (by decide)) (by rfl) (fun σ => passAt (takes_of rfl rfl rfl rfl) σ) (pa_cons (pe_op op_mulA (pe_ix ix_A (pv 0) pe_int (fun _ _ => rfl)) (pe_ix ix_A (pv 1) pe_int (fun _ _ => rfl))) (pa_cons (pe_op op_mulA (pe_ix ix_A (pv 0) pe_int (fun _ _ => rfl)) (pe_ix ix_A (pv 1) pe_int (fun _ _ => rfl))) pa_nil))))),
   run_def (K := K) (ca := ca) (E := E) (p := 2) (k := 0) (g := g_times) rfl (cs_ret (ce_call (ca_cons (ce_op od_mul (ce_op od_ix ce_var ce_int) (ce_op od_ix ce_var ce_int)) (ca_cons (ce_op od_mul (ce_op od_ix ce_var ce_int) (ce_op od_ix ce_var ce_int)) ca_nil)))) h⟩
abbrev s_minus : Stmt := topS 14
theorem sc_minus : FnScope ["one", "other"] ["one", "other"] (defScope s_minus) := ⟨rfl, rfl, rfl, by decide +kernel, rfl, by decide +kernel, by decide +kernel⟩
theorem ok_minus {f : Addr} {fd : FuncData} (F : Fun K "minus" "minus" s_minus f fd) (b : Binds K fd ["one", "other"] []) (g : mg "minus" = some (.ref f)) (c_plus : OkD P w K mg base ca "plus" ["one", "other"] 3 m_plus) :
    OkD P w K mg base ca "minus" ["one", "other"] 4 m_minus := by
  refine ⟨f, fd, g, F.kp, b, F.okX sc_minus spD_len (fun cdv A outer s H vs Q E hr h => ?_)⟩
  exact ⟨_, (pss_one (ps_ret (pe_callD (E := fun _ => E) c_plus (hr.mono (by decide)) (by rfl) (fun σ => passAt (takes_of rfl rfl rfl rfl) σ) (pa_cons (pv 0) (pa_cons (pe_tup (pa_cons (pe_un un_neg (pe_ix ix_A (pv 1) pe_int (fun _ _ => rfl))) (pa_cons (pe_ix ix_A (pv 1) pe_int (fun _ _ => rfl)) pa_nil))) pa_nil))))),
   run_def (K := K) (ca := ca) (E := E) (p := 2) (k := 0) (g := g_minus) rfl (cs_ret (ce_call (ca_cons ce_var (ca_cons (ce_tup (ca_cons (ce_un ud_neg (ce_op od_ix ce_var ce_int)) (ca_cons (ce_op od_ix ce_var ce_int) ca_nil))) ca_nil)))) h⟩
abbrev s_divided : Stmt := topS 15
theorem sc_divided : FnScope ["one", "other"] ["one", "other"] (defScope s_divided) := ⟨rfl, rfl, rfl, by decide +kernel, rfl, by decide +kernel, by decide +kernel⟩
theorem ok_divided {f : Addr} {fd : FuncData} (F : Fun K "divided" "divided" s_divided f fd) (b : Binds K fd ["one", "other"] []) (g : mg "divided" = some (.ref f)) (c_reduced : OkD P w K mg base ca "reduced" ["above", "below"] 2 m_reduced) :
    OkD P w K mg base ca "divided" ["one", "other"] 3 m_divided := by
  refine ⟨f, fd, g, F.kp, b, F.okX sc_divided spD_len (fun cdv A outer s H vs Q E hr h => ?_)⟩
  exact ⟨_, (pss_cons (ps_if (pt_cmpR op_lt (pe_ix ix_A (pv 1) pe_int (fun _ _ => rfl)) pe_int (nomark _)) (pss_one (ps_ret (pe_callD (E := fun _ => E) c_reduced (hr.mono (by decide)) (by rfl) (fun σ => passAt (takes_of rfl rfl rfl rfl) σ) (pa_cons (pe_op op_mulA (pe_un un_neg (pe_ix ix_A (pv 0) pe_int (fun _ _ => rfl))) (pe_ix ix_A (pv 1) pe_int (fun _ _ => rfl))) (pa_cons (pe_op op_mulA (pe_un un_neg (pe_ix ix_A (pv 0) pe_int (fun _ _ => rfl))) (pe_ix ix_A (pv 1) pe_int (fun _ _ => rfl))) pa_nil))))) pss_nil)
  (pss_one (ps_ret (pe_callD (E := fun _ => E) c_reduced (hr.mono (by decide)) (by rfl) (fun σ => passAt (takes_of rfl rfl rfl rfl) σ) (pa_cons (pe_op op_mulA (pe_ix ix_A (pv 0) pe_int (fun _ _ => rfl)) (pe_ix ix_A (pv 1) pe_int (fun _ _ => rfl))) (pa_cons (pe_op op_mulA (pe_ix ix_A (pv 0) pe_int (fun _ _ => rfl)) (pe_ix ix_A (pv 1) pe_int (fun _ _ => rfl))) pa_nil)))))),
   run_def (K := K) (ca := ca) (E := E) (p := 2) (k := 0) (g := g_divided) rfl (cs_seq (cs_if (ct_test (ce_op od_cmp (ce_op od_ix ce_var ce_int) ce_int)) (cs_ret (ce_call (ca_cons (ce_op od_mul (ce_un ud_neg (ce_op od_ix ce_var ce_int)) (ce_op od_ix ce_var ce_int)) (ca_cons (ce_op od_mul (ce_un ud_neg (ce_op od_ix ce_var ce_int)) (ce_op od_ix ce_var ce_int)) ca_nil)))) cs_nil)
  (cs_ret (ce_call (ca_cons (ce_op od_mul (ce_op od_ix ce_var ce_int) (ce_op od_ix ce_var ce_int)) (ca_cons (ce_op od_mul (ce_op od_ix ce_var ce_int) (ce_op od_ix ce_var ce_int)) ca_nil))))) h⟩
abbrev s_total : Stmt := topS 16
theorem sc_total : FnScope ["some", "result", "one"] ["some"] (defScope s_total) := ⟨rfl, rfl, rfl, by decide +kernel, rfl, by decide +kernel, by decide +kernel⟩
theorem ok_total {f : Addr} {fd : FuncData} (F : Fun K "total" "total" s_total f fd) (b : Binds K fd ["some"] []) (g : mg "total" = some (.ref f)) (c_plus : OkD P w K mg base ca "plus" ["one", "other"] 3 m_plus) :
    OkD P w K mg base ca "total" ["some"] 4 m_total := by
  refine ⟨f, fd, g, F.kp, b, F.okX sc_total spD_len (fun cdv A outer s H vs Q E hr h => ?_)⟩
  exact ⟨_, (pss_cons (ps_set (i := 1) sc_total.nd rfl (Or.inl rfl) (pe_tup (pa_cons pe_int (pa_cons pe_int pa_nil))))
  (pss_cons (ps_for (passes_of rfl) rfl (pi_seqA (pv 0)) (pg_name (i := 2) sc_total.nd rfl (Or.inl rfl)) (pss_one (ps_set (i := 1) sc_total.nd rfl (Or.inl rfl) (pe_callD (E := fun _ => E) c_plus (hr.mono (by decide)) (by rfl) (fun σ => passAt (takes_of rfl rfl rfl rfl) σ) (pa_cons (pv 1) (pa_cons (pv 2) pa_nil))))))
  (pss_one (ps_ret (pv 1))))),
   run_def (K := K) (ca := ca) (E := E) (p := 1) (k := 2) (g := g_total) rfl (cs_seq (cs_asg (i := 1) (ce_tup (ca_cons ce_int (ca_cons ce_int ca_nil))))
  (cs_seq (cs_for (ci_seq ce_var) (tgs_name (i := 2)) (cs_asg (i := 1) (ce_call (ca_cons ce_var (ca_cons ce_var ca_nil)))))
  (cs_ret ce_var))) h⟩
abbrev s_trimmed : Stmt := topS 18
theorem sc_trimmed : FnScope ["row", "result"] ["row"] (defScope s_trimmed) := ⟨rfl, rfl, rfl, by decide +kernel, rfl, by decide +kernel, by decide +kernel⟩
theorem ok_trimmed {f : Addr} {fd : FuncData} (F : Fun K "trimmed" "trimmed" s_trimmed f fd) (b : Binds K fd ["row"] []) (g : mg "trimmed" = some (.ref f)) (z_list : mg "list" = none) (z_tuple : mg "tuple" = none) :
    OkD P w K mg base ca "trimmed" ["row"] 1 m_trimmed := by
  refine ⟨f, fd, g, F.kp, b, F.okX sc_trimmed spD_len (fun cdv A outer s H vs Q E hr h => ?_)⟩
  exact ⟨_, (pss_cons (ps_set (i := 1) sc_trimmed.nd rfl (Or.inl rfl) (pe_callTy call_list_of (by rfl) z_list (by decide +kernel) (pa_cons (pv 0) pa_nil)))
  (pss_cons (ps_while (passes_of rfl) (PW.pt (pw_and (pt_truth (pv 1) (by intro _; rfl)) (pw_and1 (pt_cmpR (op_eqD hr.units) (pe_ix ix_A (pe_ix ix_A (pv 1) (pe_un un_neg pe_int) (fun _ _ => rfl)) pe_int (fun _ _ => rfl)) pe_int (nomark _))))) (pss_one (ps_expr (pe_bm0 PySem.F.plainAttrs_list PySem.F.slot_list_pop PySem.F.type_list_pop mt_pop (pv 1)))))
  (pss_one (ps_ret (pe_callTy call_tuple_of (by rfl) z_tuple (by decide +kernel) (pa_cons (pv 1) pa_nil)))))),
   run_def (K := K) (ca := ca) (E := E) (p := 1) (k := 1) (g := g_trimmed) rfl (cs_seq (cs_asgO (i := 1) (cf_list (ca_cons ce_var ca_nil)))
  (cs_seq (cs_while 1200 (ct_and (ct_truth ce_var) (ct_test (ce_op od_eq (ce_op od_ix (ce_op od_ix ce_var (ce_un ud_neg ce_int)) ce_int) ce_int))) (cs_pop (i := 1)))
  (cs_ret (ce_cb bd_tup (ca_cons ce_var ca_nil))))) h⟩
abbrev s_sum_of : Stmt := topS 19
theorem sc_sum_of : FnScope ["one", "other", "result", "place", "first", "second"] ["one", "other"] (defScope s_sum_of) := ⟨rfl, rfl, rfl, by decide +kernel, rfl, by decide +kernel, by decide +kernel⟩
theorem ok_sum_of {f : Addr} {fd : FuncData} (F : Fun K "sum_of" "sum_of" s_sum_of f fd) (b : Binds K fd ["one", "other"] []) (g : mg "sum_of" = some (.ref f)) (z_len : mg "len" = none) (z_max : mg "max" = none) (z_range : mg "range" = none) (c_plus : OkD P w K mg base ca "plus" ["one", "other"] 3 m_plus) (c_trimmed : OkD P w K mg base ca "trimmed" ["row"] 1 m_trimmed) :
    OkD P w K mg base ca "sum_of" ["one", "other"] 4 m_sum_of := by
  refine ⟨f, fd, g, F.kp, b, F.okX sc_sum_of spD_len (fun cdv A outer s H vs Q E hr h => ?_)⟩
  exact ⟨_, (pss_cons (ps_set (i := 2) sc_sum_of.nd rfl (Or.inl rfl) (pe_lst pa_nil))
  (pss_cons (ps_for (passes_of rfl) rfl (pi_range1 (by rfl) z_range (pa_cons (pe_callB (call_max2 rfl) (by rfl) z_max (by decide +kernel) (pa_cons (pe_callB call_lenA (by rfl) z_len (by decide +kernel) (pa_cons (pv 0) pa_nil)) (pa_cons (pe_callB call_lenA (by rfl) z_len (by decide +kernel) (pa_cons (pv 1) pa_nil)) pa_nil))) pa_nil)) (pg_name (i := 3) sc_sum_of.nd rfl (Or.inl rfl)) (pss_cons (ps_set (i := 4) sc_sum_of.nd rfl (Or.inl rfl) (pe_ifExp (pt_cmpR op_lt (pv 3) (pe_callB call_lenA (by rfl) z_len (by decide +kernel) (pa_cons (pv 0) pa_nil)) (nomark _)) (pe_ix ix_A (pv 0) (pv 3) (fun _ _ => rfl)) (pe_tup (pa_cons pe_int (pa_cons pe_int pa_nil)))))
  (pss_cons (ps_set (i := 5) sc_sum_of.nd rfl (Or.inl rfl) (pe_ifExp (pt_cmpR op_lt (pv 3) (pe_callB call_lenA (by rfl) z_len (by decide +kernel) (pa_cons (pv 1) pa_nil)) (nomark _)) (pe_ix ix_A (pv 1) (pv 3) (fun _ _ => rfl)) (pe_tup (pa_cons pe_int (pa_cons pe_int pa_nil)))))
  (pss_one (ps_expr (pe_bm PySem.F.plainAttrs_list PySem.F.slot_list_append PySem.F.type_list_append mt_append (pv 2) (pa_cons (pe_callD (E := fun _ => E) c_plus (hr.mono (by decide)) (by rfl) (fun σ => passAt (takes_of rfl rfl rfl rfl) σ) (pa_cons (pv 4) (pa_cons (pv 5) pa_nil))) pa_nil)))))))
  (pss_one (ps_ret (pe_callD (E := fun _ => E) c_trimmed (hr.mono (by decide)) (by rfl) (fun σ => passAt (takes_of rfl rfl rfl rfl) σ) (pa_cons (pv 2) pa_nil)))))),
   run_def (K := K) (ca := ca) (E := E) (p := 2) (k := 4) (g := g_sum_of) rfl (cs_seq (cs_asgO (i := 2) (cf_lst ca_nil))
  (cs_seq (cs_for (ci_rng1 (ca_cons (ce_cb bd_max (ca_cons (ce_cb bd_len (ca_cons ce_var ca_nil)) (ca_cons (ce_cb bd_len (ca_cons ce_var ca_nil)) ca_nil))) ca_nil)) (tgs_name (i := 3)) (cs_seq (cs_asg (i := 4) (ce_if (ct_test (ce_op od_cmp ce_var (ce_cb bd_len (ca_cons ce_var ca_nil)))) (ce_op od_ix ce_var ce_var) (ce_tup (ca_cons ce_int (ca_cons ce_int ca_nil)))))
  (cs_seq (cs_asg (i := 5) (ce_if (ct_test (ce_op od_cmp ce_var (ce_cb bd_len (ca_cons ce_var ca_nil)))) (ce_op od_ix ce_var ce_var) (ce_tup (ca_cons ce_int (ca_cons ce_int ca_nil)))))
  (cs_app (i := 2) (ce_call (ca_cons ce_var (ca_cons ce_var ca_nil)))))))
  (cs_ret (ce_call (ca_cons ce_var ca_nil))))) h⟩
abbrev s_multiple_of : Stmt := topS 20
theorem sc_multiple_of : FnScope ["factor", "row", "entry"] ["factor", "row"] (defScope s_multiple_of) := ⟨rfl, rfl, rfl, by decide +kernel, rfl, by decide +kernel, by decide +kernel⟩
theorem ok_multiple_of {f : Addr} {fd : FuncData} (F : Fun K "multiple_of" "multiple_of" s_multiple_of f fd) (b : Binds K fd ["factor", "row"] []) (g : mg "multiple_of" = some (.ref f)) (c_times : OkD P w K mg base ca "times" ["one", "other"] 3 m_times) (c_trimmed : OkD P w K mg base ca "trimmed" ["row"] 1 m_trimmed) :
    OkD P w K mg base ca "multiple_of" ["factor", "row"] 4 m_multiple_of := by
  refine ⟨f, fd, g, F.kp, b, F.okX sc_multiple_of spD_len (fun cdv A outer s H vs Q E hr h => ?_)⟩
  exact ⟨_, (pss_one (ps_ret (pe_callD (E := fun _ => E) c_trimmed (hr.mono (by decide)) (by rfl) (fun σ => passAt (takes_of rfl rfl rfl rfl) σ) (pa_cons (pe_lc (own := [("entry", 2)]) (by rfl) sc_multiple_of.nd (pi_seqA (pv 1)) (blkOk_by (own := [("entry", 2)]) (N := ["factor", "row", "entry"]) (sc := defScope s_multiple_of) (by decide +kernel)) (fun _ _ _ _ _ => by exact (pg_name (i := 2) sc_multiple_of.nd rfl (Or.inl rfl))) (fun _ _ _ _ _ => by exact pts_nil) (fun _ _ _ _ _ => by exact (pe_callD (E := E0') c_times (hr.mono (by decide)) (by rfl) passN (pa_cons (pv 0) (pa_cons (pv 2) pa_nil))))) pa_nil)))),
   run_def (K := K) (ca := ca) (E := E) (p := 2) (k := 1) (g := g_multiple_of) rfl (cs_ret (ce_call (ca_cons (ce_lc (ci_seq ce_var) tg_name (by decide) ct_yes (ce_call (ca_cons ce_var (ca_cons ce_var ca_nil)))) ca_nil))) h⟩
abbrev s_product_of : Stmt := topS 21
theorem sc_product_of : FnScope ["one", "other", "result", "place", "first", "more", "second"] ["one", "other"] (defScope s_product_of) := ⟨rfl, rfl, rfl, by decide +kernel, rfl, by decide +kernel, by decide +kernel⟩
theorem ok_product_of {f : Addr} {fd : FuncData} (F : Fun K "product_of" "product_of" s_product_of f fd) (b : Binds K fd ["one", "other"] []) (g : mg "product_of" = some (.ref f)) (z_enumerate : mg "enumerate" = none) (z_len : mg "len" = none) (c_plus : OkD P w K mg base ca "plus" ["one", "other"] 3 m_plus) (c_times : OkD P w K mg base ca "times" ["one", "other"] 3 m_times) (c_trimmed : OkD P w K mg base ca "trimmed" ["row"] 1 m_trimmed) :
    OkD P w K mg base ca "product_of" ["one", "other"] 4 m_product_of := by
  refine ⟨f, fd, g, F.kp, b, F.okX sc_product_of spD_len (fun cdv A outer s H vs Q E hr h => ?_)⟩
  exact ⟨_, (pss_cons (ps_set (i := 2) sc_product_of.nd rfl (Or.inl rfl) (pe_op op_rep (pe_lst (pa_cons (pe_tup (pa_cons pe_int (pa_cons pe_int pa_nil))) pa_nil)) (pe_op op_addA (pe_callB call_lenA (by rfl) z_len (by decide +kernel) (pa_cons (pv 0) pa_nil)) (pe_callB call_lenA (by rfl) z_len (by decide +kernel) (pa_cons (pv 1) pa_nil)))))
  (pss_cons (ps_for (passes_of rfl) rfl (pi_enumA (by rfl) z_enumerate (pa_cons (pv 0) pa_nil)) (pg_tup rfl (pgs_cons (pg_name (i := 3) sc_product_of.nd rfl (Or.inl rfl)) (pgs_cons (pg_name (i := 4) sc_product_of.nd rfl (Or.inl rfl)) pgs_nil))) (pss_one (ps_for (passes_of rfl) rfl (pi_enumA (by rfl) z_enumerate (pa_cons (pv 1) pa_nil)) (pg_tup rfl (pgs_cons (pg_name (i := 5) sc_product_of.nd rfl (Or.inl rfl)) (pgs_cons (pg_name (i := 6) sc_product_of.nd rfl (Or.inl rfl)) pgs_nil))) (pss_one (ps_asg (pe_callD (E := fun _ => E) c_plus (hr.mono (by decide)) (by rfl) (fun σ => passAt (takes_of rfl rfl rfl rfl) σ) (pa_cons (pe_ix ix_A (pv 2) (pe_op op_addA (pv 3) (pv 5)) (fun _ _ => rfl)) (pa_cons (pe_callD (E := fun _ => E) c_times (hr.mono (by decide)) (by rfl) (fun σ => passAt (takes_of rfl rfl rfl rfl) σ) (pa_cons (pv 4) (pa_cons (pv 6) pa_nil))) pa_nil))) (pg_sub (pv 2) (pe_op op_addA (pv 3) (pv 5)) set_list))))))
  (pss_one (ps_ret (pe_callD (E := fun _ => E) c_trimmed (hr.mono (by decide)) (by rfl) (fun σ => passAt (takes_of rfl rfl rfl rfl) σ) (pa_cons (pv 2) pa_nil)))))),
   run_def (K := K) (ca := ca) (E := E) (p := 2) (k := 5) (g := g_product_of) rfl (cs_seq (cs_asgO (i := 2) (cf_rep (cf_lst (ca_cons (ce_tup (ca_cons ce_int (ca_cons ce_int ca_nil))) ca_nil)) (ce_op od_add (ce_cb bd_len (ca_cons ce_var ca_nil)) (ce_cb bd_len (ca_cons ce_var ca_nil)))))
  (cs_seq (cs_for (ci_enum (ca_cons ce_var ca_nil)) (tgs_pair (i := 3) (j := 4)) (cs_for (ci_enum (ca_cons ce_var ca_nil)) (tgs_pair (i := 5) (j := 6)) (cs_set (i := 2) (ce_op od_add ce_var ce_var) (ce_call (ca_cons (ce_op od_ix ce_var (ce_op od_add ce_var ce_var)) (ca_cons (ce_call (ca_cons ce_var (ca_cons ce_var ca_nil))) ca_nil))))))
  (cs_ret (ce_call (ca_cons ce_var ca_nil))))) h⟩
abbrev s_value_at : Stmt := topS 22
theorem sc_value_at : FnScope ["row", "point", "result", "entry"] ["row", "point"] (defScope s_value_at) := ⟨rfl, rfl, rfl, by decide +kernel, rfl, by decide +kernel, by decide +kernel⟩
theorem ok_value_at {f : Addr} {fd : FuncData} (F : Fun K "value_at" "value_at" s_value_at f fd) (b : Binds K fd ["row", "point"] []) (g : mg "value_at" = some (.ref f)) (c_plus : OkD P w K mg base ca "plus" ["one", "other"] 3 m_plus) (c_times : OkD P w K mg base ca "times" ["one", "other"] 3 m_times) :
    OkD P w K mg base ca "value_at" ["row", "point"] 4 m_value_at := by
  refine ⟨f, fd, g, F.kp, b, F.okX sc_value_at spD_len (fun cdv A outer s H vs Q E hr h => ?_)⟩
  exact ⟨_, (pss_cons (ps_set (i := 2) sc_value_at.nd rfl (Or.inl rfl) (pe_tup (pa_cons pe_int (pa_cons pe_int pa_nil))))
  (pss_cons (ps_for (passes_of rfl) rfl (pi_seqA (pe_revA (pv 0))) (pg_name (i := 3) sc_value_at.nd rfl (Or.inl rfl)) (pss_one (ps_set (i := 2) sc_value_at.nd rfl (Or.inl rfl) (pe_callD (E := fun _ => E) c_plus (hr.mono (by decide)) (by rfl) (fun σ => passAt (takes_of rfl rfl rfl rfl) σ) (pa_cons (pe_callD (E := fun _ => E) c_times (hr.mono (by decide)) (by rfl) (fun σ => passAt (takes_of rfl rfl rfl rfl) σ) (pa_cons (pv 2) (pa_cons (pv 1) pa_nil))) (pa_cons (pv 3) pa_nil))))))
  (pss_one (ps_ret (pv 2))))),
   run_def (K := K) (ca := ca) (E := E) (p := 2) (k := 2) (g := g_value_at) rfl (cs_seq (cs_asg (i := 2) (ce_tup (ca_cons ce_int (ca_cons ce_int ca_nil))))
  (cs_seq (cs_for (ci_seq (ce_rev ce_var)) (tgs_name (i := 3)) (cs_asg (i := 2) (ce_call (ca_cons (ce_call (ca_cons ce_var (ca_cons ce_var ca_nil))) (ca_cons ce_var ca_nil)))))
  (cs_ret ce_var))) h⟩
abbrev s_power_of : Stmt := topS 23
theorem sc_power_of : FnScope ["row", "exponent", "result", "time"] ["row", "exponent"] (defScope s_power_of) := ⟨rfl, rfl, rfl, by decide +kernel, rfl, by decide +kernel, by decide +kernel⟩
theorem ok_power_of {f : Addr} {fd : FuncData} (F : Fun K "power_of" "power_of" s_power_of f fd) (b : Binds K fd ["row", "exponent"] []) (g : mg "power_of" = some (.ref f)) (z_range : mg "range" = none) (c_product_of : OkD P w K mg base ca "product_of" ["one", "other"] 4 m_product_of) :
    OkD P w K mg base ca "power_of" ["row", "exponent"] 5 m_power_of := by
  refine ⟨f, fd, g, F.kp, b, F.okX sc_power_of spD_len (fun cdv A outer s H vs Q E hr h => ?_)⟩
  exact ⟨_, (pss_cons (ps_set (i := 2) sc_power_of.nd rfl (Or.inl rfl) (pe_tup (pa_cons (pe_tup (pa_cons pe_int (pa_cons pe_int pa_nil))) pa_nil)))
  (pss_cons (ps_for (passes_of rfl) rfl (pi_range1 (by rfl) z_range (pa_cons (pv 1) pa_nil)) (pg_name (i := 3) sc_power_of.nd rfl (Or.inl rfl)) (pss_one (ps_set (i := 2) sc_power_of.nd rfl (Or.inl rfl) (pe_callD (E := fun _ => E) c_product_of (hr.mono (by decide)) (by rfl) (fun σ => passAt (takes_of rfl rfl rfl rfl) σ) (pa_cons (pv 2) (pa_cons (pv 0) pa_nil))))))
  (pss_one (ps_ret (pv 2))))),
   run_def (K := K) (ca := ca) (E := E) (p := 2) (k := 2) (g := g_power_of) rfl (cs_seq (cs_asg (i := 2) (ce_tup (ca_cons (ce_tup (ca_cons ce_int (ca_cons ce_int ca_nil))) ca_nil)))
  (cs_seq (cs_for (ci_rng1 (ca_cons ce_var ca_nil)) (tgs_name (i := 3)) (cs_asg (i := 2) (ce_call (ca_cons ce_var (ca_cons ce_var ca_nil)))))
  (cs_ret ce_var))) h⟩
abbrev s_choices : Stmt := topS 24
theorem sc_choices : FnScope ["n", "k", "result", "step"] ["n", "k"] (defScope s_choices) := ⟨rfl, rfl, rfl, by decide +kernel, rfl, by decide +kernel, by decide +kernel⟩
theorem ok_choices {f : Addr} {fd : FuncData} (F : Fun K "choices" "choices" s_choices f fd) (b : Binds K fd ["n", "k"] []) (g : mg "choices" = some (.ref f)) (z_range : mg "range" = none) :
    OkD P w K mg base ca "choices" ["n", "k"] 1 m_choices := by
  refine ⟨f, fd, g, F.kp, b, F.okX sc_choices spD_len (fun cdv A outer s H vs Q E hr h => ?_)⟩
  exact ⟨_, (pss_cons (ps_set (i := 2) sc_choices.nd rfl (Or.inl rfl) pe_int)
  (pss_cons (ps_for (passes_of rfl) rfl (pi_range1 (by rfl) z_range (pa_cons (pv 1) pa_nil)) (pg_name (i := 3) sc_choices.nd rfl (Or.inl rfl)) (pss_one (ps_set (i := 2) sc_choices.nd rfl (Or.inl rfl) (pe_op op_fdivW (pe_op op_mulA (pv 2) (pe_op op_sub (pv 0) (pv 3))) (pe_op op_addA (pv 3) pe_int)))))
  (pss_one (ps_ret (pv 2))))),
   run_def (K := K) (ca := ca) (E := E) (p := 2) (k := 2) (g := g_choices) rfl (cs_seq (cs_asg (i := 2) ce_int)
  (cs_seq (cs_for (ci_rng1 (ca_cons ce_var ca_nil)) (tgs_name (i := 3)) (cs_asg (i := 2) (ce_op od_fdiv (ce_op od_mul ce_var (ce_op od_sub ce_var ce_var)) (ce_op od_add ce_var ce_int))))
  (cs_ret ce_var))) h⟩
abbrev s_chance_of : Stmt := topS 25
theorem sc_chance_of : FnScope ["trials", "successes", "hits", "misses"] ["trials", "successes"] (defScope s_chance_of) := ⟨rfl, rfl, rfl, by decide +kernel, rfl, by decide +kernel, by decide +kernel⟩
theorem ok_chance_of {f : Addr} {fd : FuncData} (F : Fun K "chance_of" "chance_of" s_chance_of f fd) (b : Binds K fd ["trials", "successes"] []) (g : mg "chance_of" = some (.ref f)) (c_choices : OkD P w K mg base ca "choices" ["n", "k"] 1 m_choices) (c_multiple_of : OkD P w K mg base ca "multiple_of" ["factor", "row"] 4 m_multiple_of) (c_power_of : OkD P w K mg base ca "power_of" ["row", "exponent"] 5 m_power_of) (c_product_of : OkD P w K mg base ca "product_of" ["one", "other"] 4 m_product_of) :
    OkD P w K mg base ca "chance_of" ["trials", "successes"] 6 m_chance_of := by
  refine ⟨f, fd, g, F.kp, b, F.okX sc_chance_of spD_len (fun cdv A outer s H vs Q E hr h => ?_)⟩
  exact ⟨_, (pss_cons (ps_set (i := 2) sc_chance_of.nd rfl (Or.inl rfl) (pe_callD (E := fun _ => E) c_power_of (hr.mono (by decide)) (by rfl) (fun σ => passAt (takes_of rfl rfl rfl rfl) σ) (pa_cons (pe_tup (pa_cons (pe_tup (pa_cons pe_int (pa_cons pe_int pa_nil))) (pa_cons (pe_tup (pa_cons pe_int (pa_cons pe_int pa_nil))) pa_nil))) (pa_cons (pv 1) pa_nil))))
  (pss_cons (ps_set (i := 3) sc_chance_of.nd rfl (Or.inl rfl) (pe_callD (E := fun _ => E) c_power_of (hr.mono (by decide)) (by rfl) (fun σ => passAt (takes_of rfl rfl rfl rfl) σ) (pa_cons (pe_tup (pa_cons (pe_tup (pa_cons pe_int (pa_cons pe_int pa_nil))) (pa_cons (pe_tup (pa_cons (pe_un un_neg pe_int) (pa_cons pe_int pa_nil))) pa_nil))) (pa_cons (pe_op op_sub (pv 0) (pv 1)) pa_nil))))
  (pss_one (ps_ret (pe_callD (E := fun _ => E) c_multiple_of (hr.mono (by decide)) (by rfl) (fun σ => passAt (takes_of rfl rfl rfl rfl) σ) (pa_cons (pe_tup (pa_cons (pe_callD (E := fun _ => E) c_choices (hr.mono (by decide)) (by rfl) (fun σ => passAt (takes_of rfl rfl rfl rfl) σ) (pa_cons (pv 0) (pa_cons (pv 1) pa_nil))) (pa_cons pe_int pa_nil))) (pa_cons (pe_callD (E := fun _ => E) c_product_of (hr.mono (by decide)) (by rfl) (fun σ => passAt (takes_of rfl rfl rfl rfl) σ) (pa_cons (pv 2) (pa_cons (pv 3) pa_nil))) pa_nil))))))),
   run_def (K := K) (ca := ca) (E := E) (p := 2) (k := 2) (g := g_chance_of) rfl (cs_seq (cs_asg (i := 2) (ce_call (ca_cons (ce_tup (ca_cons (ce_tup (ca_cons ce_int (ca_cons ce_int ca_nil))) (ca_cons (ce_tup (ca_cons ce_int (ca_cons ce_int ca_nil))) ca_nil))) (ca_cons ce_var ca_nil))))
  (cs_seq (cs_asg (i := 3) (ce_call (ca_cons (ce_tup (ca_cons (ce_tup (ca_cons ce_int (ca_cons ce_int ca_nil))) (ca_cons (ce_tup (ca_cons (ce_un ud_neg ce_int) (ca_cons ce_int ca_nil))) ca_nil))) (ca_cons (ce_op od_sub ce_var ce_var) ca_nil))))
  (cs_ret (ce_call (ca_cons (ce_tup (ca_cons (ce_call (ca_cons ce_var (ca_cons ce_var ca_nil))) (ca_cons ce_int ca_nil))) (ca_cons (ce_call (ca_cons ce_var (ca_cons ce_var ca_nil))) ca_nil)))))) h⟩
abbrev s_check_trials : Stmt := topS 28
theorem sc_check_trials : FnScope ["trials"] ["trials"] (defScope s_check_trials) := ⟨rfl, rfl, rfl, by decide +kernel, rfl, by decide +kernel, by decide +kernel⟩
theorem ok_check_trials {f : Addr} {fd : FuncData} (F : Fun K "check_trials" "check_trials" s_check_trials f fd) (b : Binds K fd ["trials"] []) (g : mg "check_trials" = some (.ref f)) {t_MAX_TRIALS : Tok} (k_MAX_TRIALS : mg "MAX_TRIALS" = some (.int 6 t_MAX_TRIALS)) (x_InvalidTrials : ExF K mg ca "InvalidTrials") (c_in_range : OkD P w K mg base ca "in_range" ["value", "low", "high"] 1 m_in_range) :
    OkD P w K mg base ca "check_trials" ["trials"] 2 m_check_trials := by
  refine ⟨f, fd, g, F.kp, b, F.okX sc_check_trials spD_len (fun cdv A outer s H vs Q E hr h => ?_)⟩
  exact ⟨_, (pss_one (ps_if (pt_not (pt_truth (pe_callD (E := fun _ => E) c_in_range (hr.mono (by decide)) (by rfl) (fun σ => passAt (takes_of rfl rfl rfl rfl) σ) (pa_cons (pv 0) (pa_cons pe_int (pa_cons (pe_glob (v := .int 6) (by rfl) k_MAX_TRIALS ⟨_, rfl⟩) pa_nil)))) (by intro _; rfl))) (pss_one (ps_raise rfl (takes_of rfl rfl rfl rfl) (pmk_own PySem.F.excBase_ValueError x_InvalidTrials.x x_InvalidTrials.g x_InvalidTrials.k (raises_own x_InvalidTrials.b x_InvalidTrials.t) (by rfl)))) pss_nil)),
   run_def (K := K) (ca := ca) (E := E) (p := 1) (k := 0) (g := g_check_trials) rfl (cs_if (ct_not (ct_truth (ce_call (ca_cons ce_var (ca_cons ce_int (ca_cons ce_int ca_nil)))))) (cs_raise (c := "InvalidTrials") rfl) cs_nil) h⟩
abbrev s_are_values : Stmt := topS 29
theorem sc_are_values : FnScope ["value", "count", "one"] ["value", "count"] (defScope s_are_values) := ⟨rfl, rfl, rfl, by decide +kernel, rfl, by decide +kernel, by decide +kernel⟩
theorem ok_are_values {f : Addr} {fd : FuncData} (F : Fun K "are_values" "are_values" s_are_values f fd) (b : Binds K fd ["value", "count"] []) (g : mg "are_values" = some (.ref f)) (z_isinstance : mg "isinstance" = none) (z_len : mg "len" = none) (z_tuple : mg "tuple" = none) (c_is_fraction : OkD P w K mg base ca "is_fraction" ["value"] 2 m_is_fraction) :
    OkD P w K mg base ca "are_values" ["value", "count"] 3 m_are_values := by
  refine ⟨f, fd, g, F.kp, b, F.okX sc_are_values spD_len (fun cdv A outer s H vs Q E hr h => ?_)⟩
  exact ⟨_, (pss_one (ps_ret (pe_andT (pe_callB call_isi (by rfl) z_isinstance (by decide +kernel) (pa_cons (pv 0) (pa_cons (pe_bltn (v := .ty "tuple") (by rfl) z_tuple (by decide +kernel) rfl) pa_nil))) (pe_andT (pe_cmpR (op_eqD hr.units) (pe_callB call_lenA (by rfl) z_len (by decide +kernel) (pa_cons (pv 0) pa_nil)) (pv 1) (nomark _)) (pe_one (pe_notT (pe_lc (own := [("one", 2)]) (by rfl) sc_are_values.nd (pi_seqA (pv 0)) (blkOk_by (own := [("one", 2)]) (N := ["value", "count", "one"]) (sc := defScope s_are_values) (by decide +kernel)) (fun _ _ _ _ _ => by exact (pg_name (i := 2) sc_are_values.nd rfl (Or.inl rfl))) (fun _ _ _ _ _ => by exact (pts_one (pt_not (pt_truth (pe_callD (E := E0') c_is_fraction (hr.mono (by decide)) (by rfl) passN (pa_cons (pv 2) pa_nil)) (by intro _; rfl))))) (fun _ _ _ _ _ => by exact (pv 2))))))))),
   run_def (K := K) (ca := ca) (E := E) (p := 2) (k := 1) (g := g_are_values) rfl (cs_ret (ce_and (ce_isi ce_var) (ce_and (ce_op od_eq (ce_cb bd_len (ca_cons ce_var ca_nil)) ce_var) (ce_not (ce_lc (ci_seq ce_var) tg_name (by decide) (ct_not (ct_truth (ce_call (ca_cons ce_var ca_nil)))) ce_var))))) h⟩
abbrev s_check_estimate : Stmt := topS 30
theorem sc_check_estimate : FnScope ["trials", "estimate"] ["trials", "estimate"] (defScope s_check_estimate) := ⟨rfl, rfl, rfl, by decide +kernel, rfl, by decide +kernel, by decide +kernel⟩
theorem ok_check_estimate {f : Addr} {fd : FuncData} (F : Fun K "check_estimate" "check_estimate" s_check_estimate f fd) (b : Binds K fd ["trials", "estimate"] []) (g : mg "check_estimate" = some (.ref f)) (x_InvalidEstimate : ExF K mg ca "InvalidEstimate") (c_are_values : OkD P w K mg base ca "are_values" ["value", "count"] 3 m_are_values) (c_check_trials : OkD P w K mg base ca "check_trials" ["trials"] 2 m_check_trials) :
    OkD P w K mg base ca "check_estimate" ["trials", "estimate"] 4 m_check_estimate := by
  refine ⟨f, fd, g, F.kp, b, F.okX sc_check_estimate spD_len (fun cdv A outer s H vs Q E hr h => ?_)⟩
  exact ⟨_, (pss_cons (ps_expr (pe_callD (E := fun _ => E) c_check_trials (hr.mono (by decide)) (by rfl) (fun σ => passAt (takes_of rfl rfl rfl rfl) σ) (pa_cons (pv 0) pa_nil)))
  (pss_one (ps_if (pt_not (pt_truth (pe_callD (E := fun _ => E) c_are_values (hr.mono (by decide)) (by rfl) (fun σ => passAt (takes_of rfl rfl rfl rfl) σ) (pa_cons (pv 1) (pa_cons (pe_op op_addA (pv 0) pe_int) pa_nil))) (by intro _; rfl))) (pss_one (ps_raise rfl (takes_of rfl rfl rfl rfl) (pmk_own PySem.F.excBase_ValueError x_InvalidEstimate.x x_InvalidEstimate.g x_InvalidEstimate.k (raises_own x_InvalidEstimate.b x_InvalidEstimate.t) (by rfl)))) pss_nil))),
   run_def (K := K) (ca := ca) (E := E) (p := 2) (k := 0) (g := g_check_estimate) rfl (cs_seq (cs_exp (ce_call (ca_cons ce_var ca_nil)))
  (cs_if (ct_not (ct_truth (ce_call (ca_cons ce_var (ca_cons (ce_op od_add ce_var ce_int) ca_nil))))) (cs_raise (c := "InvalidEstimate") rfl) cs_nil)) h⟩
abbrev s_average_of : Stmt := topS 31
theorem sc_average_of : FnScope ["trials", "estimate", "result", "successes", "one"] ["trials", "estimate"] (defScope s_average_of) := ⟨rfl, rfl, rfl, by decide +kernel, rfl, by decide +kernel, by decide +kernel⟩
theorem ok_average_of {f : Addr} {fd : FuncData} (F : Fun K "average_of" "average_of" s_average_of f fd) (b : Binds K fd ["trials", "estimate"] []) (g : mg "average_of" = some (.ref f)) (z_enumerate : mg "enumerate" = none) (c_chance_of : OkD P w K mg base ca "chance_of" ["trials", "successes"] 6 m_chance_of) (c_multiple_of : OkD P w K mg base ca "multiple_of" ["factor", "row"] 4 m_multiple_of) (c_sum_of : OkD P w K mg base ca "sum_of" ["one", "other"] 4 m_sum_of) :
    OkD P w K mg base ca "average_of" ["trials", "estimate"] 7 m_average_of := by
  refine ⟨f, fd, g, F.kp, b, F.okX sc_average_of spD_len (fun cdv A outer s H vs Q E hr h => ?_)⟩
  exact ⟨_, (pss_cons (ps_set (i := 2) sc_average_of.nd rfl (Or.inl rfl) (pe_tup pa_nil))
  (pss_cons (ps_for (passes_of rfl) rfl (pi_enumA (by rfl) z_enumerate (pa_cons (pv 1) pa_nil)) (pg_tup rfl (pgs_cons (pg_name (i := 3) sc_average_of.nd rfl (Or.inl rfl)) (pgs_cons (pg_name (i := 4) sc_average_of.nd rfl (Or.inl rfl)) pgs_nil))) (pss_one (ps_set (i := 2) sc_average_of.nd rfl (Or.inl rfl) (pe_callD (E := fun _ => E) c_sum_of (hr.mono (by decide)) (by rfl) (fun σ => passAt (takes_of rfl rfl rfl rfl) σ) (pa_cons (pv 2) (pa_cons (pe_callD (E := fun _ => E) c_multiple_of (hr.mono (by decide)) (by rfl) (fun σ => passAt (takes_of rfl rfl rfl rfl) σ) (pa_cons (pv 4) (pa_cons (pe_callD (E := fun _ => E) c_chance_of (hr.mono (by decide)) (by rfl) (fun σ => passAt (takes_of rfl rfl rfl rfl) σ) (pa_cons (pv 0) (pa_cons (pv 3) pa_nil))) pa_nil))) pa_nil))))))
  (pss_one (ps_ret (pv 2))))),
   run_def (K := K) (ca := ca) (E := E) (p := 2) (k := 3) (g := g_average_of) rfl (cs_seq (cs_asg (i := 2) (ce_tup ca_nil))
  (cs_seq (cs_for (ci_enum (ca_cons ce_var ca_nil)) (tgs_pair (i := 3) (j := 4)) (cs_asg (i := 2) (ce_call (ca_cons ce_var (ca_cons (ce_call (ca_cons ce_var (ca_cons (ce_call (ca_cons ce_var (ca_cons ce_var ca_nil))) ca_nil))) ca_nil)))))
  (cs_ret ce_var))) h⟩
abbrev s_falling : Stmt := topS 32
theorem sc_falling : FnScope ["number", "steps", "result", "step"] ["number", "steps"] (defScope s_falling) := ⟨rfl, rfl, rfl, by decide +kernel, rfl, by decide +kernel, by decide +kernel⟩
theorem ok_falling {f : Addr} {fd : FuncData} (F : Fun K "falling" "falling" s_falling f fd) (b : Binds K fd ["number", "steps"] []) (g : mg "falling" = some (.ref f)) (z_range : mg "range" = none) :
    OkD P w K mg base ca "falling" ["number", "steps"] 1 m_falling := by
  refine ⟨f, fd, g, F.kp, b, F.okX sc_falling spD_len (fun cdv A outer s H vs Q E hr h => ?_)⟩
  exact ⟨_, (pss_cons (ps_set (i := 2) sc_falling.nd rfl (Or.inl rfl) pe_int)
  (pss_cons (ps_for (passes_of rfl) rfl (pi_range1 (by rfl) z_range (pa_cons (pv 1) pa_nil)) (pg_name (i := 3) sc_falling.nd rfl (Or.inl rfl)) (pss_one (ps_aug (i := 2) sc_falling.nd rfl (Or.inl rfl) (pe_op op_sub (pv 0) (pv 3)) iop_mulA)))
  (pss_one (ps_ret (pv 2))))),
   run_def (K := K) (ca := ca) (E := E) (p := 2) (k := 2) (g := g_falling) rfl (cs_seq (cs_asg (i := 2) ce_int)
  (cs_seq (cs_for (ci_rng1 (ca_cons ce_var ca_nil)) (tgs_name (i := 3)) (cs_aug (i := 2) (ce_op od_sub ce_var ce_var) od_mul))
  (cs_ret ce_var))) h⟩
abbrev s_honest_of : Stmt := topS 33
theorem sc_honest_of : FnScope ["trials", "row", "result", "successes", "parts", "exponent", "entry"] ["trials", "row"] (defScope s_honest_of) := ⟨rfl, rfl, rfl, by decide +kernel, rfl, by decide +kernel, by decide +kernel⟩
theorem ok_honest_of {f : Addr} {fd : FuncData} (F : Fun K "honest_of" "honest_of" s_honest_of f fd) (b : Binds K fd ["trials", "row"] []) (g : mg "honest_of" = some (.ref f)) (z_enumerate : mg "enumerate" = none) (z_range : mg "range" = none) (z_tuple : mg "tuple" = none) (c_falling : OkD P w K mg base ca "falling" ["number", "steps"] 1 m_falling) (c_reduced : OkD P w K mg base ca "reduced" ["above", "below"] 2 m_reduced) (c_times : OkD P w K mg base ca "times" ["one", "other"] 3 m_times) (c_total : OkD P w K mg base ca "total" ["some"] 4 m_total) :
    OkD P w K mg base ca "honest_of" ["trials", "row"] 5 m_honest_of := by
  refine ⟨f, fd, g, F.kp, b, F.okX sc_honest_of spD_len (fun cdv A outer s H vs Q E hr h => ?_)⟩
  exact ⟨_, (pss_cons (ps_set (i := 2) sc_honest_of.nd rfl (Or.inl rfl) (pe_lst pa_nil))
  (pss_cons (ps_for (passes_of rfl) rfl (pi_range1 (by rfl) z_range (pa_cons (pe_op op_addA (pv 0) pe_int) pa_nil)) (pg_name (i := 3) sc_honest_of.nd rfl (Or.inl rfl)) (pss_cons (ps_set (i := 4) sc_honest_of.nd rfl (Or.inl rfl) (pe_lst pa_nil))
  (pss_cons (ps_for (passes_of rfl) rfl (pi_enumA (by rfl) z_enumerate (pa_cons (pv 1) pa_nil)) (pg_tup rfl (pgs_cons (pg_name (i := 5) sc_honest_of.nd rfl (Or.inl rfl)) (pgs_cons (pg_name (i := 6) sc_honest_of.nd rfl (Or.inl rfl)) pgs_nil))) (pss_one (ps_expr (pe_bm PySem.F.plainAttrs_list PySem.F.slot_list_append PySem.F.type_list_append mt_append (pv 4) (pa_cons (pe_callD (E := fun _ => E) c_times (hr.mono (by decide)) (by rfl) (fun σ => passAt (takes_of rfl rfl rfl rfl) σ) (pa_cons (pv 6) (pa_cons (pe_callD (E := fun _ => E) c_reduced (hr.mono (by decide)) (by rfl) (fun σ => passAt (takes_of rfl rfl rfl rfl) σ) (pa_cons (pe_callD (E := fun _ => E) c_falling (hr.mono (by decide)) (by rfl) (fun σ => passAt (takes_of rfl rfl rfl rfl) σ) (pa_cons (pv 3) (pa_cons (pv 5) pa_nil))) (pa_cons (pe_callD (E := fun _ => E) c_falling (hr.mono (by decide)) (by rfl) (fun σ => passAt (takes_of rfl rfl rfl rfl) σ) (pa_cons (pv 0) (pa_cons (pv 5) pa_nil))) pa_nil))) pa_nil))) pa_nil)))))
  (pss_one (ps_expr (pe_bm PySem.F.plainAttrs_list PySem.F.slot_list_append PySem.F.type_list_append mt_append (pv 2) (pa_cons (pe_callD (E := fun _ => E) c_total (hr.mono (by decide)) (by rfl) (fun σ => passAt (takes_of rfl rfl rfl rfl) σ) (pa_cons (pv 4) pa_nil)) pa_nil)))))))
  (pss_one (ps_ret (pe_callTy call_tuple_of (by rfl) z_tuple (by decide +kernel) (pa_cons (pv 2) pa_nil)))))),
   run_def (K := K) (ca := ca) (E := E) (p := 2) (k := 5) (g := g_honest_of) rfl (cs_seq (cs_asgO (i := 2) (cf_lst ca_nil))
  (cs_seq (cs_for (ci_rng1 (ca_cons (ce_op od_add ce_var ce_int) ca_nil)) (tgs_name (i := 3)) (cs_seq (cs_asgO (i := 4) (cf_lst ca_nil))
  (cs_seq (cs_for (ci_enum (ca_cons ce_var ca_nil)) (tgs_pair (i := 5) (j := 6)) (cs_app (i := 4) (ce_call (ca_cons ce_var (ca_cons (ce_call (ca_cons (ce_call (ca_cons ce_var (ca_cons ce_var ca_nil))) (ca_cons (ce_call (ca_cons ce_var (ca_cons ce_var ca_nil))) ca_nil))) ca_nil)))))
  (cs_appR (i := 2) (ce_call (ca_cons ce_var ca_nil))))))
  (cs_ret (ce_cb bd_tup (ca_cons ce_var ca_nil))))) h⟩
abbrev s_is_chance : Stmt := topS 34
theorem sc_is_chance : FnScope ["value"] ["value"] (defScope s_is_chance) := ⟨rfl, rfl, rfl, by decide +kernel, rfl, by decide +kernel, by decide +kernel⟩
theorem ok_is_chance {f : Addr} {fd : FuncData} (F : Fun K "is_chance" "is_chance" s_is_chance f fd) (b : Binds K fd ["value"] []) (g : mg "is_chance" = some (.ref f)) (c_is_fraction : OkD P w K mg base ca "is_fraction" ["value"] 2 m_is_fraction) :
    OkD P w K mg base ca "is_chance" ["value"] 3 m_is_chance := by
  refine ⟨f, fd, g, F.kp, b, F.okX sc_is_chance spD_len (fun cdv A outer s H vs Q E hr h => ?_)⟩
  exact ⟨_, (pss_one (ps_ret (pe_andT (pe_callD (E := fun _ => E) c_is_fraction (hr.mono (by decide)) (by rfl) (fun σ => passAt (takes_of rfl rfl rfl rfl) σ) (pa_cons (pv 0) pa_nil)) (pe_one (pe_chain op_le op_le pe_int (pe_ix ix_A (pv 0) pe_int (fun _ _ => rfl)) (pe_ix ix_A (pv 0) pe_int (fun _ _ => rfl))))))),
   run_def (K := K) (ca := ca) (E := E) (p := 1) (k := 0) (g := g_is_chance) rfl (cs_ret (ce_and (ce_call (ca_cons ce_var ca_nil)) (ce_chain od_cmp od_cmp ce_int (ce_op od_ix ce_var ce_int) (ce_op od_ix ce_var ce_int)))) h⟩
abbrev s_check_chance : Stmt := topS 35
theorem sc_check_chance : FnScope ["chance"] ["chance"] (defScope s_check_chance) := ⟨rfl, rfl, rfl, by decide +kernel, rfl, by decide +kernel, by decide +kernel⟩
theorem ok_check_chance {f : Addr} {fd : FuncData} (F : Fun K "check_chance" "check_chance" s_check_chance f fd) (b : Binds K fd ["chance"] []) (g : mg "check_chance" = some (.ref f)) (x_InvalidNumber : ExF K mg ca "InvalidNumber") (c_is_chance : OkD P w K mg base ca "is_chance" ["value"] 3 m_is_chance) :
    OkD P w K mg base ca "check_chance" ["chance"] 4 m_check_chance := by
  refine ⟨f, fd, g, F.kp, b, F.okX sc_check_chance spD_len (fun cdv A outer s H vs Q E hr h => ?_)⟩
  exact ⟨_, (pss_one (ps_if (pt_not (pt_truth (pe_callD (E := fun _ => E) c_is_chance (hr.mono (by decide)) (by rfl) (fun σ => passAt (takes_of rfl rfl rfl rfl) σ) (pa_cons (pv 0) pa_nil)) (by intro _; rfl))) (pss_one (ps_raise rfl (takes_of rfl rfl rfl rfl) (pmk_own PySem.F.excBase_ValueError x_InvalidNumber.x x_InvalidNumber.g x_InvalidNumber.k (raises_own x_InvalidNumber.b x_InvalidNumber.t) (by rfl)))) pss_nil)),
   run_def (K := K) (ca := ca) (E := E) (p := 1) (k := 0) (g := g_check_chance) rfl (cs_if (ct_not (ct_truth (ce_call (ca_cons ce_var ca_nil)))) (cs_raise (c := "InvalidNumber") rfl) cs_nil) h⟩
abbrev s_average_at : Stmt := topS 36
theorem sc_average_at : FnScope ["trials", "estimate", "chance"] ["trials", "estimate", "chance"] (defScope s_average_at) := ⟨rfl, rfl, rfl, by decide +kernel, rfl, by decide +kernel, by decide +kernel⟩
theorem ok_average_at {f : Addr} {fd : FuncData} (F : Fun K "average_at" "average_at" s_average_at f fd) (b : Binds K fd ["trials", "estimate", "chance"] []) (g : mg "average_at" = some (.ref f)) (c_average_of : OkD P w K mg base ca "average_of" ["trials", "estimate"] 7 m_average_of) (c_check_chance : OkD P w K mg base ca "check_chance" ["chance"] 4 m_check_chance) (c_check_estimate : OkD P w K mg base ca "check_estimate" ["trials", "estimate"] 4 m_check_estimate) (c_value_at : OkD P w K mg base ca "value_at" ["row", "point"] 4 m_value_at) :
    OkD P w K mg base ca "average_at" ["trials", "estimate", "chance"] 8 m_average_at := by
  refine ⟨f, fd, g, F.kp, b, F.okX sc_average_at spD_len (fun cdv A outer s H vs Q E hr h => ?_)⟩
  exact ⟨_, (pss_cons (ps_expr (pe_callD (E := fun _ => E) c_check_estimate (hr.mono (by decide)) (by rfl) (fun σ => passAt (takes_of rfl rfl rfl rfl) σ) (pa_cons (pv 0) (pa_cons (pv 1) pa_nil))))
  (pss_cons (ps_expr (pe_callD (E := fun _ => E) c_check_chance (hr.mono (by decide)) (by rfl) (fun σ => passAt (takes_of rfl rfl rfl rfl) σ) (pa_cons (pv 2) pa_nil)))
  (pss_one (ps_ret (pe_callD (E := fun _ => E) c_value_at (hr.mono (by decide)) (by rfl) (fun σ => passAt (takes_of rfl rfl rfl rfl) σ) (pa_cons (pe_callD (E := fun _ => E) c_average_of (hr.mono (by decide)) (by rfl) (fun σ => passAt (takes_of rfl rfl rfl rfl) σ) (pa_cons (pv 0) (pa_cons (pv 1) pa_nil))) (pa_cons (pv 2) pa_nil))))))),
   run_def (K := K) (ca := ca) (E := E) (p := 3) (k := 0) (g := g_average_at) rfl (cs_seq (cs_exp (ce_call (ca_cons ce_var (ca_cons ce_var ca_nil))))
  (cs_seq (cs_exp (ce_call (ca_cons ce_var ca_nil)))
  (cs_ret (ce_call (ca_cons (ce_call (ca_cons ce_var (ca_cons ce_var ca_nil))) (ca_cons ce_var ca_nil)))))) h⟩
abbrev s_check_points : Stmt := topS 38
theorem sc_check_points : FnScope ["trials", "points", "point", "one", "other"] ["trials", "points"] (defScope s_check_points) := ⟨rfl, rfl, rfl, by decide +kernel, rfl, by decide +kernel, by decide +kernel⟩
theorem ok_check_points {f : Addr} {fd : FuncData} (F : Fun K "check_points" "check_points" s_check_points f fd) (b : Binds K fd ["trials", "points"] []) (g : mg "check_points" = some (.ref f)) (z_isinstance : mg "isinstance" = none) (z_len : mg "len" = none) (z_tuple : mg "tuple" = none) (z_zip : mg "zip" = none) (x_InvalidPoints : ExF K mg ca "InvalidPoints") (c_check_trials : OkD P w K mg base ca "check_trials" ["trials"] 2 m_check_trials) (c_is_chance : OkD P w K mg base ca "is_chance" ["value"] 3 m_is_chance) (c_is_fraction : OkD P w K mg base ca "is_fraction" ["value"] 2 m_is_fraction) :
    OkD P w K mg base ca "check_points" ["trials", "points"] 4 m_check_points := by
  refine ⟨f, fd, g, F.kp, b, F.okX sc_check_points spD_len (fun cdv A outer s H vs Q E hr h => ?_)⟩
  exact ⟨_, (pss_cons (ps_expr (pe_callD (E := fun _ => E) c_check_trials (hr.mono (by decide)) (by rfl) (fun σ => passAt (takes_of rfl rfl rfl rfl) σ) (pa_cons (pv 0) pa_nil)))
  (pss_cons (ps_if (PW.pt (pw_or (pt_not (pt_truth (pe_callB call_isi (by rfl) z_isinstance (by decide +kernel) (pa_cons (pv 1) (pa_cons (pe_bltn (v := .ty "tuple") (by rfl) z_tuple (by decide +kernel) rfl) pa_nil))) (by intro _; rfl))) (pw_or1 (pt_cmpR (op_neD hr.units) (pe_callB call_lenA (by rfl) z_len (by decide +kernel) (pa_cons (pv 1) pa_nil)) (pe_op op_addA (pv 0) pe_int) (nomark _))))) (pss_one (ps_raise rfl (takes_of rfl rfl rfl rfl) (pmk_own PySem.F.excBase_ValueError x_InvalidPoints.x x_InvalidPoints.g x_InvalidPoints.k (raises_own x_InvalidPoints.b x_InvalidPoints.t) (by rfl)))) pss_nil)
  (pss_cons (ps_for (passes_of rfl) rfl (pi_seqA (pv 1)) (pg_name (i := 2) sc_check_points.nd rfl (Or.inl rfl)) (pss_one (ps_if (PW.pt (pw_or (pt_not (pt_truth (pe_callB call_isi (by rfl) z_isinstance (by decide +kernel) (pa_cons (pv 2) (pa_cons (pe_bltn (v := .ty "tuple") (by rfl) z_tuple (by decide +kernel) rfl) pa_nil))) (by intro _; rfl))) (pw_or (pt_cmpR (op_neD hr.units) (pe_callB call_lenA (by rfl) z_len (by decide +kernel) (pa_cons (pv 2) pa_nil)) pe_int (nomark _)) (pw_or (pt_not (pt_truth (pe_callD (E := fun _ => E) c_is_chance (hr.mono (by decide)) (by rfl) (fun σ => passAt (takes_of rfl rfl rfl rfl) σ) (pa_cons (pe_ix ix_A (pv 2) pe_int (fun _ _ => rfl)) pa_nil)) (by intro _; rfl))) (pw_or1 (pt_not (pt_truth (pe_callD (E := fun _ => E) c_is_fraction (hr.mono (by decide)) (by rfl) (fun σ => passAt (takes_of rfl rfl rfl rfl) σ) (pa_cons (pe_ix ix_A (pv 2) pe_int (fun _ _ => rfl)) pa_nil)) (by intro _; rfl)))))))) (pss_one (ps_raise rfl (takes_of rfl rfl rfl rfl) (pmk_own PySem.F.excBase_ValueError x_InvalidPoints.x x_InvalidPoints.g x_InvalidPoints.k (raises_own x_InvalidPoints.b x_InvalidPoints.t) (by rfl)))) pss_nil)))
  (pss_one (ps_for (passes_of rfl) rfl (RZ.pi_zipA (by rfl) z_zip (pa_cons (pv 1) (pa_cons (pe_slice sl_W (pv 1) (po_some pe_int) po_none) pa_nil))) (pg_tup rfl (pgs_cons (pg_name (i := 3) sc_check_points.nd rfl (Or.inl rfl)) (pgs_cons (pg_name (i := 4) sc_check_points.nd rfl (Or.inl rfl)) pgs_nil))) (pss_one (ps_if (pt_cmpR op_ge (pe_op op_mulA (pe_ix ix_A (pe_ix ix_A (pv 3) pe_int (fun _ _ => rfl)) pe_int (fun _ _ => rfl)) (pe_ix ix_A (pe_ix ix_A (pv 4) pe_int (fun _ _ => rfl)) pe_int (fun _ _ => rfl))) (pe_op op_mulA (pe_ix ix_A (pe_ix ix_A (pv 4) pe_int (fun _ _ => rfl)) pe_int (fun _ _ => rfl)) (pe_ix ix_A (pe_ix ix_A (pv 3) pe_int (fun _ _ => rfl)) pe_int (fun _ _ => rfl))) (nomark _)) (pss_one (ps_raise rfl (takes_of rfl rfl rfl rfl) (pmk_own PySem.F.excBase_ValueError x_InvalidPoints.x x_InvalidPoints.g x_InvalidPoints.k (raises_own x_InvalidPoints.b x_InvalidPoints.t) (by rfl)))) pss_nil))))))),
   run_def (K := K) (ca := ca) (E := E) (p := 2) (k := 3) (g := g_check_points) rfl (cs_seq (cs_exp (ce_call (ca_cons ce_var ca_nil)))
  (cs_seq (cs_if (ct_or (ct_not (ct_truth (ce_isi ce_var))) (ct_test (ce_op od_ne (ce_cb bd_len (ca_cons ce_var ca_nil)) (ce_op od_add ce_var ce_int)))) (cs_raise (c := "InvalidPoints") rfl) cs_nil)
  (cs_seq (cs_for (ci_seq ce_var) (tgs_name (i := 2)) (cs_if (ct_or (ct_not (ct_truth (ce_isi ce_var))) (ct_or (ct_test (ce_op od_ne (ce_cb bd_len (ca_cons ce_var ca_nil)) ce_int)) (ct_or (ct_not (ct_truth (ce_call (ca_cons (ce_op od_ix ce_var ce_int) ca_nil)))) (ct_not (ct_truth (ce_call (ca_cons (ce_op od_ix ce_var ce_int) ca_nil))))))) (cs_raise (c := "InvalidPoints") rfl) cs_nil))
  (cs_for (ci_zip (ca_cons ce_var (ca_cons (ce_slice ce_var (co_some ce_int) co_none) ca_nil))) (tgs_pair (i := 3) (j := 4)) (cs_if (ct_test (ce_op od_cmp (ce_op od_mul (ce_op od_ix (ce_op od_ix ce_var ce_int) ce_int) (ce_op od_ix (ce_op od_ix ce_var ce_int) ce_int)) (ce_op od_mul (ce_op od_ix (ce_op od_ix ce_var ce_int) ce_int) (ce_op od_ix (ce_op od_ix ce_var ce_int) ce_int)))) (cs_raise (c := "InvalidPoints") rfl) cs_nil))))) h⟩
abbrev s_from_averages : Stmt := topS 39
theorem sc_from_averages : FnScope ["trials", "points", "row", "chance", "mean", "part", "other", "entry", "factor"] ["trials", "points"] (defScope s_from_averages) := ⟨rfl, rfl, rfl, by decide +kernel, rfl, by decide +kernel, by decide +kernel⟩
theorem ok_from_averages {f : Addr} {fd : FuncData} (F : Fun K "from_averages" "from_averages" s_from_averages f fd) (b : Binds K fd ["trials", "points"] []) (g : mg "from_averages" = some (.ref f)) (c_check_points : OkD P w K mg base ca "check_points" ["trials", "points"] 4 m_check_points) (c_divided : OkD P w K mg base ca "divided" ["one", "other"] 3 m_divided) (c_honest_of : OkD P w K mg base ca "honest_of" ["trials", "row"] 5 m_honest_of) (c_minus : OkD P w K mg base ca "minus" ["one", "other"] 4 m_minus) (c_multiple_of : OkD P w K mg base ca "multiple_of" ["factor", "row"] 4 m_multiple_of) (c_product_of : OkD P w K mg base ca "product_of" ["one", "other"] 4 m_product_of) (c_sum_of : OkD P w K mg base ca "sum_of" ["one", "other"] 4 m_sum_of) :
    OkD P w K mg base ca "from_averages" ["trials", "points"] 6 m_from_averages := by
  refine ⟨f, fd, g, F.kp, b, F.okX sc_from_averages spD_len (fun cdv A outer s H vs Q E hr h => ?_)⟩
  exact ⟨_, (pss_cons (ps_expr (pe_callD (E := fun _ => E) c_check_points (hr.mono (by decide)) (by rfl) (fun σ => passAt (takes_of rfl rfl rfl rfl) σ) (pa_cons (pv 0) (pa_cons (pv 1) pa_nil))))
  (pss_cons (ps_set (i := 2) sc_from_averages.nd rfl (Or.inl rfl) (pe_tup pa_nil))
  (pss_cons (ps_for (passes_of rfl) rfl (pi_seqA (pv 1)) (pg_tup rfl (pgs_cons (pg_name (i := 3) sc_from_averages.nd rfl (Or.inl rfl)) (pgs_cons (pg_name (i := 4) sc_from_averages.nd rfl (Or.inl rfl)) pgs_nil))) (pss_cons (ps_set (i := 5) sc_from_averages.nd rfl (Or.inl rfl) (pe_tup (pa_cons (pv 4) pa_nil)))
  (pss_cons (ps_for (passes_of rfl) rfl (pi_seqA (pv 1)) (pg_tup rfl (pgs_cons (pg_name (i := 6) sc_from_averages.nd rfl (Or.inl rfl)) (pgs_cons (pg_name (i := 7) sc_from_averages.nd rfl (Or.inl rfl)) pgs_nil))) (pss_one (ps_if (pt_cmpR (op_neD hr.units) (pv 6) (pv 3) (nomark _)) (pss_cons (ps_set (i := 8) sc_from_averages.nd rfl (Or.inl rfl) (pe_callD (E := fun _ => E) c_multiple_of (hr.mono (by decide)) (by rfl) (fun σ => passAt (takes_of rfl rfl rfl rfl) σ) (pa_cons (pe_callD (E := fun _ => E) c_divided (hr.mono (by decide)) (by rfl) (fun σ => passAt (takes_of rfl rfl rfl rfl) σ) (pa_cons (pe_tup (pa_cons pe_int (pa_cons pe_int pa_nil))) (pa_cons (pe_callD (E := fun _ => E) c_minus (hr.mono (by decide)) (by rfl) (fun σ => passAt (takes_of rfl rfl rfl rfl) σ) (pa_cons (pv 3) (pa_cons (pv 6) pa_nil))) pa_nil))) (pa_cons (pe_tup (pa_cons (pe_callD (E := fun _ => E) c_minus (hr.mono (by decide)) (by rfl) (fun σ => passAt (takes_of rfl rfl rfl rfl) σ) (pa_cons (pe_tup (pa_cons pe_int (pa_cons pe_int pa_nil))) (pa_cons (pv 6) pa_nil))) (pa_cons (pe_tup (pa_cons pe_int (pa_cons pe_int pa_nil))) pa_nil))) pa_nil))))
  (pss_one (ps_set (i := 5) sc_from_averages.nd rfl (Or.inl rfl) (pe_callD (E := fun _ => E) c_product_of (hr.mono (by decide)) (by rfl) (fun σ => passAt (takes_of rfl rfl rfl rfl) σ) (pa_cons (pv 5) (pa_cons (pv 8) pa_nil)))))) pss_nil)))
  (pss_one (ps_set (i := 2) sc_from_averages.nd rfl (Or.inl rfl) (pe_callD (E := fun _ => E) c_sum_of (hr.mono (by decide)) (by rfl) (fun σ => passAt (takes_of rfl rfl rfl rfl) σ) (pa_cons (pv 2) (pa_cons (pv 5) pa_nil))))))))
  (pss_one (ps_ret (pe_callD (E := fun _ => E) c_honest_of (hr.mono (by decide)) (by rfl) (fun σ => passAt (takes_of rfl rfl rfl rfl) σ) (pa_cons (pv 0) (pa_cons (pv 2) pa_nil)))))))),
   run_def (K := K) (ca := ca) (E := E) (p := 2) (k := 7) (g := g_from_averages) rfl (cs_seq (cs_exp (ce_call (ca_cons ce_var (ca_cons ce_var ca_nil))))
  (cs_seq (cs_asg (i := 2) (ce_tup ca_nil))
  (cs_seq (cs_for (ci_seq ce_var) (tgs_pair (i := 3) (j := 4)) (cs_seq (cs_asg (i := 5) (ce_tup (ca_cons ce_var ca_nil)))
  (cs_seq (cs_for (ci_seq ce_var) (tgs_pair (i := 6) (j := 7)) (cs_if (ct_test (ce_op od_ne ce_var ce_var)) (cs_seq (cs_asg (i := 8) (ce_call (ca_cons (ce_call (ca_cons (ce_tup (ca_cons ce_int (ca_cons ce_int ca_nil))) (ca_cons (ce_call (ca_cons ce_var (ca_cons ce_var ca_nil))) ca_nil))) (ca_cons (ce_tup (ca_cons (ce_call (ca_cons (ce_tup (ca_cons ce_int (ca_cons ce_int ca_nil))) (ca_cons ce_var ca_nil))) (ca_cons (ce_tup (ca_cons ce_int (ca_cons ce_int ca_nil))) ca_nil))) ca_nil))))
  (cs_asg (i := 5) (ce_call (ca_cons ce_var (ca_cons ce_var ca_nil))))) cs_nil))
  (cs_asg (i := 2) (ce_call (ca_cons ce_var (ca_cons ce_var ca_nil)))))))
  (cs_ret (ce_call (ca_cons ce_var (ca_cons ce_var ca_nil))))))) h⟩
abbrev s_law_cell : Stmt := topS 41
theorem sc_law_cell : FnScope ["script", "k"] ["script", "k"] (defScope s_law_cell) := ⟨rfl, rfl, rfl, by decide +kernel, rfl, by decide +kernel, by decide +kernel⟩
theorem ok_law_cell {f : Addr} {fd : FuncData} (F : Fun K "_law_cell" "_law_cell" s_law_cell f fd) (b : Binds K fd ["script", "k"] []) (g : mg "_law_cell" = some (.ref f)) (z_len : mg "len" = none) :
    OkD P w K mg base ca "_law_cell" ["script", "k"] 1 m_law_cell := by
  refine ⟨f, fd, g, F.kp, b, F.okX sc_law_cell spD_len (fun cdv A outer s H vs Q E hr h => ?_)⟩
  exact ⟨_, (pss_cons (ps_if (pt_cmpR op_lt (pv 1) (pe_callB call_lenA (by rfl) z_len (by decide +kernel) (pa_cons (pv 0) pa_nil)) (nomark _)) (pss_one (ps_ret (pe_ix ix_A (pv 0) (pv 1) (fun _ _ => rfl)))) pss_nil)
  (pss_one (ps_ret pe_int))),
   run_def (K := K) (ca := ca) (E := E) (p := 2) (k := 0) (g := g_law_cell) rfl (cs_seq (cs_if (ct_test (ce_op od_cmp ce_var (ce_cb bd_len (ca_cons ce_var ca_nil)))) (cs_ret (ce_op od_ix ce_var ce_var)) cs_nil)
  (cs_ret ce_int)) h⟩
abbrev s_law_whole : Stmt := topS 42
theorem sc_law_whole : FnScope ["found"] ["found"] (defScope s_law_whole) := ⟨rfl, rfl, rfl, by decide +kernel, rfl, by decide +kernel, by decide +kernel⟩
theorem ok_law_whole {f : Addr} {fd : FuncData} (F : Fun K "_law_whole" "_law_whole" s_law_whole f fd) (b : Binds K fd ["found"] []) (g : mg "_law_whole" = some (.ref f)) (z_bool : mg "bool" = none) (z_int : mg "int" = none) (z_isinstance : mg "isinstance" = none) :
    OkD P w K mg base ca "_law_whole" ["found"] 1 m_law_whole := by
  refine ⟨f, fd, g, F.kp, b, F.okX sc_law_whole spD_len (fun cdv A outer s H vs Q E hr h => ?_)⟩
  exact ⟨_, (pss_one (ps_ret (pe_andT (pe_callB call_isi (by rfl) z_isinstance (by decide +kernel) (pa_cons (pv 0) (pa_cons (pe_bltn (v := .ty "int") (by rfl) z_int (by decide +kernel) rfl) pa_nil))) (pe_one (pe_notT (pe_callB call_isi (by rfl) z_isinstance (by decide +kernel) (pa_cons (pv 0) (pa_cons (pe_bltn (v := .ty "bool") (by rfl) z_bool (by decide +kernel) rfl) pa_nil)))))))),
   run_def (K := K) (ca := ca) (E := E) (p := 1) (k := 0) (g := g_law_whole) rfl (cs_ret (ce_and (ce_isi ce_var) (ce_not (ce_isi ce_var)))) h⟩
abbrev s_law_row : Stmt := topS 43
theorem sc_law_row : FnScope ["script", "at", "cell", "found", "time"] ["script", "at"] (defScope s_law_row) := ⟨rfl, rfl, rfl, by decide +kernel, rfl, by decide +kernel, by decide +kernel⟩
theorem ok_law_row {f : Addr} {fd : FuncData} (F : Fun K "_law_row" "_law_row" s_law_row f fd) (b : Binds K fd ["script", "at"] []) (g : mg "_law_row" = some (.ref f)) (z_range : mg "range" = none) (c_law_cell : OkD P w K mg base ca "_law_cell" ["script", "k"] 1 m_law_cell) :
    OkD P w K mg base ca "_law_row" ["script", "at"] 2 m_law_row := by
  refine ⟨f, fd, g, F.kp, b, F.okX sc_law_row spD_len (fun cdv A outer s H vs Q E hr h => ?_)⟩
  exact ⟨_, (pss_cons (ps_set (i := 2) sc_law_row.nd rfl (Or.inl rfl) (pe_callD (E := fun _ => E) c_law_cell (hr.mono (by decide)) (by rfl) (fun σ => passAt (takes_of rfl rfl rfl rfl) σ) (pa_cons (pv 0) (pa_cons (pv 1) pa_nil))))
  (pss_cons (ps_set (i := 3) sc_law_row.nd rfl (Or.inl rfl) (pe_lst pa_nil))
  (pss_cons (ps_for (passes_of rfl) rfl (pi_range1 (by rfl) z_range (pa_cons pe_int pa_nil)) (pg_name (i := 4) sc_law_row.nd rfl (Or.inl rfl)) (pss_one (ps_if (pt_cmpR op_lt (pe_callD (E := fun _ => E) c_law_cell (hr.mono (by decide)) (by rfl) (fun σ => passAt (takes_of rfl rfl rfl rfl) σ) (pa_cons (pv 0) (pa_cons (pv 1) pa_nil))) (pe_op op_pow pe_int pe_int) (nomark _)) (pss_cons (ps_set (i := 2) sc_law_row.nd rfl (Or.inl rfl) (pe_op op_mod (pe_op op_addA (pe_op op_addA (pe_op op_addA (pe_op op_mulA (pv 2) pe_int) (pe_op op_mulA pe_int (pv 4))) pe_int) (pe_callD (E := fun _ => E) c_law_cell (hr.mono (by decide)) (by rfl) (fun σ => passAt (takes_of rfl rfl rfl rfl) σ) (pa_cons (pv 0) (pa_cons (pe_op op_mod (pe_op op_addA (pe_op op_addA (pv 1) pe_int) (pv 4)) pe_int) pa_nil)))) pe_int))
  (pss_one (ps_expr (pe_bm PySem.F.plainAttrs_list PySem.F.slot_list_append PySem.F.type_list_append mt_append (pv 3) (pa_cons (pe_op op_mod (pe_op op_fdivW (pv 2) pe_int) pe_int) pa_nil))))) (pss_cons (ps_expr (pe_bm PySem.F.plainAttrs_list PySem.F.slot_list_append PySem.F.type_list_append mt_append (pv 3) (pa_cons (pe_op op_mod (pv 2) pe_int) pa_nil)))
  (pss_one (ps_set (i := 2) sc_law_row.nd rfl (Or.inl rfl) (pe_op op_fdivW (pv 2) pe_int)))))))
  (pss_one (ps_ret (pv 3)))))),
   run_def (K := K) (ca := ca) (E := E) (p := 2) (k := 3) (g := g_law_row) rfl (cs_seq (cs_asg (i := 2) (ce_call (ca_cons ce_var (ca_cons ce_var ca_nil))))
  (cs_seq (cs_asgO (i := 3) (cf_lst ca_nil))
  (cs_seq (cs_for (ci_rng1 (ca_cons ce_int ca_nil)) (tgs_name (i := 4)) (cs_if (ct_test (ce_op od_cmp (ce_call (ca_cons ce_var (ca_cons ce_var ca_nil))) (ce_op od_pow ce_int ce_int))) (cs_seq (cs_asg (i := 2) (ce_op od_mod (ce_op od_add (ce_op od_add (ce_op od_add (ce_op od_mul ce_var ce_int) (ce_op od_mul ce_int ce_var)) ce_int) (ce_call (ca_cons ce_var (ca_cons (ce_op od_mod (ce_op od_add (ce_op od_add ce_var ce_int) ce_var) ce_int) ca_nil)))) ce_int))
  (cs_app (i := 3) (ce_op od_mod (ce_op od_fdiv ce_var ce_int) ce_int))) (cs_seq (cs_app (i := 3) (ce_op od_mod ce_var ce_int))
  (cs_asg (i := 2) (ce_op od_fdiv ce_var ce_int)))))
  (cs_ret ce_var)))) h⟩
abbrev s_law_in : Stmt := topS 44
theorem sc_law_in : FnScope ["thing", "low", "high"] ["thing", "low", "high"] (defScope s_law_in) := ⟨rfl, rfl, rfl, by decide +kernel, rfl, by decide +kernel, by decide +kernel⟩
theorem ok_law_in {f : Addr} {fd : FuncData} (F : Fun K "_law_in" "_law_in" s_law_in f fd) (b : Binds K fd ["thing", "low", "high"] []) (g : mg "_law_in" = some (.ref f)) (c_law_whole : OkD P w K mg base ca "_law_whole" ["found"] 1 m_law_whole) :
    OkD P w K mg base ca "_law_in" ["thing", "low", "high"] 2 m_law_in := by
  refine ⟨f, fd, g, F.kp, b, F.okX sc_law_in spD_len (fun cdv A outer s H vs Q E hr h => ?_)⟩
  exact ⟨_, (pss_one (ps_ret (pe_andT (pe_callD (E := fun _ => E) c_law_whole (hr.mono (by decide)) (by rfl) (fun σ => passAt (takes_of rfl rfl rfl rfl) σ) (pa_cons (pv 0) pa_nil)) (pe_one (pe_chain op_le op_le (pv 1) (pv 0) (pv 2)))))),
   run_def (K := K) (ca := ca) (E := E) (p := 3) (k := 0) (g := g_law_in) rfl (cs_ret (ce_and (ce_call (ca_cons ce_var ca_nil)) (ce_chain od_cmp od_cmp ce_var ce_var ce_var))) h⟩
abbrev s_law_gcd : Stmt := topS 45
theorem sc_law_gcd : FnScope ["one", "other"] ["one", "other"] (defScope s_law_gcd) := ⟨rfl, rfl, rfl, by decide +kernel, rfl, by decide +kernel, by decide +kernel⟩
theorem ok_law_gcd {f : Addr} {fd : FuncData} (F : Fun K "_law_gcd" "_law_gcd" s_law_gcd f fd) (b : Binds K fd ["one", "other"] []) (g : mg "_law_gcd" = some (.ref f)) :
    OkD P w K mg base ca "_law_gcd" ["one", "other"] 1 m_law_gcd := by
  refine ⟨f, fd, g, F.kp, b, F.okX sc_law_gcd spD_len (fun cdv A outer s H vs Q E hr h => ?_)⟩
  exact ⟨_, (pss_cons (ps_while (passes_of rfl) (pt_cmpR (op_neD hr.units) (pv 1) pe_int (nomark _)) (pss_one (ps_par (i := 0) (j := 1) (by rfl) sc_law_gcd.nd rfl rfl (by decide) rfl rfl (pa_cons (pv 1) (pa_cons (pe_op op_mod (pv 0) (pv 1)) pa_nil)) (by rfl))))
  (pss_one (ps_ret (pv 0)))),
   run_def (K := K) (ca := ca) (E := E) (p := 2) (k := 0) (g := g_law_gcd) rfl (cs_seq (cs_while 20000 (ct_test (ce_op od_ne ce_var ce_int)) (cs_par (i := 0) (j := 1) (ca_cons ce_var (ca_cons (ce_op od_mod ce_var ce_var) ca_nil))))
  (cs_ret ce_var)) h⟩
abbrev s_law_low : Stmt := topS 46
theorem sc_law_low : FnScope ["above", "below", "sign", "divisor"] ["above", "below"] (defScope s_law_low) := ⟨rfl, rfl, rfl, by decide +kernel, rfl, by decide +kernel, by decide +kernel⟩
theorem ok_law_low {f : Addr} {fd : FuncData} (F : Fun K "_law_low" "_law_low" s_law_low f fd) (b : Binds K fd ["above", "below"] []) (g : mg "_law_low" = some (.ref f)) (z_abs : mg "abs" = none) (c_law_gcd : OkD P w K mg base ca "_law_gcd" ["one", "other"] 1 m_law_gcd) :
    OkD P w K mg base ca "_law_low" ["above", "below"] 2 m_law_low := by
  refine ⟨f, fd, g, F.kp, b, F.okX sc_law_low spD_len (fun cdv A outer s H vs Q E hr h => ?_)⟩
  exact ⟨_, (pss_cons (ps_set (i := 2) sc_law_low.nd rfl (Or.inl rfl) (pe_ifExp (pt_cmpR op_gt (pv 1) pe_int (nomark _)) pe_int (pe_un un_neg pe_int)))
  (pss_cons (ps_set (i := 3) sc_law_low.nd rfl (Or.inl rfl) (pe_callD (E := fun _ => E) c_law_gcd (hr.mono (by decide)) (by rfl) (fun σ => passAt (takes_of rfl rfl rfl rfl) σ) (pa_cons (pe_callB call_abs (by rfl) z_abs (by decide +kernel) (pa_cons (pv 0) pa_nil)) (pa_cons (pe_callB call_abs (by rfl) z_abs (by decide +kernel) (pa_cons (pv 1) pa_nil)) pa_nil))))
  (pss_one (ps_ret (pe_tup (pa_cons (pe_op op_fdivW (pe_op op_mulA (pv 2) (pv 0)) (pv 3)) (pa_cons (pe_op op_fdivW (pe_op op_mulA (pv 2) (pv 1)) (pv 3)) pa_nil))))))),
   run_def (K := K) (ca := ca) (E := E) (p := 2) (k := 2) (g := g_law_low) rfl (cs_seq (cs_asg (i := 2) (ce_if (ct_test (ce_op od_cmp ce_var ce_int)) ce_int (ce_un ud_neg ce_int)))
  (cs_seq (cs_asg (i := 3) (ce_call (ca_cons (ce_cb bd_abs (ca_cons ce_var ca_nil)) (ca_cons (ce_cb bd_abs (ca_cons ce_var ca_nil)) ca_nil))))
  (cs_ret (ce_tup (ca_cons (ce_op od_fdiv (ce_op od_mul ce_var ce_var) ce_var) (ca_cons (ce_op od_fdiv (ce_op od_mul ce_var ce_var) ce_var) ca_nil)))))) h⟩
abbrev s_law_sum : Stmt := topS 47
theorem sc_law_sum : FnScope ["some", "found", "above", "below"] ["some"] (defScope s_law_sum) := ⟨rfl, rfl, rfl, by decide +kernel, rfl, by decide +kernel, by decide +kernel⟩
theorem ok_law_sum {f : Addr} {fd : FuncData} (F : Fun K "_law_sum" "_law_sum" s_law_sum f fd) (b : Binds K fd ["some"] []) (g : mg "_law_sum" = some (.ref f)) (c_law_low : OkD P w K mg base ca "_law_low" ["above", "below"] 2 m_law_low) :
    OkD P w K mg base ca "_law_sum" ["some"] 3 m_law_sum := by
  refine ⟨f, fd, g, F.kp, b, F.okX sc_law_sum spD_len (fun cdv A outer s H vs Q E hr h => ?_)⟩
  exact ⟨_, (pss_cons (ps_set (i := 1) sc_law_sum.nd rfl (Or.inl rfl) (pe_tup (pa_cons pe_int (pa_cons pe_int pa_nil))))
  (pss_cons (ps_for (passes_of rfl) rfl (pi_seqA (pv 0)) (pg_tup rfl (pgs_cons (pg_name (i := 2) sc_law_sum.nd rfl (Or.inl rfl)) (pgs_cons (pg_name (i := 3) sc_law_sum.nd rfl (Or.inl rfl)) pgs_nil))) (pss_one (ps_set (i := 1) sc_law_sum.nd rfl (Or.inl rfl) (pe_callD (E := fun _ => E) c_law_low (hr.mono (by decide)) (by rfl) (fun σ => passAt (takes_of rfl rfl rfl rfl) σ) (pa_cons (pe_op op_addA (pe_op op_mulA (pe_ix ix_A (pv 1) pe_int (fun _ _ => rfl)) (pv 3)) (pe_op op_mulA (pv 2) (pe_ix ix_A (pv 1) pe_int (fun _ _ => rfl)))) (pa_cons (pe_op op_mulA (pe_ix ix_A (pv 1) pe_int (fun _ _ => rfl)) (pv 3)) pa_nil))))))
  (pss_one (ps_ret (pv 1))))),
   run_def (K := K) (ca := ca) (E := E) (p := 1) (k := 3) (g := g_law_sum) rfl (cs_seq (cs_asg (i := 1) (ce_tup (ca_cons ce_int (ca_cons ce_int ca_nil))))
  (cs_seq (cs_for (ci_seq ce_var) (tgs_pair (i := 2) (j := 3)) (cs_asg (i := 1) (ce_call (ca_cons (ce_op od_add (ce_op od_mul (ce_op od_ix ce_var ce_int) ce_var) (ce_op od_mul ce_var (ce_op od_ix ce_var ce_int))) (ca_cons (ce_op od_mul (ce_op od_ix ce_var ce_int) ce_var) ca_nil)))))
  (cs_ret ce_var))) h⟩
abbrev s_law_times : Stmt := topS 48
theorem sc_law_times : FnScope ["one", "other"] ["one", "other"] (defScope s_law_times) := ⟨rfl, rfl, rfl, by decide +kernel, rfl, by decide +kernel, by decide +kernel⟩
theorem ok_law_times {f : Addr} {fd : FuncData} (F : Fun K "_law_times" "_law_times" s_law_times f fd) (b : Binds K fd ["one", "other"] []) (g : mg "_law_times" = some (.ref f)) (c_law_low : OkD P w K mg base ca "_law_low" ["above", "below"] 2 m_law_low) :
    OkD P w K mg base ca "_law_times" ["one", "other"] 3 m_law_times := by
  refine ⟨f, fd, g, F.kp, b, F.okX sc_law_times spD_len (fun cdv A outer s H vs Q E hr h => ?_)⟩
  exact ⟨_, (pss_one (ps_ret (pe_callD (E := fun _ => E) c_law_low (hr.mono (by decide)) (by rfl) (fun σ => passAt (takes_of rfl rfl rfl rfl) σ) (pa_cons (pe_op op_mulA (pe_ix ix_A (pv 0) pe_int (fun _ _ => rfl)) (pe_ix ix_A (pv 1) pe_int (fun _ _ => rfl))) (pa_cons (pe_op op_mulA (pe_ix ix_A (pv 0) pe_int (fun _ _ => rfl)) (pe_ix ix_A (pv 1) pe_int (fun _ _ => rfl))) pa_nil))))),
   run_def (K := K) (ca := ca) (E := E) (p := 2) (k := 0) (g := g_law_times) rfl (cs_ret (ce_call (ca_cons (ce_op od_mul (ce_op od_ix ce_var ce_int) (ce_op od_ix ce_var ce_int)) (ca_cons (ce_op od_mul (ce_op od_ix ce_var ce_int) (ce_op od_ix ce_var ce_int)) ca_nil)))) h⟩
abbrev s_law_power : Stmt := topS 49
theorem sc_law_power : FnScope ["one", "exponent", "found", "time"] ["one", "exponent"] (defScope s_law_power) := ⟨rfl, rfl, rfl, by decide +kernel, rfl, by decide +kernel, by decide +kernel⟩
theorem ok_law_power {f : Addr} {fd : FuncData} (F : Fun K "_law_power" "_law_power" s_law_power f fd) (b : Binds K fd ["one", "exponent"] []) (g : mg "_law_power" = some (.ref f)) (z_range : mg "range" = none) (c_law_times : OkD P w K mg base ca "_law_times" ["one", "other"] 3 m_law_times) :
    OkD P w K mg base ca "_law_power" ["one", "exponent"] 4 m_law_power := by
  refine ⟨f, fd, g, F.kp, b, F.okX sc_law_power spD_len (fun cdv A outer s H vs Q E hr h => ?_)⟩
  exact ⟨_, (pss_cons (ps_set (i := 2) sc_law_power.nd rfl (Or.inl rfl) (pe_tup (pa_cons pe_int (pa_cons pe_int pa_nil))))
  (pss_cons (ps_for (passes_of rfl) rfl (pi_range1 (by rfl) z_range (pa_cons (pv 1) pa_nil)) (pg_name (i := 3) sc_law_power.nd rfl (Or.inl rfl)) (pss_one (ps_set (i := 2) sc_law_power.nd rfl (Or.inl rfl) (pe_callD (E := fun _ => E) c_law_times (hr.mono (by decide)) (by rfl) (fun σ => passAt (takes_of rfl rfl rfl rfl) σ) (pa_cons (pv 2) (pa_cons (pv 0) pa_nil))))))
  (pss_one (ps_ret (pv 2))))),
   run_def (K := K) (ca := ca) (E := E) (p := 2) (k := 2) (g := g_law_power) rfl (cs_seq (cs_asg (i := 2) (ce_tup (ca_cons ce_int (ca_cons ce_int ca_nil))))
  (cs_seq (cs_for (ci_rng1 (ca_cons ce_var ca_nil)) (tgs_name (i := 3)) (cs_asg (i := 2) (ce_call (ca_cons ce_var (ca_cons ce_var ca_nil)))))
  (cs_ret ce_var))) h⟩
abbrev s_law_is_fraction : Stmt := topS 50
theorem sc_law_is_fraction : FnScope ["value"] ["value"] (defScope s_law_is_fraction) := ⟨rfl, rfl, rfl, by decide +kernel, rfl, by decide +kernel, by decide +kernel⟩
theorem ok_law_is_fraction {f : Addr} {fd : FuncData} (F : Fun K "_law_is_fraction" "_law_is_fraction" s_law_is_fraction f fd) (b : Binds K fd ["value"] []) (g : mg "_law_is_fraction" = some (.ref f)) (z_abs : mg "abs" = none) (z_isinstance : mg "isinstance" = none) (z_len : mg "len" = none) (z_tuple : mg "tuple" = none) (c_law_gcd : OkD P w K mg base ca "_law_gcd" ["one", "other"] 1 m_law_gcd) (c_law_in : OkD P w K mg base ca "_law_in" ["thing", "low", "high"] 2 m_law_in) :
    OkD P w K mg base ca "_law_is_fraction" ["value"] 3 m_law_is_fraction := by
  refine ⟨f, fd, g, F.kp, b, F.okX sc_law_is_fraction spD_len (fun cdv A outer s H vs Q E hr h => ?_)⟩
  exact ⟨_, (pss_cons (ps_if (PW.pt (pw_or (pt_not (pt_truth (pe_callB call_isi (by rfl) z_isinstance (by decide +kernel) (pa_cons (pv 0) (pa_cons (pe_bltn (v := .ty "tuple") (by rfl) z_tuple (by decide +kernel) rfl) pa_nil))) (by intro _; rfl))) (pw_or (pt_cmpR (op_neD hr.units) (pe_callB call_lenA (by rfl) z_len (by decide +kernel) (pa_cons (pv 0) pa_nil)) pe_int (nomark _)) (pw_or1 (pt_not (pt_truth (pe_callD (E := fun _ => E) c_law_in (hr.mono (by decide)) (by rfl) (fun σ => passAt (takes_of rfl rfl rfl rfl) σ) (pa_cons (pe_ix ix_A (pv 0) pe_int (fun _ _ => rfl)) (pa_cons (pe_un un_neg pe_int) (pa_cons pe_int pa_nil)))) (by intro _; rfl))))))) (pss_one (ps_ret pe_bl)) pss_nil)
  (pss_one (ps_ret (pe_andT (pe_callD (E := fun _ => E) c_law_in (hr.mono (by decide)) (by rfl) (fun σ => passAt (takes_of rfl rfl rfl rfl) σ) (pa_cons (pe_ix ix_A (pv 0) pe_int (fun _ _ => rfl)) (pa_cons pe_int (pa_cons pe_int pa_nil)))) (pe_one (pe_cmpR (op_eqD hr.units) (pe_callD (E := fun _ => E) c_law_gcd (hr.mono (by decide)) (by rfl) (fun σ => passAt (takes_of rfl rfl rfl rfl) σ) (pa_cons (pe_callB call_abs (by rfl) z_abs (by decide +kernel) (pa_cons (pe_ix ix_A (pv 0) pe_int (fun _ _ => rfl)) pa_nil)) (pa_cons (pe_ix ix_A (pv 0) pe_int (fun _ _ => rfl)) pa_nil))) pe_int (nomark _))))))),
   run_def (K := K) (ca := ca) (E := E) (p := 1) (k := 0) (g := g_law_is_fraction) rfl (cs_seq (cs_if (ct_or (ct_not (ct_truth (ce_isi ce_var))) (ct_or (ct_test (ce_op od_ne (ce_cb bd_len (ca_cons ce_var ca_nil)) ce_int)) (ct_not (ct_truth (ce_call (ca_cons (ce_op od_ix ce_var ce_int) (ca_cons (ce_un ud_neg ce_int) (ca_cons ce_int ca_nil)))))))) (cs_ret ce_bl) cs_nil)
  (cs_ret (ce_and (ce_call (ca_cons (ce_op od_ix ce_var ce_int) (ca_cons ce_int (ca_cons ce_int ca_nil)))) (ce_op od_eq (ce_call (ca_cons (ce_cb bd_abs (ca_cons (ce_op od_ix ce_var ce_int) ca_nil)) (ca_cons (ce_op od_ix ce_var ce_int) ca_nil))) ce_int)))) h⟩
abbrev s_law_fraction : Stmt := topS 51
theorem sc_law_fraction : FnScope ["one", "other"] ["one", "other"] (defScope s_law_fraction) := ⟨rfl, rfl, rfl, by decide +kernel, rfl, by decide +kernel, by decide +kernel⟩
theorem ok_law_fraction {f : Addr} {fd : FuncData} (F : Fun K "_law_fraction" "_law_fraction" s_law_fraction f fd) (b : Binds K fd ["one", "other"] []) (g : mg "_law_fraction" = some (.ref f)) (c_law_low : OkD P w K mg base ca "_law_low" ["above", "below"] 2 m_law_low) :
    OkD P w K mg base ca "_law_fraction" ["one", "other"] 3 m_law_fraction := by
  refine ⟨f, fd, g, F.kp, b, F.okX sc_law_fraction spD_len (fun cdv A outer s H vs Q E hr h => ?_)⟩
  exact ⟨_, (pss_one (ps_ret (pe_callD (E := fun _ => E) c_law_low (hr.mono (by decide)) (by rfl) (fun σ => passAt (takes_of rfl rfl rfl rfl) σ) (pa_cons (pe_op op_sub (pe_op op_mod (pv 0) pe_int) pe_int) (pa_cons (pe_op op_addA pe_int (pe_op op_mod (pv 1) pe_int)) pa_nil))))),
   run_def (K := K) (ca := ca) (E := E) (p := 2) (k := 0) (g := g_law_fraction) rfl (cs_ret (ce_call (ca_cons (ce_op od_sub (ce_op od_mod ce_var ce_int) ce_int) (ca_cons (ce_op od_add ce_int (ce_op od_mod ce_var ce_int)) ca_nil)))) h⟩
abbrev s_law_estimate : Stmt := topS 52
theorem sc_law_estimate : FnScope ["script", "at", "trials", "draws", "place"] ["script", "at", "trials"] (defScope s_law_estimate) := ⟨rfl, rfl, rfl, by decide +kernel, rfl, by decide +kernel, by decide +kernel⟩
theorem ok_law_estimate {f : Addr} {fd : FuncData} (F : Fun K "_law_estimate" "_law_estimate" s_law_estimate f fd) (b : Binds K fd ["script", "at", "trials"] []) (g : mg "_law_estimate" = some (.ref f)) (z_range : mg "range" = none) (z_tuple : mg "tuple" = none) (c_law_fraction : OkD P w K mg base ca "_law_fraction" ["one", "other"] 3 m_law_fraction) (c_law_row : OkD P w K mg base ca "_law_row" ["script", "at"] 2 m_law_row) :
    OkD P w K mg base ca "_law_estimate" ["script", "at", "trials"] 4 m_law_estimate := by
  refine ⟨f, fd, g, F.kp, b, F.okX sc_law_estimate spD_len (fun cdv A outer s H vs Q E hr h => ?_)⟩
  exact ⟨_, (pss_cons (ps_set (i := 3) sc_law_estimate.nd rfl (Or.inr rfl) (pe_callD (E := fun _ => E) c_law_row (hr.mono (by decide)) (by rfl) (fun σ => passAt (takes_of rfl rfl rfl rfl) σ) (pa_cons (pv 0) (pa_cons (pv 1) pa_nil))))
  (pss_one (ps_ret (pe_callTy call_tuple_of (by rfl) z_tuple (by decide +kernel) (pa_cons (pe_lc (own := [("place", 4)]) (by rfl) sc_law_estimate.nd (pi_range1 (by rfl) z_range (pa_cons (pe_op op_addA (pv 2) pe_int) pa_nil)) (blkOk_by (own := [("place", 4)]) (N := ["script", "at", "trials", "draws", "place"]) (sc := defScope s_law_estimate) (by decide +kernel)) (fun _ _ _ _ _ => by exact (pg_name (i := 4) sc_law_estimate.nd rfl (Or.inl rfl))) (fun _ _ _ _ _ => by exact pts_nil) (fun _ _ _ _ _ => by exact (pe_callD (E := E0') c_law_fraction (hr.mono (by decide)) (by rfl) passN (pa_cons (pe_ix ix_A (pv 3) (pv 4) (fun _ _ => rfl)) (pa_cons (pe_ix ix_A (pv 3) (pe_op op_addA pe_int (pv 4)) (fun _ _ => rfl)) pa_nil))))) pa_nil))))),
   run_def (K := K) (ca := ca) (E := E) (p := 3) (k := 2) (g := g_law_estimate) rfl (cs_seq (cs_asg (i := 3) (ce_call (ca_cons ce_var (ca_cons ce_var ca_nil))))
  (cs_ret (ce_cb bd_tup (ca_cons (ce_lc (ci_rng1 (ca_cons (ce_op od_add ce_var ce_int) ca_nil)) tg_name (by decide) ct_yes (ce_call (ca_cons (ce_op od_ix ce_var ce_var) (ca_cons (ce_op od_ix ce_var (ce_op od_add ce_int ce_var)) ca_nil)))) ca_nil)))) h⟩
abbrev s_law_ways : Stmt := topS 53
theorem sc_law_ways : FnScope ["count", "chosen", "found", "step"] ["count", "chosen"] (defScope s_law_ways) := ⟨rfl, rfl, rfl, by decide +kernel, rfl, by decide +kernel, by decide +kernel⟩
theorem ok_law_ways {f : Addr} {fd : FuncData} (F : Fun K "_law_ways" "_law_ways" s_law_ways f fd) (b : Binds K fd ["count", "chosen"] []) (g : mg "_law_ways" = some (.ref f)) (z_range : mg "range" = none) :
    OkD P w K mg base ca "_law_ways" ["count", "chosen"] 1 m_law_ways := by
  refine ⟨f, fd, g, F.kp, b, F.okX sc_law_ways spD_len (fun cdv A outer s H vs Q E hr h => ?_)⟩
  exact ⟨_, (pss_cons (ps_set (i := 2) sc_law_ways.nd rfl (Or.inl rfl) pe_int)
  (pss_cons (ps_for (passes_of rfl) rfl (pi_range1 (by rfl) z_range (pa_cons (pv 1) pa_nil)) (pg_name (i := 3) sc_law_ways.nd rfl (Or.inl rfl)) (pss_one (ps_set (i := 2) sc_law_ways.nd rfl (Or.inl rfl) (pe_op op_fdivW (pe_op op_mulA (pv 2) (pe_op op_sub (pv 0) (pv 3))) (pe_op op_addA (pv 3) pe_int)))))
  (pss_one (ps_ret (pv 2))))),
   run_def (K := K) (ca := ca) (E := E) (p := 2) (k := 2) (g := g_law_ways) rfl (cs_seq (cs_asg (i := 2) ce_int)
  (cs_seq (cs_for (ci_rng1 (ca_cons ce_var ca_nil)) (tgs_name (i := 3)) (cs_asg (i := 2) (ce_op od_fdiv (ce_op od_mul ce_var (ce_op od_sub ce_var ce_var)) (ce_op od_add ce_var ce_int))))
  (cs_ret ce_var))) h⟩
abbrev s_law_chance : Stmt := topS 54
theorem sc_law_chance : FnScope ["trials", "successes", "chance", "rest", "both"] ["trials", "successes", "chance"] (defScope s_law_chance) := ⟨rfl, rfl, rfl, by decide +kernel, rfl, by decide +kernel, by decide +kernel⟩
theorem ok_law_chance {f : Addr} {fd : FuncData} (F : Fun K "_law_chance" "_law_chance" s_law_chance f fd) (b : Binds K fd ["trials", "successes", "chance"] []) (g : mg "_law_chance" = some (.ref f)) (c_law_power : OkD P w K mg base ca "_law_power" ["one", "exponent"] 4 m_law_power) (c_law_times : OkD P w K mg base ca "_law_times" ["one", "other"] 3 m_law_times) (c_law_ways : OkD P w K mg base ca "_law_ways" ["count", "chosen"] 1 m_law_ways) :
    OkD P w K mg base ca "_law_chance" ["trials", "successes", "chance"] 5 m_law_chance := by
  refine ⟨f, fd, g, F.kp, b, F.okX sc_law_chance spD_len (fun cdv A outer s H vs Q E hr h => ?_)⟩
  exact ⟨_, (pss_cons (ps_set (i := 3) sc_law_chance.nd rfl (Or.inl rfl) (pe_tup (pa_cons (pe_op op_sub (pe_ix ix_A (pv 2) pe_int (fun _ _ => rfl)) (pe_ix ix_A (pv 2) pe_int (fun _ _ => rfl))) (pa_cons (pe_ix ix_A (pv 2) pe_int (fun _ _ => rfl)) pa_nil))))
  (pss_cons (ps_set (i := 4) sc_law_chance.nd rfl (Or.inl rfl) (pe_callD (E := fun _ => E) c_law_times (hr.mono (by decide)) (by rfl) (fun σ => passAt (takes_of rfl rfl rfl rfl) σ) (pa_cons (pe_callD (E := fun _ => E) c_law_power (hr.mono (by decide)) (by rfl) (fun σ => passAt (takes_of rfl rfl rfl rfl) σ) (pa_cons (pv 2) (pa_cons (pv 1) pa_nil))) (pa_cons (pe_callD (E := fun _ => E) c_law_power (hr.mono (by decide)) (by rfl) (fun σ => passAt (takes_of rfl rfl rfl rfl) σ) (pa_cons (pv 3) (pa_cons (pe_op op_sub (pv 0) (pv 1)) pa_nil))) pa_nil))))
  (pss_one (ps_ret (pe_callD (E := fun _ => E) c_law_times (hr.mono (by decide)) (by rfl) (fun σ => passAt (takes_of rfl rfl rfl rfl) σ) (pa_cons (pe_tup (pa_cons (pe_callD (E := fun _ => E) c_law_ways (hr.mono (by decide)) (by rfl) (fun σ => passAt (takes_of rfl rfl rfl rfl) σ) (pa_cons (pv 0) (pa_cons (pv 1) pa_nil))) (pa_cons pe_int pa_nil))) (pa_cons (pv 4) pa_nil))))))),
   run_def (K := K) (ca := ca) (E := E) (p := 3) (k := 2) (g := g_law_chance) rfl (cs_seq (cs_asg (i := 3) (ce_tup (ca_cons (ce_op od_sub (ce_op od_ix ce_var ce_int) (ce_op od_ix ce_var ce_int)) (ca_cons (ce_op od_ix ce_var ce_int) ca_nil))))
  (cs_seq (cs_asg (i := 4) (ce_call (ca_cons (ce_call (ca_cons ce_var (ca_cons ce_var ca_nil))) (ca_cons (ce_call (ca_cons ce_var (ca_cons (ce_op od_sub ce_var ce_var) ca_nil))) ca_nil))))
  (cs_ret (ce_call (ca_cons (ce_tup (ca_cons (ce_call (ca_cons ce_var (ca_cons ce_var ca_nil))) (ca_cons ce_int ca_nil))) (ca_cons ce_var ca_nil)))))) h⟩
abbrev s_law_mean : Stmt := topS 55
theorem sc_law_mean : FnScope ["trials", "values", "chance", "at"] ["trials", "values", "chance"] (defScope s_law_mean) := ⟨rfl, rfl, rfl, by decide +kernel, rfl, by decide +kernel, by decide +kernel⟩
theorem ok_law_mean {f : Addr} {fd : FuncData} (F : Fun K "_law_mean" "_law_mean" s_law_mean f fd) (b : Binds K fd ["trials", "values", "chance"] []) (g : mg "_law_mean" = some (.ref f)) (z_range : mg "range" = none) (c_law_chance : OkD P w K mg base ca "_law_chance" ["trials", "successes", "chance"] 5 m_law_chance) (c_law_sum : OkD P w K mg base ca "_law_sum" ["some"] 3 m_law_sum) (c_law_times : OkD P w K mg base ca "_law_times" ["one", "other"] 3 m_law_times) :
    OkD P w K mg base ca "_law_mean" ["trials", "values", "chance"] 6 m_law_mean := by
  refine ⟨f, fd, g, F.kp, b, F.okX sc_law_mean spD_len (fun cdv A outer s H vs Q E hr h => ?_)⟩
  exact ⟨_, (pss_one (ps_ret (pe_callD (E := fun _ => E) c_law_sum (hr.mono (by decide)) (by rfl) (fun σ => passAt (takes_of rfl rfl rfl rfl) σ) (pa_cons (pe_lc (own := [("at", 3)]) (by rfl) sc_law_mean.nd (pi_range1 (by rfl) z_range (pa_cons (pe_op op_addA (pv 0) pe_int) pa_nil)) (blkOk_by (own := [("at", 3)]) (N := ["trials", "values", "chance", "at"]) (sc := defScope s_law_mean) (by decide +kernel)) (fun _ _ _ _ _ => by exact (pg_name (i := 3) sc_law_mean.nd rfl (Or.inl rfl))) (fun _ _ _ _ _ => by exact pts_nil) (fun _ _ _ _ _ => by exact (pe_callD (E := E0') c_law_times (hr.mono (by decide)) (by rfl) passN (pa_cons (pe_callD (E := E0') c_law_chance (hr.mono (by decide)) (by rfl) passN (pa_cons (pv 0) (pa_cons (pv 3) (pa_cons (pv 2) pa_nil)))) (pa_cons (pe_ix ix_A (pv 1) (pv 3) (fun _ _ => rfl)) pa_nil))))) pa_nil)))),
   run_def (K := K) (ca := ca) (E := E) (p := 3) (k := 1) (g := g_law_mean) rfl (cs_ret (ce_call (ca_cons (ce_lc (ci_rng1 (ca_cons (ce_op od_add ce_var ce_int) ca_nil)) tg_name (by decide) ct_yes (ce_call (ca_cons (ce_call (ca_cons ce_var (ca_cons ce_var (ca_cons ce_var ca_nil)))) (ca_cons (ce_op od_ix ce_var ce_var) ca_nil)))) ca_nil))) h⟩
abbrev s_law_pointed : Stmt := topS 56
theorem sc_law_pointed : FnScope ["trials", "points", "e"] ["trials", "points"] (defScope s_law_pointed) := ⟨rfl, rfl, rfl, by decide +kernel, rfl, by decide +kernel, by decide +kernel⟩
theorem ok_law_pointed {f : Addr} {fd : FuncData} (F : Fun K "_law_pointed" "_law_pointed" s_law_pointed f fd) (b : Binds K fd ["trials", "points"] []) (g : mg "_law_pointed" = some (.ref f)) (z_isinstance : mg "isinstance" = none) (x_EstimateError : ExF K mg ca "EstimateError") (x_InvalidPoints : ExF K mg ca "InvalidPoints") (x_InvalidTrials : ExF K mg ca "InvalidTrials") (y0 : XF K ca ["InvalidPoints"] ["InvalidPoints", "EstimateError", "InvalidTrials"]) (c_from_averages : OkD P w K mg base ca "from_averages" ["trials", "points"] 6 m_from_averages) :
    OkD P w K mg base ca "_law_pointed" ["trials", "points"] 7 m_law_pointed := by
  refine ⟨f, fd, g, F.kp, b, F.okX sc_law_pointed spD_len (fun cdv A outer s H vs Q E hr h => ?_)⟩
  exact fin_try (ca := ca) (E := E) (p := 2) (k := 1) (g := g_law_pointed) rfl (ex_one (def_try (E := fun _ => E) (i := 2) (Cr := ["InvalidPoints"]) (Ct := ["InvalidPoints", "EstimateError", "InvalidTrials"]) (cl := [⟨"InvalidPoints", "EstimateError", "InvalidTrials", (Str.ofString "points"), (Str.ofString "other")⟩]) rfl rfl sc_law_pointed.nd rfl rfl (takes_of rfl rfl rfl rfl) (fun W pn xe tk po => (pss_one (ps_ret (pe_callD (E := fun σ c d H => W c d σ H) c_from_averages (hr.mono (by decide)) (by rfl) (fun σ => passAt tk σ) (pa_cons (pv 0) (pa_cons (pv 1) pa_nil))))))
    (fun W => (cs_ret (ce_call (ca_cons ce_var (ca_cons ce_var ca_nil)))))
    (HdsA.cons (c := .ref (ca "InvalidPoints")) (ts := tCl K 2 (ca "EstimateError") (ca "InvalidTrials") (Str.ofString "points") (Str.ofString "other")) ⟨by rfl, by decide, Or.inl x_InvalidPoints.g⟩ (fun a o k d pn hz hf => pss_cl (K := K) (i := 2) (A := ca "EstimateError") (B := ca "InvalidTrials") (x := (Str.ofString "points")) (y := (Str.ofString "other")) fun C hk hd hC => by
    subst hk hd
    exact pss_one (ps_ret (pe_ifExp (PW.pt (pw_and (pt_truth (pe_callB (call_isE hC hz hf) (by rfl) z_isinstance (by decide +kernel) (pa_cons (pv 2) (pa_cons (pe_glob (v := .ref (ca "EstimateError")) (by rfl) x_EstimateError.g rfl) pa_nil))) (by intro _; rfl)) (pw_and1 (pt_not (pt_truth (pe_callB (call_isE hC hz hf) (by rfl) z_isinstance (by decide +kernel) (pa_cons (pv 2) (pa_cons (pe_glob (v := .ref (ca "InvalidTrials")) (by rfl) x_InvalidTrials.g rfl) pa_nil))) (by intro _; rfl)))))) pe_str pe_str)))
    HdsA.nil) y0 (by decide +kernel) (by decide +kernel))) h
abbrev s_law_plain : Stmt := topS 57
theorem sc_law_plain : FnScope ["some", "one"] ["some"] (defScope s_law_plain) := ⟨rfl, rfl, rfl, by decide +kernel, rfl, by decide +kernel, by decide +kernel⟩
theorem ok_law_plain {f : Addr} {fd : FuncData} (F : Fun K "_law_plain" "_law_plain" s_law_plain f fd) (b : Binds K fd ["some"] []) (g : mg "_law_plain" = some (.ref f)) (c_law_is_fraction : OkD P w K mg base ca "_law_is_fraction" ["value"] 3 m_law_is_fraction) :
    OkD P w K mg base ca "_law_plain" ["some"] 4 m_law_plain := by
  refine ⟨f, fd, g, F.kp, b, F.okX sc_law_plain spD_len (fun cdv A outer s H vs Q E hr h => ?_)⟩
  exact ⟨_, (pss_one (ps_ret (pe_cmpR (op_eqD hr.units) (pe_lc (own := [("one", 1)]) (by rfl) sc_law_plain.nd (pi_seqA (pv 0)) (blkOk_by (own := [("one", 1)]) (N := ["some", "one"]) (sc := defScope s_law_plain) (by decide +kernel)) (fun _ _ _ _ _ => by exact (pg_name (i := 1) sc_law_plain.nd rfl (Or.inl rfl))) (fun _ _ _ _ _ => by exact (pts_one (pt_not (pt_truth (pe_callD (E := E0') c_law_is_fraction (hr.mono (by decide)) (by rfl) passN (pa_cons (pv 1) pa_nil)) (by intro _; rfl))))) (fun _ _ _ _ _ => by exact (pv 1))) (pe_lst pa_nil) (nomark _)))),
   run_def (K := K) (ca := ca) (E := E) (p := 1) (k := 1) (g := g_law_plain) rfl (cs_ret (ce_op od_eq (ce_lc (ci_seq ce_var) tg_name (by decide) (ct_not (ct_truth (ce_call (ca_cons ce_var ca_nil)))) ce_var) (ce_lst ca_nil))) h⟩
abbrev s_law : Stmt := topS 58
theorem sc_law : FnScope ["script", "draws", "trials", "parts", "chances_here", "points", "found", "chance", "mean", "some", "told", "wrong", "part", "at"] ["script"] (defScope s_law) := ⟨rfl, rfl, rfl, by decide +kernel, rfl, by decide +kernel, by decide +kernel⟩
theorem ok_law {f : Addr} {fd : FuncData} (F : Fun K "law" "law" s_law f fd) (b : Binds K fd ["script"] []) (g : mg "law" = some (.ref f)) (z_len : mg "len" = none) (z_list : mg "list" = none) (z_range : mg "range" = none) (z_set : mg "set" = none) (z_sorted : mg "sorted" = none) (z_tuple : mg "tuple" = none) (c_law_estimate : OkD P w K mg base ca "_law_estimate" ["script", "at", "trials"] 4 m_law_estimate) (c_law_fraction : OkD P w K mg base ca "_law_fraction" ["one", "other"] 3 m_law_fraction) (c_law_low : OkD P w K mg base ca "_law_low" ["above", "below"] 2 m_law_low) (c_law_mean : OkD P w K mg base ca "_law_mean" ["trials", "values", "chance"] 6 m_law_mean) (c_law_plain : OkD P w K mg base ca "_law_plain" ["some"] 4 m_law_plain) (c_law_pointed : OkD P w K mg base ca "_law_pointed" ["trials", "points"] 7 m_law_pointed) (c_law_row : OkD P w K mg base ca "_law_row" ["script", "at"] 2 m_law_row) (c_average_at : OkD P w K mg base ca "average_at" ["trials", "estimate", "chance"] 8 m_average_at) (c_from_averages : OkD P w K mg base ca "from_averages" ["trials", "points"] 6 m_from_averages) :
    FnOk P w K mg base (L2.CX P w) 9 f fd ["script"] (spD K ca 1 m_law) := by
  refine F.okX sc_law spD_len (fun cdv A outer s H vs Q E hr h => ?_)
  exact ⟨_, (pss_cons (ps_set (i := 1) sc_law.nd rfl (Or.inr rfl) (pe_callD (E := fun _ => E) c_law_row (hr.mono (by decide)) (by rfl) (fun σ => passAt (takes_of rfl rfl rfl rfl) σ) (pa_cons (pv 0) (pa_cons pe_int pa_nil))))
  (pss_cons (ps_set (i := 2) sc_law.nd rfl (Or.inr rfl) (pe_op op_addA pe_int (pe_op op_mod (pe_ix ix_A (pv 1) pe_int (fun _ _ => rfl)) pe_int)))
  (pss_cons (ps_set (i := 3) sc_law.nd rfl (Or.inl rfl) (pe_callB (cr_sortedSet rfl) (by rfl) z_sorted (by decide +kernel) (pa_cons (pe_callTy (call_setI rfl) (by rfl) z_set (by decide +kernel) (pa_cons (pe_lc (own := [("at", 13)]) (by rfl) sc_law.nd (pi_range1 (by rfl) z_range (pa_cons pe_int pa_nil)) (blkOk_by (own := [("at", 13)]) (N := ["script", "draws", "trials", "parts", "chances_here", "points", "found", "chance", "mean", "some", "told", "wrong", "part", "at"]) (sc := defScope s_law) (by decide +kernel)) (fun _ _ _ _ _ => by exact (pg_name (i := 13) sc_law.nd rfl (Or.inl rfl))) (fun _ _ _ _ _ => by exact pts_nil) (fun _ _ _ _ _ => by exact (pe_op op_mod (pe_ix ix_A (pv 1) (pe_op op_addA pe_int (pv 13)) (fun _ _ => rfl)) pe_int))) pa_nil)) pa_nil)))
  (pss_cons (ps_if (pt_cmpR op_lt (pe_callB call_lenA (by rfl) z_len (by decide +kernel) (pa_cons (pv 3) pa_nil)) (pe_op op_addA (pv 2) pe_int) (nomark _)) (pss_one (ps_set (i := 3) sc_law.nd rfl (Or.inl rfl) (pe_listRg rfl (by rfl) z_list (prg_1 (by rfl) z_range (pe_op op_addA (pv 2) pe_int))))) pss_nil)
  (pss_cons (ps_set (i := 4) sc_law.nd rfl (Or.inr rfl) (pe_lc (own := [("part", 12)]) (by rfl) sc_law.nd (pi_seqA (pe_slice sl_W (pv 3) po_none (po_some (pe_op op_addA (pv 2) pe_int)))) (blkOk_by (own := [("part", 12)]) (N := ["script", "draws", "trials", "parts", "chances_here", "points", "found", "chance", "mean", "some", "told", "wrong", "part", "at"]) (sc := defScope s_law) (by decide +kernel)) (fun _ _ _ _ _ => by exact (pg_name (i := 12) sc_law.nd rfl (Or.inl rfl))) (fun _ _ _ _ _ => by exact pts_nil) (fun _ _ _ _ _ => by exact (pe_callD (E := E0') c_law_low (hr.mono (by decide)) (by rfl) passN (pa_cons (pv 12) (pa_cons pe_int pa_nil))))))
  (pss_cons (ps_set (i := 5) sc_law.nd rfl (Or.inl rfl) (pe_callTy call_tuple_of (by rfl) z_tuple (by decide +kernel) (pa_cons (pe_lc (own := [("at", 13)]) (by rfl) sc_law.nd (pi_range1 (by rfl) z_range (pa_cons (pe_op op_addA (pv 2) pe_int) pa_nil)) (blkOk_by (own := [("at", 13)]) (N := ["script", "draws", "trials", "parts", "chances_here", "points", "found", "chance", "mean", "some", "told", "wrong", "part", "at"]) (sc := defScope s_law) (by decide +kernel)) (fun _ _ _ _ _ => by exact (pg_name (i := 13) sc_law.nd rfl (Or.inl rfl))) (fun _ _ _ _ _ => by exact pts_nil) (fun _ _ _ _ _ => by exact (pe_tup (pa_cons (pe_ix ix_A (pv 4) (pv 13) (fun _ _ => rfl)) (pa_cons (pe_callD (E := E0') c_law_fraction (hr.mono (by decide)) (by rfl) passN (pa_cons (pe_ix ix_A (pv 1) (pe_op op_addA pe_int (pv 13)) (fun _ _ => rfl)) (pa_cons (pe_ix ix_A (pv 1) (pe_op op_addA pe_int (pv 13)) (fun _ _ => rfl)) pa_nil))) pa_nil))))) pa_nil)))
  (pss_cons (ps_set (i := 6) sc_law.nd rfl (Or.inl rfl) (pe_callD (E := fun _ => E) c_from_averages (hr.mono (by decide)) (by rfl) (fun σ => passAt (takes_of rfl rfl rfl rfl) σ) (pa_cons (pv 2) (pa_cons (pv 5) pa_nil))))
  (pss_cons (ps_for (passes_of rfl) rfl (pi_seqA (pv 5)) (pg_tup rfl (pgs_cons (pg_name (i := 7) sc_law.nd rfl (Or.inl rfl)) (pgs_cons (pg_name (i := 8) sc_law.nd rfl (Or.inl rfl)) pgs_nil))) (pss_one (ps_if (pt_cmpR (op_neD hr.units) (pe_callD (E := fun _ => E) c_law_mean (hr.mono (by decide)) (by rfl) (fun σ => passAt (takes_of rfl rfl rfl rfl) σ) (pa_cons (pv 2) (pa_cons (pv 6) (pa_cons (pv 7) pa_nil)))) (pv 8) (nomark _)) (pss_one (ps_ret pe_bl)) pss_nil)))
  (pss_cons (ps_set (i := 9) sc_law.nd rfl (Or.inr rfl) (pe_callD (E := fun _ => E) c_law_estimate (hr.mono (by decide)) (by rfl) (fun σ => passAt (takes_of rfl rfl rfl rfl) σ) (pa_cons (pv 0) (pa_cons pe_int (pa_cons (pv 2) pa_nil)))))
  (pss_cons (ps_set (i := 10) sc_law.nd rfl (Or.inl rfl) (pe_callTy call_tuple_of (by rfl) z_tuple (by decide +kernel) (pa_cons (pe_lc (own := [("chance", 7)]) (by rfl) sc_law.nd (pi_seqA (pv 4)) (blkOk_by (own := [("chance", 7)]) (N := ["script", "draws", "trials", "parts", "chances_here", "points", "found", "chance", "mean", "some", "told", "wrong", "part", "at"]) (sc := defScope s_law) (by decide +kernel)) (fun _ _ _ _ _ => by exact (pg_name (i := 7) sc_law.nd rfl (Or.inl rfl))) (fun _ _ _ _ _ => by exact pts_nil) (fun _ _ _ _ _ => by exact (pe_tup (pa_cons (pv 7) (pa_cons (pe_callD (E := E0') c_average_at (hr.mono (by decide)) (by rfl) passN (pa_cons (pv 2) (pa_cons (pv 9) (pa_cons (pv 7) pa_nil)))) pa_nil))))) pa_nil)))
  (pss_cons (ps_if (PW.pt (pw_and (pt_truth (pe_callD (E := fun _ => E) c_law_plain (hr.mono (by decide)) (by rfl) (fun σ => passAt (takes_of rfl rfl rfl rfl) σ) (pa_cons (pe_lc (own := [("chance", 7), ("mean", 8)]) (by rfl) sc_law.nd (pi_seqA (pv 10)) (blkOk_by (own := [("chance", 7), ("mean", 8)]) (N := ["script", "draws", "trials", "parts", "chances_here", "points", "found", "chance", "mean", "some", "told", "wrong", "part", "at"]) (sc := defScope s_law) (by decide +kernel)) (fun _ _ _ _ _ => by exact (pg_tup rfl (pgs_cons (pg_name (i := 7) sc_law.nd rfl (Or.inl rfl)) (pgs_cons (pg_name (i := 8) sc_law.nd rfl (Or.inl rfl)) pgs_nil)))) (fun _ _ _ _ _ => by exact pts_nil) (fun _ _ _ _ _ => by exact (pv 8))) pa_nil)) (by intro _; rfl)) (pw_and1 (pt_cmpR (op_neD hr.units) (pe_callD (E := fun _ => E) c_from_averages (hr.mono (by decide)) (by rfl) (fun σ => passAt (takes_of rfl rfl rfl rfl) σ) (pa_cons (pv 2) (pa_cons (pv 10) pa_nil))) (pv 9) (nomark _))))) (pss_one (ps_ret pe_bl)) pss_nil)
  (pss_cons (ps_set (i := 11) sc_law.nd rfl (Or.inl rfl) (pe_lst (pa_cons pe_non (pa_cons (pe_callTy call_list_of (by rfl) z_list (by decide +kernel) (pa_cons (pv 5) pa_nil)) (pa_cons (pe_slice sl_W (pv 5) (po_some pe_int) po_none) (pa_cons (pe_op op_addA (pv 5) (pe_slice sl_W (pv 5) po_none (po_some pe_int))) (pa_cons (pe_revA (pv 5)) (pa_cons (pe_op op_addA (pe_slice sl_W (pv 5) (po_some pe_int) po_none) (pe_slice sl_W (pv 5) (po_some (pe_un un_neg pe_int)) po_none)) pa_nil))))))))
  (pss_cons (ps_set (i := 11) sc_law.nd rfl (Or.inl rfl) (pe_op op_addA (pv 11) (pe_lst (pa_cons (pe_op op_addA (pe_slice sl_W (pv 5) po_none (po_some (pe_un un_neg pe_int))) (pe_tup (pa_cons (pe_tup (pa_cons (pe_tup (pa_cons pe_int (pa_cons pe_int pa_nil))) (pa_cons (pe_tup (pa_cons pe_int (pa_cons pe_int pa_nil))) pa_nil))) pa_nil))) (pa_cons (pe_op op_addA (pe_slice sl_W (pv 5) po_none (po_some (pe_un un_neg pe_int))) (pe_tup (pa_cons (pe_tup (pa_cons (pe_tup (pa_cons pe_int (pa_cons pe_int pa_nil))) (pa_cons pe_int pa_nil))) pa_nil))) (pa_cons (pe_op op_addA (pe_slice sl_W (pv 5) po_none (po_some (pe_un un_neg pe_int))) (pe_tup (pa_cons pe_non pa_nil))) pa_nil))))))
  (pss_one (ps_ret (pe_cmpR (op_eqD hr.units) (pe_callD (E := fun _ => E) c_law_pointed (hr.mono (by decide)) (by rfl) (fun σ => passAt (takes_of rfl rfl rfl rfl) σ) (pa_cons (pv 2) (pa_cons (pe_ix ix_A (pv 11) (pe_op op_mod (pe_ix ix_A (pv 1) pe_int (fun _ _ => rfl)) pe_int) (fun _ _ => rfl)) pa_nil))) pe_str (nomark _))))))))))))))))),
   run_def (K := K) (ca := ca) (E := E) (p := 1) (k := 13) (g := g_law) rfl (cs_seq (cs_asg (i := 1) (ce_call (ca_cons ce_var (ca_cons ce_int ca_nil))))
  (cs_seq (cs_asg (i := 2) (ce_op od_add ce_int (ce_op od_mod (ce_op od_ix ce_var ce_int) ce_int)))
  (cs_seq (cs_asg (i := 3) (ce_sortSet (ce_lc (ci_rng1 (ca_cons ce_int ca_nil)) tg_name (by decide) ct_yes (ce_op od_mod (ce_op od_ix ce_var (ce_op od_add ce_int ce_var)) ce_int))))
  (cs_seq (cs_if (ct_test (ce_op od_cmp (ce_cb bd_len (ca_cons ce_var ca_nil)) (ce_op od_add ce_var ce_int))) (cs_asg (i := 3) (ce_lstRg (ce_op od_add ce_var ce_int))) cs_nil)
  (cs_seq (cs_asg (i := 4) (ce_lc (ci_seq (ce_slice ce_var co_none (co_some (ce_op od_add ce_var ce_int)))) tg_name (by decide) ct_yes (ce_call (ca_cons ce_var (ca_cons ce_int ca_nil)))))
  (cs_seq (cs_asg (i := 5) (ce_cb bd_tup (ca_cons (ce_lc (ci_rng1 (ca_cons (ce_op od_add ce_var ce_int) ca_nil)) tg_name (by decide) ct_yes (ce_tup (ca_cons (ce_op od_ix ce_var ce_var) (ca_cons (ce_call (ca_cons (ce_op od_ix ce_var (ce_op od_add ce_int ce_var)) (ca_cons (ce_op od_ix ce_var (ce_op od_add ce_int ce_var)) ca_nil))) ca_nil)))) ca_nil)))
  (cs_seq (cs_asg (i := 6) (ce_call (ca_cons ce_var (ca_cons ce_var ca_nil))))
  (cs_seq (cs_for (ci_seq ce_var) (tgs_pair (i := 7) (j := 8)) (cs_if (ct_test (ce_op od_ne (ce_call (ca_cons ce_var (ca_cons ce_var (ca_cons ce_var ca_nil)))) ce_var)) (cs_ret ce_bl) cs_nil))
  (cs_seq (cs_asg (i := 9) (ce_call (ca_cons ce_var (ca_cons ce_int (ca_cons ce_var ca_nil)))))
  (cs_seq (cs_asg (i := 10) (ce_cb bd_tup (ca_cons (ce_lc (ci_seq ce_var) tg_name (by decide) ct_yes (ce_tup (ca_cons ce_var (ca_cons (ce_call (ca_cons ce_var (ca_cons ce_var (ca_cons ce_var ca_nil)))) ca_nil)))) ca_nil)))
  (cs_seq (cs_if (ct_and (ct_truth (ce_call (ca_cons (ce_lc (ci_seq ce_var) tg_pair (by decide) ct_yes ce_var) ca_nil))) (ct_test (ce_op od_ne (ce_call (ca_cons ce_var (ca_cons ce_var ca_nil))) ce_var))) (cs_ret ce_bl) cs_nil)
  (cs_seq (cs_asg (i := 11) (ce_lst (ca_cons ce_non (ca_cons (ce_cb bd_lst (ca_cons ce_var ca_nil)) (ca_cons (ce_slice ce_var (co_some ce_int) co_none) (ca_cons (ce_op od_add ce_var (ce_slice ce_var co_none (co_some ce_int))) (ca_cons (ce_rev ce_var) (ca_cons (ce_op od_add (ce_slice ce_var (co_some ce_int) co_none) (ce_slice ce_var (co_some (ce_un ud_neg ce_int)) co_none)) ca_nil))))))))
  (cs_seq (cs_asg (i := 11) (ce_op od_add ce_var (ce_lst (ca_cons (ce_op od_add (ce_slice ce_var co_none (co_some (ce_un ud_neg ce_int))) (ce_tup (ca_cons (ce_tup (ca_cons (ce_tup (ca_cons ce_int (ca_cons ce_int ca_nil))) (ca_cons (ce_tup (ca_cons ce_int (ca_cons ce_int ca_nil))) ca_nil))) ca_nil))) (ca_cons (ce_op od_add (ce_slice ce_var co_none (co_some (ce_un ud_neg ce_int))) (ce_tup (ca_cons (ce_tup (ca_cons (ce_tup (ca_cons ce_int (ca_cons ce_int ca_nil))) (ca_cons ce_int ca_nil))) ca_nil))) (ca_cons (ce_op od_add (ce_slice ce_var co_none (co_some (ce_un ud_neg ce_int))) (ce_tup (ca_cons ce_non ca_nil))) ca_nil))))))
  (cs_ret (ce_op od_eq (ce_call (ca_cons ce_var (ca_cons (ce_op od_ix ce_var (ce_op od_mod (ce_op od_ix ce_var ce_int) ce_int)) ca_nil))) ce_str))))))))))))))) h⟩
end
end HW
end
set_option Elab.async false
set_option linter.all false
set_option maxRecDepth 100000
set_option maxHeartbeats 4000000
namespace HW
open PySem PySem.Spec PyProof.Rows L2 HL HM
def spLaw (K : PySem.W.Frag) : Sp := fun vs H Q _ => ∃ (a : Addr) (ns : List Int), vs = [.ref a] ∧ SqL K H a (ns.map V.int) ∧ ns.length ≤ 63 ∧ ∀ H', Q (.bl true) H'
theorem dps_ints (K : PySem.W.Frag) (H : Hp) : ∀ ns : List Int, DpAll K H (ns.map V.int) (ns.map PyData.int)
  | [] => .nil
  | n :: r => .cons (.int n) (dps_ints K H r)
theorem law_sp {K : PySem.W.Frag} {ca : String → Addr} : ∀ vs H Q E, spLaw K vs H Q E → spD K ca 1 m_law vs H Q E := fun vs H Q E h => by
  obtain ⟨a, ns, rfl, hS, hl, q⟩ := h
  refine ⟨H, [.list (ns.map .int)], Same.refl H, rfl, .cons (.lst hS (dps_ints K H ns)) .nil, ?_⟩
  rw [HN.law_true ns hl]
  intro v G' H' _ hv
  cases dp_bl hv
  exact q H'
theorem no_exc {P : Program} {w : World} {H : Hp} {s : Shared} {e : Value} {s' : Shared} (h : L2.CX P w [] H s (fun _ _ _ => False) e s') : False := by
  obtain ⟨_, _, _, _, _, _, _, _, _, _, _, _, z⟩ := h
  exact z
theorem all_mk {l : PySem.W.OpenLaw} {w : World} {K : PySem.W.Frag} {h : Heap} {mg : Str → Option Value} {fa : Addr} (X : K.In h) (G : h.Ns mainGlobals mg) (hfa : mg "law" = some (.ref fa))
    {f0 : Addr} {od0 an0 : Option Addr} {sl0 : Array (Option Value)} {oc0 kV0 dc0 pm0 cd0 ct0 : Value}
    (a0 : PySem.W.nsIn K mainGlobals "in_range" = some (some (.ref f0))) (l0 : K.lookup f0 = some ⟨oc0, od0, .func (PySem.W.fnOf "in_range" "in_range" (defArgs s_in_range) (defBody s_in_range) (defScope s_in_range) .none kV0 dc0 pm0 an0 cd0 ct0), sl0⟩) (c0 : PySem.W.codeIn K cd0 "in_range" = true) (k0 : PySem.W.keepIn K (.ref f0) = true)
    {f1 : Addr} {od1 an1 : Option Addr} {sl1 : Array (Option Value)} {oc1 kV1 dc1 pm1 cd1 ct1 : Value}
    (a1 : PySem.W.nsIn K mainGlobals "greatest_divisor" = some (some (.ref f1))) (l1 : K.lookup f1 = some ⟨oc1, od1, .func (PySem.W.fnOf "greatest_divisor" "greatest_divisor" (defArgs s_greatest_divisor) (defBody s_greatest_divisor) (defScope s_greatest_divisor) .none kV1 dc1 pm1 an1 cd1 ct1), sl1⟩) (c1 : PySem.W.codeIn K cd1 "greatest_divisor" = true) (k1 : PySem.W.keepIn K (.ref f1) = true)
    {f2 : Addr} {od2 an2 : Option Addr} {sl2 : Array (Option Value)} {oc2 kV2 dc2 pm2 cd2 ct2 : Value}
    (a2 : PySem.W.nsIn K mainGlobals "reduced" = some (some (.ref f2))) (l2 : K.lookup f2 = some ⟨oc2, od2, .func (PySem.W.fnOf "reduced" "reduced" (defArgs s_reduced) (defBody s_reduced) (defScope s_reduced) .none kV2 dc2 pm2 an2 cd2 ct2), sl2⟩) (c2 : PySem.W.codeIn K cd2 "reduced" = true) (k2 : PySem.W.keepIn K (.ref f2) = true)
    {f3 : Addr} {od3 an3 : Option Addr} {sl3 : Array (Option Value)} {oc3 kV3 dc3 pm3 cd3 ct3 : Value}
    (a3 : PySem.W.nsIn K mainGlobals "is_fraction" = some (some (.ref f3))) (l3 : K.lookup f3 = some ⟨oc3, od3, .func (PySem.W.fnOf "is_fraction" "is_fraction" (defArgs s_is_fraction) (defBody s_is_fraction) (defScope s_is_fraction) .none kV3 dc3 pm3 an3 cd3 ct3), sl3⟩) (c3 : PySem.W.codeIn K cd3 "is_fraction" = true) (k3 : PySem.W.keepIn K (.ref f3) = true)
    {f4 : Addr} {od4 an4 : Option Addr} {sl4 : Array (Option Value)} {oc4 kV4 dc4 pm4 cd4 ct4 : Value}
    (a4 : PySem.W.nsIn K mainGlobals "plus" = some (some (.ref f4))) (l4 : K.lookup f4 = some ⟨oc4, od4, .func (PySem.W.fnOf "plus" "plus" (defArgs s_plus) (defBody s_plus) (defScope s_plus) .none kV4 dc4 pm4 an4 cd4 ct4), sl4⟩) (c4 : PySem.W.codeIn K cd4 "plus" = true) (k4 : PySem.W.keepIn K (.ref f4) = true)
    {f5 : Addr} {od5 an5 : Option Addr} {sl5 : Array (Option Value)} {oc5 kV5 dc5 pm5 cd5 ct5 : Value}
    (a5 : PySem.W.nsIn K mainGlobals "times" = some (some (.ref f5))) (l5 : K.lookup f5 = some ⟨oc5, od5, .func (PySem.W.fnOf "times" "times" (defArgs s_times) (defBody s_times) (defScope s_times) .none kV5 dc5 pm5 an5 cd5 ct5), sl5⟩) (c5 : PySem.W.codeIn K cd5 "times" = true) (k5 : PySem.W.keepIn K (.ref f5) = true)
    {f6 : Addr} {od6 an6 : Option Addr} {sl6 : Array (Option Value)} {oc6 kV6 dc6 pm6 cd6 ct6 : Value}
    (a6 : PySem.W.nsIn K mainGlobals "minus" = some (some (.ref f6))) (l6 : K.lookup f6 = some ⟨oc6, od6, .func (PySem.W.fnOf "minus" "minus" (defArgs s_minus) (defBody s_minus) (defScope s_minus) .none kV6 dc6 pm6 an6 cd6 ct6), sl6⟩) (c6 : PySem.W.codeIn K cd6 "minus" = true) (k6 : PySem.W.keepIn K (.ref f6) = true)
    {f7 : Addr} {od7 an7 : Option Addr} {sl7 : Array (Option Value)} {oc7 kV7 dc7 pm7 cd7 ct7 : Value}
    (a7 : PySem.W.nsIn K mainGlobals "divided" = some (some (.ref f7))) (l7 : K.lookup f7 = some ⟨oc7, od7, .func (PySem.W.fnOf "divided" "divided" (defArgs s_divided) (defBody s_divided) (defScope s_divided) .none kV7 dc7 pm7 an7 cd7 ct7), sl7⟩) (c7 : PySem.W.codeIn K cd7 "divided" = true) (k7 : PySem.W.keepIn K (.ref f7) = true)
    {f8 : Addr} {od8 an8 : Option Addr} {sl8 : Array (Option Value)} {oc8 kV8 dc8 pm8 cd8 ct8 : Value}
    (a8 : PySem.W.nsIn K mainGlobals "total" = some (some (.ref f8))) (l8 : K.lookup f8 = some ⟨oc8, od8, .func (PySem.W.fnOf "total" "total" (defArgs s_total) (defBody s_total) (defScope s_total) .none kV8 dc8 pm8 an8 cd8 ct8), sl8⟩) (c8 : PySem.W.codeIn K cd8 "total" = true) (k8 : PySem.W.keepIn K (.ref f8) = true)
    {f9 : Addr} {od9 an9 : Option Addr} {sl9 : Array (Option Value)} {oc9 kV9 dc9 pm9 cd9 ct9 : Value}
    (a9 : PySem.W.nsIn K mainGlobals "trimmed" = some (some (.ref f9))) (l9 : K.lookup f9 = some ⟨oc9, od9, .func (PySem.W.fnOf "trimmed" "trimmed" (defArgs s_trimmed) (defBody s_trimmed) (defScope s_trimmed) .none kV9 dc9 pm9 an9 cd9 ct9), sl9⟩) (c9 : PySem.W.codeIn K cd9 "trimmed" = true) (k9 : PySem.W.keepIn K (.ref f9) = true)
    {f10 : Addr} {od10 an10 : Option Addr} {sl10 : Array (Option Value)} {oc10 kV10 dc10 pm10 cd10 ct10 : Value}
    (a10 : PySem.W.nsIn K mainGlobals "sum_of" = some (some (.ref f10))) (l10 : K.lookup f10 = some ⟨oc10, od10, .func (PySem.W.fnOf "sum_of" "sum_of" (defArgs s_sum_of) (defBody s_sum_of) (defScope s_sum_of) .none kV10 dc10 pm10 an10 cd10 ct10), sl10⟩) (c10 : PySem.W.codeIn K cd10 "sum_of" = true) (k10 : PySem.W.keepIn K (.ref f10) = true)
    {f11 : Addr} {od11 an11 : Option Addr} {sl11 : Array (Option Value)} {oc11 kV11 dc11 pm11 cd11 ct11 : Value}
    (a11 : PySem.W.nsIn K mainGlobals "multiple_of" = some (some (.ref f11))) (l11 : K.lookup f11 = some ⟨oc11, od11, .func (PySem.W.fnOf "multiple_of" "multiple_of" (defArgs s_multiple_of) (defBody s_multiple_of) (defScope s_multiple_of) .none kV11 dc11 pm11 an11 cd11 ct11), sl11⟩) (c11 : PySem.W.codeIn K cd11 "multiple_of" = true) (k11 : PySem.W.keepIn K (.ref f11) = true)
    {f12 : Addr} {od12 an12 : Option Addr} {sl12 : Array (Option Value)} {oc12 kV12 dc12 pm12 cd12 ct12 : Value}
    (a12 : PySem.W.nsIn K mainGlobals "product_of" = some (some (.ref f12))) (l12 : K.lookup f12 = some ⟨oc12, od12, .func (PySem.W.fnOf "product_of" "product_of" (defArgs s_product_of) (defBody s_product_of) (defScope s_product_of) .none kV12 dc12 pm12 an12 cd12 ct12), sl12⟩) (c12 : PySem.W.codeIn K cd12 "product_of" = true) (k12 : PySem.W.keepIn K (.ref f12) = true)
    {f13 : Addr} {od13 an13 : Option Addr} {sl13 : Array (Option Value)} {oc13 kV13 dc13 pm13 cd13 ct13 : Value}
    (a13 : PySem.W.nsIn K mainGlobals "value_at" = some (some (.ref f13))) (l13 : K.lookup f13 = some ⟨oc13, od13, .func (PySem.W.fnOf "value_at" "value_at" (defArgs s_value_at) (defBody s_value_at) (defScope s_value_at) .none kV13 dc13 pm13 an13 cd13 ct13), sl13⟩) (c13 : PySem.W.codeIn K cd13 "value_at" = true) (k13 : PySem.W.keepIn K (.ref f13) = true)
    {f14 : Addr} {od14 an14 : Option Addr} {sl14 : Array (Option Value)} {oc14 kV14 dc14 pm14 cd14 ct14 : Value}
    (a14 : PySem.W.nsIn K mainGlobals "power_of" = some (some (.ref f14))) (l14 : K.lookup f14 = some ⟨oc14, od14, .func (PySem.W.fnOf "power_of" "power_of" (defArgs s_power_of) (defBody s_power_of) (defScope s_power_of) .none kV14 dc14 pm14 an14 cd14 ct14), sl14⟩) (c14 : PySem.W.codeIn K cd14 "power_of" = true) (k14 : PySem.W.keepIn K (.ref f14) = true)
    {f15 : Addr} {od15 an15 : Option Addr} {sl15 : Array (Option Value)} {oc15 kV15 dc15 pm15 cd15 ct15 : Value}
    (a15 : PySem.W.nsIn K mainGlobals "choices" = some (some (.ref f15))) (l15 : K.lookup f15 = some ⟨oc15, od15, .func (PySem.W.fnOf "choices" "choices" (defArgs s_choices) (defBody s_choices) (defScope s_choices) .none kV15 dc15 pm15 an15 cd15 ct15), sl15⟩) (c15 : PySem.W.codeIn K cd15 "choices" = true) (k15 : PySem.W.keepIn K (.ref f15) = true)
    {f16 : Addr} {od16 an16 : Option Addr} {sl16 : Array (Option Value)} {oc16 kV16 dc16 pm16 cd16 ct16 : Value}
    (a16 : PySem.W.nsIn K mainGlobals "chance_of" = some (some (.ref f16))) (l16 : K.lookup f16 = some ⟨oc16, od16, .func (PySem.W.fnOf "chance_of" "chance_of" (defArgs s_chance_of) (defBody s_chance_of) (defScope s_chance_of) .none kV16 dc16 pm16 an16 cd16 ct16), sl16⟩) (c16 : PySem.W.codeIn K cd16 "chance_of" = true) (k16 : PySem.W.keepIn K (.ref f16) = true)
    {f17 : Addr} {od17 an17 : Option Addr} {sl17 : Array (Option Value)} {oc17 kV17 dc17 pm17 cd17 ct17 : Value}
    (a17 : PySem.W.nsIn K mainGlobals "check_trials" = some (some (.ref f17))) (l17 : K.lookup f17 = some ⟨oc17, od17, .func (PySem.W.fnOf "check_trials" "check_trials" (defArgs s_check_trials) (defBody s_check_trials) (defScope s_check_trials) .none kV17 dc17 pm17 an17 cd17 ct17), sl17⟩) (c17 : PySem.W.codeIn K cd17 "check_trials" = true) (k17 : PySem.W.keepIn K (.ref f17) = true)
    {f18 : Addr} {od18 an18 : Option Addr} {sl18 : Array (Option Value)} {oc18 kV18 dc18 pm18 cd18 ct18 : Value}
    (a18 : PySem.W.nsIn K mainGlobals "are_values" = some (some (.ref f18))) (l18 : K.lookup f18 = some ⟨oc18, od18, .func (PySem.W.fnOf "are_values" "are_values" (defArgs s_are_values) (defBody s_are_values) (defScope s_are_values) .none kV18 dc18 pm18 an18 cd18 ct18), sl18⟩) (c18 : PySem.W.codeIn K cd18 "are_values" = true) (k18 : PySem.W.keepIn K (.ref f18) = true)
    {f19 : Addr} {od19 an19 : Option Addr} {sl19 : Array (Option Value)} {oc19 kV19 dc19 pm19 cd19 ct19 : Value}
    (a19 : PySem.W.nsIn K mainGlobals "check_estimate" = some (some (.ref f19))) (l19 : K.lookup f19 = some ⟨oc19, od19, .func (PySem.W.fnOf "check_estimate" "check_estimate" (defArgs s_check_estimate) (defBody s_check_estimate) (defScope s_check_estimate) .none kV19 dc19 pm19 an19 cd19 ct19), sl19⟩) (c19 : PySem.W.codeIn K cd19 "check_estimate" = true) (k19 : PySem.W.keepIn K (.ref f19) = true)
    {f20 : Addr} {od20 an20 : Option Addr} {sl20 : Array (Option Value)} {oc20 kV20 dc20 pm20 cd20 ct20 : Value}
    (a20 : PySem.W.nsIn K mainGlobals "average_of" = some (some (.ref f20))) (l20 : K.lookup f20 = some ⟨oc20, od20, .func (PySem.W.fnOf "average_of" "average_of" (defArgs s_average_of) (defBody s_average_of) (defScope s_average_of) .none kV20 dc20 pm20 an20 cd20 ct20), sl20⟩) (c20 : PySem.W.codeIn K cd20 "average_of" = true) (k20 : PySem.W.keepIn K (.ref f20) = true)
    {f21 : Addr} {od21 an21 : Option Addr} {sl21 : Array (Option Value)} {oc21 kV21 dc21 pm21 cd21 ct21 : Value}
    (a21 : PySem.W.nsIn K mainGlobals "falling" = some (some (.ref f21))) (l21 : K.lookup f21 = some ⟨oc21, od21, .func (PySem.W.fnOf "falling" "falling" (defArgs s_falling) (defBody s_falling) (defScope s_falling) .none kV21 dc21 pm21 an21 cd21 ct21), sl21⟩) (c21 : PySem.W.codeIn K cd21 "falling" = true) (k21 : PySem.W.keepIn K (.ref f21) = true)
    {f22 : Addr} {od22 an22 : Option Addr} {sl22 : Array (Option Value)} {oc22 kV22 dc22 pm22 cd22 ct22 : Value}
    (a22 : PySem.W.nsIn K mainGlobals "honest_of" = some (some (.ref f22))) (l22 : K.lookup f22 = some ⟨oc22, od22, .func (PySem.W.fnOf "honest_of" "honest_of" (defArgs s_honest_of) (defBody s_honest_of) (defScope s_honest_of) .none kV22 dc22 pm22 an22 cd22 ct22), sl22⟩) (c22 : PySem.W.codeIn K cd22 "honest_of" = true) (k22 : PySem.W.keepIn K (.ref f22) = true)
    {f23 : Addr} {od23 an23 : Option Addr} {sl23 : Array (Option Value)} {oc23 kV23 dc23 pm23 cd23 ct23 : Value}
    (a23 : PySem.W.nsIn K mainGlobals "is_chance" = some (some (.ref f23))) (l23 : K.lookup f23 = some ⟨oc23, od23, .func (PySem.W.fnOf "is_chance" "is_chance" (defArgs s_is_chance) (defBody s_is_chance) (defScope s_is_chance) .none kV23 dc23 pm23 an23 cd23 ct23), sl23⟩) (c23 : PySem.W.codeIn K cd23 "is_chance" = true) (k23 : PySem.W.keepIn K (.ref f23) = true)
    {f24 : Addr} {od24 an24 : Option Addr} {sl24 : Array (Option Value)} {oc24 kV24 dc24 pm24 cd24 ct24 : Value}
    (a24 : PySem.W.nsIn K mainGlobals "check_chance" = some (some (.ref f24))) (l24 : K.lookup f24 = some ⟨oc24, od24, .func (PySem.W.fnOf "check_chance" "check_chance" (defArgs s_check_chance) (defBody s_check_chance) (defScope s_check_chance) .none kV24 dc24 pm24 an24 cd24 ct24), sl24⟩) (c24 : PySem.W.codeIn K cd24 "check_chance" = true) (k24 : PySem.W.keepIn K (.ref f24) = true)
    {f25 : Addr} {od25 an25 : Option Addr} {sl25 : Array (Option Value)} {oc25 kV25 dc25 pm25 cd25 ct25 : Value}
    (a25 : PySem.W.nsIn K mainGlobals "average_at" = some (some (.ref f25))) (l25 : K.lookup f25 = some ⟨oc25, od25, .func (PySem.W.fnOf "average_at" "average_at" (defArgs s_average_at) (defBody s_average_at) (defScope s_average_at) .none kV25 dc25 pm25 an25 cd25 ct25), sl25⟩) (c25 : PySem.W.codeIn K cd25 "average_at" = true) (k25 : PySem.W.keepIn K (.ref f25) = true)
    {f26 : Addr} {od26 an26 : Option Addr} {sl26 : Array (Option Value)} {oc26 kV26 dc26 pm26 cd26 ct26 : Value}
    (a26 : PySem.W.nsIn K mainGlobals "check_points" = some (some (.ref f26))) (l26 : K.lookup f26 = some ⟨oc26, od26, .func (PySem.W.fnOf "check_points" "check_points" (defArgs s_check_points) (defBody s_check_points) (defScope s_check_points) .none kV26 dc26 pm26 an26 cd26 ct26), sl26⟩) (c26 : PySem.W.codeIn K cd26 "check_points" = true) (k26 : PySem.W.keepIn K (.ref f26) = true)
    {f27 : Addr} {od27 an27 : Option Addr} {sl27 : Array (Option Value)} {oc27 kV27 dc27 pm27 cd27 ct27 : Value}
    (a27 : PySem.W.nsIn K mainGlobals "from_averages" = some (some (.ref f27))) (l27 : K.lookup f27 = some ⟨oc27, od27, .func (PySem.W.fnOf "from_averages" "from_averages" (defArgs s_from_averages) (defBody s_from_averages) (defScope s_from_averages) .none kV27 dc27 pm27 an27 cd27 ct27), sl27⟩) (c27 : PySem.W.codeIn K cd27 "from_averages" = true) (k27 : PySem.W.keepIn K (.ref f27) = true)
    {f28 : Addr} {od28 an28 : Option Addr} {sl28 : Array (Option Value)} {oc28 kV28 dc28 pm28 cd28 ct28 : Value}
    (a28 : PySem.W.nsIn K mainGlobals "_law_cell" = some (some (.ref f28))) (l28 : K.lookup f28 = some ⟨oc28, od28, .func (PySem.W.fnOf "_law_cell" "_law_cell" (defArgs s_law_cell) (defBody s_law_cell) (defScope s_law_cell) .none kV28 dc28 pm28 an28 cd28 ct28), sl28⟩) (c28 : PySem.W.codeIn K cd28 "_law_cell" = true) (k28 : PySem.W.keepIn K (.ref f28) = true)
    {f29 : Addr} {od29 an29 : Option Addr} {sl29 : Array (Option Value)} {oc29 kV29 dc29 pm29 cd29 ct29 : Value}
    (a29 : PySem.W.nsIn K mainGlobals "_law_whole" = some (some (.ref f29))) (l29 : K.lookup f29 = some ⟨oc29, od29, .func (PySem.W.fnOf "_law_whole" "_law_whole" (defArgs s_law_whole) (defBody s_law_whole) (defScope s_law_whole) .none kV29 dc29 pm29 an29 cd29 ct29), sl29⟩) (c29 : PySem.W.codeIn K cd29 "_law_whole" = true) (k29 : PySem.W.keepIn K (.ref f29) = true)
    {f30 : Addr} {od30 an30 : Option Addr} {sl30 : Array (Option Value)} {oc30 kV30 dc30 pm30 cd30 ct30 : Value}
    (a30 : PySem.W.nsIn K mainGlobals "_law_row" = some (some (.ref f30))) (l30 : K.lookup f30 = some ⟨oc30, od30, .func (PySem.W.fnOf "_law_row" "_law_row" (defArgs s_law_row) (defBody s_law_row) (defScope s_law_row) .none kV30 dc30 pm30 an30 cd30 ct30), sl30⟩) (c30 : PySem.W.codeIn K cd30 "_law_row" = true) (k30 : PySem.W.keepIn K (.ref f30) = true)
    {f31 : Addr} {od31 an31 : Option Addr} {sl31 : Array (Option Value)} {oc31 kV31 dc31 pm31 cd31 ct31 : Value}
    (a31 : PySem.W.nsIn K mainGlobals "_law_in" = some (some (.ref f31))) (l31 : K.lookup f31 = some ⟨oc31, od31, .func (PySem.W.fnOf "_law_in" "_law_in" (defArgs s_law_in) (defBody s_law_in) (defScope s_law_in) .none kV31 dc31 pm31 an31 cd31 ct31), sl31⟩) (c31 : PySem.W.codeIn K cd31 "_law_in" = true) (k31 : PySem.W.keepIn K (.ref f31) = true)
    {f32 : Addr} {od32 an32 : Option Addr} {sl32 : Array (Option Value)} {oc32 kV32 dc32 pm32 cd32 ct32 : Value}
    (a32 : PySem.W.nsIn K mainGlobals "_law_gcd" = some (some (.ref f32))) (l32 : K.lookup f32 = some ⟨oc32, od32, .func (PySem.W.fnOf "_law_gcd" "_law_gcd" (defArgs s_law_gcd) (defBody s_law_gcd) (defScope s_law_gcd) .none kV32 dc32 pm32 an32 cd32 ct32), sl32⟩) (c32 : PySem.W.codeIn K cd32 "_law_gcd" = true) (k32 : PySem.W.keepIn K (.ref f32) = true)
    {f33 : Addr} {od33 an33 : Option Addr} {sl33 : Array (Option Value)} {oc33 kV33 dc33 pm33 cd33 ct33 : Value}
    (a33 : PySem.W.nsIn K mainGlobals "_law_low" = some (some (.ref f33))) (l33 : K.lookup f33 = some ⟨oc33, od33, .func (PySem.W.fnOf "_law_low" "_law_low" (defArgs s_law_low) (defBody s_law_low) (defScope s_law_low) .none kV33 dc33 pm33 an33 cd33 ct33), sl33⟩) (c33 : PySem.W.codeIn K cd33 "_law_low" = true) (k33 : PySem.W.keepIn K (.ref f33) = true)
    {f34 : Addr} {od34 an34 : Option Addr} {sl34 : Array (Option Value)} {oc34 kV34 dc34 pm34 cd34 ct34 : Value}
    (a34 : PySem.W.nsIn K mainGlobals "_law_sum" = some (some (.ref f34))) (l34 : K.lookup f34 = some ⟨oc34, od34, .func (PySem.W.fnOf "_law_sum" "_law_sum" (defArgs s_law_sum) (defBody s_law_sum) (defScope s_law_sum) .none kV34 dc34 pm34 an34 cd34 ct34), sl34⟩) (c34 : PySem.W.codeIn K cd34 "_law_sum" = true) (k34 : PySem.W.keepIn K (.ref f34) = true)
    {f35 : Addr} {od35 an35 : Option Addr} {sl35 : Array (Option Value)} {oc35 kV35 dc35 pm35 cd35 ct35 : Value}
    (a35 : PySem.W.nsIn K mainGlobals "_law_times" = some (some (.ref f35))) (l35 : K.lookup f35 = some ⟨oc35, od35, .func (PySem.W.fnOf "_law_times" "_law_times" (defArgs s_law_times) (defBody s_law_times) (defScope s_law_times) .none kV35 dc35 pm35 an35 cd35 ct35), sl35⟩) (c35 : PySem.W.codeIn K cd35 "_law_times" = true) (k35 : PySem.W.keepIn K (.ref f35) = true)
    {f36 : Addr} {od36 an36 : Option Addr} {sl36 : Array (Option Value)} {oc36 kV36 dc36 pm36 cd36 ct36 : Value}
    (a36 : PySem.W.nsIn K mainGlobals "_law_power" = some (some (.ref f36))) (l36 : K.lookup f36 = some ⟨oc36, od36, .func (PySem.W.fnOf "_law_power" "_law_power" (defArgs s_law_power) (defBody s_law_power) (defScope s_law_power) .none kV36 dc36 pm36 an36 cd36 ct36), sl36⟩) (c36 : PySem.W.codeIn K cd36 "_law_power" = true) (k36 : PySem.W.keepIn K (.ref f36) = true)
    {f37 : Addr} {od37 an37 : Option Addr} {sl37 : Array (Option Value)} {oc37 kV37 dc37 pm37 cd37 ct37 : Value}
    (a37 : PySem.W.nsIn K mainGlobals "_law_is_fraction" = some (some (.ref f37))) (l37 : K.lookup f37 = some ⟨oc37, od37, .func (PySem.W.fnOf "_law_is_fraction" "_law_is_fraction" (defArgs s_law_is_fraction) (defBody s_law_is_fraction) (defScope s_law_is_fraction) .none kV37 dc37 pm37 an37 cd37 ct37), sl37⟩) (c37 : PySem.W.codeIn K cd37 "_law_is_fraction" = true) (k37 : PySem.W.keepIn K (.ref f37) = true)
    {f38 : Addr} {od38 an38 : Option Addr} {sl38 : Array (Option Value)} {oc38 kV38 dc38 pm38 cd38 ct38 : Value}
    (a38 : PySem.W.nsIn K mainGlobals "_law_fraction" = some (some (.ref f38))) (l38 : K.lookup f38 = some ⟨oc38, od38, .func (PySem.W.fnOf "_law_fraction" "_law_fraction" (defArgs s_law_fraction) (defBody s_law_fraction) (defScope s_law_fraction) .none kV38 dc38 pm38 an38 cd38 ct38), sl38⟩) (c38 : PySem.W.codeIn K cd38 "_law_fraction" = true) (k38 : PySem.W.keepIn K (.ref f38) = true)
    {f39 : Addr} {od39 an39 : Option Addr} {sl39 : Array (Option Value)} {oc39 kV39 dc39 pm39 cd39 ct39 : Value}
    (a39 : PySem.W.nsIn K mainGlobals "_law_estimate" = some (some (.ref f39))) (l39 : K.lookup f39 = some ⟨oc39, od39, .func (PySem.W.fnOf "_law_estimate" "_law_estimate" (defArgs s_law_estimate) (defBody s_law_estimate) (defScope s_law_estimate) .none kV39 dc39 pm39 an39 cd39 ct39), sl39⟩) (c39 : PySem.W.codeIn K cd39 "_law_estimate" = true) (k39 : PySem.W.keepIn K (.ref f39) = true)
    {f40 : Addr} {od40 an40 : Option Addr} {sl40 : Array (Option Value)} {oc40 kV40 dc40 pm40 cd40 ct40 : Value}
    (a40 : PySem.W.nsIn K mainGlobals "_law_ways" = some (some (.ref f40))) (l40 : K.lookup f40 = some ⟨oc40, od40, .func (PySem.W.fnOf "_law_ways" "_law_ways" (defArgs s_law_ways) (defBody s_law_ways) (defScope s_law_ways) .none kV40 dc40 pm40 an40 cd40 ct40), sl40⟩) (c40 : PySem.W.codeIn K cd40 "_law_ways" = true) (k40 : PySem.W.keepIn K (.ref f40) = true)
    {f41 : Addr} {od41 an41 : Option Addr} {sl41 : Array (Option Value)} {oc41 kV41 dc41 pm41 cd41 ct41 : Value}
    (a41 : PySem.W.nsIn K mainGlobals "_law_chance" = some (some (.ref f41))) (l41 : K.lookup f41 = some ⟨oc41, od41, .func (PySem.W.fnOf "_law_chance" "_law_chance" (defArgs s_law_chance) (defBody s_law_chance) (defScope s_law_chance) .none kV41 dc41 pm41 an41 cd41 ct41), sl41⟩) (c41 : PySem.W.codeIn K cd41 "_law_chance" = true) (k41 : PySem.W.keepIn K (.ref f41) = true)
    {f42 : Addr} {od42 an42 : Option Addr} {sl42 : Array (Option Value)} {oc42 kV42 dc42 pm42 cd42 ct42 : Value}
    (a42 : PySem.W.nsIn K mainGlobals "_law_mean" = some (some (.ref f42))) (l42 : K.lookup f42 = some ⟨oc42, od42, .func (PySem.W.fnOf "_law_mean" "_law_mean" (defArgs s_law_mean) (defBody s_law_mean) (defScope s_law_mean) .none kV42 dc42 pm42 an42 cd42 ct42), sl42⟩) (c42 : PySem.W.codeIn K cd42 "_law_mean" = true) (k42 : PySem.W.keepIn K (.ref f42) = true)
    {f43 : Addr} {od43 an43 : Option Addr} {sl43 : Array (Option Value)} {oc43 kV43 dc43 pm43 cd43 ct43 : Value}
    (a43 : PySem.W.nsIn K mainGlobals "_law_pointed" = some (some (.ref f43))) (l43 : K.lookup f43 = some ⟨oc43, od43, .func (PySem.W.fnOf "_law_pointed" "_law_pointed" (defArgs s_law_pointed) (defBody s_law_pointed) (defScope s_law_pointed) .none kV43 dc43 pm43 an43 cd43 ct43), sl43⟩) (c43 : PySem.W.codeIn K cd43 "_law_pointed" = true) (k43 : PySem.W.keepIn K (.ref f43) = true)
    {f44 : Addr} {od44 an44 : Option Addr} {sl44 : Array (Option Value)} {oc44 kV44 dc44 pm44 cd44 ct44 : Value}
    (a44 : PySem.W.nsIn K mainGlobals "_law_plain" = some (some (.ref f44))) (l44 : K.lookup f44 = some ⟨oc44, od44, .func (PySem.W.fnOf "_law_plain" "_law_plain" (defArgs s_law_plain) (defBody s_law_plain) (defScope s_law_plain) .none kV44 dc44 pm44 an44 cd44 ct44), sl44⟩) (c44 : PySem.W.codeIn K cd44 "_law_plain" = true) (k44 : PySem.W.keepIn K (.ref f44) = true)
    {f45 : Addr} {od45 an45 : Option Addr} {sl45 : Array (Option Value)} {oc45 kV45 dc45 pm45 cd45 ct45 : Value}
    (a45 : PySem.W.nsIn K mainGlobals "law" = some (some (.ref f45))) (l45 : K.lookup f45 = some ⟨oc45, od45, .func (PySem.W.fnOf "law" "law" (defArgs s_law) (defBody s_law) (defScope s_law) .none kV45 dc45 pm45 an45 cd45 ct45), sl45⟩) (c45 : PySem.W.codeIn K cd45 "law" = true) (k45 : PySem.W.keepIn K (.ref f45) = true)
    (z_abs : PySem.W.nsIn K mainGlobals "abs" = some none)
    (z_bool : PySem.W.nsIn K mainGlobals "bool" = some none)
    (z_enumerate : PySem.W.nsIn K mainGlobals "enumerate" = some none)
    (z_int : PySem.W.nsIn K mainGlobals "int" = some none)
    (z_isinstance : PySem.W.nsIn K mainGlobals "isinstance" = some none)
    (z_len : PySem.W.nsIn K mainGlobals "len" = some none)
    (z_list : PySem.W.nsIn K mainGlobals "list" = some none)
    (z_max : PySem.W.nsIn K mainGlobals "max" = some none)
    (z_range : PySem.W.nsIn K mainGlobals "range" = some none)
    (z_set : PySem.W.nsIn K mainGlobals "set" = some none)
    (z_sorted : PySem.W.nsIn K mainGlobals "sorted" = some none)
    (z_tuple : PySem.W.nsIn K mainGlobals "tuple" = some none)
    (z_zip : PySem.W.nsIn K mainGlobals "zip" = some none)
    {t_MAX_PART : Tok} (k_MAX_PART : PySem.W.nsIn K mainGlobals "MAX_PART" = some (some (.int 99999 t_MAX_PART)))
    {t_MAX_TRIALS : Tok} (k_MAX_TRIALS : PySem.W.nsIn K mainGlobals "MAX_TRIALS" = some (some (.int 6 t_MAX_TRIALS)))
    {C_EstimateError : Addr} (eg_EstimateError : PySem.W.nsIn K mainGlobals "EstimateError" = some (some (.ref C_EstimateError))) (ex_EstimateError : PySem.W.excIn K C_EstimateError [.type "ValueError", .type "Exception", .type "BaseException", .type "object"] "ValueError.__new__" = true) (ek_EstimateError : PySem.W.keepIn K (.ref C_EstimateError) = true) (eb_EstimateError : PySem.W.subIn K (.ref C_EstimateError) (.type "BaseException") = some true) (et_EstimateError : PySem.W.typeIn K (.ref C_EstimateError) = some (.type "type"))
    {C_InvalidEstimate : Addr} (eg_InvalidEstimate : PySem.W.nsIn K mainGlobals "InvalidEstimate" = some (some (.ref C_InvalidEstimate))) (ex_InvalidEstimate : PySem.W.excIn K C_InvalidEstimate [.type "ValueError", .type "Exception", .type "BaseException", .type "object"] "ValueError.__new__" = true) (ek_InvalidEstimate : PySem.W.keepIn K (.ref C_InvalidEstimate) = true) (eb_InvalidEstimate : PySem.W.subIn K (.ref C_InvalidEstimate) (.type "BaseException") = some true) (et_InvalidEstimate : PySem.W.typeIn K (.ref C_InvalidEstimate) = some (.type "type"))
    {C_InvalidNumber : Addr} (eg_InvalidNumber : PySem.W.nsIn K mainGlobals "InvalidNumber" = some (some (.ref C_InvalidNumber))) (ex_InvalidNumber : PySem.W.excIn K C_InvalidNumber [.type "ValueError", .type "Exception", .type "BaseException", .type "object"] "ValueError.__new__" = true) (ek_InvalidNumber : PySem.W.keepIn K (.ref C_InvalidNumber) = true) (eb_InvalidNumber : PySem.W.subIn K (.ref C_InvalidNumber) (.type "BaseException") = some true) (et_InvalidNumber : PySem.W.typeIn K (.ref C_InvalidNumber) = some (.type "type"))
    {C_InvalidPoints : Addr} (eg_InvalidPoints : PySem.W.nsIn K mainGlobals "InvalidPoints" = some (some (.ref C_InvalidPoints))) (ex_InvalidPoints : PySem.W.excIn K C_InvalidPoints [.type "ValueError", .type "Exception", .type "BaseException", .type "object"] "ValueError.__new__" = true) (ek_InvalidPoints : PySem.W.keepIn K (.ref C_InvalidPoints) = true) (eb_InvalidPoints : PySem.W.subIn K (.ref C_InvalidPoints) (.type "BaseException") = some true) (et_InvalidPoints : PySem.W.typeIn K (.ref C_InvalidPoints) = some (.type "type"))
    {C_InvalidTrials : Addr} (eg_InvalidTrials : PySem.W.nsIn K mainGlobals "InvalidTrials" = some (some (.ref C_InvalidTrials))) (ex_InvalidTrials : PySem.W.excIn K C_InvalidTrials [.type "ValueError", .type "Exception", .type "BaseException", .type "object"] "ValueError.__new__" = true) (ek_InvalidTrials : PySem.W.keepIn K (.ref C_InvalidTrials) = true) (eb_InvalidTrials : PySem.W.subIn K (.ref C_InvalidTrials) (.type "BaseException") = some true) (et_InvalidTrials : PySem.W.typeIn K (.ref C_InvalidTrials) = some (.type "type"))
    (ec_InvalidPoints : ExcC K C_InvalidPoints)
    (ys_InvalidPoints_InvalidPoints : PySem.W.subIn K (.ref C_InvalidPoints) (.ref C_InvalidPoints) = some true)
    (ys_InvalidPoints_EstimateError : PySem.W.subIn K (.ref C_InvalidPoints) (.ref C_EstimateError) = some true)
    (ys_InvalidPoints_InvalidTrials : PySem.W.subIn K (.ref C_InvalidPoints) (.ref C_InvalidTrials) = some false)
    (hd_EstimateError : PySem.W.hasDictIn K C_EstimateError = true)
    (hd_InvalidPoints : PySem.W.hasDictIn K C_InvalidPoints = true)
    (hd_InvalidTrials : PySem.W.hasDictIn K C_InvalidTrials = true)
    : ∃ fd : FuncData, (∀ (s : Shared) (v : Value), BindsTo s fd ⟨[v], []⟩ [("script", v)]) ∧ ∀ base : Heap, K.In base → base.Ns mainGlobals mg → FnOk l.prog w K mg base (L2.CX l.prog w) 9 fa fd ["script"] (spLaw K) := by
  have e := hfa.symm.trans (PySem.W.mg_of X G a45)
  cases e
  let ca : String → Addr := fun c => if c = "EstimateError" then C_EstimateError else if c = "InvalidEstimate" then C_InvalidEstimate else if c = "InvalidNumber" then C_InvalidNumber else if c = "InvalidPoints" then C_InvalidPoints else if c = "InvalidTrials" then C_InvalidTrials else 0
  have x_EstimateError : ExF K mg ca "EstimateError" := ⟨PySem.W.mg_of X G eg_EstimateError, ex_EstimateError, ek_EstimateError, eb_EstimateError, et_EstimateError⟩
  have x_InvalidEstimate : ExF K mg ca "InvalidEstimate" := ⟨PySem.W.mg_of X G eg_InvalidEstimate, ex_InvalidEstimate, ek_InvalidEstimate, eb_InvalidEstimate, et_InvalidEstimate⟩
  have x_InvalidNumber : ExF K mg ca "InvalidNumber" := ⟨PySem.W.mg_of X G eg_InvalidNumber, ex_InvalidNumber, ek_InvalidNumber, eb_InvalidNumber, et_InvalidNumber⟩
  have x_InvalidPoints : ExF K mg ca "InvalidPoints" := ⟨PySem.W.mg_of X G eg_InvalidPoints, ex_InvalidPoints, ek_InvalidPoints, eb_InvalidPoints, et_InvalidPoints⟩
  have x_InvalidTrials : ExF K mg ca "InvalidTrials" := ⟨PySem.W.mg_of X G eg_InvalidTrials, ex_InvalidTrials, ek_InvalidTrials, eb_InvalidTrials, et_InvalidTrials⟩
  have yf0 : XF K ca ["InvalidPoints"] ["InvalidPoints", "EstimateError", "InvalidTrials"] := by
    exact ⟨(allC ec_InvalidPoints allN), (allC (allC (PySem.W.exm_ref eb_InvalidPoints hd_InvalidPoints et_InvalidPoints ys_InvalidPoints_InvalidPoints) (allC (PySem.W.exm_ref eb_EstimateError hd_EstimateError et_EstimateError ys_InvalidPoints_EstimateError) (allC (PySem.W.exm_ref eb_InvalidTrials hd_InvalidTrials et_InvalidTrials ys_InvalidPoints_InvalidTrials) allN))) allN), (allC (allC (kit_refs ys_InvalidPoints_InvalidPoints hd_InvalidPoints et_InvalidPoints ys_InvalidPoints_InvalidPoints) (allC (kit_refs ys_InvalidPoints_InvalidPoints hd_EstimateError et_EstimateError ys_InvalidPoints_EstimateError) (allC (kit_refs ys_InvalidPoints_InvalidPoints hd_InvalidTrials et_InvalidTrials ys_InvalidPoints_InvalidTrials) allN))) allN)⟩
  refine ⟨PySem.W.fnOf "law" "law" (defArgs s_law) (defBody s_law) (defScope s_law) .none kV45 dc45 pm45 an45 cd45 ct45, fun s v => .of_eq rfl, fun base _ _ => ?_⟩
  have F0 := fun_mk (st := s_in_range) l0 c0 k0
  have b0 := F0.binds (ps := ["value", "low", "high"]) fun _ _ _ _ _ _ us hl => match us, hl with | [_, _, _], _ => rfl
  have o_in_range := ok_in_range (P := l.prog) (w := w) (base := base) (ca := ca) F0 b0 (PySem.W.mg_of X G a0) (PySem.W.mg_none_of X G z_bool) (PySem.W.mg_none_of X G z_int) (PySem.W.mg_none_of X G z_isinstance)
  have F1 := fun_mk (st := s_greatest_divisor) l1 c1 k1
  have b1 := F1.binds (ps := ["one", "other"]) fun _ _ _ _ _ _ us hl => match us, hl with | [_, _], _ => rfl
  have o_greatest_divisor := ok_greatest_divisor (P := l.prog) (w := w) (base := base) (ca := ca) F1 b1 (PySem.W.mg_of X G a1)
  have F2 := fun_mk (st := s_reduced) l2 c2 k2
  have b2 := F2.binds (ps := ["above", "below"]) fun _ _ _ _ _ _ us hl => match us, hl with | [_, _], _ => rfl
  have o_reduced := ok_reduced (P := l.prog) (w := w) (base := base) (ca := ca) F2 b2 (PySem.W.mg_of X G a2) (PySem.W.mg_none_of X G z_abs) o_greatest_divisor
  have F3 := fun_mk (st := s_is_fraction) l3 c3 k3
  have b3 := F3.binds (ps := ["value"]) fun _ _ _ _ _ _ us hl => match us, hl with | [_], _ => rfl
  have o_is_fraction := ok_is_fraction (P := l.prog) (w := w) (base := base) (ca := ca) F3 b3 (PySem.W.mg_of X G a3) (PySem.W.mg_none_of X G z_abs) (PySem.W.mg_none_of X G z_isinstance) (PySem.W.mg_none_of X G z_len) (PySem.W.mg_none_of X G z_tuple) (PySem.W.mg_of X G k_MAX_PART) o_greatest_divisor o_in_range
  have F4 := fun_mk (st := s_plus) l4 c4 k4
  have b4 := F4.binds (ps := ["one", "other"]) fun _ _ _ _ _ _ us hl => match us, hl with | [_, _], _ => rfl
  have o_plus := ok_plus (P := l.prog) (w := w) (base := base) (ca := ca) F4 b4 (PySem.W.mg_of X G a4) o_reduced
  have F5 := fun_mk (st := s_times) l5 c5 k5
  have b5 := F5.binds (ps := ["one", "other"]) fun _ _ _ _ _ _ us hl => match us, hl with | [_, _], _ => rfl
  have o_times := ok_times (P := l.prog) (w := w) (base := base) (ca := ca) F5 b5 (PySem.W.mg_of X G a5) o_reduced
  have F6 := fun_mk (st := s_minus) l6 c6 k6
  have b6 := F6.binds (ps := ["one", "other"]) fun _ _ _ _ _ _ us hl => match us, hl with | [_, _], _ => rfl
  have o_minus := ok_minus (P := l.prog) (w := w) (base := base) (ca := ca) F6 b6 (PySem.W.mg_of X G a6) o_plus
  have F7 := fun_mk (st := s_divided) l7 c7 k7
  have b7 := F7.binds (ps := ["one", "other"]) fun _ _ _ _ _ _ us hl => match us, hl with | [_, _], _ => rfl
  have o_divided := ok_divided (P := l.prog) (w := w) (base := base) (ca := ca) F7 b7 (PySem.W.mg_of X G a7) o_reduced
  have F8 := fun_mk (st := s_total) l8 c8 k8
  have b8 := F8.binds (ps := ["some"]) fun _ _ _ _ _ _ us hl => match us, hl with | [_], _ => rfl
  have o_total := ok_total (P := l.prog) (w := w) (base := base) (ca := ca) F8 b8 (PySem.W.mg_of X G a8) o_plus
  have F9 := fun_mk (st := s_trimmed) l9 c9 k9
  have b9 := F9.binds (ps := ["row"]) fun _ _ _ _ _ _ us hl => match us, hl with | [_], _ => rfl
  have o_trimmed := ok_trimmed (P := l.prog) (w := w) (base := base) (ca := ca) F9 b9 (PySem.W.mg_of X G a9) (PySem.W.mg_none_of X G z_list) (PySem.W.mg_none_of X G z_tuple)
  have F10 := fun_mk (st := s_sum_of) l10 c10 k10
  have b10 := F10.binds (ps := ["one", "other"]) fun _ _ _ _ _ _ us hl => match us, hl with | [_, _], _ => rfl
  have o_sum_of := ok_sum_of (P := l.prog) (w := w) (base := base) (ca := ca) F10 b10 (PySem.W.mg_of X G a10) (PySem.W.mg_none_of X G z_len) (PySem.W.mg_none_of X G z_max) (PySem.W.mg_none_of X G z_range) o_plus o_trimmed
  have F11 := fun_mk (st := s_multiple_of) l11 c11 k11
  have b11 := F11.binds (ps := ["factor", "row"]) fun _ _ _ _ _ _ us hl => match us, hl with | [_, _], _ => rfl
  have o_multiple_of := ok_multiple_of (P := l.prog) (w := w) (base := base) (ca := ca) F11 b11 (PySem.W.mg_of X G a11) o_times o_trimmed
  have F12 := fun_mk (st := s_product_of) l12 c12 k12
  have b12 := F12.binds (ps := ["one", "other"]) fun _ _ _ _ _ _ us hl => match us, hl with | [_, _], _ => rfl
  have o_product_of := ok_product_of (P := l.prog) (w := w) (base := base) (ca := ca) F12 b12 (PySem.W.mg_of X G a12) (PySem.W.mg_none_of X G z_enumerate) (PySem.W.mg_none_of X G z_len) o_plus o_times o_trimmed
  have F13 := fun_mk (st := s_value_at) l13 c13 k13
  have b13 := F13.binds (ps := ["row", "point"]) fun _ _ _ _ _ _ us hl => match us, hl with | [_, _], _ => rfl
  have o_value_at := ok_value_at (P := l.prog) (w := w) (base := base) (ca := ca) F13 b13 (PySem.W.mg_of X G a13) o_plus o_times
  have F14 := fun_mk (st := s_power_of) l14 c14 k14
  have b14 := F14.binds (ps := ["row", "exponent"]) fun _ _ _ _ _ _ us hl => match us, hl with | [_, _], _ => rfl
  have o_power_of := ok_power_of (P := l.prog) (w := w) (base := base) (ca := ca) F14 b14 (PySem.W.mg_of X G a14) (PySem.W.mg_none_of X G z_range) o_product_of
  have F15 := fun_mk (st := s_choices) l15 c15 k15
  have b15 := F15.binds (ps := ["n", "k"]) fun _ _ _ _ _ _ us hl => match us, hl with | [_, _], _ => rfl
  have o_choices := ok_choices (P := l.prog) (w := w) (base := base) (ca := ca) F15 b15 (PySem.W.mg_of X G a15) (PySem.W.mg_none_of X G z_range)
  have F16 := fun_mk (st := s_chance_of) l16 c16 k16
  have b16 := F16.binds (ps := ["trials", "successes"]) fun _ _ _ _ _ _ us hl => match us, hl with | [_, _], _ => rfl
  have o_chance_of := ok_chance_of (P := l.prog) (w := w) (base := base) (ca := ca) F16 b16 (PySem.W.mg_of X G a16) o_choices o_multiple_of o_power_of o_product_of
  have F17 := fun_mk (st := s_check_trials) l17 c17 k17
  have b17 := F17.binds (ps := ["trials"]) fun _ _ _ _ _ _ us hl => match us, hl with | [_], _ => rfl
  have o_check_trials := ok_check_trials (P := l.prog) (w := w) (base := base) (ca := ca) F17 b17 (PySem.W.mg_of X G a17) (PySem.W.mg_of X G k_MAX_TRIALS) x_InvalidTrials o_in_range
  have F18 := fun_mk (st := s_are_values) l18 c18 k18
  have b18 := F18.binds (ps := ["value", "count"]) fun _ _ _ _ _ _ us hl => match us, hl with | [_, _], _ => rfl
  have o_are_values := ok_are_values (P := l.prog) (w := w) (base := base) (ca := ca) F18 b18 (PySem.W.mg_of X G a18) (PySem.W.mg_none_of X G z_isinstance) (PySem.W.mg_none_of X G z_len) (PySem.W.mg_none_of X G z_tuple) o_is_fraction
  have F19 := fun_mk (st := s_check_estimate) l19 c19 k19
  have b19 := F19.binds (ps := ["trials", "estimate"]) fun _ _ _ _ _ _ us hl => match us, hl with | [_, _], _ => rfl
  have o_check_estimate := ok_check_estimate (P := l.prog) (w := w) (base := base) (ca := ca) F19 b19 (PySem.W.mg_of X G a19) x_InvalidEstimate o_are_values o_check_trials
  have F20 := fun_mk (st := s_average_of) l20 c20 k20
  have b20 := F20.binds (ps := ["trials", "estimate"]) fun _ _ _ _ _ _ us hl => match us, hl with | [_, _], _ => rfl
  have o_average_of := ok_average_of (P := l.prog) (w := w) (base := base) (ca := ca) F20 b20 (PySem.W.mg_of X G a20) (PySem.W.mg_none_of X G z_enumerate) o_chance_of o_multiple_of o_sum_of
  have F21 := fun_mk (st := s_falling) l21 c21 k21
  have b21 := F21.binds (ps := ["number", "steps"]) fun _ _ _ _ _ _ us hl => match us, hl with | [_, _], _ => rfl
  have o_falling := ok_falling (P := l.prog) (w := w) (base := base) (ca := ca) F21 b21 (PySem.W.mg_of X G a21) (PySem.W.mg_none_of X G z_range)
  have F22 := fun_mk (st := s_honest_of) l22 c22 k22
  have b22 := F22.binds (ps := ["trials", "row"]) fun _ _ _ _ _ _ us hl => match us, hl with | [_, _], _ => rfl
  have o_honest_of := ok_honest_of (P := l.prog) (w := w) (base := base) (ca := ca) F22 b22 (PySem.W.mg_of X G a22) (PySem.W.mg_none_of X G z_enumerate) (PySem.W.mg_none_of X G z_range) (PySem.W.mg_none_of X G z_tuple) o_falling o_reduced o_times o_total
  have F23 := fun_mk (st := s_is_chance) l23 c23 k23
  have b23 := F23.binds (ps := ["value"]) fun _ _ _ _ _ _ us hl => match us, hl with | [_], _ => rfl
  have o_is_chance := ok_is_chance (P := l.prog) (w := w) (base := base) (ca := ca) F23 b23 (PySem.W.mg_of X G a23) o_is_fraction
  have F24 := fun_mk (st := s_check_chance) l24 c24 k24
  have b24 := F24.binds (ps := ["chance"]) fun _ _ _ _ _ _ us hl => match us, hl with | [_], _ => rfl
  have o_check_chance := ok_check_chance (P := l.prog) (w := w) (base := base) (ca := ca) F24 b24 (PySem.W.mg_of X G a24) x_InvalidNumber o_is_chance
  have F25 := fun_mk (st := s_average_at) l25 c25 k25
  have b25 := F25.binds (ps := ["trials", "estimate", "chance"]) fun _ _ _ _ _ _ us hl => match us, hl with | [_, _, _], _ => rfl
  have o_average_at := ok_average_at (P := l.prog) (w := w) (base := base) (ca := ca) F25 b25 (PySem.W.mg_of X G a25) o_average_of o_check_chance o_check_estimate o_value_at
  have F26 := fun_mk (st := s_check_points) l26 c26 k26
  have b26 := F26.binds (ps := ["trials", "points"]) fun _ _ _ _ _ _ us hl => match us, hl with | [_, _], _ => rfl
  have o_check_points := ok_check_points (P := l.prog) (w := w) (base := base) (ca := ca) F26 b26 (PySem.W.mg_of X G a26) (PySem.W.mg_none_of X G z_isinstance) (PySem.W.mg_none_of X G z_len) (PySem.W.mg_none_of X G z_tuple) (PySem.W.mg_none_of X G z_zip) x_InvalidPoints o_check_trials o_is_chance o_is_fraction
  have F27 := fun_mk (st := s_from_averages) l27 c27 k27
  have b27 := F27.binds (ps := ["trials", "points"]) fun _ _ _ _ _ _ us hl => match us, hl with | [_, _], _ => rfl
  have o_from_averages := ok_from_averages (P := l.prog) (w := w) (base := base) (ca := ca) F27 b27 (PySem.W.mg_of X G a27) o_check_points o_divided o_honest_of o_minus o_multiple_of o_product_of o_sum_of
  have F28 := fun_mk (st := s_law_cell) l28 c28 k28
  have b28 := F28.binds (ps := ["script", "k"]) fun _ _ _ _ _ _ us hl => match us, hl with | [_, _], _ => rfl
  have o_law_cell := ok_law_cell (P := l.prog) (w := w) (base := base) (ca := ca) F28 b28 (PySem.W.mg_of X G a28) (PySem.W.mg_none_of X G z_len)
  have F29 := fun_mk (st := s_law_whole) l29 c29 k29
  have b29 := F29.binds (ps := ["found"]) fun _ _ _ _ _ _ us hl => match us, hl with | [_], _ => rfl
  have o_law_whole := ok_law_whole (P := l.prog) (w := w) (base := base) (ca := ca) F29 b29 (PySem.W.mg_of X G a29) (PySem.W.mg_none_of X G z_bool) (PySem.W.mg_none_of X G z_int) (PySem.W.mg_none_of X G z_isinstance)
  have F30 := fun_mk (st := s_law_row) l30 c30 k30
  have b30 := F30.binds (ps := ["script", "at"]) fun _ _ _ _ _ _ us hl => match us, hl with | [_, _], _ => rfl
  have o_law_row := ok_law_row (P := l.prog) (w := w) (base := base) (ca := ca) F30 b30 (PySem.W.mg_of X G a30) (PySem.W.mg_none_of X G z_range) o_law_cell
  have F31 := fun_mk (st := s_law_in) l31 c31 k31
  have b31 := F31.binds (ps := ["thing", "low", "high"]) fun _ _ _ _ _ _ us hl => match us, hl with | [_, _, _], _ => rfl
  have o_law_in := ok_law_in (P := l.prog) (w := w) (base := base) (ca := ca) F31 b31 (PySem.W.mg_of X G a31) o_law_whole
  have F32 := fun_mk (st := s_law_gcd) l32 c32 k32
  have b32 := F32.binds (ps := ["one", "other"]) fun _ _ _ _ _ _ us hl => match us, hl with | [_, _], _ => rfl
  have o_law_gcd := ok_law_gcd (P := l.prog) (w := w) (base := base) (ca := ca) F32 b32 (PySem.W.mg_of X G a32)
  have F33 := fun_mk (st := s_law_low) l33 c33 k33
  have b33 := F33.binds (ps := ["above", "below"]) fun _ _ _ _ _ _ us hl => match us, hl with | [_, _], _ => rfl
  have o_law_low := ok_law_low (P := l.prog) (w := w) (base := base) (ca := ca) F33 b33 (PySem.W.mg_of X G a33) (PySem.W.mg_none_of X G z_abs) o_law_gcd
  have F34 := fun_mk (st := s_law_sum) l34 c34 k34
  have b34 := F34.binds (ps := ["some"]) fun _ _ _ _ _ _ us hl => match us, hl with | [_], _ => rfl
  have o_law_sum := ok_law_sum (P := l.prog) (w := w) (base := base) (ca := ca) F34 b34 (PySem.W.mg_of X G a34) o_law_low
  have F35 := fun_mk (st := s_law_times) l35 c35 k35
  have b35 := F35.binds (ps := ["one", "other"]) fun _ _ _ _ _ _ us hl => match us, hl with | [_, _], _ => rfl
  have o_law_times := ok_law_times (P := l.prog) (w := w) (base := base) (ca := ca) F35 b35 (PySem.W.mg_of X G a35) o_law_low
  have F36 := fun_mk (st := s_law_power) l36 c36 k36
  have b36 := F36.binds (ps := ["one", "exponent"]) fun _ _ _ _ _ _ us hl => match us, hl with | [_, _], _ => rfl
  have o_law_power := ok_law_power (P := l.prog) (w := w) (base := base) (ca := ca) F36 b36 (PySem.W.mg_of X G a36) (PySem.W.mg_none_of X G z_range) o_law_times
  have F37 := fun_mk (st := s_law_is_fraction) l37 c37 k37
  have b37 := F37.binds (ps := ["value"]) fun _ _ _ _ _ _ us hl => match us, hl with | [_], _ => rfl
  have o_law_is_fraction := ok_law_is_fraction (P := l.prog) (w := w) (base := base) (ca := ca) F37 b37 (PySem.W.mg_of X G a37) (PySem.W.mg_none_of X G z_abs) (PySem.W.mg_none_of X G z_isinstance) (PySem.W.mg_none_of X G z_len) (PySem.W.mg_none_of X G z_tuple) o_law_gcd o_law_in
  have F38 := fun_mk (st := s_law_fraction) l38 c38 k38
  have b38 := F38.binds (ps := ["one", "other"]) fun _ _ _ _ _ _ us hl => match us, hl with | [_, _], _ => rfl
  have o_law_fraction := ok_law_fraction (P := l.prog) (w := w) (base := base) (ca := ca) F38 b38 (PySem.W.mg_of X G a38) o_law_low
  have F39 := fun_mk (st := s_law_estimate) l39 c39 k39
  have b39 := F39.binds (ps := ["script", "at", "trials"]) fun _ _ _ _ _ _ us hl => match us, hl with | [_, _, _], _ => rfl
  have o_law_estimate := ok_law_estimate (P := l.prog) (w := w) (base := base) (ca := ca) F39 b39 (PySem.W.mg_of X G a39) (PySem.W.mg_none_of X G z_range) (PySem.W.mg_none_of X G z_tuple) o_law_fraction o_law_row
  have F40 := fun_mk (st := s_law_ways) l40 c40 k40
  have b40 := F40.binds (ps := ["count", "chosen"]) fun _ _ _ _ _ _ us hl => match us, hl with | [_, _], _ => rfl
  have o_law_ways := ok_law_ways (P := l.prog) (w := w) (base := base) (ca := ca) F40 b40 (PySem.W.mg_of X G a40) (PySem.W.mg_none_of X G z_range)
  have F41 := fun_mk (st := s_law_chance) l41 c41 k41
  have b41 := F41.binds (ps := ["trials", "successes", "chance"]) fun _ _ _ _ _ _ us hl => match us, hl with | [_, _, _], _ => rfl
  have o_law_chance := ok_law_chance (P := l.prog) (w := w) (base := base) (ca := ca) F41 b41 (PySem.W.mg_of X G a41) o_law_power o_law_times o_law_ways
  have F42 := fun_mk (st := s_law_mean) l42 c42 k42
  have b42 := F42.binds (ps := ["trials", "values", "chance"]) fun _ _ _ _ _ _ us hl => match us, hl with | [_, _, _], _ => rfl
  have o_law_mean := ok_law_mean (P := l.prog) (w := w) (base := base) (ca := ca) F42 b42 (PySem.W.mg_of X G a42) (PySem.W.mg_none_of X G z_range) o_law_chance o_law_sum o_law_times
  have F43 := fun_mk (st := s_law_pointed) l43 c43 k43
  have b43 := F43.binds (ps := ["trials", "points"]) fun _ _ _ _ _ _ us hl => match us, hl with | [_, _], _ => rfl
  have o_law_pointed := ok_law_pointed (P := l.prog) (w := w) (base := base) (ca := ca) F43 b43 (PySem.W.mg_of X G a43) (PySem.W.mg_none_of X G z_isinstance) x_EstimateError x_InvalidPoints x_InvalidTrials yf0 o_from_averages
  have F44 := fun_mk (st := s_law_plain) l44 c44 k44
  have b44 := F44.binds (ps := ["some"]) fun _ _ _ _ _ _ us hl => match us, hl with | [_], _ => rfl
  have o_law_plain := ok_law_plain (P := l.prog) (w := w) (base := base) (ca := ca) F44 b44 (PySem.W.mg_of X G a44) o_law_is_fraction
  have F45 := fun_mk (st := s_law) l45 c45 k45
  have b45 := F45.binds (ps := ["script"]) fun _ _ _ _ _ _ us hl => match us, hl with | [_], _ => rfl
  have o_law := ok_law (P := l.prog) (w := w) (base := base) (ca := ca) F45 b45 (PySem.W.mg_of X G a45) (PySem.W.mg_none_of X G z_len) (PySem.W.mg_none_of X G z_list) (PySem.W.mg_none_of X G z_range) (PySem.W.mg_none_of X G z_set) (PySem.W.mg_none_of X G z_sorted) (PySem.W.mg_none_of X G z_tuple) o_law_estimate o_law_fraction o_law_low o_law_mean o_law_plain o_law_pointed o_law_row o_average_at o_from_averages
  exact o_law.imp law_sp
end HW
open PySem PySem.W PyProof.Rows
set_option maxHeartbeats 0 in
theorem PySem.Challenge.cw_honestestimates_k11_whole_told_averages_holds : PySem.Challenge.rw_honestestimates_k11_whole_told_averages.Holds := by
  w_on; o_law; k_head; (case hw => w_witness2)
  k_fill
  refine L2.walk_of (l := PySem.Challenge.rw_honestestimates_k11_whole_told_averages) (n := 63) (k := 9) (x := "script") (CX := fun w => L2.CX (PySem.Challenge.rw_honestestimates_k11_whole_told_averages).prog w) (sp := fun w => HW.spLaw _) rfl (by decide) rfl ⟨rfl, by decide, by decide⟩ (fun w h Y => PySem.W.kIn_of Y) ?F (fun _ _ a ns hl _ hS => ⟨a, ns, rfl, hS, hl, fun _ => rfl⟩) (fun _ _ _ _ _ h => HW.no_exc h)
  case F =>
    intro w mg fa h KX G hmg
    refine' HW.all_mk KX G hmg ?a0 ?l0 ?c0 ?k0 ?a1 ?l1 ?c1 ?k1 ?a2 ?l2 ?c2 ?k2 ?a3 ?l3 ?c3 ?k3 ?a4 ?l4 ?c4 ?k4 ?a5 ?l5 ?c5 ?k5 ?a6 ?l6 ?c6 ?k6 ?a7 ?l7 ?c7 ?k7 ?a8 ?l8 ?c8 ?k8 ?a9 ?l9 ?c9 ?k9 ?a10 ?l10 ?c10 ?k10 ?a11 ?l11 ?c11 ?k11 ?a12 ?l12 ?c12 ?k12 ?a13 ?l13 ?c13 ?k13 ?a14 ?l14 ?c14 ?k14 ?a15 ?l15 ?c15 ?k15 ?a16 ?l16 ?c16 ?k16 ?a17 ?l17 ?c17 ?k17 ?a18 ?l18 ?c18 ?k18 ?a19 ?l19 ?c19 ?k19 ?a20 ?l20 ?c20 ?k20 ?a21 ?l21 ?c21 ?k21 ?a22 ?l22 ?c22 ?k22 ?a23 ?l23 ?c23 ?k23 ?a24 ?l24 ?c24 ?k24 ?a25 ?l25 ?c25 ?k25 ?a26 ?l26 ?c26 ?k26 ?a27 ?l27 ?c27 ?k27 ?a28 ?l28 ?c28 ?k28 ?a29 ?l29 ?c29 ?k29 ?a30 ?l30 ?c30 ?k30 ?a31 ?l31 ?c31 ?k31 ?a32 ?l32 ?c32 ?k32 ?a33 ?l33 ?c33 ?k33 ?a34 ?l34 ?c34 ?k34 ?a35 ?l35 ?c35 ?k35 ?a36 ?l36 ?c36 ?k36 ?a37 ?l37 ?c37 ?k37 ?a38 ?l38 ?c38 ?k38 ?a39 ?l39 ?c39 ?k39 ?a40 ?l40 ?c40 ?k40 ?a41 ?l41 ?c41 ?k41 ?a42 ?l42 ?c42 ?k42 ?a43 ?l43 ?c43 ?k43 ?a44 ?l44 ?c44 ?k44 ?a45 ?l45 ?c45 ?k45 ?z_abs ?z_bool ?z_enumerate ?z_int ?z_isinstance ?z_len ?z_list ?z_max ?z_range ?z_set ?z_sorted ?z_tuple ?z_zip ?k_MAX_PART ?k_MAX_TRIALS ?eg_EstimateError ?ex_EstimateError ?ek_EstimateError ?eb_EstimateError ?et_EstimateError ?eg_InvalidEstimate ?ex_InvalidEstimate ?ek_InvalidEstimate ?eb_InvalidEstimate ?et_InvalidEstimate ?eg_InvalidNumber ?ex_InvalidNumber ?ek_InvalidNumber ?eb_InvalidNumber ?et_InvalidNumber ?eg_InvalidPoints ?ex_InvalidPoints ?ek_InvalidPoints ?eb_InvalidPoints ?et_InvalidPoints ?eg_InvalidTrials ?ex_InvalidTrials ?ek_InvalidTrials ?eb_InvalidTrials ?et_InvalidTrials ?ec_InvalidPoints ?ys_InvalidPoints_InvalidPoints ?ys_InvalidPoints_EstimateError ?ys_InvalidPoints_InvalidTrials ?hd_EstimateError ?hd_InvalidPoints ?hd_InvalidTrials
    (case a0 => k_is); (case l0 => k_is); (case c0 => k_is); (case k0 => k_is); (case a1 => k_is); (case l1 => k_is); (case c1 => k_is); (case k1 => k_is); (case a2 => k_is); (case l2 => k_is); (case c2 => k_is); (case k2 => k_is); (case a3 => k_is); (case l3 => k_is); (case c3 => k_is); (case k3 => k_is); (case a4 => k_is); (case l4 => k_is); (case c4 => k_is); (case k4 => k_is); (case a5 => k_is); (case l5 => k_is); (case c5 => k_is); (case k5 => k_is); (case a6 => k_is); (case l6 => k_is); (case c6 => k_is); (case k6 => k_is); (case a7 => k_is); (case l7 => k_is); (case c7 => k_is); (case k7 => k_is); (case a8 => k_is); (case l8 => k_is); (case c8 => k_is); (case k8 => k_is); (case a9 => k_is); (case l9 => k_is); (case c9 => k_is); (case k9 => k_is); (case a10 => k_is); (case l10 => k_is); (case c10 => k_is); (case k10 => k_is); (case a11 => k_is); (case l11 => k_is); (case c11 => k_is); (case k11 => k_is); (case a12 => k_is); (case l12 => k_is); (case c12 => k_is); (case k12 => k_is); (case a13 => k_is); (case l13 => k_is); (case c13 => k_is); (case k13 => k_is); (case a14 => k_is); (case l14 => k_is); (case c14 => k_is); (case k14 => k_is); (case a15 => k_is); (case l15 => k_is); (case c15 => k_is); (case k15 => k_is); (case a16 => k_is); (case l16 => k_is); (case c16 => k_is); (case k16 => k_is); (case a17 => k_is); (case l17 => k_is); (case c17 => k_is); (case k17 => k_is); (case a18 => k_is); (case l18 => k_is); (case c18 => k_is); (case k18 => k_is); (case a19 => k_is); (case l19 => k_is); (case c19 => k_is); (case k19 => k_is); (case a20 => k_is); (case l20 => k_is); (case c20 => k_is); (case k20 => k_is); (case a21 => k_is); (case l21 => k_is); (case c21 => k_is); (case k21 => k_is); (case a22 => k_is); (case l22 => k_is); (case c22 => k_is); (case k22 => k_is); (case a23 => k_is); (case l23 => k_is); (case c23 => k_is); (case k23 => k_is); (case a24 => k_is); (case l24 => k_is); (case c24 => k_is); (case k24 => k_is); (case a25 => k_is); (case l25 => k_is); (case c25 => k_is); (case k25 => k_is); (case a26 => k_is); (case l26 => k_is); (case c26 => k_is); (case k26 => k_is); (case a27 => k_is); (case l27 => k_is); (case c27 => k_is); (case k27 => k_is); (case a28 => k_is); (case l28 => k_is); (case c28 => k_is); (case k28 => k_is); (case a29 => k_is); (case l29 => k_is); (case c29 => k_is); (case k29 => k_is); (case a30 => k_is); (case l30 => k_is); (case c30 => k_is); (case k30 => k_is); (case a31 => k_is); (case l31 => k_is); (case c31 => k_is); (case k31 => k_is); (case a32 => k_is); (case l32 => k_is); (case c32 => k_is); (case k32 => k_is); (case a33 => k_is); (case l33 => k_is); (case c33 => k_is); (case k33 => k_is); (case a34 => k_is); (case l34 => k_is); (case c34 => k_is); (case k34 => k_is); (case a35 => k_is); (case l35 => k_is); (case c35 => k_is); (case k35 => k_is); (case a36 => k_is); (case l36 => k_is); (case c36 => k_is); (case k36 => k_is); (case a37 => k_is); (case l37 => k_is); (case c37 => k_is); (case k37 => k_is); (case a38 => k_is); (case l38 => k_is); (case c38 => k_is); (case k38 => k_is); (case a39 => k_is); (case l39 => k_is); (case c39 => k_is); (case k39 => k_is); (case a40 => k_is); (case l40 => k_is); (case c40 => k_is); (case k40 => k_is); (case a41 => k_is); (case l41 => k_is); (case c41 => k_is); (case k41 => k_is); (case a42 => k_is); (case l42 => k_is); (case c42 => k_is); (case k42 => k_is); (case a43 => k_is); (case l43 => k_is); (case c43 => k_is); (case k43 => k_is); (case a44 => k_is); (case l44 => k_is); (case c44 => k_is); (case k44 => k_is); (case a45 => k_is); (case l45 => k_is); (case c45 => k_is); (case k45 => k_is); (case z_abs => k_is); (case z_bool => k_is); (case z_enumerate => k_is); (case z_int => k_is); (case z_isinstance => k_is); (case z_len => k_is); (case z_list => k_is); (case z_max => k_is); (case z_range => k_is); (case z_set => k_is); (case z_sorted => k_is); (case z_tuple => k_is); (case z_zip => k_is); (case k_MAX_PART => k_is); (case k_MAX_TRIALS => k_is); (case eg_EstimateError => k_is); (case ex_EstimateError => k_exc); (case ek_EstimateError => k_is); (case eb_EstimateError => k_is); (case et_EstimateError => k_is); (case eg_InvalidEstimate => k_is); (case ex_InvalidEstimate => k_exc); (case ek_InvalidEstimate => k_is); (case eb_InvalidEstimate => k_is); (case et_InvalidEstimate => k_is); (case eg_InvalidNumber => k_is); (case ex_InvalidNumber => k_exc); (case ek_InvalidNumber => k_is); (case eb_InvalidNumber => k_is); (case et_InvalidNumber => k_is); (case eg_InvalidPoints => k_is); (case ex_InvalidPoints => k_exc); (case ek_InvalidPoints => k_is); (case eb_InvalidPoints => k_is); (case et_InvalidPoints => k_is); (case eg_InvalidTrials => k_is); (case ex_InvalidTrials => k_exc); (case ek_InvalidTrials => k_is); (case eb_InvalidTrials => k_is); (case et_InvalidTrials => k_is); (case ec_InvalidPoints => exact ⟨by k_is, by k_is, by k_is, by k_is, by k_is, by k_is, by k_is, by k_is⟩); (case ys_InvalidPoints_InvalidPoints => k_is); (case ys_InvalidPoints_EstimateError => k_is); (case ys_InvalidPoints_InvalidTrials => k_is); (case hd_EstimateError => k_is); (case hd_InvalidPoints => k_is); (case hd_InvalidTrials => k_is)
