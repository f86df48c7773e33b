import PyProof.Rows.All
import HandS.ForMost
import HandS.ForExc
import HandS.TryMany
import HandS.Wide
import HandS.IsInst
import HandS.TupAny
import HandS.TupMul
import HandS.Zip
import HandS.Flow
import HandS.Style
import HandS.CallSlots
import KE.GoesEnum
import KE.GoesMore
import HandS.ExcIs
import HandS.Text
import HandS.FStr
import KE.KCallOwn
import PyProof.InstNe
import OpenK.KOps
import PyProof.EqAt
import HandS.ExcInit
import HandS.ExcField
import HandS.Deep
import PySem.Challenge.RW_honestestimates_k15_exceptions
set_option Elab.async false
section
set_option Elab.async false
set_option linter.all false
set_option maxRecDepth 100000
set_option maxHeartbeats 4000000
namespace HL
open PySem PySem.Spec PyProof.Rows L2

/-! ### results, data environments -/
inductive R (α : Type) where
  | ok (a : α)
  | exc (c : String)
  | bad
def R.bind {α β : Type} (r : R α) (k : α → R β) : R β :=
  match r with
  | .ok a => k a
  | .exc c => .exc c
  | .bad => .bad
@[simp] theorem R.bind_ok {α β : Type} (a : α) (k : α → R β) : (R.ok a).bind k = k a := (rfl)
@[simp] theorem R.bind_exc {α β : Type} (c : String) (k : α → R β) : (R.exc c : R α).bind k = .exc c := rfl
@[simp] theorem R.bind_bad {α β : Type} (k : α → R β) : (R.bad : R α).bind k = .bad := rfl

abbrev D := PyData
abbrev En := List (Option D)
abbrev FE := En → R D
abbrev FT := En → R Bool
abbrev FA := En → R (List D)

/-! ### data and objects: an instance of the class Counter is told as a dict of its three fields -/
def ctrC (K : PySem.W.Frag) : Addr := match PySem.W.nsIn K mainGlobals "Counter" with
  | some (some (.ref C)) => C
  | _ => 0
def obFs (q s k : V) : List (Str × V) := [("quantity", q), ("steps", s), ("kept", k)]
def obD (q : D) (bs : List Bool) (k : Int) : D := .dict [(q, .tuple (bs.map .bool)), (.int k, .none)]
/-- the outcomes: a tuple of truth values whose object has no dict -/
def Stp (H : Hp) (v : V) (bs : List Bool) : Prop := ∃ (b : Addr) (o : Obj), v = .ref b ∧ H b = some (.frz o (.tup (bs.map V.bl))) ∧ o.dict = none
theorem Stp.mono {H H' : Hp} {v : V} {bs : List Bool} (e : Same H H') (h : Stp H v bs) : Stp H' v bs :=
  let ⟨b, o, h1, h2, h3⟩ := h
  ⟨b, o, h1, e _ _ h2, h3⟩
mutual
inductive Dp (K : PySem.W.Frag) (H : Hp) : V → D → Prop
  | non : Dp K H .non .none
  | bl (b : Bool) : Dp K H (.bl b) (.bool b)
  | int (i : Int) : Dp K H (.int i) (.int i)
  | str (x : Str) : Dp K H (.str x) (.str x)
  | lst {a : Addr} {xs : List V} {ds : List D} : SqL K H a xs → DpAll K H xs ds → Dp K H (.ref a) (.list ds)
  | tup {a : Addr} {xs : List V} {ds : List D} : SqT K H a xs → DpAll K H xs ds → Dp K H (.ref a) (.tuple ds)
  | obj {a dx : Addr} {q s : V} {dq : D} {bs : List Bool} {k : Int} {l : List (D × D)} : H a = some (.ins (ctrC K) dx (obFs q s (.int k))) → Dp K H q dq → Stp H s bs → l = [(dq, .tuple (bs.map .bool)), (.int k, .none)] → Dp K H (.ref a) (.dict l)
inductive DpAll (K : PySem.W.Frag) (H : Hp) : List V → List D → Prop
  | nil : DpAll K H [] []
  | cons {v : V} {vs : List V} {d : D} {ds : List D} : Dp K H v d → DpAll K H vs ds → DpAll K H (v :: vs) (d :: ds)
end
mutual
theorem dp_kit {K : PySem.W.Frag} {H : Hp} : ∀ {v : V} {d : D}, Dp K H v d → d.canLay0 = true → L2.Dp K H v d
  | _, _, .non, _ => .non
  | _, _, .bl b, _ => .bl b
  | _, _, .int i, _ => .int i
  | _, _, .str x, _ => .str x
  | _, _, .lst h r, e => .lst h (dps_kit r (by simpa [PyData.canLay0] using e))
  | _, _, .tup h r, e => .tup h (dps_kit r (by simpa [PyData.canLay0] using e))
  | _, _, .obj _ _ _ _, e => by simp [PyData.canLay0] at e
theorem dps_kit {K : PySem.W.Frag} {H : Hp} : ∀ {vs : List V} {ds : List D}, DpAll K H vs ds → PyData.canLayAll0 ds = true → L2.DpAll K H vs ds
  | _, _, .nil, _ => .nil
  | _, _, .cons (d := d) (ds := ds) h r, e => by
    have e' : d.canLay0 = true ∧ PyData.canLayAll0 ds = true := by simpa [PyData.canLayAll0] using e
    exact .cons (dp_kit h e'.1) (dps_kit r e'.2)
end
/-! ### exceptions by name; some carry a line -/
def exLi (c : String) : Option Int := ((List.range 64).map fun i : Nat => ("ParseError@" ++ toString i, (i : Int))).lookup c
def exL (c : String) : Option V := if c = "ParseError@None" then some .non else (exLi c).map V.int
theorem exLi_ok : ∀ i : Nat, i < 64 → exLi ("ParseError@" ++ toString i) = some (i : Int) ∧ "ParseError@" ++ toString i ≠ "ParseError@None" := by decide +kernel
def EX (ca : String → Addr) (E : XK) (c : String) (H : Hp) : Prop := match exL c with
  | none => E (.ref (ca c)) none H
  | some v => ∀ d H', Same H H' → H' d = none → E (.ref (ca c)) (some d) (upd H' d (.xd [("line", v)]))
theorem EX.plain {ca : String → Addr} {E : XK} {c : String} {H : Hp} (h : exL c = none) : EX ca E c H = E (.ref (ca c)) none H := by
  unfold EX
  rw [h]
section
variable {K : PySem.W.Frag}
theorem sqT_mono {H H' : Hp} {a : Addr} {xs : List V} (e : Same H H') (h : SqT K H a xs) : SqT K H' a xs := by
  rcases h with (h | ⟨o, h⟩) | h
  · exact .inl (.inl (e _ _ h))
  · exact .inl (.inr ⟨o, e _ _ h⟩)
  · exact .inr h
mutual
theorem dp_mono {H H' : Hp} (e : Same H H') : ∀ {v : V} {d : D}, Dp K H v d → Dp K H' v d
  | _, _, .non => .non
  | _, _, .bl b => .bl b
  | _, _, .int i => .int i
  | _, _, .str x => .str x
  | _, _, .lst h r => .lst (e.seq h) (dps_mono e r)
  | _, _, .tup h r => .tup (sqT_mono e h) (dps_mono e r)
  | _, _, .obj h a b c => .obj (e _ _ h) (dp_mono e a) (b.mono e) c
theorem dps_mono {H H' : Hp} (e : Same H H') : ∀ {vs : List V} {ds : List D}, DpAll K H vs ds → DpAll K H' vs ds
  | _, _, .nil => .nil
  | _, _, .cons h r => .cons (dp_mono e h) (dps_mono e r)
end
theorem dps_len {H : Hp} : ∀ {vs : List V} {ds : List D}, DpAll K H vs ds → vs.length = ds.length
  | _, _, .nil => rfl
  | _, _, .cons _ r => by simp [dps_len r]
theorem dps_get {H : Hp} : ∀ {vs : List V} {ds : List D} {i : Nat} {d : D}, DpAll K H vs ds → ds[i]? = some d → ∃ v, vs[i]? = some v ∧ Dp K H v d
  | _, _, _, _, .nil, h => by simp at h
  | _, _, 0, _, .cons h r, e => by simp at e; subst e; exact ⟨_, rfl, h⟩
  | _, _, i + 1, d, .cons h r, e => by simpa using dps_get (i := i) (d := d) r (by simpa using e)
theorem dps_getV {H : Hp} : ∀ {vs : List V} {ds : List D} {i : Nat} {v : V}, DpAll K H vs ds → vs[i]? = some v → ∃ d, ds[i]? = some d ∧ Dp K H v d
  | _, _, _, _, .nil, h => by simp at h
  | _, _, 0, _, .cons h r, e => by simp at e; subst e; exact ⟨_, rfl, h⟩
  | _, _, i + 1, v, .cons h r, e => by simpa using dps_getV (i := i) (v := v) r (by simpa using e)
theorem dps_append {H : Hp} : ∀ {vs ws : List V} {ds es : List D}, DpAll K H vs ds → DpAll K H ws es → DpAll K H (vs ++ ws) (ds ++ es)
  | _, _, _, _, .nil, s => s
  | _, _, _, _, .cons h r, s => .cons h (dps_append r s)
theorem dps_take {H : Hp} : ∀ {vs : List V} {ds : List D} (n : Nat), DpAll K H vs ds → DpAll K H (vs.take n) (ds.take n)
  | _, _, 0, _ => .nil
  | _, _, _ + 1, .nil => .nil
  | _, _, n + 1, .cons h r => .cons h (dps_take n r)
theorem dps_drop {H : Hp} : ∀ {vs : List V} {ds : List D} (n : Nat), DpAll K H vs ds → DpAll K H (vs.drop n) (ds.drop n)
  | _, _, 0, r => r
  | _, _, _ + 1, .nil => .nil
  | _, _, n + 1, .cons h r => dps_drop n r
theorem dps_rev {H : Hp} : ∀ {vs : List V} {ds : List D}, DpAll K H vs ds → DpAll K H vs.reverse ds.reverse
  | _, _, .nil => .nil
  | _, _, .cons h r => by rw [List.reverse_cons, List.reverse_cons]; exact dps_append (dps_rev r) (.cons h .nil)
theorem dps_set {H : Hp} {v : V} {d : D} (h : Dp K H v d) : ∀ {vs : List V} {ds : List D} (i : Nat), DpAll K H vs ds → DpAll K H (vs.set i v) (ds.set i d)
  | _, _, _, .nil => .nil
  | _, _, 0, .cons _ r => .cons h r
  | _, _, i + 1, .cons q r => .cons q (dps_set h i r)
theorem dps_rep {H : Hp} {vs : List V} {ds : List D} (h : DpAll K H vs ds) : ∀ k : Nat, DpAll K H (List.replicate k vs).flatten (List.replicate k ds).flatten
  | 0 => .nil
  | k + 1 => by rw [List.replicate_succ, List.replicate_succ, List.flatten_cons, List.flatten_cons]; exact dps_append h (dps_rep h k)
theorem dps_dropLast {H : Hp} {vs : List V} {ds : List D} (h : DpAll K H vs ds) : DpAll K H vs.dropLast ds.dropLast := by
  rw [List.dropLast_eq_take, List.dropLast_eq_take, dps_len h]
  exact dps_take _ h
end
theorem same_upd {H : Hp} {p : Addr} {o : HO} (h : H p = none) : Same H (upd H p o) := fun b x e => by
  rw [upd_ne (ne_of_none e h)]
  exact e

structure RelE (K : PySem.W.Frag) (H : Hp) (σ : L2.St) (ρ : En) : Prop where
  len : σ.length = ρ.length
  at_ : ∀ (i : Nat) (d : D), ρ[i]? = some (some d) → ∃ v, σ[i]? = some (some v) ∧ Dp K H v d
theorem RelE.mono {K : PySem.W.Frag} {H H' : Hp} {σ : L2.St} {ρ : En} (r : RelE K H σ ρ) (e : Same H H') : RelE K H' σ ρ := ⟨r.len, fun i d h =>
  let ⟨v, a, b⟩ := r.at_ i d h
  ⟨v, a, dp_mono e b⟩⟩

/-! ### what a reading computes -/
/-- the known part G of the heap H grows to the known part G' of H': what is new in it is new -/
structure Ex4 (G H G' H' : Hp) : Prop where
  g : Same G G'
  s : Same G' H'
  h : Same H H'
  n : ∀ b, H b ≠ none → G b = none → G' b = none
theorem Ex4.refl {G H : Hp} (s : Same G H) : Ex4 G H G H := ⟨Same.refl G, s, Same.refl H, fun _ _ e => e⟩
theorem Ex4.trans {G H G1 H1 G2 H2 : Hp} (a : Ex4 G H G1 H1) (b : Ex4 G1 H1 G2 H2) : Ex4 G H G2 H2 :=
  ⟨a.g.trans b.g, b.s, a.h.trans b.h, fun x hx gx => b.n x (fun e => hx (a.h.free e)) (a.n x hx gx)⟩
theorem same_both {G H : Hp} {p : Addr} {o : HO} (s : Same G H) : Same (upd G p o) (upd H p o) := fun b x e => by
  by_cases hb : b = p
  · subst hb; rw [upd_same] at e ⊢; exact e
  · rw [upd_ne hb] at e ⊢; exact s b x e
theorem Ex4.new {G H : Hp} {p : Addr} {o : HO} (s : Same G H) (hp : H p = none) : Ex4 G H (upd G p o) (upd H p o) :=
  ⟨same_upd (s.free hp), same_both s, same_upd hp, fun b hb gb => by rw [upd_ne (fun e => hb (by rw [e]; exact hp))]; exact gb⟩
def Gd {α β : Type} (ca : String → Addr) (E : XK) (rel : Hp → β → α → Prop) (G H : Hp) (Q : β → Hp → Prop) : R α → Prop
  | .ok a => ∀ b G' H', Ex4 G H G' H' → rel G' b a → Q b H'
  | .exc c => ∀ H', Same H H' → EX ca E c H'
  | .bad => False
theorem Gd.mono {α β : Type} {ca : String → Addr} {E : XK} {rel : Hp → β → α → Prop} {G H G' H' : Hp} {Q : β → Hp → Prop} {r : R α} (g : Gd ca E rel G H Q r) (e : Ex4 G H G' H') : Gd ca E rel G' H' Q r := by
  cases r with
  | ok a => exact fun b G1 H1 s q => g b G1 H1 (e.trans s) q
  | exc c => exact fun H1 s => g H1 (e.h.trans s)
  | bad => exact g
def CG (K : PySem.W.Frag) (ca : String → Addr) (E : L2.St → XK) {α β : Type} (rel : Hp → β → α → Prop) (t : L2.St → Hp → (β → Hp → Prop) → Prop) (f : En → R α) : Prop :=
  ∀ (σ : L2.St) (ρ : En) (G H : Hp) (Q : β → Hp → Prop), Same G H → RelE K G σ ρ → Gd ca (E σ) rel G H Q (f ρ) → t σ H Q
abbrev rD (K : PySem.W.Frag) : Hp → V → D → Prop := fun H v d => Dp K H v d
abbrev rDs (K : PySem.W.Frag) : Hp → List V → List D → Prop := fun H v d => DpAll K H v d
abbrev rB : Hp → Bool → Bool → Prop := fun _ a b => a = b
abbrev CE (K : PySem.W.Frag) (ca : String → Addr) (E : L2.St → XK) (t : TE) (f : FE) : Prop := CG K ca E (rD K) t f
abbrev CT (K : PySem.W.Frag) (ca : String → Addr) (E : L2.St → XK) (t : TT) (f : FT) : Prop := CG K ca E rB t f
abbrev CA (K : PySem.W.Frag) (ca : String → Addr) (E : L2.St → XK) (t : TA) (f : FA) : Prop := CG K ca E (rDs K) t f
theorem CG.bind {K : PySem.W.Frag} {ca : String → Addr} {E : L2.St → XK} {α β γ δ : Type} {rel : Hp → β → α → Prop} {rel2 : Hp → γ → δ → Prop} {t : L2.St → Hp → (β → Hp → Prop) → Prop} {f : En → R α} (h : CG K ca E rel t f)
    {σ : L2.St} {ρ : En} {G H : Hp} (sg : Same G H) (re : RelE K G σ ρ) {k : α → R δ} {Q : γ → Hp → Prop} (g : Gd ca (E σ) rel2 G H Q ((f ρ).bind k)) {P : β → Hp → Prop}
    (kk : ∀ a b G1 H1, Ex4 G H G1 H1 → RelE K G1 σ ρ → rel G1 b a → Gd ca (E σ) rel2 G1 H1 Q (k a) → P b H1) : t σ H P := by
  refine h σ ρ G H P sg re ?_
  cases hf : f ρ with
  | ok a =>
    rw [hf] at g
    exact fun b G1 H1 s r => kk a b G1 H1 s (re.mono s.g) r (Gd.mono (show Gd ca (E σ) rel2 G H Q (k a) from g) s)
  | exc c =>
    rw [hf] at g
    exact fun H1 s => g H1 s
  | bad =>
    rw [hf] at g
    exact g
theorem Gd.here {α β : Type} {ca : String → Addr} {E : XK} {rel : Hp → β → α → Prop} {G H : Hp} {Q : β → Hp → Prop} {a : α} {b : β} (g : Gd ca E rel G H Q (.ok a)) (s : Same G H) (r : rel G b a) : Q b H := g b G H (Ex4.refl s) r

section
variable {K : PySem.W.Frag} {ca : String → Addr} {E : L2.St → XK}
/-! ### names, constants -/
def xV (i : Nat) : FE := fun ρ => match ρ[i]? with
  | some (some d) => .ok d
  | _ => .bad
def xC (d : D) : FE := fun _ => .ok d
theorem ce_var {i : Nat} : CE K ca E (tVar i) (xV i) := fun σ ρ G H Q sg re g => by
  unfold xV at g
  split at g
  · rename_i d h
    obtain ⟨v, hv, hd⟩ := re.at_ i d h
    exact ⟨v, hv, g.here sg hd⟩
  · exact g.elim
theorem ce_int {i : Int} : CE K ca E (tC (.int i)) (xC (.int i)) := fun σ ρ G H Q sg re g => g.here (b := V.int i) sg (.int i)
theorem ce_bl {b : Bool} : CE K ca E (tC (.bl b)) (xC (.bool b)) := fun σ ρ G H Q sg re g => g.here (b := V.bl b) sg (.bl b)
theorem ce_non : CE K ca E (tC .non) (xC .none) := fun σ ρ G H Q sg re g => g.here (b := V.non) sg .non
theorem ce_str {x : Str} : CE K ca E (tC (.str x)) (xC (.str x)) := fun σ ρ G H Q sg re g => g.here (b := V.str x) sg (.str x)

/-! ### two operands -/
def OD (K : PySem.W.Frag) (ca : String → Addr) (r : R2) (g : D → D → R D) : Prop := ∀ (E : XK) (x y : V) (G H : Hp) (Q : VK) (dx dy : D), Same G H → Dp K G x dx → Dp K G y dy → Gd ca E (rD K) G H Q (g dx dy) → r x y H Q
def x2 (g : D → D → R D) (fa fb : FE) : FE := fun ρ => (fa ρ).bind fun a => (fb ρ).bind fun b => g a b
theorem ce_op {r : R2} {g : D → D → R D} {ta tb : TE} {fa fb : FE} (ho : OD K ca r g) (ha : CE K ca E ta fa) (hb : CE K ca E tb fb) : CE K ca E (tOp r ta tb) (x2 g fa fb) := fun σ ρ G H Q sg re gg =>
  ha.bind sg re gg fun a x G1 H1 s1 re1 r1 g1 => hb.bind s1.s re1 g1 fun b y G2 H2 s2 re2 r2 g2 => ho _ x y G2 H2 Q a b s2.s (dp_mono s2.g r1) r2 g2
def UD (K : PySem.W.Frag) (ca : String → Addr) (r : V → Hp → VK → Prop) (g : D → R D) : Prop := ∀ (E : XK) (x : V) (G H : Hp) (Q : VK) (dx : D), Same G H → Dp K G x dx → Gd ca E (rD K) G H Q (g dx) → r x H Q
def x1 (g : D → R D) (fa : FE) : FE := fun ρ => (fa ρ).bind g
theorem ce_un {r : V → Hp → VK → Prop} {g : D → R D} {ta : TE} {fa : FE} (ho : UD K ca r g) (ha : CE K ca E ta fa) : CE K ca E (tUn r ta) (x1 g fa) := fun σ ρ G H Q sg re gg =>
  ha.bind sg re gg fun a x G1 H1 s1 re1 r1 g1 => ho _ x G1 H1 Q a s1.s r1 g1
theorem dp_int {H : Hp} {v : V} {i : Int} (h : Dp K H v (.int i)) : v = .int i := by cases h; rfl
theorem dp_bl {H : Hp} {v : V} {b : Bool} (h : Dp K H v (.bool b)) : v = .bl b := by cases h; rfl
theorem dp_str {H : Hp} {v : V} {b : Str} (h : Dp K H v (.str b)) : v = .str b := by cases h; rfl
theorem dp_non {H : Hp} {v : V} (h : Dp K H v .none) : v = .non := by cases h; rfl
theorem dp_tup {H : Hp} {v : V} {ds : List D} (h : Dp K H v (.tuple ds)) : ∃ a xs, v = .ref a ∧ SqT K H a xs ∧ DpAll K H xs ds := by
  cases h with
  | tup h r => exact ⟨_, _, rfl, h, r⟩
theorem dp_lst {H : Hp} {v : V} {ds : List D} (h : Dp K H v (.list ds)) : ∃ a xs, v = .ref a ∧ SqL K H a xs ∧ DpAll K H xs ds := by
  cases h with
  | lst h r => exact ⟨_, _, rfl, h, r⟩
theorem dp_dict {H : Hp} {v : V} {l : List (D × D)} (h : Dp K H v (.dict l)) : ∃ a dx vq vs q bs k, v = .ref a ∧ PyData.dict l = obD q bs k ∧ H a = some (.ins (ctrC K) dx (obFs vq vs (.int k))) ∧ Dp K H vq q ∧ Stp H vs bs := by
  cases h with
  | obj h a b c => exact ⟨_, _, _, _, _, _, _, rfl, by rw [c]; rfl, h, a, b⟩
theorem bools_inj : ∀ {bs cs : List Bool}, bs.map PyData.bool = cs.map PyData.bool → bs = cs
  | [], [], _ => rfl
  | [], _ :: _, h => by simp at h
  | _ :: _, [], h => by simp at h
  | b :: bs, c :: cs, h => by
    rw [List.map_cons, List.map_cons] at h
    injection h with h1 h2
    injection h1 with h1
    rw [h1, bools_inj h2]
theorem obD_inj {q q' : D} {bs bs' : List Bool} {k k' : Int} (h : obD q bs k = obD q' bs' k') : q = q' ∧ bs = bs' ∧ k = k' := by
  unfold obD at h
  injection h with h
  injection h with h1 h2
  injection h1 with h1 h3
  injection h3 with h3
  injection h2 with h2 _
  injection h2 with h2 _
  injection h2 with h2
  exact ⟨h1, bools_inj h3, h2⟩
theorem dp_ob {H : Hp} {v : V} {q : D} {bs : List Bool} {k : Int} (h : Dp K H v (obD q bs k)) : ∃ a dx vq vs, v = .ref a ∧ H a = some (.ins (ctrC K) dx (obFs vq vs (.int k))) ∧ Dp K H vq q ∧ Stp H vs bs := by
  obtain ⟨a, dx, vq, vs, q', bs', k', h1, h2, h3, h4, h5⟩ := dp_dict (l := [(q, .tuple (bs.map .bool)), (.int k, .none)]) h
  obtain ⟨rfl, rfl, rfl⟩ := obD_inj (show obD q bs k = obD q' bs' k' from h2)
  exact ⟨a, dx, vq, vs, h1, h3, h4, h5⟩
theorem dp_obj {H : Hp} {a dx : Addr} {vq vs : V} {q : D} {bs : List Bool} {k : Int} (h : H a = some (.ins (ctrC K) dx (obFs vq vs (.int k)))) (hq : Dp K H vq q) (hs : Stp H vs bs) : Dp K H (.ref a) (obD q bs k) := .obj h hq hs rfl
theorem Stp.dp {H : Hp} {v : V} {bs : List Bool} (h : Stp H v bs) : Dp K H v (.tuple (bs.map .bool)) := by
  obtain ⟨b, o, rfl, h2, _⟩ := h
  refine .tup (.inl (.inr ⟨o, h2⟩)) ?_
  clear h2
  induction bs with
  | nil => exact .nil
  | cons c r ih => exact .cons (.bl c) ih
def blsOf : List D → Option (List Bool)
  | [] => some []
  | .bool b :: r => (blsOf r).map (b :: ·)
  | _ => none
theorem blsOf_map : ∀ bs : List Bool, blsOf (bs.map .bool) = some bs
  | [] => rfl
  | b :: bs => by simp [blsOf, blsOf_map bs]
def dOb : D → Option (D × List Bool × Int)
  | .dict [(q, .tuple ds), (.int k, .none)] => (blsOf ds).map fun bs => (q, bs, k)
  | _ => none
theorem dOb_ob (q : D) (bs : List Bool) (k : Int) : dOb (obD q bs k) = some (q, bs, k) := by
  simp [dOb, obD, blsOf_map]
theorem bls_of : ∀ {ds : List D} {bs : List Bool}, blsOf ds = some bs → ds = bs.map .bool
  | [], _, h => by cases h; rfl
  | .bool b :: r, _, h => by
    unfold blsOf at h
    rw [Option.map_eq_some_iff] at h
    obtain ⟨c, hc, rfl⟩ := h
    rw [bls_of hc]
    rfl
  | .none :: _, _, h => by cases h
  | .int _ :: _, _, h => by cases h
  | .str _ :: _, _, h => by cases h
  | .list _ :: _, _, h => by cases h
  | .tuple _ :: _, _, h => by cases h
  | .dict _ :: _, _, h => by cases h
theorem dOb_some {d : D} {q : D} {bs : List Bool} {k : Int} (h : dOb d = some (q, bs, k)) : d = obD q bs k := by
  unfold dOb at h
  split at h
  · rw [Option.map_eq_some_iff] at h
    obtain ⟨c, hc, e⟩ := h
    cases e
    rw [bls_of hc]
    rfl
  · cases h
def dSub : D → D → R D
  | .int a, .int b => .ok (.int (a - b))
  | _, _ => .bad
def dMul : D → D → R D
  | .int a, .int b => if a.natAbs.log2 + b.natAbs.log2 < 1000000 ∨ b.natAbs < 2 ^ 64 then .ok (.int (a * b)) else .bad
  | _, _ => .bad
def dFdiv : D → D → R D
  | .int a, .int b => if 0 < b ∧ b.natAbs.log2 < 9000 then .ok (.int (a / b)) else .bad
  | _, _ => .bad
def dMod : D → D → R D
  | .int a, .int b => if 0 < b then .ok (.int (a % b)) else .bad
  | _, _ => .bad
def dPow : D → D → R D
  | .int a, .int b => if 0 ≤ b ∧ b ≤ 1000000 ∧ a.natAbs < 2 ^ 64 then .ok (.int (a ^ b.toNat)) else .bad
  | _, _ => .bad
def dAdd : D → D → R D
  | .int a, .int b => .ok (.int (a + b))
  | .str a, .str b => if a.length + b.length ≤ sizeLine then .ok (.str (a ++ b)) else .bad
  | .tuple xs, .tuple ys => if xs.length + ys.length ≤ 1000 then .ok (.tuple (xs ++ ys)) else .bad
  | _, _ => .bad
theorem od_sub : OD K ca (rI0 fun i j => .int (i - j)) dSub := fun E x y G H Q dx dy sg hx hy g => by
  unfold dSub at g
  split at g
  · cases dp_int hx; cases dp_int hy
    exact ⟨_, _, rfl, rfl, g.here (b := V.int _) sg (.int _)⟩
  · exact g.elim
def CMulA (i j : Int) : Prop := i.natAbs.log2 + j.natAbs.log2 < 1000000 ∨ j.natAbs < 2 ^ 64
theorem CMulA.ok {i j : Int} (h : CMulA i j) : IntMulOk i j := by
  rcases h with h | h
  · exact CMulW.ok h
  · exact CMul.ok (.inr ⟨by omega, by omega⟩)
theorem op_mulA {X : Cx} : OpR X (binaryOp .Mult) (rI CMulA fun i j => .int (i * j)) := opI fun _ _ _ _ _ _ _ hc q => mul_int q hc.ok
theorem iop_mulA {X : Cx} : OpR X (inplaceOp .Mult) (rI CMulA fun i j => .int (i * j)) := opI fun _ _ _ _ _ _ _ hc q => imul_int q hc.ok
theorem od_mul : OD K ca (rI CMulA fun i j => .int (i * j)) dMul := fun E x y G H Q dx dy sg hx hy g => by
  unfold dMul at g
  split at g
  · cases dp_int hx; cases dp_int hy
    split at g
    · rename_i h
      exact ⟨_, _, rfl, rfl, h, g.here (b := V.int _) sg (.int _)⟩
    · exact g.elim
  · exact g.elim
theorem od_fdiv : OD K ca (rI CDivW fun i j => .int (i / j)) dFdiv := fun E x y G H Q dx dy sg hx hy g => by
  unfold dFdiv at g
  split at g
  · cases dp_int hx; cases dp_int hy
    split at g
    · rename_i h
      exact ⟨_, _, rfl, rfl, h, g.here (b := V.int _) sg (.int _)⟩
    · exact g.elim
  · exact g.elim
theorem od_mod : OD K ca (rI (fun _ j => 0 < j) fun i j => .int (i % j)) dMod := fun E x y G H Q dx dy sg hx hy g => by
  unfold dMod at g
  split at g
  · cases dp_int hx; cases dp_int hy
    split at g
    · rename_i h
      exact ⟨_, _, rfl, rfl, h, g.here (b := V.int _) sg (.int _)⟩
    · exact g.elim
  · exact g.elim
theorem od_pow : OD K ca (rI CPow fun i j => .int (i ^ j.toNat)) dPow := fun E x y G H Q dx dy sg hx hy g => by
  unfold dPow at g
  split at g
  · cases dp_int hx; cases dp_int hy
    split at g
    · rename_i h
      exact ⟨_, _, rfl, rfl, h, g.here (b := V.int _) sg (.int _)⟩
    · exact g.elim
  · exact g.elim
theorem sz1000 {n : Nat} (h : n ≤ 1000) : n ≤ sizeLine := Nat.le_trans h (by decide)
end
end HL
end
section
set_option Elab.async false
set_option linter.all false
set_option maxRecDepth 100000
set_option maxHeartbeats 4000000
namespace HL
open PySem PySem.Spec PyProof.Rows L2
section
variable {X : Cx}
/-- list + list, whatever the lists are -/
def rCatS (K : PySem.W.Frag) : R2 := fun x y H Q => ∃ l b xs zs, x = .ref l ∧ y = .ref b ∧ SqL K H l xs ∧ SqL K H b zs ∧ xs.length + zs.length ≤ sizeLine ∧ ∀ p, H p = none → Q (.ref p) (upd H p (.lst (xs ++ zs)))
theorem op_catS : OpR X (binaryOp .Add) (rCatS X.K) := by
  intro pins s σ H x y v u Q I rx ry h
  obtain ⟨l, b, xs, zs, rfl, rfl, hl, hb, hz, q⟩ := h
  cases rx
  cases ry
  obtain ⟨its, r, ⟨⟨c1, d1, da1, sl1⟩, n, ho, hc, hd, hs⟩, z1⟩ := I.list hl
  obtain ⟨its2, r2, ⟨⟨c2, d2, da2, sl2⟩, n2, ho2, hc2, hd2, hs2⟩, z2⟩ := I.list hb
  simp only at hc hd hs hc2 hd2 hs2
  subst hc hd hs hc2 hd2 hs2
  have e1 := r.length
  have e2 := r2.length
  refine concat_meets ⟨_, ho, rfl⟩ ⟨_, ho2, rfl⟩ noFill_list_add seq_list_add PySem.F.slot_list_add PySem.F.entry_list_add (PySem.F.args_list_add_2 _ _) (PyProof.Rows.list_addW l b its.toArray its2.toArray n n2 none none sl1 sl2 (by simp; omega)) ⟨ho, ho2, ?_⟩
  have ea : its.toArray ++ its2.toArray = (its ++ its2).toArray := by simp
  rw [ea]
  exact ⟨.ref _, _, I.lnew (t' := s.toks) (r.append r2) (by rw [List.length_append]; omega), rfl, q _ I.fresh⟩
end
section
variable {K : PySem.W.Frag} {ca : String → Addr} {E : L2.St → XK}
theorem Gd.newT {G H : Hp} {Q : VK} {E : XK} {xs : List V} {ds : List D} (g : Gd ca E (rD K) G H Q (.ok (.tuple ds))) (s : Same G H) (h : DpAll K G xs ds) : ∀ p, H p = none → Q (.ref p) (upd H p (.tup xs)) := fun p hp =>
  g (.ref p) _ _ (Ex4.new s hp) (.tup (SqT.of upd_same) (dps_mono (same_upd (s.free hp)) h))
theorem Gd.newL {G H : Hp} {Q : VK} {E : XK} {xs : List V} {ds : List D} (g : Gd ca E (rD K) G H Q (.ok (.list ds))) (s : Same G H) (h : DpAll K G xs ds) : ∀ p, H p = none → Q (.ref p) (upd H p (.lst xs)) := fun p hp =>
  g (.ref p) _ _ (Ex4.new s hp) (.lst (SqL.of upd_same) (dps_mono (same_upd (s.free hp)) h))
/-! ### + -/
def dAddA : D → D → R D
  | .int a, .int b => .ok (.int (a + b))
  | .str a, .str b => if a.length + b.length ≤ 100000 then .ok (.str (a ++ b)) else .bad
  | .tuple xs, .tuple ys => if xs.length + ys.length ≤ 1000 then .ok (.tuple (xs ++ ys)) else .bad
  | .list xs, .list ys => if xs.length + ys.length ≤ 1000 then .ok (.list (xs ++ ys)) else .bad
  | _, _ => .bad
def rAddA (K : PySem.W.Frag) : R2 := fun x y H Q => rI0 (fun i j => .int (i + j)) x y H Q ∨ ((∃ i j, x = .str i ∧ y = .str j ∧ i.length + j.length ≤ sizeLine ∧ Q (.str (i ++ j)) H) ∨ (rCatA K x y H Q ∨ rCatS K x y H Q))
theorem op_addA {X : Cx} : OpR X (binaryOp .Add) (rAddA X.K) := op_add.or (op_add_str.or (op_catA.or op_catS))
theorem od_add : OD K ca (rAddA K) dAddA := fun E x y G H Q dx dy sg hx hy g => by
  unfold dAddA at g
  split at g
  · cases dp_int hx; cases dp_int hy
    exact .inl ⟨_, _, rfl, rfl, g.here (b := V.int _) sg (.int _)⟩
  · cases dp_str hx; cases dp_str hy
    split at g
    · rename_i h
      exact .inr (.inl ⟨_, _, rfl, rfl, Nat.le_trans h (by decide), g.here (b := V.str _) sg (.str _)⟩)
    · exact g.elim
  · split at g
    · rename_i h
      obtain ⟨a, xs, rfl, sa, ra⟩ := dp_tup hx
      obtain ⟨b, ys, rfl, sb, rb⟩ := dp_tup hy
      refine .inr (.inr (.inl ⟨a, b, xs, ys, rfl, rfl, sqT_mono sg sa, sqT_mono sg sb, by rw [dps_len ra, dps_len rb]; exact sz1000 h, fun e => ?_, fun _ e => ?_, fun _ _ => g.newT sg (dps_append ra rb)⟩))
      · subst e; cases ra; exact g.here (b := .ref b) sg (.tup sb rb)
      · subst e; cases rb; rw [List.append_nil] at g; exact g.here (b := .ref a) sg (.tup sa ra)
    · exact g.elim
  · split at g
    · rename_i h
      obtain ⟨a, xs, rfl, sa, ra⟩ := dp_lst hx
      obtain ⟨b, ys, rfl, sb, rb⟩ := dp_lst hy
      exact .inr (.inr (.inr ⟨a, b, xs, ys, rfl, rfl, sg.seq sa, sg.seq sb, by rw [dps_len ra, dps_len rb]; exact sz1000 h, g.newL sg (dps_append ra rb)⟩))
    · exact g.elim
  · exact g.elim
def dNeg : D → R D
  | .int a => .ok (.int (-a))
  | _ => .bad
theorem ud_neg : UD K ca (rU fun i => .int (-i)) dNeg := fun E x G H Q dx sg hx g => by
  unfold dNeg at g
  split at g
  · cases dp_int hx; exact ⟨_, rfl, g.here (b := V.int _) sg (.int _)⟩
  · exact g.elim
/-! ### comparisons -/
def dCmp (p : Int → Int → Bool) : D → D → R D
  | .int a, .int b => .ok (.bool (p a b))
  | _, _ => .bad
theorem od_cmp {p : Int → Int → Bool} : OD K ca (rI0 fun i j => .bl (p i j)) (dCmp p) := fun E x y G H Q dx dy sg hx hy g => by
  unfold dCmp at g
  split at g
  · cases dp_int hx; cases dp_int hy
    exact ⟨_, _, rfl, rfl, g.here (b := V.bl _) sg (.bl _)⟩
  · exact g.elim
def dLt : D → D → R D := dCmp fun i j => decide (i < j)
def dLe : D → D → R D := dCmp fun i j => decide (i ≤ j)
def dGt : D → D → R D := dCmp fun i j => decide (j < i)
def dGe : D → D → R D := dCmp fun i j => decide (j ≤ i)
def dEq (d e : D) : R D := if (SeqAt.shaped d && SeqAt.shaped e) = true then .ok (.bool (PyData.eqv d e)) else .bad
def dNe (d e : D) : R D := if (SeqAt.shaped d && SeqAt.shaped e) = true then .ok (.bool (!PyData.eqv d e)) else .bad
theorem od_eq : OD K ca (rEqD K) dEq := fun E x y G H Q dx dy sg hx hy g => by
  unfold dEq at g
  split at g
  · rename_i h
    rw [Bool.and_eq_true] at h
    exact ⟨dx, dy, dp_kit (dp_mono sg hx) (SeqAt.canLay_of_shaped h.1), dp_kit (dp_mono sg hy) (SeqAt.canLay_of_shaped h.2), h.1, h.2, g.here (b := V.bl _) sg (.bl _)⟩
  · exact g.elim
theorem od_ne : OD K ca (rNeD K) dNe := fun E x y G H Q dx dy sg hx hy g => by
  unfold dNe at g
  split at g
  · rename_i h
    rw [Bool.and_eq_true] at h
    exact ⟨dx, dy, dp_kit (dp_mono sg hx) (SeqAt.canLay_of_shaped h.1), dp_kit (dp_mono sg hy) (SeqAt.canLay_of_shaped h.2), h.1, h.2, g.here (b := V.bl _) sg (.bl _)⟩
  · exact g.elim
def xCh (g g' : D → D → R D) (fa fb fc : FE) : FE := fun ρ => (fa ρ).bind fun a => (fb ρ).bind fun b => (g a b).bind fun z => match z with
  | .bool true => (fc ρ).bind fun c => g' b c
  | .bool false => .ok (.bool false)
  | _ => .bad
theorem ce_chain {r r' : R2} {g g' : D → D → R D} {ta tb tc : TE} {fa fb fc : FE} (ho : OD K ca r g) (ho' : OD K ca r' g') (ha : CE K ca E ta fa) (hb : CE K ca E tb fb) (hc : CE K ca E tc fc) : CE K ca E (tChain r r' ta tb tc) (xCh g g' fa fb fc) := fun σ ρ G H Q sg re gg =>
  ha.bind sg re gg fun a x G1 H1 s1 re1 r1 g1 => hb.bind s1.s re1 g1 fun b y G2 H2 s2 re2 r2 g2 => by
    refine ho (E σ) x y G2 H2 _ a b s2.s (dp_mono s2.g r1) r2 ?_
    cases hz : g a b with
    | ok z =>
      rw [hz, R.bind_ok] at g2
      intro v G3 H3 s3 rz
      cases z with
      | bool k =>
        cases dp_bl rz
        refine ⟨k, rfl, ?_⟩
        cases k with
        | true =>
          rw [if_pos rfl]
          exact hc.bind s3.s (re2.mono s3.g) (Gd.mono g2 s3) fun c w G4 H4 s4 re4 r4 g4 => ho' (E σ) y w G4 H4 Q b c s4.s (dp_mono (s3.g.trans s4.g) r2) r4 g4
        | false =>
          rw [if_neg Bool.false_ne_true]
          exact (Gd.mono g2 s3).here (b := V.bl false) s3.s (.bl false)
      | _ => exact g2.elim
    | exc c => rw [hz] at g2; exact g2
    | bad => rw [hz] at g2; exact g2
/-! ### tests -/
def dTru : D → R Bool
  | .none => .ok false
  | .bool b => .ok b
  | .int i => .ok (i != 0)
  | .str y => if y.length ≤ 100000 then .ok ((y.length : Int) != 0) else .bad
  | .list xs => .ok (!xs.isEmpty)
  | .tuple xs => .ok (!xs.isEmpty)
  | .dict _ => .bad
theorem dps_empty {H : Hp} {vs : List V} {ds : List D} (h : DpAll K H vs ds) : vs.isEmpty = ds.isEmpty := by cases h <;> rfl
theorem tru_of {H : Hp} {v : V} {d : D} {k : Bool} (h : Dp K H v d) (e : dTru d = .ok k) : TruV K v H k := by
  unfold dTru at e
  split at e
  · cases dp_non h; cases e; rfl
  · cases dp_bl h; cases e; rfl
  · cases dp_int h; cases e; rfl
  · cases dp_str h
    split at e
    · rename_i hl; cases e; exact ⟨Nat.le_trans hl (by decide), rfl⟩
    · cases e
  · obtain ⟨a, xs, rfl, sa, ra⟩ := dp_lst h
    cases e; exact .inl ⟨xs, sa, by rw [dps_empty ra]⟩
  · obtain ⟨a, xs, rfl, sa, ra⟩ := dp_tup h
    cases e; exact .inr (.inl ⟨xs, sa, by rw [dps_empty ra]⟩)
  · cases e
def yTru (fa : FE) : FT := fun ρ => (fa ρ).bind dTru
theorem ct_truth {ta : TE} {fa : FE} (ha : CE K ca E ta fa) : CT K ca E (fun σ H Q => ta σ H fun x H' => ∃ k, TruV K x H' k ∧ Q k H') (yTru fa) := fun σ ρ G H Q sg re gg =>
  ha.bind sg re gg fun a x G1 H1 s1 re1 r1 g1 => by
    cases hz : dTru a with
    | ok k => rw [hz] at g1; exact ⟨k, tru_of (dp_mono s1.s r1) hz, g1.here s1.s rfl⟩
    | exc c =>
      exfalso
      unfold dTru at hz
      split at hz <;> first | cases hz | (split at hz <;> cases hz)
    | bad => rw [hz] at g1; exact g1.elim
def dBl : D → R Bool
  | .bool b => .ok b
  | _ => .bad
def yBl (fa : FE) : FT := fun ρ => (fa ρ).bind dBl
theorem ct_test {ta : TE} {fa : FE} (ha : CE K ca E ta fa) : CT K ca E (tTest ta) (yBl fa) := fun σ ρ G H Q sg re gg =>
  ha.bind sg re gg fun a x G1 H1 s1 re1 r1 g1 => by
    unfold dBl at g1
    split at g1
    · cases dp_bl r1; exact ⟨_, rfl, g1.here s1.s rfl⟩
    · exact g1.elim
def yAnd (f g : FT) : FT := fun ρ => (f ρ).bind fun k => if k = true then g ρ else .ok false
def yOr (f g : FT) : FT := fun ρ => (f ρ).bind fun k => if k = true then .ok true else g ρ
def yNot (f : FT) : FT := fun ρ => (f ρ).bind fun k => .ok (!k)
theorem ct_and {t u : TT} {f g : FT} (ht : CT K ca E t f) (hu : CT K ca E u g) : CT K ca E (tAnd t u) (yAnd f g) := fun σ ρ G H Q sg re gg =>
  ht.bind sg re gg fun a x G1 H1 s1 re1 r1 g1 => by
    cases r1
    cases a with
    | true => rw [if_pos rfl] at g1 ⊢; exact hu σ ρ G1 H1 Q s1.s re1 g1
    | false => rw [if_neg Bool.false_ne_true] at g1 ⊢; exact g1.here s1.s rfl
theorem ct_or {t u : TT} {f g : FT} (ht : CT K ca E t f) (hu : CT K ca E u g) : CT K ca E (tOr t u) (yOr f g) := fun σ ρ G H Q sg re gg =>
  ht.bind sg re gg fun a x G1 H1 s1 re1 r1 g1 => by
    cases r1
    cases a with
    | true => rw [if_pos rfl] at g1 ⊢; exact g1.here s1.s rfl
    | false => rw [if_neg Bool.false_ne_true] at g1 ⊢; exact hu σ ρ G1 H1 Q s1.s re1 g1
theorem ct_not {t : TT} {f : FT} (ht : CT K ca E t f) : CT K ca E (tNot t) (yNot f) := fun σ ρ G H Q sg re gg =>
  ht.bind sg re gg fun a x G1 H1 s1 re1 r1 g1 => by cases r1; exact g1.here s1.s rfl
theorem ct_yes : CT K ca E tYes (fun _ => .ok true) := fun σ ρ G H Q sg re gg => gg.here (b := true) sg rfl
/-! ### and, or, not as values; a if t else b -/
def xAnd (fa fb : FE) : FE := fun ρ => (fa ρ).bind fun a => (dTru a).bind fun k => if k = true then fb ρ else .ok a
def xOr (fa fb : FE) : FE := fun ρ => (fa ρ).bind fun a => (dTru a).bind fun k => if k = true then .ok a else fb ρ
def xNot (fa : FE) : FE := fun ρ => (fa ρ).bind fun a => (dTru a).bind fun k => .ok (.bool (!k))
def xIf (f : FT) (fa fb : FE) : FE := fun ρ => (f ρ).bind fun k => if k = true then fa ρ else fb ρ
theorem tru_not_exc {d : D} {c : String} (h : dTru d = .exc c) : False := by
  unfold dTru at h
  split at h <;> first | cases h | (split at h <;> cases h)
theorem ce_and {ta tb : TE} {fa fb : FE} (ha : CE K ca E ta fa) (hb : CE K ca E tb fb) : CE K ca E (tAndT K ta tb) (xAnd fa fb) := fun σ ρ G H Q sg re gg =>
  ha.bind sg re gg fun a x G1 H1 s1 re1 r1 g1 => by
    cases hz : dTru a with
    | ok k =>
      rw [hz, R.bind_ok] at g1
      refine ⟨k, tru_of (dp_mono s1.s r1) hz, ?_⟩
      cases k with
      | true => rw [if_pos rfl] at g1 ⊢; exact hb σ ρ G1 H1 Q s1.s re1 g1
      | false => rw [if_neg Bool.false_ne_true] at g1 ⊢; exact g1.here s1.s r1
    | exc c => exact (tru_not_exc hz).elim
    | bad => rw [hz] at g1; exact g1.elim
theorem ce_or {ta tb : TE} {fa fb : FE} (ha : CE K ca E ta fa) (hb : CE K ca E tb fb) : CE K ca E (tOrT K ta tb) (xOr fa fb) := fun σ ρ G H Q sg re gg =>
  ha.bind sg re gg fun a x G1 H1 s1 re1 r1 g1 => by
    cases hz : dTru a with
    | ok k =>
      rw [hz, R.bind_ok] at g1
      refine ⟨k, tru_of (dp_mono s1.s r1) hz, ?_⟩
      cases k with
      | true => rw [if_pos rfl] at g1 ⊢; exact g1.here s1.s r1
      | false => rw [if_neg Bool.false_ne_true] at g1 ⊢; exact hb σ ρ G1 H1 Q s1.s re1 g1
    | exc c => exact (tru_not_exc hz).elim
    | bad => rw [hz] at g1; exact g1.elim
theorem ce_not {ta : TE} {fa : FE} (ha : CE K ca E ta fa) : CE K ca E (tNotT K ta) (xNot fa) := fun σ ρ G H Q sg re gg =>
  ha.bind sg re gg fun a x G1 H1 s1 re1 r1 g1 => by
    cases hz : dTru a with
    | ok k =>
      rw [hz, R.bind_ok] at g1
      exact ⟨k, tru_of (dp_mono s1.s r1) hz, g1.here (b := V.bl _) s1.s (.bl _)⟩
    | exc c => exact (tru_not_exc hz).elim
    | bad => rw [hz] at g1; exact g1.elim
theorem ce_if {t : TT} {f : FT} {ta tb : TE} {fa fb : FE} (ht : CT K ca E t f) (ha : CE K ca E ta fa) (hb : CE K ca E tb fb) : CE K ca E (tIf t ta tb) (xIf f fa fb) := fun σ ρ G H Q sg re gg =>
  ht.bind sg re gg fun a x G1 H1 s1 re1 r1 g1 => by
    cases r1
    cases a with
    | true => rw [if_pos rfl] at g1 ⊢; exact ha σ ρ G1 H1 Q s1.s re1 g1
    | false => rw [if_neg Bool.false_ne_true] at g1 ⊢; exact hb σ ρ G1 H1 Q s1.s re1 g1
/-! ### subscripts -/
def dIx : D → D → R D
  | .list xs, .int i => match atI xs i with
    | some d => .ok d
    | none => .bad
  | .tuple xs, .int i => match atI xs i with
    | some d => .ok d
    | none => .bad
  | _, _ => .bad
theorem dps_at {H : Hp} {vs : List V} {ds : List D} {i : Int} {d : D} (h : DpAll K H vs ds) (e : atI ds i = some d) : ∃ v, atI vs i = some v ∧ Dp K H v d := by
  unfold atI at e ⊢
  rw [dps_len h]
  cases hj : ixN ds.length i with
  | none => rw [hj] at e; cases e
  | some j => rw [hj] at e; exact dps_get h e
def rIxA (K : PySem.W.Frag) : R2 := fun x y H Q => rIxL K x y H Q ∨ rIxT K x y H Q
theorem ix_A {X : Cx} : IxR X (rIxA X.K) := ix_list.or ix_tup
theorem od_ix : OD K ca (rIxA K) dIx := fun E x y G H Q dx dy sg hx hy g => by
  unfold dIx at g
  split at g
  · split at g
    · rename_i h
      obtain ⟨a, xs, rfl, sa, ra⟩ := dp_lst hx
      cases dp_int hy
      obtain ⟨v, hv, hd⟩ := dps_at ra h
      exact .inl ⟨a, xs, _, v, rfl, rfl, sg.seq sa, hv, g.here sg hd⟩
    · exact g.elim
  · split at g
    · rename_i h
      obtain ⟨a, xs, rfl, sa, ra⟩ := dp_tup hx
      cases dp_int hy
      obtain ⟨v, hv, hd⟩ := dps_at ra h
      exact .inr ⟨a, xs, _, v, rfl, rfl, sqT_mono sg sa, hv, g.here sg hd⟩
    · exact g.elim
  · exact g.elim
/-! ### slices -/
abbrev rOI : Hp → Option Int → Option Int → Prop := fun _ a b => a = b
abbrev FO := En → R (Option Int)
abbrev CO (K : PySem.W.Frag) (ca : String → Addr) (E : L2.St → XK) (t : TO) (f : FO) : Prop := CG K ca E rOI t f
def oN : FO := fun _ => .ok none
def dOI : D → R (Option Int)
  | .int i => .ok (some i)
  | _ => .bad
def oS (f : FE) : FO := fun ρ => (f ρ).bind dOI
theorem co_none : CO K ca E tNoPart oN := fun σ ρ G H Q sg re gg => gg.here (b := none) sg rfl
theorem co_some {t : TE} {f : FE} (h : CE K ca E t f) : CO K ca E (tPart t) (oS f) := fun σ ρ G H Q sg re gg =>
  h.bind sg re gg fun a x G1 H1 s1 re1 r1 g1 => by
    unfold dOI at g1
    split at g1
    · cases dp_int r1; exact ⟨_, rfl, g1.here s1.s rfl⟩
    · exact g1.elim
def cutD {α : Type} (xs : List α) (lo hi : Option Int) : List α := (xs.drop (HT.sIx xs.length 0 lo)).take (HT.sIx xs.length xs.length hi - HT.sIx xs.length 0 lo)
theorem cut_whole {α : Type} {xs : List α} {lo hi : Option Int} (h1 : HT.sIx xs.length 0 lo = 0) (h2 : HT.sIx xs.length xs.length hi = xs.length) : cutD xs lo hi = xs := by
  unfold cutD
  rw [h1, h2]
  simp
theorem dps_cut {H : Hp} {vs : List V} {ds : List D} (h : DpAll K H vs ds) (lo hi : Option Int) : DpAll K H (cutV vs lo hi) (cutD ds lo hi) := by
  unfold cutV cutD
  rw [dps_len h]
  exact dps_take _ (dps_drop _ h)
def dSl : D → Option Int → Option Int → R D
  | .tuple xs, lo, hi => .ok (.tuple (cutD xs lo hi))
  | .list xs, lo, hi => .ok (.list (cutD xs lo hi))
  | .str z, lo, hi => if z.length ≤ 100000 then .ok (.str (cutS z lo hi)) else .bad
  | _, _, _ => .bad
def rSlW (K : PySem.W.Frag) : V → Option Int → Option Int → Hp → VK → Prop := fun x lo hi H Q => rSlA K x lo hi H Q ∨ (rSlL K x lo hi H Q ∨ rSlS x lo hi H Q)
theorem sl_W {X : Cx} : SlR X (rSlW X.K) := sl_tupA.or (sl_list.or sl_str)
def xSl (f : FE) (fl fh : FO) : FE := fun ρ => (f ρ).bind fun d => (fl ρ).bind fun lo => (fh ρ).bind fun hi => dSl d lo hi
theorem ce_slice {te : TE} {tl th : TO} {f : FE} {fl fh : FO} (h : CE K ca E te f) (hl : CO K ca E tl fl) (hh : CO K ca E th fh) : CE K ca E (tSl (rSlW K) te tl th) (xSl f fl fh) := fun σ ρ G H Q sg re gg =>
  h.bind sg re gg fun a x G1 H1 s1 re1 r1 g1 => hl.bind s1.s re1 g1 fun lo l G2 H2 s2 re2 r2 g2 => hh.bind s2.s re2 g2 fun hi u G3 H3 s3 re3 r3 g3 => by
    cases r2; cases r3
    have r1' := dp_mono (s2.g.trans s3.g) r1
    have sg3 := s3.s
    unfold dSl at g3
    split at g3
    · obtain ⟨a, xs, rfl, sa, ra⟩ := dp_tup r1'
      refine .inl ⟨a, xs, rfl, sqT_mono sg3 sa, fun e => ?_, fun _ => g3.newT sg3 (dps_cut ra _ _)⟩
      rw [dps_len ra] at e
      rw [cut_whole e.1 e.2] at g3
      exact g3.here (b := .ref a) sg3 (.tup sa ra)
    · obtain ⟨a, xs, rfl, sa, ra⟩ := dp_lst r1'
      exact .inr (.inl ⟨a, xs, rfl, sg3.seq sa, g3.newL sg3 (dps_cut ra _ _)⟩)
    · cases dp_str r1'
      split at g3
      · rename_i hz
        exact .inr (.inr ⟨_, rfl, Nat.le_trans hz (by decide), g3.here (b := V.str _) sg3 (.str _)⟩)
      · exact g3.elim
    · exact g3.elim
/-! ### argument lists, displays -/
def aN : FA := fun _ => .ok []
def aC (f : FE) (g : FA) : FA := fun ρ => (f ρ).bind fun a => (g ρ).bind fun r => .ok (a :: r)
theorem ca_nil : CA K ca E tNil aN := fun σ ρ G H Q sg re gg => gg.here (b := []) sg .nil
theorem ca_cons {te : TE} {t : TA} {f : FE} {g : FA} (h : CE K ca E te f) (hr : CA K ca E t g) : CA K ca E (tCons te t) (aC f g) := fun σ ρ G H Q sg re gg =>
  h.bind sg re gg fun a x G1 H1 s1 re1 r1 g1 => hr.bind s1.s re1 g1 fun b xs G2 H2 s2 re2 r2 g2 => g2.here s2.s (.cons (dp_mono s2.g r1) r2)
def dTup (ds : List D) : R D := if ds.length ≤ 1000 then .ok (.tuple ds) else .bad
def dLst (ds : List D) : R D := if ds.length ≤ 1000 then .ok (.list ds) else .bad
def xA (g : List D → R D) (f : FA) : FE := fun ρ => (f ρ).bind g
theorem ce_tup {t : TA} {f : FA} (h : CA K ca E t f) : CE K ca E (tTup t) (xA dTup f) := fun σ ρ G H Q sg re gg =>
  h.bind sg re gg fun ds xs G1 H1 s1 re1 r1 g1 => by
    unfold dTup at g1
    split at g1
    · rename_i hl
      exact ⟨by rw [dps_len r1]; exact sz1000 hl, g1.newT s1.s r1⟩
    · exact g1.elim
theorem ce_lst {t : TA} {f : FA} (h : CA K ca E t f) : CE K ca E (tLst t) (xA dLst f) := fun σ ρ G H Q sg re gg =>
  h.bind sg re gg fun ds xs G1 H1 s1 re1 r1 g1 => by
    unfold dLst at g1
    split at g1
    · rename_i hl
      exact ⟨by rw [dps_len r1]; exact sz1000 hl, g1.newL s1.s r1⟩
    · exact g1.elim
/-! ### built-in calls -/
def BD (K : PySem.W.Frag) (ca : String → Addr) (r : List V → Hp → VK → Prop) (g : List D → R D) : Prop := ∀ (E : XK) (vs : List V) (G H : Hp) (Q : VK) (ds : List D), Same G H → DpAll K G vs ds → Gd ca E (rD K) G H Q (g ds) → r vs H Q
theorem ce_cb {r : List V → Hp → VK → Prop} {g : List D → R D} {t : TA} {f : FA} (hr : BD K ca r g) (h : CA K ca E t f) : CE K ca E (tCB r t) (xA g f) := fun σ ρ G H Q sg re gg =>
  h.bind sg re gg fun ds xs G1 H1 s1 re1 r1 g1 => hr _ xs G1 H1 Q ds s1.s r1 g1
theorem dps1 {H : Hp} {vs : List V} {d : D} (h : DpAll K H vs [d]) : ∃ v, vs = [v] ∧ Dp K H v d := by
  cases h with
  | cons h r => cases r; exact ⟨_, rfl, h⟩
theorem dps2 {H : Hp} {vs : List V} {d e : D} (h : DpAll K H vs [d, e]) : ∃ v w, vs = [v, w] ∧ Dp K H v d ∧ Dp K H w e := by
  cases h with
  | cons h r =>
    obtain ⟨w, rfl, hw⟩ := dps1 r
    exact ⟨_, w, rfl, h, hw⟩
def dLen : List D → R D
  | [.list xs] => .ok (.int xs.length)
  | [.tuple xs] => .ok (.int xs.length)
  | [.str z] => if z.length ≤ 100000 then .ok (.int z.length) else .bad
  | _ => .bad
def rLenA (K : PySem.W.Frag) : List V → Hp → VK → Prop := fun xs H Q => (∃ p ys, xs = [.ref p] ∧ (SqL K H p ys ∨ SqT K H p ys) ∧ Q (.int ys.length) H) ∨ ∃ z, xs = [.str z] ∧ z.length ≤ sizeLine ∧ Q (.int z.length) H
theorem call_lenA {X : Cx} : CallR X (.builtin "len") (rLenA X.K) := call_len_seq.or call_len_str
theorem bd_len : BD K ca (rLenA K) dLen := fun E vs G H Q ds sg h g => by
  unfold dLen at g
  split at g
  · obtain ⟨v, rfl, hv⟩ := dps1 h
    obtain ⟨a, xs, rfl, sa, ra⟩ := dp_lst hv
    exact .inl ⟨a, xs, rfl, .inl (sg.seq sa), by rw [dps_len ra]; exact g.here (b := V.int _) sg (.int _)⟩
  · obtain ⟨v, rfl, hv⟩ := dps1 h
    obtain ⟨a, xs, rfl, sa, ra⟩ := dp_tup hv
    exact .inl ⟨a, xs, rfl, .inr (sqT_mono sg sa), by rw [dps_len ra]; exact g.here (b := V.int _) sg (.int _)⟩
  · obtain ⟨v, rfl, hv⟩ := dps1 h
    cases dp_str hv
    split at g
    · rename_i hl
      exact .inr ⟨_, rfl, Nat.le_trans hl (by decide), g.here (b := V.int _) sg (.int _)⟩
    · exact g.elim
  · exact g.elim
def dAbs : List D → R D
  | [.int i] => .ok (.int (if i < 0 then -i else i))
  | _ => .bad
theorem bd_abs : BD K ca (fun xs H Q => ∃ i, xs = [.int i] ∧ Q (.int (if i < 0 then -i else i)) H) dAbs := fun E vs G H Q ds sg h g => by
  unfold dAbs at g
  split at g
  · obtain ⟨v, rfl, hv⟩ := dps1 h
    cases dp_int hv
    exact ⟨_, rfl, g.here (b := V.int _) sg (.int _)⟩
  · exact g.elim
def dMax : List D → R D
  | [.int i, .int j] => .ok (.int (if j > i then j else i))
  | _ => .bad
theorem bd_max : BD K ca (fun xs H Q => ∃ i j, xs = [.int i, .int j] ∧ Q (.int (if j > i then j else i)) H) dMax := fun E vs G H Q ds sg h g => by
  unfold dMax at g
  split at g
  · obtain ⟨v, w, rfl, hv, hw⟩ := dps2 h
    cases dp_int hv; cases dp_int hw
    exact ⟨_, _, rfl, g.here (b := V.int _) sg (.int _)⟩
  · exact g.elim
def dTupOf : List D → R D
  | [.list xs] => .ok (.tuple xs)
  | [.tuple xs] => .ok (.tuple xs)
  | _ => .bad
theorem bd_tup : BD K ca (fun xs H Q => ∃ p ys, xs = [.ref p] ∧ ((SqL K H p ys ∧ ∀ l, H l = none → Q (.ref l) (upd H l (.tup ys))) ∨ (SqT K H p ys ∧ Q (.ref p) H))) dTupOf := fun E vs G H Q ds sg h g => by
  unfold dTupOf at g
  split at g
  · obtain ⟨v, rfl, hv⟩ := dps1 h
    obtain ⟨a, xs, rfl, sa, ra⟩ := dp_lst hv
    exact ⟨a, xs, rfl, .inl ⟨sg.seq sa, g.newT sg ra⟩⟩
  · obtain ⟨v, rfl, hv⟩ := dps1 h
    obtain ⟨a, xs, rfl, sa, ra⟩ := dp_tup hv
    exact ⟨a, xs, rfl, .inr ⟨sqT_mono sg sa, g.here (b := .ref a) sg (.tup sa ra)⟩⟩
  · exact g.elim
def dLstOf : List D → R D
  | [.list xs] => .ok (.list xs)
  | [.tuple xs] => .ok (.list xs)
  | _ => .bad
theorem bd_lst : BD K ca (fun xs H Q => ∃ p ys, xs = [.ref p] ∧ (SqL K H p ys ∨ SqT K H p ys) ∧ ∀ l, H l = none → Q (.ref l) (upd H l (.lst ys))) dLstOf := fun E vs G H Q ds sg h g => by
  unfold dLstOf at g
  split at g
  · obtain ⟨v, rfl, hv⟩ := dps1 h
    obtain ⟨a, xs, rfl, sa, ra⟩ := dp_lst hv
    exact ⟨a, xs, rfl, .inl (sg.seq sa), g.newL sg ra⟩
  · obtain ⟨v, rfl, hv⟩ := dps1 h
    obtain ⟨a, xs, rfl, sa, ra⟩ := dp_tup hv
    exact ⟨a, xs, rfl, .inr (sqT_mono sg sa), g.newL sg ra⟩
  · exact g.elim
/-! ### isinstance -/
def tyN : D → String
  | .none => "NoneType"
  | .bool _ => "bool"
  | .int _ => "int"
  | .str _ => "str"
  | .list _ => "list"
  | .tuple _ => "tuple"
  | .dict _ => "?"
theorem ty_of {H : Hp} {v : V} {d : D} (h : Dp K H v d) (hd : ∀ l, d ≠ .dict l) : TyX K H v (.type (tyN d)) := by
  cases h with
  | non => exact .base .non
  | bl b => exact .base (.bl b)
  | int i => exact .base (.int i)
  | str x => exact .base (.str x)
  | lst h r =>
    rcases h with (h | ⟨o, h⟩) | ⟨o, its, n, h, c, _⟩
    · exact .base (.lst h)
    · exact .base (.frz h)
    · exact .kList h c
  | tup h r =>
    rcases h with (h | ⟨o, h⟩) | ⟨o, its, n, h, c, _⟩
    · exact .base (.tup h)
    · exact .fTuple h
    · exact .kTuple h c
  | obj _ _ _ _ => exact (hd _ rfl).elim
def dIsi (T : String) (d : D) : R D := match kitB (tyN d) T with
  | some b => .ok (.bool b)
  | none => .bad
theorem ce_isi {T : String} {ta : TE} {fa : FE} (ha : CE K ca E ta fa) (hT : kitB "?" T = none := by decide +kernel) : CE K ca E (tCB (rIsi K) (tCons ta (tCons (tC (.ty T)) tNil))) (x1 (dIsi T) fa) := fun σ ρ G H Q sg re gg =>
  ha.bind sg re gg fun a x G1 H1 s1 re1 r1 g1 => by
    unfold dIsi at g1
    split at g1
    · rename_i b hb
      exact ⟨x, .ty T, _, _, b, rfl, .ty T, ty_of (dp_mono s1.s r1) (fun l e => by subst e; rw [show tyN (.dict l) = "?" from rfl, hT] at hb; cases hb), kit_ty hb, g1.here (b := V.bl _) s1.s (.bl _)⟩
    · exact g1.elim
end
end HL
end
section
set_option Elab.async false
set_option linter.all false
set_option maxRecDepth 100000
set_option maxHeartbeats 4000000
namespace HL
open PySem PySem.Spec PyProof.Rows L2
/-! ### t[::-1] of a tuple -/
section
variable {prog : Program} {w : World} {A : Around} {E : Value → Shared → Prop} {s : Shared}
theorem adj_back (n : Nat) : Builtin.Slice.sliceAdjust none none (-1) (n : Int) = ((n : Int) - 1, -1) := by
  unfold Builtin.Slice.sliceAdjust
  simp
theorem places_back (n : Nat) : Builtin.Slice.slicePlaces ((n : Int) - 1) (-1) (-1) = n := by
  unfold Builtin.Slice.slicePlaces
  by_cases h : (n : Int) - 1 > -1
  · simp only [h, if_pos]
    simp
  · have : n = 0 := by omega
    subst this; simp
theorem pick_back (xs : Array Value) : ((List.range xs.size).filterMap fun (m : Nat) => xs[(((xs.size : Nat) : Int) - 1 + (m : Int) * (-1)).toNat]?).toArray = xs.toList.reverse.toArray := by
  congr 1
  have hs : ∀ l : List Nat, (∀ m ∈ l, m < xs.size) → l.filterMap (fun (m : Nat) => xs[(((xs.size : Nat) : Int) - 1 + (m : Int) * (-1)).toNat]?) = l.map (fun m => xs.toList.reverse.getD m .none) := by
    intro l
    induction l with
    | nil => intro _; rfl
    | cons m r ih =>
      intro hm
      have h0 : m < xs.size := hm m List.mem_cons_self
      have e : (((xs.size : Nat) : Int) - 1 + (m : Int) * (-1)).toNat = xs.size - 1 - m := by omega
      have h1 : xs.size - 1 - m < xs.size := by omega
      rw [List.filterMap_cons, e, Array.getElem?_eq_getElem h1, List.map_cons, ih fun z hz => hm z (List.mem_cons_of_mem _ hz)]
      simp [List.getD, List.getElem?_reverse, h0, h1]
  rw [hs _ fun m hm => by simpa using hm]
  apply List.ext_getElem?
  intro i
  by_cases hi : i < xs.size
  · simp [hi, List.getD]
  · simp [hi]
theorem getItem_tuple_back {t sl : Addr} {items : Array Value} {vl vu vs : Value} {Q : Value → Shared → Prop} (ht : IsTup s.heap t items) (hs : s.heap.IsSliceOf sl vl vu vs) (pl : IsPart vl none) (pu : IsPart vu none) (ps : IsPart vs (some (-1)))
    (h : Q (.ref s.heap.objs.size) { s with heap := s.heap.push { cls := .type "tuple", data := .seq items.toList.reverse.toArray } })
    (hsz : items.size ≤ sizeLine) : wpAny (model prog w) A (getItem (.ref t) (.ref sl)) Q E s := by
  have hok : sizeOk (.seq items.toList.reverse.toArray) := by
    show items.toList.reverse.toArray.size ≤ sizeLine
    simpa using hsz
  obtain ⟨os, hos, hcs, hds⟩ := id hs
  have hTs : s.TypeIs (.ref sl) "slice" := ⟨os, hos, hcs⟩
  have sA0 : ∀ {A' : Around} {E' : Value → Shared → Prop} {Q : Int × Int × Nat → Shared → Prop}, Q ((items.size : Int) - 1, -1, items.size) s → wpAny (model prog w) A' (Builtin.Slice.sliceApplied (.ref sl) (pure (items.size : Int))) Q E' s := fun {A' E' Q} q => by
    unfold Builtin.Slice.sliceApplied Builtin.Slice.sliceFields
    refine wpAny_bind (wpAny_bind (wpAny_field hos hds (x := vl) rfl (wpAny_bind (wpAny_field hos hds (x := vu) rfl (wpAny_bind (wpAny_field hos hds (x := vs) rfl (wpAny_pure ?_)))))))
    refine wpAny_bind (HT.slicePart_ ps ?_)
    show wpAny _ _ (if ((-1 : Int) == 0) = true then _ else _) _ _ s
    rw [if_neg (by decide)]
    refine wpAny_bind (HT.slicePart_ pl (wpAny_bind (HT.slicePart_ pu (wpAny_bind (wpAny_pure ?_)))))
    show wpAny _ _ (match Builtin.Slice.sliceAdjust none none (-1) (items.size : Int) with | (lo, hi) => pure (lo, (-1 : Int), Builtin.Slice.slicePlaces lo hi (-1))) _ _ s
    rw [adj_back]
    show wpAny _ _ (pure ((items.size : Int) - 1, (-1 : Int), Builtin.Slice.slicePlaces ((items.size : Int) - 1) (-1) (-1))) _ _ s
    rw [places_back]
    exact wpAny_pure q
  unfold getItem
  try with_reducible refine wpAny_holding ?_
  first | refine wpAny_bind (wpAny_pure ?_) | skip
  refine wpAny_bind (wpAny_sequenceKey ht.typeIs (by decide) ?_)
  refine wpAny_bind (wpAny_callSpecial?_slot (name := Str.ofString "__getitem__") ht.typeIs PyProof.Rows.slot_tuple_getitem
    (wpAny_call_entry PyProof.Rows.slot_tuple_getitem ht.typeIs entry_tuple_getitem ?_ (args_tuple_getitem _ _)))
  show wpAny _ _ (Builtin.Tuple.tupleItemsOf (.ref t) >>= _) _ _ s
  refine wpAny_bind (tupleItemsOf_ ht ?_)
  refine wpAny_bind (wpAny_typeOf hTs ?_)
  rw [if_pos (by decide)]
  refine wpAny_bind (sA0 ?_)
  have hno : ¬ ((((items.size : Nat) : Int) - 1 == 0 && (-1 : Int) == 1 && items.size == items.size) = true) := by
    intro q
    rw [Bool.and_eq_true, Bool.and_eq_true] at q
    exact absurd q.1.2 (by decide)
  show wpAny _ _ (if (((items.size : Nat) : Int) - 1 == 0 && (-1 : Int) == 1 && items.size == items.size) = true then _ else _) _ _ s
  rw [if_neg hno, pick_back]
  first
    | exact wpAny_bind (m := Builtin.Tuple.tupleExact _) (wpAny_newObj_type (wpAny_pure ⟨_, rfl, wpAny_pure h⟩) hok)
    | exact wpAny_bind (wpAny_bind (m := Builtin.Tuple.tupleExact _) (wpAny_newObj_type (wpAny_pure ⟨_, rfl, wpAny_pure h⟩) hok))
    | exact wpAny_bind (wpAny_bind (m := Builtin.Tuple.tupleExact _) (wpAny_newObj_type (wpAny_pure (wpAny_pure ⟨_, rfl, wpAny_pure h⟩)) hok))
end
def tRevA (K : PySem.W.Frag) (te : TE) : TE := fun σ H Q => te σ H fun x H1 => ∃ a xs, x = .ref a ∧ ((SqT K H1 a xs ∧ ∀ p, H1 p = none → Q (.ref p) (upd H1 p (.tup xs.reverse))) ∨ (SqL K H1 a xs ∧ ∀ p, H1 p = none → Q (.ref p) (upd H1 p (.lst xs.reverse))))
theorem pe_revA {X : Cx} {e : Expr} {te : TE} {k : Nat} {p1 p2 p3 pos : Pos} (he : PE X e te) : PE X (.Subscript e (.Slice none none (some (.UnaryOp .USub (.Constant (.int 1) k p1) p2)) p3) pos) (tRevA X.K te) := by
  refine ⟨fun pins s σ H Q I h => ?_⟩
  refine Subscript_ (thn (he.run pins s σ H _ I h) fun v s1 ⟨x, H1, I1, r1, q1⟩ => ?_)
  obtain ⟨a, xs, ex, q1⟩ := q1
  subst ex
  cases r1
  have hst : PO X (some (.UnaryOp .USub (.Constant (.int 1) k p1) p2)) (tPart (tUn (rU fun i => .int (-i)) (tC (.int 1)))) := po_some (pe_un un_neg pe_int)
  refine wpAny_Slice (thn (po_none.run pins s1 σ H1 (fun o H2 => o = none ∧ H2 = H1) I1 ⟨rfl, rfl⟩) fun vl s2 ⟨l, H2, I2, pl, el, e2⟩ => ?_)
  subst el e2
  refine thn (po_none.run pins s2 σ H2 (fun o H3 => o = none ∧ H3 = H2) I2 ⟨rfl, rfl⟩) fun vu s3 ⟨u, H3, I3, pu, eu, e3⟩ => ?_
  subst eu e3
  refine thn (hst.run pins s3 σ H3 (fun o H4 => o = some (-1) ∧ H4 = H3) I3 ⟨1, rfl, -1, rfl, rfl, rfl⟩) fun vs s4 ⟨o, H4, I4, ps, eo, e4⟩ => ?_
  subst eo e4
  have I5 : Inv X pins σ H4 { s4 with heap := s4.heap.push { cls := .type "slice", data := .fields #[vl, vu, vs] } } := I4.kept (t' := s4.toks) fun b ob q => Heap.get?_push_of_some _ q
  show wpAny (model X.prog X.w) X.A (subscriptTail e (.Slice none none (some (.UnaryOp .USub (.Constant (.int 1) k p1) p2)) p3) (.ref a) (.ref s4.heap.objs.size)) (EP X pins σ Q) X.xe { s4 with heap := s4.heap.push { cls := .type "slice", data := .fields #[vl, vu, vs] } }
  rcases q1 with ⟨hx, q⟩ | ⟨hx, q⟩
  · obtain ⟨its, r, ht, hz⟩ := I5.tuple hx
    have hlen := r.length
    refine tail_any (ops := [.ref a, .ref s4.heap.objs.size]) ht.typeIs (PyProof.Rows.slot_tuple_getitem.lookup) ?_ (by with_unfolding_all rfl)
    refine getItem_tuple_back ht (Heap.IsSliceOf.new _ vl vu vs) pl pu ps ?_ (by rw [List.size_toArray]; omega)
    refine ⟨.ref _, _, I5.laid (t' := s4.toks) (o := .tup xs.reverse) (fun b ob q => Heap.get?_push_of_some _ q) (Nat.le_refl _) ?_, rfl, q _ (I5.hok.fresh (Nat.le_refl _))⟩
    exact ⟨by rw [List.length_reverse]; exact hz, _, r.reverse, ⟨_, Heap.get?_push_size _ rfl, rfl, _, rfl⟩⟩
  · obtain ⟨its, r, ht, hz⟩ := I5.list hx
    have hlen := r.length
    refine tail_any (ops := [.ref a, .ref s4.heap.objs.size]) ht.isList.typeIs (PySem.slot_list_getitem.lookup) ?_ (by with_unfolding_all rfl)
    refine wpAny_getItem_list_slice ht.isList (Heap.IsSliceOf.new _ vl vu vs) pl pu ps (by decide) ?_ (by rw [List.size_toArray]; omega)
    rw [PySem.W.krv_pick]
    refine ⟨.ref _, _, I5.laid (t' := s4.toks) (o := .lst xs.reverse) (fun b ob q => Heap.get?_push_of_some _ q) (Nat.le_refl _) ?_, rfl, q _ (I5.hok.fresh (Nat.le_refl _))⟩
    exact ⟨by rw [List.length_reverse]; exact hz, _, 0, r.reverse, Heap.get?_push_size _ rfl⟩

/-! ### a list or a tuple walked -/
section
variable {X : Cx} {tg : Expr}
def iSeqA (K : PySem.W.Frag) (tl : TE) : TI := fun σ H R => tl σ H fun x H1 => ∃ a, x = .ref a ∧ (((∃ xs, SqL K H1 a xs) ∧ R (Itl K a) H1) ∨ ((∃ xs, SqT K H1 a xs) ∧ R (Itt K a) H1))
theorem fp_one {pins : List (Addr × Obj)} {σ : L2.St} {H : Hp} {s : Shared} (I : Inv X pins σ H s) : ∀ b ∈ [s.heap.objs.size], FpOk X pins H b := fun b hb => by
  have e : b = s.heap.objs.size := by simpa using hb
  subst e
  exact I.fpOk (Nat.le_refl _) (I.hok.fresh (Nat.le_refl _))
theorem pi_seqA {l : Expr} {tl : TE} (hl : PE X l tl) : PI X tg l (iSeqA X.K tl) := by
  refine ⟨fun pins s σ H R I h => ?_⟩
  refine thn (hl.run pins s σ H _ I h) fun v s1 hv => ?_
  obtain ⟨x, H1, I1, r1, a, e, q⟩ := hv
  subst e
  cases r1
  rcases q with ⟨⟨xs, hq⟩, q⟩ | ⟨⟨xs, hq⟩, q⟩
  · obtain ⟨its, rv, p, hz⟩ := I1.list hq
    refine wpAny_pyIter_list p.isList ?_
    exact ⟨s1.heap.objs.size, [s1.heap.objs.size], _, _, H1, rfl, I1.kept (t' := s1.toks) fun b o e => Heap.get?_push_of_some _ e, turn_list a _, ⟨_, Heap.get?_push_size _ rfl, rfl, rfl⟩, fp_one I1, q⟩
  · obtain ⟨its, rv, p, hz⟩ := I1.tuple hq
    refine wpAny_pyIter_tuple (show s1.heap.IsTuple a its.toArray from p) ?_
    exact ⟨s1.heap.objs.size, [s1.heap.objs.size], _, _, H1, rfl, I1.kept (t' := s1.toks) fun b o e => Heap.get?_push_of_some _ e, turn_tuple a _, ⟨_, Heap.get?_push_size _ rfl, rfl, rfl⟩, fp_one I1, q⟩
end
/-! ### enumerate(tuple) -/
set_option maxHeartbeats 4000000 in
theorem meets_enum1 {v : Value} {o : Obj} {H : Heap → Prop} (B : Begins v o H) :
    Meets (Builtin.«enumerate.__new__» ⟨[.type "enumerate", v], []⟩) (fun _ R s => H s.heap ∧
      R (.ok (.ret (.ref (s.heap.push o).objs.size))) { s with heap := (s.heap.push o).push { cls := .type "enumerate", data := .fields #[.none, .bool false, .ref s.heap.objs.size, rawInt 0, .none, .none] } }) :=
  .of_wp fun prog w A R s h => by
    obtain ⟨hp, g, d, tk, os⟩ := s
    obtain ⟨h1, h⟩ := h
    have hsub := sub_enumerate
    have q1 : ∀ {A' : Around} {E : Value → Shared → Prop} {Q : Value → Shared → Prop}, Q (.ref hp.objs.size) ⟨hp.push o, g, d, tk, os⟩ → wpAny (model prog w) A' (pyIter v) Q E ⟨hp, g, d, tk, os⟩ :=
      fun q => B.iter prog w _ _ ⟨hp, g, d, tk, os⟩ _ h1 q
    wp_walk using q1
    refine wpAny_stack_any fun st => wpAny_pure ?_
    split
    · rename_i c _ _ _ _ _
      cases (c == Value.type "enumerate")
      · wp_walk using q1
        exact ⟨_, rfl, h⟩
      · wp_walk using q1
        exact ⟨_, rfl, h⟩
    · wp_walk using q1
      exact ⟨_, rfl, h⟩
theorem call_enumB {prog : Program} {w : World} {A : Around} {E : Value → Shared → Prop} {s : Shared} {v : Value} {o : Obj} {H : Heap → Prop} {Q : Value → Shared → Prop} (B : Begins v o H) (h1 : H s.heap)
    (h : ∀ h', IsEnum h' (s.heap.objs.size + 1) s.heap.objs.size 0 .none → h'.get? s.heap.objs.size = some o → (∀ b o, s.heap.get? b = some o → h'.get? b = some o) → Q (.ref (s.heap.objs.size + 1)) { s with heap := h' }) :
    wpAny (model prog w) A (call (.type "enumerate") [v]) Q E s := by
  refine callType_new F.called_enumerate (by decide) (F.typeCall_enumerate_1 _) (F.newCall_enumerate_1 _) (fun obj => F.args_object_init_2 obj _) F.entry_enumerate_new (meets_enum1 B) ⟨h1, ?_⟩
  have hz : (s.heap.push o).objs.size = s.heap.objs.size + 1 := Heap.size_push ..
  show _ ∧ _
  rw [hz]
  have he : IsEnum ((s.heap.push o).push { cls := .type "enumerate", data := .fields #[.none, .bool false, .ref s.heap.objs.size, rawInt 0, .none, .none] }) (s.heap.objs.size + 1) s.heap.objs.size 0 .none := by
    have := Heap.get?_push_size (s.heap.push o) (o := { cls := .type "enumerate", data := .fields #[.none, .bool false, .ref s.heap.objs.size, rawInt 0, .none, .none] }) rfl
    rw [hz] at this
    exact this
  exact ⟨⟨_, he, rfl⟩, h _ he (Heap.get?_push_of_some _ (Heap.get?_push_size _ B.free)) fun b o x => Heap.get?_push_of_some _ (Heap.get?_push_of_some _ x)⟩
def IteT (K : PySem.W.Frag) (a : Addr) : It :=
  ⟨fun i H => ∃ (xs : List V) (x : V), SqT K H a xs ∧ xs[i]? = some x, fun i H v H' => ∃ T x, v = .ref T ∧ H T = none ∧ H' = upd H T (.tup [.int (i : Nat), x]) ∧ ∀ xs, SqT K H a xs → xs[i]? = some x, fun i H => ∃ xs : List V, SqT K H a xs ∧ xs.length ≤ i⟩
theorem turn_enumT {P : Program} {w : World} {K : PySem.W.Frag} {elts : List Expr} {kk : Nat} {tpos : Pos} (a e it : Addr) (hai : a ≠ it) (hae : a ≠ e) :
    Turn P w K (.Tuple elts kk tpos) (IteT K a) [e, it] e (fun i h => (∃ old, IsEnum h e it ((i : Nat) : Int) old) ∧ h.IsTupleIter it a i ∧ e ≠ it) where
  mem := by simp
  obj := fun i h st b hb => by
    obtain ⟨⟨old, he⟩, ⟨o, ho, hc, hd⟩, _⟩ := st
    have e' : b = e ∨ b = it := by simpa using hb
    rcases e' with z | z
    · rw [z]; exact ⟨_, he, fun v q => nomatch q⟩
    · rw [z]; exact ⟨o, ho, fun v q => by rw [hd] at q; cases q⟩
  keep := fun i h h' st k => let ⟨⟨old, he⟩, hit, hne⟩ := st; ⟨⟨old, k e (by simp) _ he⟩, hit.at fun o q => k it (by simp) o q, hne⟩
  item := by
    intro X hP hw hK hc i pins s σ H E I hf st hg
    subst hP hw hK
    obtain ⟨⟨old, he⟩, hit, hne⟩ := st
    obtain ⟨xs, x, hq, hx⟩ := hg
    obtain ⟨its, rv, p, hz⟩ := I.tuple hq
    obtain ⟨u, hu, ru⟩ := rv.get hx
    have hel : e < s.heap.objs.size := Heap.lt_size he
    have hil : it < s.heap.objs.size := by obtain ⟨_, q, _⟩ := hit; exact Heap.lt_size q
    have hlt : i < its.toArray.size := by
      have := (List.getElem?_eq_some_iff.mp hu).1
      simpa using this
    have Dr := Draws.tuple (prog := X.prog) (w := X.w) (A := X.A.in1) (I.ok.hd hc) it a hai its.toArray
    refine wpAny_pyNext_enum_itemD Dr he ⟨hit, p⟩ hlt hne (by simp; exact ⟨hne, fun z => hae z.symm⟩) fun v h' tk hv ho hst hT hsz hk => ?_
    have ev : v = u := by
      have hu' : its.toArray[i]? = some u := by simpa using hu
      rw [hu'] at hv; exact (Option.some.inj hv).symm
    subst ev
    refine ⟨_, rfl, wpAny_letOwnedTupleGo_enum (s := { s with heap := h', toks := tk + 1 }) ho fun h'' he' sb => ?_⟩
    have hT2 : h''.get? s.heap.objs.size = some { cls := .type "tuple", data := .seq #[.int i tk, v] } := (sb.2 _ (Nat.ne_of_gt hel)).trans hT
    have new : ObjOk X.prog X.w (upd H s.heap.objs.size (.tup [.int (i : Nat), x])) h'' s.heap.objs.size (.tup [.int (i : Nat), x]) :=
      ⟨by show 2 ≤ sizeLine; decide, [.int i tk, v], .cons ⟨_, rfl⟩ (.cons ru .nil), ⟨_, hT2, rfl, _, rfl⟩⟩
    have I1 : Inv X pins σ (upd H s.heap.objs.size (.tup [.int (i : Nat), x])) { s with heap := h'', toks := tk + 1 } :=
      I.turnedNew (ch := [e, it]) (fun b ob hb q => (sb.2 b (fun z => hb (by simp [z]))).trans (hk b ob (fun z => hb (by simp [z])) (fun z => hb (by simp [z])) q)) hf (Nat.le_refl _) new
    refine ⟨.ref s.heap.objs.size, _, I1, rfl, ⟨_, x, rfl, I.hok.fresh (Nat.le_refl _), rfl, fun ys hy => by rw [I.tuple_inj hy hq]; exact hx⟩, ⟨⟨v, ?_⟩, hst.1.at fun o q => (sb.2 it (Ne.symm hne)).trans q, hne⟩, fun b hb => ?_⟩
    · have e1 : ((i + 1 : Nat) : Int) = (i : Int) + 1 := by omega
      rw [e1]; exact he'
    · have hb' : b < s.heap.objs.size := by
        have e' : b = e ∨ b = it := by simpa using hb
        rcases e' with z | z
        · rw [z]; exact hel
        · rw [z]; exact hil
      rw [upd_ne (Nat.ne_of_lt hb')]
      exact (hf b hb).1
  done := by
    intro X hP hw hK hc i pins s σ H E I hf st hg
    subst hP hw hK
    obtain ⟨⟨old, he⟩, hit, hne⟩ := st
    obtain ⟨xs, hq, hx⟩ := hg
    obtain ⟨its, rv, p, hz⟩ := I.tuple hq
    obtain ⟨f0, f1, f2, f3, f4, f5⟩ := hf it (by simp)
    have hl := rv.length
    have Dr : Draws X.prog X.w X.A.in1 it [it, a] 0 (fun _ _ => True) (fun _ h => h.IsTupleIter it a i ∧ h.IsTuple a its.toArray) :=
      { live := fun _ _ st => let ⟨o, ho, _⟩ := st.1; ⟨o, ho⟩
        frame := fun _ _ _ st hk => ⟨st.1.at fun o e => hk it (by simp) o e, st.2.at fun o e => hk a (by simp) o e⟩
        item := fun j _ _ _ hj _ _ => absurd hj (Nat.not_lt_zero j)
        done := fun s Q E st hE => wpAny_nextOf_tuple_end (I.ok.hd hc) st.1 st.2 (by simp; omega) hE }
    exact wpAny_pyNext_enum_endD Dr he ⟨hit, p⟩ fun h' eb => ⟨rfl, I.turned (t' := s.toks) (fun b o hb q => eb b o hb q) f0 f1 f3 f4 f5⟩
  self := fun A i s Q E st h => let ⟨⟨_, he⟩, _⟩ := st; wpAny_pyIter_enum he h
def iEnumA (K : PySem.W.Frag) (ta : TA) : TI := fun σ H R => ta σ H fun vs H1 => ∃ a xs, vs = [.ref a] ∧ ((SqL K H1 a xs ∧ R (Ite K a) H1) ∨ (SqT K H1 a xs ∧ R (IteT K a) H1))
theorem pi_enumA {X : Cx} {e : Expr} {ta : TA} {p pos tpos : Pos} {elts : List Expr} {kk : Nat} (hg : Gl X "enumerate") (hm : X.mg "enumerate" = none) (ha : PA X [e] ta) (hs : starEach [e] X.env = [(false, eval e X.env)] := by rfl) :
    PI X (.Tuple elts kk tpos) (.Call (.Name "enumerate" p) [e] [] pos) (iEnumA X.K ta) := by
  refine ⟨fun pins s σ H R I h => ?_⟩
  refine Call_ (ld_blt I hg hm boot_enumerate (PyProof.Rows.callWith_type1 (thn (ha.run pos pins s σ H _ I h) fun us s1 hu => ?_) hs rfl))
  obtain ⟨vs, H1, I1, r1, a, xs, ex, q⟩ := hu
  subst ex
  cases r1 with
  | cons r rr =>
    cases rr
    cases r
    have two : ∀ b ∈ [s1.heap.objs.size + 1, s1.heap.objs.size], FpOk X pins H1 b := fun b hb => by
      have e' : b = s1.heap.objs.size + 1 ∨ b = s1.heap.objs.size := by simpa using hb
      have hle : s1.heap.objs.size ≤ b := by
        rcases e' with z | z
        · rw [z]; exact Nat.le_add_right _ _
        · rw [z]; exact Nat.le_refl _
      exact I1.fpOk hle (I1.hok.fresh hle)
    rcases q with ⟨hq, q⟩ | ⟨hq, q⟩
    · obtain ⟨its, rv, p', hz⟩ := I1.list hq
      refine call_enumerate_list p'.isList fun h' he hit hsz hk => wpAny_pyIter_enum he ?_
      exact ⟨s1.heap.objs.size + 1, [s1.heap.objs.size + 1, s1.heap.objs.size], _, _, H1, rfl, I1.kept (t' := s1.toks) hk, turn_enum a (s1.heap.objs.size + 1) s1.heap.objs.size, ⟨⟨.none, he⟩, hit, Nat.succ_ne_self _⟩, two, q⟩
    · obtain ⟨its, rv, p', hz⟩ := I1.tuple hq
      have hal : a < s1.heap.objs.size := p'.lt
      refine call_enumB (begins_tuple a its.toArray) (show s1.heap.IsTuple a its.toArray from p') fun h' he hit hk => wpAny_pyIter_enum he ?_
      exact ⟨s1.heap.objs.size + 1, [s1.heap.objs.size + 1, s1.heap.objs.size], _, _, H1, rfl, I1.kept (t' := s1.toks) hk, turn_enumT a (s1.heap.objs.size + 1) s1.heap.objs.size (Nat.ne_of_lt hal) (Nat.ne_of_lt (Nat.lt_succ_of_lt hal)), ⟨⟨.none, he⟩, ⟨_, hit, rfl, rfl⟩, Nat.succ_ne_self _⟩, two, q⟩
end HL
end
section
set_option Elab.async false
set_option linter.all false
set_option maxRecDepth 100000
set_option maxHeartbeats 4000000
namespace HL
open PySem PySem.Spec PyProof.Rows L2
section
variable {K : PySem.W.Frag} {ca : String → Addr} {E : L2.St → XK}
/-! ### calls of the text's own defs -/
def spD (K : PySem.W.Frag) (ca : String → Addr) (n : Nat) (F : List D → R D) : Sp := fun vs H Q E => ∃ (G : Hp) (ds : List D), Same G H ∧ vs.length = n ∧ DpAll K G vs ds ∧ Gd ca E (rD K) G H Q (F ds)
def xCall (n : Nat) (F : List D → R D) (f : FA) : FE := fun ρ => (f ρ).bind fun ds => if ds.length = n then F ds else .bad
theorem ce_call {n : Nat} {F : List D → R D} {t : TA} {f : FA} (h : CA K ca E t f) : CE K ca E (tCallS (spD K ca n F) E t) (xCall n F f) := fun σ ρ G H Q sg re gg =>
  h.bind sg re gg fun ds vs G1 H1 s1 re1 r1 g1 => by
    split at g1
    · rename_i hn
      exact ⟨G1, ds, s1.s, by rw [dps_len r1]; exact hn, r1, g1⟩
    · exact g1.elim
def dRev : D → R D
  | .tuple xs => .ok (.tuple xs.reverse)
  | .list xs => .ok (.list xs.reverse)
  | _ => .bad
theorem ce_rev {te : TE} {f : FE} (h : CE K ca E te f) : CE K ca E (tRevA K te) (x1 dRev f) := fun σ ρ G H Q sg re gg =>
  h.bind sg re gg fun d x G1 H1 s1 re1 r1 g1 => by
    unfold dRev at g1
    split at g1
    · obtain ⟨a, xs, rfl, sa, ra⟩ := dp_tup r1
      exact ⟨a, xs, rfl, .inl ⟨sqT_mono s1.s sa, g1.newT s1.s (dps_rev ra)⟩⟩
    · obtain ⟨a, xs, rfl, sa, ra⟩ := dp_lst r1
      exact ⟨a, xs, rfl, .inr ⟨s1.s.seq sa, g1.newL s1.s (dps_rev ra)⟩⟩
    · exact g1.elim
/-! ### what is walked -/
def YI (K : PySem.W.Frag) (J : It) (G : Hp) (ds : List D) : Prop := ∀ G2 H2, Same G G2 → Same G2 H2 → ∀ i : Nat,
  (∀ d, ds[i]? = some d → J.go i H2 ∧ ∀ x H3, J.yld i H2 x H3 → ∃ G3, Ex4 G2 H2 G3 H3 ∧ Dp K G3 x d) ∧ (ds.length ≤ i → J.stop i H2)
abbrev CI (K : PySem.W.Frag) (ca : String → Addr) (E : L2.St → XK) (wi : TI) (f : FA) : Prop := CG K ca E (fun G J ds => YI K J G ds) wi f
def dItems : D → R (List D)
  | .list ds => .ok ds
  | .tuple ds => .ok ds
  | _ => .bad
def iSeq (f : FE) : FA := fun ρ => (f ρ).bind dItems
theorem yi_list {G : Hp} {a : Addr} {xs : List V} {ds : List D} (sa : SqL K G a xs) (ra : DpAll K G xs ds) : YI K (Itl K a) G ds := fun G2 H2 s1 s2 i => by
  have sa2 : SqL K H2 a xs := (s1.trans s2).seq sa
  refine ⟨fun d hd => ?_, fun hl => ⟨xs, sa2, by rw [dps_len ra]; exact hl⟩⟩
  obtain ⟨v, hv, hdv⟩ := dps_get ra hd
  refine ⟨⟨xs, v, sa2, hv⟩, fun x H3 hy => ?_⟩
  obtain ⟨rfl, hx⟩ := hy
  have e := hx xs sa2
  rw [hv] at e
  cases e
  exact ⟨G2, Ex4.refl s2, dp_mono s1 hdv⟩
theorem yi_tup {G : Hp} {a : Addr} {xs : List V} {ds : List D} (sa : SqT K G a xs) (ra : DpAll K G xs ds) : YI K (Itt K a) G ds := fun G2 H2 s1 s2 i => by
  have sa2 : SqT K H2 a xs := sqT_mono (s1.trans s2) sa
  refine ⟨fun d hd => ?_, fun hl => ⟨xs, sa2, by rw [dps_len ra]; exact hl⟩⟩
  obtain ⟨v, hv, hdv⟩ := dps_get ra hd
  refine ⟨⟨xs, v, sa2, hv⟩, fun x H3 hy => ?_⟩
  obtain ⟨rfl, hx⟩ := hy
  have e := hx xs sa2
  rw [hv] at e
  cases e
  exact ⟨G2, Ex4.refl s2, dp_mono s1 hdv⟩
theorem ci_seq {te : TE} {f : FE} (h : CE K ca E te f) : CI K ca E (iSeqA K te) (iSeq f) := fun σ ρ G H Q sg re gg =>
  h.bind sg re gg fun d x G1 H1 s1 re1 r1 g1 => by
    unfold dItems at g1
    split at g1
    · obtain ⟨a, xs, rfl, sa, ra⟩ := dp_lst r1
      exact ⟨a, rfl, .inl ⟨⟨xs, s1.s.seq sa⟩, g1.here s1.s (yi_list sa ra)⟩⟩
    · obtain ⟨a, xs, rfl, sa, ra⟩ := dp_tup r1
      exact ⟨a, rfl, .inr ⟨⟨xs, sqT_mono s1.s sa⟩, g1.here s1.s (yi_tup sa ra)⟩⟩
    · exact g1.elim
def rngD (lo : Int) (n : Nat) : List D := (List.range n).map fun i : Nat => .int (lo + (i : Int))
theorem yi_rng {G : Hp} {lo : Int} {n : Nat} : YI K (Itr lo n) G (rngD lo n) := fun G2 H2 s1 s2 i => by
  unfold rngD
  refine ⟨fun d hd => ?_, fun hl => by
    have hl' : n ≤ i := by simpa using hl
    exact hl'⟩
  have hi : i < n := by
    have := (List.getElem?_eq_some_iff.mp hd).1
    simpa using this
  refine ⟨hi, fun x H3 hy => ?_⟩
  obtain ⟨rfl, rfl⟩ := hy
  have e : PyData.int (lo + (i : Int)) = d := by
    rw [List.getElem?_map, List.getElem?_range hi] at hd
    exact Option.some.inj hd
  subst e
  exact ⟨G2, Ex4.refl s2, .int _⟩
def dR1 : List D → R (List D)
  | [.int j] => if -(2 ^ 62) ≤ j ∧ j < 2 ^ 62 then .ok (rngD 0 j.toNat) else .bad
  | _ => .bad
def dR2 : List D → R (List D)
  | [.int i, .int j] => if (-(2 ^ 62) ≤ i ∧ i < 2 ^ 62) ∧ (-(2 ^ 62) ≤ j ∧ j < 2 ^ 62) then .ok (rngD i (j - i).toNat) else .bad
  | _ => .bad
def iA (g : List D → R (List D)) (f : FA) : FA := fun ρ => (f ρ).bind g
theorem ci_rng1 {t : TA} {f : FA} (h : CA K ca E t f) : CI K ca E (iRng1 t) (iA dR1 f) := fun σ ρ G H Q sg re gg =>
  h.bind sg re gg fun ds vs G1 H1 s1 re1 r1 g1 => by
    unfold dR1 at g1
    split at g1
    · obtain ⟨v, rfl, hv⟩ := dps1 r1
      cases dp_int hv
      split at g1
      · rename_i hj
        exact ⟨_, rfl, hj.1, hj.2, g1.here s1.s yi_rng⟩
      · exact g1.elim
    · exact g1.elim
theorem ci_rng2 {t : TA} {f : FA} (h : CA K ca E t f) : CI K ca E (iRng2 t) (iA dR2 f) := fun σ ρ G H Q sg re gg =>
  h.bind sg re gg fun ds vs G1 H1 s1 re1 r1 g1 => by
    unfold dR2 at g1
    split at g1
    · obtain ⟨v, u, rfl, hv, hu⟩ := dps2 r1
      cases dp_int hv; cases dp_int hu
      split at g1
      · rename_i hj
        exact ⟨_, _, rfl, ⟨hj.1.1, hj.1.2, hj.2.1, hj.2.2⟩, g1.here s1.s yi_rng⟩
      · exact g1.elim
    · exact g1.elim
def enumF : Nat → List D → List D
  | _, [] => []
  | k, d :: r => .tuple [.int (k : Nat), d] :: enumF (k + 1) r
theorem enumF_get : ∀ (k : Nat) (ds : List D) (i : Nat), (enumF k ds)[i]? = (ds[i]?).map fun d => PyData.tuple [.int ((k + i : Nat) : Int), d]
  | k, [], i => by simp [enumF]
  | k, d :: r, 0 => by simp [enumF]
  | k, d :: r, i + 1 => by
    have h := enumF_get (k + 1) r i
    simp only [enumF, List.getElem?_cons_succ, h]
    have : k + 1 + i = k + (i + 1) := by omega
    rw [this]
theorem enumF_len : ∀ (k : Nat) (ds : List D), (enumF k ds).length = ds.length
  | k, [] => rfl
  | k, d :: r => by simp [enumF, enumF_len (k + 1) r]
theorem dp_pair {G : Hp} {T : Addr} {x y : V} {d e : D} (hG : G T = none) (hx : Dp K G x d) (hy : Dp K G y e) : Dp K (upd G T (.tup [x, y])) (.ref T) (.tuple [d, e]) :=
  .tup (SqT.of upd_same) (.cons (dp_mono (same_upd hG) hx) (.cons (dp_mono (same_upd hG) hy) .nil))
theorem yi_enumL {G : Hp} {a : Addr} {xs : List V} {ds : List D} (sa : SqL K G a xs) (ra : DpAll K G xs ds) : YI K (Ite K a) G (enumF 0 ds) := fun G2 H2 s1 s2 i => by
  have sa2 : SqL K H2 a xs := (s1.trans s2).seq sa
  refine ⟨fun d hd => ?_, fun hl => ⟨xs, sa2, by rw [dps_len ra, ← enumF_len 0 ds]; exact hl⟩⟩
  rw [enumF_get, Option.map_eq_some_iff] at hd
  obtain ⟨e, he, rfl⟩ := hd
  obtain ⟨v, hv, hdv⟩ := dps_get ra he
  refine ⟨⟨xs, v, sa2, hv⟩, fun x H3 hy => ?_⟩
  obtain ⟨T, y, rfl, hT, rfl, hx⟩ := hy
  have e := hx xs sa2
  rw [hv] at e
  cases e
  refine ⟨_, Ex4.new s2 hT, ?_⟩
  have e0 : (((0 + i : Nat)) : Int) = (i : Nat) := by omega
  rw [e0]
  exact dp_pair (s2.free hT) (.int _) (dp_mono s1 hdv)
theorem yi_enumT {G : Hp} {a : Addr} {xs : List V} {ds : List D} (sa : SqT K G a xs) (ra : DpAll K G xs ds) : YI K (IteT K a) G (enumF 0 ds) := fun G2 H2 s1 s2 i => by
  have sa2 : SqT K H2 a xs := sqT_mono (s1.trans s2) sa
  refine ⟨fun d hd => ?_, fun hl => ⟨xs, sa2, by rw [dps_len ra, ← enumF_len 0 ds]; exact hl⟩⟩
  rw [enumF_get, Option.map_eq_some_iff] at hd
  obtain ⟨e, he, rfl⟩ := hd
  obtain ⟨v, hv, hdv⟩ := dps_get ra he
  refine ⟨⟨xs, v, sa2, hv⟩, fun x H3 hy => ?_⟩
  obtain ⟨T, y, rfl, hT, rfl, hx⟩ := hy
  have e := hx xs sa2
  rw [hv] at e
  cases e
  refine ⟨_, Ex4.new s2 hT, ?_⟩
  have e0 : (((0 + i : Nat)) : Int) = (i : Nat) := by omega
  rw [e0]
  exact dp_pair (s2.free hT) (.int _) (dp_mono s1 hdv)
def dEnum : List D → R (List D)
  | [.list ds] => .ok (enumF 0 ds)
  | [.tuple ds] => .ok (enumF 0 ds)
  | _ => .bad
theorem ci_enum {t : TA} {f : FA} (h : CA K ca E t f) : CI K ca E (iEnumA K t) (iA dEnum f) := fun σ ρ G H Q sg re gg =>
  h.bind sg re gg fun ds vs G1 H1 s1 re1 r1 g1 => by
    unfold dEnum at g1
    split at g1
    · obtain ⟨v, rfl, hv⟩ := dps1 r1
      obtain ⟨a, xs, rfl, sa, ra⟩ := dp_lst hv
      exact ⟨a, xs, rfl, .inl ⟨s1.s.seq sa, g1.here s1.s (yi_enumL sa ra)⟩⟩
    · obtain ⟨v, rfl, hv⟩ := dps1 r1
      obtain ⟨a, xs, rfl, sa, ra⟩ := dp_tup hv
      exact ⟨a, xs, rfl, .inr ⟨sqT_mono s1.s sa, g1.here s1.s (yi_enumT sa ra)⟩⟩
    · exact g1.elim
def zipP (ds es : List D) : List D := List.zipWith (fun a b => PyData.tuple [a, b]) ds es
theorem yi_zipT {G : Hp} {a b : Addr} {xs ys : List V} {ds es : List D} (sa : SqT K G a xs) (ra : DpAll K G xs ds) (sb : SqT K G b ys) (rb : DpAll K G ys es) : YI K (RZ.ItzT K a b) G (zipP ds es) := fun G2 H2 s1 s2 i => by
  have sa2 : SqT K H2 a xs := sqT_mono (s1.trans s2) sa
  have sb2 : SqT K H2 b ys := sqT_mono (s1.trans s2) sb
  refine ⟨fun d hd => ?_, fun hl => ⟨xs, ys, sa2, sb2, ?_⟩⟩
  · unfold zipP at hd
    rw [List.getElem?_zipWith] at hd
    cases h1 : ds[i]? with
    | none => rw [h1] at hd; cases hd
    | some p =>
      cases h2 : es[i]? with
      | none => rw [h1, h2] at hd; cases hd
      | some q =>
        rw [h1, h2] at hd
        cases hd
        obtain ⟨v, hv, hdv⟩ := dps_get ra h1
        obtain ⟨u, hu, hdu⟩ := dps_get rb h2
        refine ⟨⟨xs, ys, v, u, sa2, sb2, hv, hu⟩, fun x H3 hy => ?_⟩
        obtain ⟨T, y, z, rfl, hT, rfl, hx, hz⟩ := hy
        have e := hx xs sa2
        have e' := hz ys sb2
        rw [hv] at e
        rw [hu] at e'
        cases e; cases e'
        exact ⟨_, Ex4.new s2 hT, dp_pair (s2.free hT) (dp_mono s1 hdv) (dp_mono s1 hdu)⟩
  · unfold zipP at hl
    rw [List.length_zipWith] at hl
    rw [dps_len ra, dps_len rb]
    omega
theorem yi_zipL {G : Hp} {a b : Addr} {xs ys : List V} {ds es : List D} (sa : SqL K G a xs) (ra : DpAll K G xs ds) (sb : SqL K G b ys) (rb : DpAll K G ys es) : YI K (Itz K a b) G (zipP ds es) := fun G2 H2 s1 s2 i => by
  have sa2 : SqL K H2 a xs := (s1.trans s2).seq sa
  have sb2 : SqL K H2 b ys := (s1.trans s2).seq sb
  refine ⟨fun d hd => ?_, fun hl => ⟨xs, ys, sa2, sb2, ?_⟩⟩
  · unfold zipP at hd
    rw [List.getElem?_zipWith] at hd
    cases h1 : ds[i]? with
    | none => rw [h1] at hd; cases hd
    | some p =>
      cases h2 : es[i]? with
      | none => rw [h1, h2] at hd; cases hd
      | some q =>
        rw [h1, h2] at hd
        cases hd
        obtain ⟨v, hv, hdv⟩ := dps_get ra h1
        obtain ⟨u, hu, hdu⟩ := dps_get rb h2
        refine ⟨⟨xs, ys, v, u, sa2, sb2, hv, hu⟩, fun x H3 hy => ?_⟩
        obtain ⟨T, y, z, rfl, hT, rfl, hx, hz⟩ := hy
        have e := hx xs sa2
        have e' := hz ys sb2
        rw [hv] at e
        rw [hu] at e'
        cases e; cases e'
        exact ⟨_, Ex4.new s2 hT, dp_pair (s2.free hT) (dp_mono s1 hdv) (dp_mono s1 hdu)⟩
  · unfold zipP at hl
    rw [List.length_zipWith] at hl
    rw [dps_len ra, dps_len rb]
    omega
def dZip : List D → R (List D)
  | [.list ds, .list es] => .ok (zipP ds es)
  | [.tuple ds, .tuple es] => .ok (zipP ds es)
  | _ => .bad
theorem ci_zip {t : TA} {f : FA} (h : CA K ca E t f) : CI K ca E (RZ.iZipA K t) (iA dZip f) := fun σ ρ G H Q sg re gg =>
  h.bind sg re gg fun ds vs G1 H1 s1 re1 r1 g1 => by
    unfold dZip at g1
    split at g1
    · obtain ⟨v, u, rfl, hv, hu⟩ := dps2 r1
      obtain ⟨a, xs, rfl, sa, ra⟩ := dp_lst hv
      obtain ⟨b, ys, rfl, sb, rb⟩ := dp_lst hu
      exact ⟨a, b, xs, ys, rfl, .inl ⟨s1.s.seq sa, s1.s.seq sb, g1.here s1.s (yi_zipL sa ra sb rb)⟩⟩
    · obtain ⟨v, u, rfl, hv, hu⟩ := dps2 r1
      obtain ⟨a, xs, rfl, sa, ra⟩ := dp_tup hv
      obtain ⟨b, ys, rfl, sb, rb⟩ := dp_tup hu
      exact ⟨a, b, xs, ys, rfl, .inr ⟨sqT_mono s1.s sa, sqT_mono s1.s sb, g1.here s1.s (yi_zipT sa ra sb rb)⟩⟩
    · exact g1.elim
def dSigns : D → R (List D)
  | .str x => .ok (x.cps.toList.map fun c => .str ⟨#[c]⟩)
  | _ => .bad
theorem ci_str {te : TE} {f : FE} (h : CE K ca E te f) : CI K ca E (iStr te) (fun ρ => (f ρ).bind dSigns) := fun σ ρ G H Q sg re gg =>
  h.bind sg re gg fun d v G1 H1 s1 re1 r1 g1 => by
    unfold dSigns at g1
    split at g1
    · rename_i x
      cases dp_str r1
      refine ⟨_, rfl, g1.here s1.s fun G2 H2 t1 t2 i => ⟨fun d hd => ?_, fun hl => by
        have hl' : x.cps.size ≤ i := by simpa using hl
        exact hl'⟩⟩
      rw [List.getElem?_map, Option.map_eq_some_iff] at hd
      obtain ⟨c, hc, rfl⟩ := hd
      have hi : i < x.cps.size := by
        have := (List.getElem?_eq_some_iff.mp hc).1
        simpa using this
      refine ⟨hi, fun y H3 hy => ?_⟩
      obtain ⟨rfl, c', hc', rfl⟩ := hy
      have e : c' = c := by
        have : x.cps.toList[i]? = some c' := by simpa using hc'
        rw [hc] at this
        exact (Option.some.inj this).symm
      subst e
      exact ⟨G2, Ex4.refl t2, .str _⟩
    · exact g1.elim
/-! ### targets -/
def TGo (K : PySem.W.Frag) (g : TG) (is : List Nat) (γ : D → En → R En) : Prop := ∀ (x : V) (d : D) (σ : L2.St) (ρ ρ' : En) (G H : Hp) (Q : L2.St → Hp → Prop), Same G H → RelE K G σ ρ → Dp K G x d → γ d ρ = .ok ρ' →
  (∀ σ', RelE K G σ' ρ' → (∀ j, j ∉ is → σ'[j]? = σ[j]?) → σ'.length = σ.length → Q σ' H) → g x σ H Q
def gN (i : Nat) : D → En → R En := fun d ρ => if i < ρ.length then .ok (ρ.set i (some d)) else .bad
theorem relE_set {G : Hp} {σ : L2.St} {ρ : En} {i : Nat} {x : V} {d : D} (re : RelE K G σ ρ) (hi : i < ρ.length) (h : Dp K G x d) : RelE K G (σ.set i (some x)) (ρ.set i (some d)) := by
  refine ⟨by simp [re.len], fun j e hj => ?_⟩
  by_cases hij : i = j
  · subst hij
    rw [List.getElem?_set_self hi] at hj
    cases hj
    exact ⟨x, by rw [List.getElem?_set_self (by rw [re.len]; exact hi)], h⟩
  · rw [List.getElem?_set_ne hij] at hj ⊢
    exact re.at_ j e hj
theorem tg_name {i : Nat} : TGo K (gName i) [i] (gN i) := fun x d σ ρ ρ' G H Q sg re hd hg q => by
  unfold gN at hg
  split at hg
  · rename_i hi
    cases hg
    exact q _ (relE_set re hi hd) (fun j hj => List.getElem?_set_ne (by simpa using fun e => hj (by simp [e]))) (by simp)
  · cases hg
def g2 (i j : Nat) : D → En → R En
  | .tuple [a, b], ρ => if i < ρ.length ∧ j < ρ.length then .ok ((ρ.set i (some a)).set j (some b)) else .bad
  | _, _ => .bad
theorem tg_pair {i j : Nat} : TGo K (gTup K 2 (gCons (gName i) (gCons (gName j) gNil))) [i, j] (g2 i j) := fun x d σ ρ ρ' G H Q sg re hd hg q => by
  unfold g2 at hg
  split at hg
  · split at hg
    · rename_i hi
      cases hg
      obtain ⟨a, xs, rfl, sa, ra⟩ := dp_tup hd
      obtain ⟨u, v, rfl, hu, hv⟩ := dps2 ra
      refine ⟨a, [u, v], rfl, sqT_mono sg sa, rfl, u, [v], rfl, v, [], rfl, rfl, ?_⟩
      refine q _ (relE_set (relE_set re hi.1 hu) (by simpa using hi.2) hv) (fun k hk => ?_) (by simp)
      have h1 : i ≠ k := fun e => hk (by simp [e])
      have h2 : j ≠ k := fun e => hk (by simp [e])
      rw [List.getElem?_set_ne h2, List.getElem?_set_ne h1]
    · cases hg
  · cases hg
/-! ### comprehensions -/
def wipeD (ρ : En) : List Nat → En
  | [] => ρ
  | v :: vs => (wipeD ρ vs).set v none
theorem wipe_at (σ : L2.St) : ∀ (vs : List Nat) (j : Nat), (wipe σ vs)[j]? = if j ∈ vs ∧ j < σ.length then some none else σ[j]?
  | [], j => by simp [wipe]
  | v :: vs, j => by
    unfold wipe
    by_cases hvj : v = j
    · subst hvj
      by_cases hl : v < σ.length
      · rw [List.getElem?_set_self (by rw [wipe_length]; exact hl)]
        simp [hl]
      · rw [List.getElem?_eq_none (by rw [List.length_set, wipe_length]; omega), if_neg (by omega), List.getElem?_eq_none (by omega)]
    · rw [List.getElem?_set_ne hvj, wipe_at σ vs j]
      have : (j ∈ v :: vs) ↔ j ∈ vs := ⟨fun z => (List.mem_cons.mp z).resolve_left (fun e => hvj e.symm), fun z => List.mem_cons_of_mem _ z⟩
      simp only [this]
theorem wipeD_at (ρ : En) : ∀ (vs : List Nat) (j : Nat), (wipeD ρ vs)[j]? = if j ∈ vs ∧ j < ρ.length then some none else ρ[j]?
  | [], j => by simp [wipeD]
  | v :: vs, j => by
    have ln : ∀ (l : List Nat), (wipeD ρ l).length = ρ.length := fun l => by induction l with
      | nil => rfl
      | cons a b ih => simp [wipeD, ih]
    unfold wipeD
    by_cases hvj : v = j
    · subst hvj
      by_cases hl : v < ρ.length
      · rw [List.getElem?_set_self (by rw [ln]; exact hl)]
        simp [hl]
      · rw [List.getElem?_eq_none (by rw [List.length_set, ln]; omega), if_neg (by omega), List.getElem?_eq_none (by omega)]
    · rw [List.getElem?_set_ne hvj, wipeD_at ρ vs j]
      have : (j ∈ v :: vs) ↔ j ∈ vs := ⟨fun z => (List.mem_cons.mp z).resolve_left (fun e => hvj e.symm), fun z => List.mem_cons_of_mem _ z⟩
      simp only [this]
theorem wipeD_len (ρ : En) : ∀ (l : List Nat), (wipeD ρ l).length = ρ.length
  | [] => rfl
  | a :: b => by simp [wipeD, wipeD_len ρ b]
theorem relE_wipe {G : Hp} {σ : L2.St} {ρ : En} (re : RelE K G σ ρ) (vs : List Nat) : RelE K G (wipe σ vs) (wipeD ρ vs) := by
  refine ⟨by rw [wipe_length, wipeD_len, re.len], fun j d hj => ?_⟩
  rw [wipeD_at] at hj
  split at hj
  · cases hj
  · rename_i hn
    rw [wipe_at, if_neg (by rw [re.len]; exact hn)]
    exact re.at_ j d hj
theorem wipe_same {σ σ2 : L2.St} {vs is : List Nat} (hs : ∀ i ∈ is, i ∈ vs) (hl : σ2.length = σ.length) (h : ∀ j, j ∉ is → σ2[j]? = (wipe σ vs)[j]?) : wipe σ2 vs = wipe σ vs := by
  apply List.ext_getElem?
  intro j
  by_cases hj : j ∈ is
  · rw [wipe_at, wipe_at]
    by_cases hjl : j < σ.length
    · rw [if_pos ⟨hs j hj, by omega⟩, if_pos ⟨hs j hj, hjl⟩]
    · rw [if_neg (by omega), if_neg (by omega), List.getElem?_eq_none (by omega), List.getElem?_eq_none (by omega)]
  · rw [wipe_at, h j hj, wipe_at]
    split
    · rename_i hc
      rw [if_pos ⟨hc.1, by omega⟩]
    · rfl
def R.nx {α : Type} (r : R α) : R α := match r with
  | .ok a => .ok a
  | _ => .bad
def lcD (γ : D → En → R En) (ft : FT) (fe : FE) (ρ : En) : List D → R (List D)
  | [] => .ok []
  | x :: r => (γ x ρ).nx.bind fun ρ2 => (ft ρ2).nx.bind fun b => if b = true then (fe ρ2).nx.bind fun y => (lcD γ ft fe ρ r).bind fun ys => .ok (y :: ys) else lcD γ ft fe ρ r
theorem nx_ok {α : Type} {r : R α} {a : α} (h : r.nx = .ok a) : r = .ok a := by
  cases r with
  | ok b => exact h
  | exc c => cases h
  | bad => cases h
theorem R.nx_ok' {α : Type} {a : α} : (R.ok a).nx = .ok a := rfl
theorem bind_ok {α β : Type} {r : R α} {k : α → R β} {b : β} (h : r.bind k = .ok b) : ∃ a, r = .ok a ∧ k a = .ok b := by
  cases r with
  | ok a => exact ⟨a, rfl, h⟩
  | exc c => cases h
  | bad => cases h
theorem lcD_noexc {γ : D → En → R En} {ft : FT} {fe : FE} {ρ : En} : ∀ {xs : List D} {c : String}, lcD γ ft fe ρ xs ≠ .exc c
  | [], _ => fun h => nomatch h
  | x :: r, c => fun h => by
    unfold lcD at h
    cases h1 : (γ x ρ) with
    | ok ρ2 =>
      rw [h1] at h
      simp only [R.nx, R.bind_ok] at h
      cases h2 : ft ρ2 with
      | ok b =>
        rw [h2] at h
        simp only [R.bind_ok] at h
        split at h
        · cases h3 : fe ρ2 with
          | ok y =>
            rw [h3] at h
            simp only [R.bind_ok] at h
            cases h4 : lcD γ ft fe ρ r with
            | ok ys => rw [h4] at h; cases h
            | exc c' => exact lcD_noexc h4
            | bad => rw [h4] at h; cases h
          | exc _ => rw [h3] at h; cases h
          | bad => rw [h3] at h; cases h
        · exact lcD_noexc h
      | exc _ => rw [h2] at h; cases h
      | bad => rw [h2] at h; cases h
    | exc _ => rw [h1] at h; cases h
    | bad => rw [h1] at h; cases h
def E0' : L2.St → XK := fun _ _ _ _ => False
def xLc (fi : FA) (γ : D → En → R En) (ft : FT) (fe : FE) (vs : List Nat) : FE := fun ρ => (fi ρ).bind fun xs => if xs.length ≤ 1000 then (lcD γ ft fe (wipeD ρ vs) xs).bind fun ys => .ok (.list ys) else .bad
theorem ce_lc {wi : TI} {g : TG} {tt : TT} {te : TE} {vs is : List Nat} {fi : FA} {γ : D → En → R En} {ft : FT} {fe : FE} (hi : CI K ca E wi fi) (hg : TGo K g is γ) (hv : ∀ i ∈ is, i ∈ vs) (ht : CT K ca E0' tt ft) (he : CE K ca E0' te fe) :
    CE K ca E (tLc wi g tt te vs) (xLc fi γ ft fe vs) := fun σ ρ G H Q sg re gg => by
  refine hi.bind sg re gg fun xs J G1 H1 s1 re1 yi g1 => ?_
  intro Dl hD
  split at g1
  · rename_i hlen
    cases hlc : lcD γ ft fe (wipeD ρ vs) xs with
    | exc c => exact (lcD_noexc hlc).elim
    | bad => rw [hlc] at g1; exact g1.elim
    | ok ys =>
      rw [hlc, R.bind_ok] at g1
      have reW : RelE K G1 (wipe σ vs) (wipeD ρ vs) := relE_wipe re1 vs
      refine ⟨fun i m H' => m = xs.length - i ∧ i ≤ xs.length ∧ ∃ (G' : Hp) (acc : List V) (accD rest : List D), Ex4 G1 H1 G' H' ∧ G' Dl = none ∧ H' Dl = some (.lst acc) ∧ DpAll K G' acc accD ∧ accD.length ≤ i ∧ lcD γ ft fe (wipeD ρ vs) (xs.drop i) = .ok rest ∧ accD ++ rest = ys, ⟨xs.length, by simp, Nat.zero_le _, G1, [], [], ys, ⟨Same.refl _, ?_, same_upd hD, fun _ _ e => e⟩, s1.s.free hD, upd_same, .nil, Nat.le_refl _, by simpa using hlc, rfl⟩, ?_⟩
      · exact s1.s.trans (same_upd hD)
      · rintro i m H' ⟨rfl, hil, G', acc, accD, rest, e4, gD, hHD, hacc, hal, hrest, hys⟩
        by_cases hlt : i < xs.length
        · right
          have hx : xs[i]? = some xs[i] := List.getElem?_eq_getElem hlt
          rw [List.drop_eq_getElem_cons hlt] at hrest
          unfold lcD at hrest
          obtain ⟨ρ2, h1, hrest⟩ := bind_ok hrest
          obtain ⟨b, h2, hrest⟩ := bind_ok hrest
          have h1 := nx_ok h1
          have h2 := nx_ok h2
          obtain ⟨hgo, hyl⟩ := ((yi G' H' e4.g e4.s i).1 _ hx)
          refine ⟨hgo, fun H2 => i + 1 ≤ xs.length ∧ ∃ (G' : Hp) (acc : List V) (accD rest : List D), Ex4 G1 H1 G' H2 ∧ G' Dl = none ∧ H2 Dl = some (.lst acc) ∧ DpAll K G' acc accD ∧ accD.length ≤ i + 1 ∧ lcD γ ft fe (wipeD ρ vs) (xs.drop (i + 1)) = .ok rest ∧ accD ++ rest = ys, fun H2 hN => ⟨xs.length - (i + 1), by omega, rfl, hN.1, hN.2⟩, fun x H3 hy => ?_⟩
          obtain ⟨G3, e3, dx⟩ := hyl x H3 hy
          have g3D : G3 Dl = none := e3.n Dl (by rw [hHD]; exact fun z => nomatch z) gD
          have h3D : H3 Dl = some (.lst acc) := e3.h _ _ hHD
          refine hg x _ (wipe σ vs) _ ρ2 G3 H3 _ e3.s (reW.mono (e4.g.trans e3.g)) dx h1 fun σ2 re2 hne hlw => ?_
          have hl2 : σ2.length = σ.length := by rw [hlw, wipe_length]
          refine ⟨wipe_same hv hl2 hne, ?_⟩
          refine ht σ2 ρ2 G3 H3 _ e3.s re2 ?_
          rw [h2]
          intro b' G4 H4 e4' rb
          cases rb
          cases b with
          | true =>
            rw [if_pos rfl]
            rw [if_pos rfl] at hrest
            obtain ⟨y, h3, hrest⟩ := bind_ok hrest
            obtain ⟨ys', h4, hrest⟩ := bind_ok hrest
            have h3 := nx_ok h3
            cases hrest
            refine he σ2 ρ2 G4 H4 _ e4'.s (re2.mono e4'.g) ?_
            rw [h3]
            intro v G5 H5 e5 dv
            have g5D : G5 Dl = none := e5.n Dl (by rw [e4'.h _ _ h3D]; exact fun z => nomatch z) (e4'.n Dl (by rw [h3D]; exact fun z => nomatch z) g3D)
            have h5D : H5 Dl = some (.lst acc) := e5.h _ _ (e4'.h _ _ h3D)
            have e15 : Ex4 G1 H1 G5 H5 := ((e4.trans e3).trans e4').trans e5
            refine ⟨acc, h5D, ?_, hlt, G5, acc ++ [v], accD ++ [y], ys', ⟨e15.g, ?_, ?_, e15.n⟩, g5D, upd_same, dps_append (dps_mono ((e3.g.trans e4'.g).trans e5.g) hacc) (.cons dv .nil), by simp; omega, h4, by rw [List.append_assoc]; exact hys⟩
            · rw [dps_len hacc, sizeLine_eq]; omega
            · exact fun z o hz => by rw [upd_ne (ne_of_none hz g5D)]; exact e15.s z o hz
            · exact fun z o hz => by rw [upd_ne (ne_of_none hz hD)]; exact e15.h z o hz
          | false =>
            rw [if_neg Bool.false_ne_true]
            rw [if_neg Bool.false_ne_true] at hrest
            exact ⟨hlt, G4, acc, accD, rest, (e4.trans e3).trans e4', e4'.n Dl (by rw [h3D]; exact fun z => nomatch z) g3D, e4'.h _ _ h3D, dps_mono (e3.g.trans e4'.g) hacc, by omega, hrest, hys⟩
        · left
          refine ⟨(yi G' H' e4.g e4.s i).2 (by omega), ?_⟩
          have hr0 : xs.drop i = [] := List.drop_eq_nil_iff.mpr (by omega)
          rw [hr0] at hrest
          cases hrest
          rw [List.append_nil] at hys
          subst hys
          refine g1 (.ref Dl) (upd G' Dl (.lst acc)) H' ⟨?_, ?_, e4.h, ?_⟩ (.lst (SqL.of upd_same) (dps_mono (same_upd gD) hacc))
          · exact e4.g.trans (same_upd gD)
          · intro z o hz
            by_cases hzD : z = Dl
            · subst hzD; rw [upd_same] at hz; rw [hHD]; exact hz
            · rw [upd_ne hzD] at hz; exact e4.s z o hz
          · intro z hz gz
            rw [upd_ne (fun e => hz (by rw [e]; exact hD))]
            exact e4.n z hz gz
  · exact g1.elim
end
end HL
end
section
set_option Elab.async false
set_option linter.all false
set_option maxRecDepth 100000
set_option maxHeartbeats 4000000
namespace HL
open PySem PySem.Spec PyProof.Rows L2
section
inductive Sl where
  | im (d : D)
  | ow (ds : List D)
  | ob (q : D) (bs : List Bool) (k : Int)
def Sl.own : Sl → Bool
  | .im _ => false
  | _ => true
/-- what a slot tells, as data -/
def Sl.dat : Sl → D
  | .im d => d
  | .ow ds => .list ds
  | .ob q s k => obD q s k
abbrev Es := List (Option Sl)
def s0 : Option Sl → Option D
  | some (.im d) => some d
  | _ => none
def sw : Option Sl → Option D
  | some (.im d) => some d
  | some (.ow ds) => some (.list ds)
  | some (.ob q s k) => some (obD q s k)
  | none => none
def v0 (δ : Es) : En := δ.map s0
def vw (δ : Es) : En := δ.map sw
theorem v0_at {δ : Es} {i : Nat} {d : D} (h : (v0 δ)[i]? = some (some d)) : δ[i]? = some (some (.im d)) := by
  unfold v0 at h
  rw [List.getElem?_map, Option.map_eq_some_iff] at h
  obtain ⟨x, hx, hs⟩ := h
  cases x with
  | none => cases hs
  | some s =>
    cases s with
    | im e => cases hs; exact hx
    | ow e => cases hs
    | ob q s k => cases hs
theorem vw_at {δ : Es} {i : Nat} {d : D} (h : (vw δ)[i]? = some (some d)) : δ[i]? = some (some (.im d)) ∨ ∃ s : Sl, s.own = true ∧ d = s.dat ∧ δ[i]? = some (some s) := by
  unfold vw at h
  rw [List.getElem?_map, Option.map_eq_some_iff] at h
  obtain ⟨x, hx, hs⟩ := h
  cases x with
  | none => cases hs
  | some s =>
    cases s with
    | im e => cases hs; exact .inl hx
    | ow e => cases hs; exact .inr ⟨.ow e, rfl, rfl, hx⟩
    | ob q s k => cases hs; exact .inr ⟨.ob q s k, rfl, rfl, hx⟩
/-- what stands in the heap at an owned slot -/
def Cont (K : PySem.W.Frag) (G : Hp) (o : HO) : Sl → Prop
  | .im _ => False
  | .ow ds => ∃ xs, o = .lst xs ∧ DpAll K G xs ds
  | .ob q s k => ∃ dx vq vs, o = .ins (ctrC K) dx (obFs vq vs (.int k)) ∧ Dp K G vq q ∧ Stp G vs s
def NoT (o : HO) : Prop := (∀ xs, o ≠ .tup xs) ∧ ∀ u v, o ≠ .frz u v
theorem Cont.noT {K : PySem.W.Frag} {G : Hp} {o : HO} {s : Sl} (h : Cont K G o s) : NoT o := by
  cases s with
  | im d => exact h.elim
  | ow ds => obtain ⟨xs, rfl, _⟩ := h; exact ⟨fun _ z => (nomatch z), fun _ _ z => (nomatch z)⟩
  | ob q s k => obtain ⟨dx, vq, vs, rfl, _⟩ := h; exact ⟨fun _ z => (nomatch z), fun _ _ z => (nomatch z)⟩
theorem Cont.mono {K : PySem.W.Frag} {G G' : Hp} {o : HO} {s : Sl} (e : Same G G') (h : Cont K G o s) : Cont K G' o s := by
  cases s with
  | im d => exact h.elim
  | ow ds => obtain ⟨xs, rfl, r⟩ := h; exact ⟨xs, rfl, dps_mono e r⟩
  | ob q s k => obtain ⟨dx, vq, vs, rfl, a, b⟩ := h; exact ⟨dx, vq, vs, rfl, dp_mono e a, b.mono e⟩
theorem Cont.dp {K : PySem.W.Frag} {G G' : Hp} {o : HO} {s : Sl} {a : Addr} (h : Cont K G o s) (e : Same G G') (ha : G' a = some o) : Dp K G' (.ref a) s.dat := by
  cases s with
  | im d => exact h.elim
  | ow ds => obtain ⟨xs, rfl, r⟩ := h; exact .lst (SqL.of ha) (dps_mono e r)
  | ob q s k => obtain ⟨dx, vq, vs, rfl, x, y⟩ := h; exact dp_obj ha (dp_mono e x) (y.mono e)
structure RelS (K : PySem.W.Frag) (n : Nat) (G0 H0 G H : Hp) (σ : L2.St) (δ : Es) : Prop where
  ls : σ.length = n
  ld : δ.length = n
  e0 : Ex4 G0 H0 G H
  im : ∀ (i : Nat) (d : D), δ[i]? = some (some (.im d)) → ∃ v, σ[i]? = some (some v) ∧ Dp K G v d
  own : ∀ (i : Nat) (s : Sl), s.own = true → δ[i]? = some (some s) → ∃ a o, σ[i]? = some (some (.ref a)) ∧ H0 a = none ∧ G a = none ∧ H a = some o ∧ Cont K G o s
  df : ∀ (i j : Nat) (a : Addr) (s t : Sl), i ≠ j → s.own = true → t.own = true → δ[i]? = some (some s) → δ[j]? = some (some t) → σ[i]? = some (some (.ref a)) → σ[j]? = some (some (.ref a)) → False
def Owned (σ : L2.St) (δ : Es) (a : Addr) : Prop := ∃ (i : Nat) (s : Sl), s.own = true ∧ δ[i]? = some (some s) ∧ σ[i]? = some (some (.ref a))
open Classical in
noncomputable def frzG (G H : Hp) (σ : L2.St) (δ : Es) : Hp := fun b => if Owned σ δ b then H b else G b
open Classical in
noncomputable def hidG (G : Hp) (σ : L2.St) (δ : Es) : Hp := fun b => if Owned σ δ b then none else G b
variable {K : PySem.W.Frag} {ca : String → Addr} {E : L2.St → XK} {n : Nat} {G0 H0 G H : Hp} {σ : L2.St} {δ : Es}
theorem RelS.s (r : RelS K n G0 H0 G H σ δ) : Same G H := r.e0.s
theorem RelS.ow (r : RelS K n G0 H0 G H σ δ) (i : Nat) (ds : List D) (h : δ[i]? = some (some (.ow ds))) : ∃ a xs, σ[i]? = some (some (.ref a)) ∧ H0 a = none ∧ G a = none ∧ H a = some (.lst xs) ∧ DpAll K G xs ds := by
  obtain ⟨a, o, h1, h2, h3, h4, xs, rfl, h5⟩ := r.own i _ rfl h
  exact ⟨a, xs, h1, h2, h3, h4, h5⟩
theorem RelS.obs (r : RelS K n G0 H0 G H σ δ) (i : Nat) (q : D) (bs : List Bool) (k : Int) (h : δ[i]? = some (some (.ob q bs k))) : ∃ a dx vq vs, σ[i]? = some (some (.ref a)) ∧ H0 a = none ∧ G a = none ∧ H a = some (.ins (ctrC K) dx (obFs vq vs (.int k))) ∧ Dp K G vq q ∧ Stp G vs bs := by
  obtain ⟨a, o, h1, h2, h3, h4, dx, vq, vs, rfl, h5⟩ := r.own i _ rfl h
  exact ⟨a, dx, vq, vs, h1, h2, h3, h4, h5⟩
theorem RelS.owned (r : RelS K n G0 H0 G H σ δ) {a : Addr} (o : Owned σ δ a) : H0 a = none ∧ G a = none ∧ ∃ xs, H a = some xs ∧ NoT xs := by
  obtain ⟨i, s, h0, h1, h2⟩ := o
  obtain ⟨b, xs, h3, h4, h5, h6, h7⟩ := r.own i s h0 h1
  rw [h2] at h3
  cases h3
  exact ⟨h4, h5, xs, h6, h7.noT⟩
theorem RelS.re (r : RelS K n G0 H0 G H σ δ) : RelE K G σ (v0 δ) := ⟨by simp [v0, r.ls, r.ld], fun i d h => r.im i d (v0_at h)⟩
theorem RelS.sgf (r : RelS K n G0 H0 G H σ δ) : Same G (frzG G H σ δ) := fun b o h => by
  unfold frzG
  split
  · exact r.s b o h
  · exact h
theorem RelS.sfh (r : RelS K n G0 H0 G H σ δ) : Same (frzG G H σ δ) H := fun b o h => by
  unfold frzG at h
  split at h
  · exact h
  · exact r.s b o h
theorem RelS.rw_ (r : RelS K n G0 H0 G H σ δ) : RelE K (frzG G H σ δ) σ (vw δ) := ⟨by simp [vw, r.ls, r.ld], fun i d h => by
  rcases vw_at h with hq | ⟨s, hs, rfl, hq⟩
  · obtain ⟨v, h1, h2⟩ := r.im i d hq
    exact ⟨v, h1, dp_mono r.sgf h2⟩
  · obtain ⟨a, o, h1, _, _, h4, h5⟩ := r.own i s hs hq
    refine ⟨.ref a, h1, h5.dp r.sgf ?_⟩
    unfold frzG
    rw [if_pos ⟨i, s, hs, hq, h1⟩]
    exact h4⟩
theorem RelS.ef (r : RelS K n G0 H0 G H σ δ) : Ex4 G0 H0 (frzG G H σ δ) H := ⟨r.e0.g.trans r.sgf, r.sfh, r.e0.h, fun b hb gb => by
  unfold frzG
  rw [if_neg fun o => hb (r.owned o).1]
  exact r.e0.n b hb gb⟩
theorem RelS.grow {G' H' : Hp} (r : RelS K n G0 H0 G H σ δ) (e : Ex4 G H G' H') : RelS K n G0 H0 G' H' σ δ :=
  ⟨r.ls, r.ld, r.e0.trans e, fun i d h => let ⟨v, a, b⟩ := r.im i d h; ⟨v, a, dp_mono e.g b⟩, fun i s hs h => let ⟨a, o, h1, h2, h3, h4, h5⟩ := r.own i s hs h
    ⟨a, o, h1, h2, e.n a (by rw [h4]; exact fun z => nomatch z) h3, e.h _ _ h4, h5.mono e.g⟩, r.df⟩
theorem RelS.growH {H' : Hp} (r : RelS K n G0 H0 G H σ δ) (e : Same H H') : RelS K n G0 H0 G H' σ δ := r.grow ⟨Same.refl G, r.s.trans e, e, fun _ _ z => z⟩
theorem RelS.set_im (r : RelS K n G0 H0 G H σ δ) {i : Nat} {v : V} {d : D} (hi : i < n) (h : Dp K G v d) : RelS K n G0 H0 G H (σ.set i (some v)) (δ.set i (some (.im d))) := by
  refine ⟨by simp [r.ls], by simp [r.ld], r.e0, fun j e hj => ?_, fun j s hs hj => ?_, fun j k a s t hjk hs ht hj hk sj sk => ?_⟩
  · by_cases hij : i = j
    · subst hij
      rw [List.getElem?_set_self (by rw [r.ld]; exact hi)] at hj
      cases hj
      exact ⟨v, List.getElem?_set_self (by rw [r.ls]; exact hi), h⟩
    · rw [List.getElem?_set_ne hij] at hj ⊢
      exact r.im j e hj
  · by_cases hij : i = j
    · subst hij
      rw [List.getElem?_set_self (by rw [r.ld]; exact hi)] at hj
      cases hj
      cases hs
    · rw [List.getElem?_set_ne hij] at hj ⊢
      exact r.own j s hs hj
  · have h1 : i ≠ j := fun e => by subst e; rw [List.getElem?_set_self (by rw [r.ld]; exact hi)] at hj; cases hj; cases hs
    have h2 : i ≠ k := fun e => by subst e; rw [List.getElem?_set_self (by rw [r.ld]; exact hi)] at hk; cases hk; cases ht
    rw [List.getElem?_set_ne h1] at hj sj
    rw [List.getElem?_set_ne h2] at hk sk
    exact r.df j k a s t hjk hs ht hj hk sj sk
theorem RelS.set_own (r : RelS K n G0 H0 G H σ δ) {i : Nat} {p : Addr} {o : HO} {s : Sl} (hi : i < n) (h0 : H0 p = none) (hg : G p = none) (hh : H p = some o) (hd : Cont K G o s) (hno : ¬ Owned σ δ p) :
    RelS K n G0 H0 G H (σ.set i (some (.ref p))) (δ.set i (some s)) := by
  have d0 : i < δ.length := by rw [r.ld]; exact hi
  have s0 : i < σ.length := by rw [r.ls]; exact hi
  refine ⟨by simp [r.ls], by simp [r.ld], r.e0, fun j e hj => ?_, fun j t ht hj => ?_, fun j k a t u hjk ht hu hj hk sj sk => ?_⟩
  · by_cases hij : i = j
    · subst hij
      rw [List.getElem?_set_self d0] at hj
      cases hj
      exact hd.elim
    · rw [List.getElem?_set_ne hij] at hj ⊢
      exact r.im j e hj
  · by_cases hij : i = j
    · subst hij
      rw [List.getElem?_set_self d0] at hj
      cases hj
      exact ⟨p, o, List.getElem?_set_self s0, h0, hg, hh, hd⟩
    · rw [List.getElem?_set_ne hij] at hj ⊢
      exact r.own j t ht hj
  · by_cases hij : i = j
    · subst hij
      rw [List.getElem?_set_self s0] at sj
      cases sj
      rw [List.getElem?_set_ne hjk] at hk sk
      exact hno ⟨k, u, hu, hk, sk⟩
    · by_cases hik : i = k
      · subst hik
        rw [List.getElem?_set_self s0] at sk
        cases sk
        rw [List.getElem?_set_ne hij] at hj sj
        exact hno ⟨j, t, ht, hj, sj⟩
      · rw [List.getElem?_set_ne hij] at hj sj
        rw [List.getElem?_set_ne hik] at hk sk
        exact r.df j k a t u hjk ht hu hj hk sj sk
theorem RelS.set_ow (r : RelS K n G0 H0 G H σ δ) {i : Nat} {p : Addr} {xs : List V} {ds : List D} (hi : i < n) (h0 : H0 p = none) (hg : G p = none) (hh : H p = some (.lst xs)) (hd : DpAll K G xs ds) (hno : ¬ Owned σ δ p) :
    RelS K n G0 H0 G H (σ.set i (some (.ref p))) (δ.set i (some (.ow ds))) := r.set_own hi h0 hg hh ⟨xs, rfl, hd⟩ hno
/-- an owned slot's object is written anew; the rest of the heap may grow -/
theorem RelS.mutG (r : RelS K n G0 H0 G H σ δ) {G' H' : Hp} {i : Nat} {a : Addr} {o : HO} {s t : Sl} (hs : s.own = true) (hi : δ[i]? = some (some s)) (ha : σ[i]? = some (some (.ref a))) (ht : t.own = true)
    (eg : Same G G') (es : Same G' H') (eh : ∀ b x, b ≠ a → H b = some x → H' b = some x) (en : ∀ b, b ≠ a → H b ≠ none → G b = none → G' b = none) (ga : G' a = none) (ho : H' a = some o) (hd : Cont K G' o t) :
    RelS K n G0 H0 G' H' σ (δ.set i (some t)) := by
  have d0 : i < δ.length := (List.getElem?_eq_some_iff.mp hi).1
  have ow := r.owned ⟨i, s, hs, hi, ha⟩
  refine ⟨r.ls, by simp [r.ld], ⟨r.e0.g.trans eg, es, fun b o' hb => ?_, fun b hb gb => ?_⟩, fun j e hj => ?_, fun j u hu hj => ?_, fun j k b u v hjk hu hv hj hk sj sk => ?_⟩
  · exact eh b o' (ne_of_none hb ow.1) (r.e0.h b o' hb)
  · exact en b (fun z => hb (by rw [z]; exact ow.1)) (fun z => hb (r.e0.h.free z)) (r.e0.n b hb gb)
  · by_cases hij : i = j
    · subst hij
      rw [List.getElem?_set_self d0] at hj
      cases hj
      cases ht
    · rw [List.getElem?_set_ne hij] at hj
      obtain ⟨v, h1, h2⟩ := r.im j e hj
      exact ⟨v, h1, dp_mono eg h2⟩
  · by_cases hij : i = j
    · subst hij
      rw [List.getElem?_set_self d0] at hj
      cases hj
      exact ⟨a, o, ha, ow.1, ga, ho, hd⟩
    · rw [List.getElem?_set_ne hij] at hj
      obtain ⟨b, x, h1, h2, h3, h4, h5⟩ := r.own j u hu hj
      have hba : b ≠ a := fun e => by
        subst e
        exact r.df i j b s u hij hs hu hi hj ha h1
      exact ⟨b, x, h1, h2, en b hba (by rw [h4]; exact fun z => nomatch z) h3, eh b x hba h4, h5.mono eg⟩
  · have old : ∀ (m : Nat) (l : Sl), l.own = true → (δ.set i (some t))[m]? = some (some l) → ∃ l' : Sl, l'.own = true ∧ δ[m]? = some (some l') := fun m l hl hm => by
      by_cases him : i = m
      · subst him; exact ⟨s, hs, hi⟩
      · rw [List.getElem?_set_ne him] at hm; exact ⟨l, hl, hm⟩
    obtain ⟨f1, o1, hj'⟩ := old j u hu hj
    obtain ⟨f2, o2, hk'⟩ := old k v hv hk
    exact r.df j k b f1 f2 hjk o1 o2 hj' hk' sj sk
theorem RelS.mut (r : RelS K n G0 H0 G H σ δ) {i : Nat} {a : Addr} {xs : List V} {ds es : List D} (hi : δ[i]? = some (some (.ow es))) (hs : σ[i]? = some (some (.ref a))) (hd : DpAll K G xs ds) :
    RelS K n G0 H0 G (upd H a (.lst xs)) σ (δ.set i (some (.ow ds))) := by
  have ow := r.owned ⟨i, _, rfl, hi, hs⟩
  exact r.mutG (s := .ow es) rfl hi hs rfl (Same.refl G) (fun b o' hb => by rw [upd_ne (ne_of_none hb ow.2.1)]; exact r.s b o' hb) (fun b x hb hx => by rw [upd_ne hb]; exact hx) (fun b _ _ z => z) ow.2.1 upd_same ⟨xs, rfl, hd⟩
/-- an owned thing is no longer changed -/
theorem RelS.freezeS (r : RelS K n G0 H0 G H σ δ) {i : Nat} {s : Sl} (hs : s.own = true) (hi : δ[i]? = some (some s)) : ∃ G', Same G G' ∧ RelS K n G0 H0 G' H σ (δ.set i (some (.im s.dat))) := by
  have d0 : i < δ.length := (List.getElem?_eq_some_iff.mp hi).1
  obtain ⟨a, o, h1, h2, h3, h4, h5⟩ := r.own i s hs hi
  have sg : Same G (upd G a o) := same_upd h3
  refine ⟨upd G a o, sg, r.ls, by simp [r.ld], ⟨r.e0.g.trans sg, fun b o' hb => ?_, r.e0.h, fun b hb gb => ?_⟩, fun j e hj => ?_, fun j t ht hj => ?_, fun j k b t u hjk ht hu hj hk sj sk => ?_⟩
  · by_cases hba : b = a
    · subst hba; rw [upd_same] at hb; rw [h4]; exact hb
    · rw [upd_ne hba] at hb; exact r.s b o' hb
  · rw [upd_ne (fun e => hb (by rw [e]; exact h2))]
    exact r.e0.n b hb gb
  · by_cases hij : i = j
    · subst hij
      rw [List.getElem?_set_self d0] at hj
      cases hj
      exact ⟨.ref a, h1, h5.dp sg upd_same⟩
    · rw [List.getElem?_set_ne hij] at hj
      obtain ⟨v, q1, q2⟩ := r.im j e hj
      exact ⟨v, q1, dp_mono sg q2⟩
  · by_cases hij : i = j
    · subst hij
      rw [List.getElem?_set_self d0] at hj
      cases hj
      cases ht
    · rw [List.getElem?_set_ne hij] at hj
      obtain ⟨b, y, q1, q2, q3, q4, q5⟩ := r.own j t ht hj
      refine ⟨b, y, q1, q2, ?_, q4, q5.mono sg⟩
      rw [upd_ne]
      · exact q3
      · intro e
        subst e
        exact r.df i j b s t hij hs ht hi hj h1 q1
  · have h1 : i ≠ j := fun e => by subst e; rw [List.getElem?_set_self d0] at hj; cases hj; cases ht
    have h2 : i ≠ k := fun e => by subst e; rw [List.getElem?_set_self d0] at hk; cases hk; cases hu
    rw [List.getElem?_set_ne h1] at hj
    rw [List.getElem?_set_ne h2] at hk
    exact r.df j k b t u hjk ht hu hj hk sj sk
theorem RelS.freeze (r : RelS K n G0 H0 G H σ δ) {i : Nat} {ds : List D} (hi : δ[i]? = some (some (.ow ds))) : ∃ G', Same G G' ∧ RelS K n G0 H0 G' H σ (δ.set i (some (.im (.list ds)))) := r.freezeS (s := .ow ds) rfl hi
/-! ### flows -/
inductive Fl where
  | nx (δ : Es)
  | rt (d : D)
  | bk (δ : Es)
  | ct (δ : Es)
  | exc (c : String)
  | bad
def fR {α : Type} (r : R α) (k : α → Fl) : Fl := match r with
  | .ok a => k a
  | .exc c => .exc c
  | .bad => .bad
@[simp] theorem fR_ok {α : Type} (a : α) (k : α → Fl) : fR (.ok a) k = k a := (rfl)
@[simp] theorem fR_exc {α : Type} (c : String) (k : α → Fl) : fR (.exc c) k = .exc c := rfl
@[simp] theorem fR_bad {α : Type} (k : α → Fl) : fR .bad k = .bad := rfl
def GdS (K : PySem.W.Frag) (ca : String → Addr) (E : L2.St → XK) (n : Nat) (G0 H0 : Hp) (Dd : Ends) : Fl → Prop
  | .nx δ => ∀ σ G H, RelS K n G0 H0 G H σ δ → Dd.nx σ H
  | .rt d => ∀ v G H, Ex4 G0 H0 G H → Dp K G v d → Dd.rt v H
  | .bk δ => ∀ σ G H, RelS K n G0 H0 G H σ δ → Dd.bk σ H
  | .ct δ => ∀ σ G H, RelS K n G0 H0 G H σ δ → Dd.ct σ H
  | .exc c => ∀ σ H, σ.length = n → Same H0 H → EX ca (E σ) c H
  | .bad => False
def CS (K : PySem.W.Frag) (ca : String → Addr) (E : L2.St → XK) (n : Nat) (t : TS) (g : Es → Fl) : Prop :=
  ∀ (G0 H0 G H : Hp) (σ : L2.St) (δ : Es) (Dd : Ends), RelS K n G0 H0 G H σ δ → GdS K ca E n G0 H0 Dd (g δ) → t Dd σ H
theorem core0 {α β : Type} {rel : Hp → β → α → Prop} {t : L2.St → Hp → (β → Hp → Prop) → Prop} {f : En → R α} (h : CG K ca E rel t f) (r : RelS K n G0 H0 G H σ δ) {Dd : Ends} {k : α → Fl} (g : GdS K ca E n G0 H0 Dd (fR (f (v0 δ)) k))
    {P : β → Hp → Prop} (kk : ∀ a b G1 H1, Ex4 G H G1 H1 → RelS K n G0 H0 G1 H1 σ δ → rel G1 b a → GdS K ca E n G0 H0 Dd (k a) → P b H1) : t σ H P := by
  refine h σ (v0 δ) G H P r.s r.re ?_
  cases hf : f (v0 δ) with
  | ok a =>
    rw [hf] at g
    exact fun b G1 H1 e q => kk a b G1 H1 e (r.grow e) q g
  | exc c =>
    rw [hf] at g
    exact fun H1 e => g σ H1 r.ls (r.e0.h.trans e)
  | bad =>
    rw [hf] at g
    exact g
theorem coreW {α β : Type} {rel : Hp → β → α → Prop} {t : L2.St → Hp → (β → Hp → Prop) → Prop} {f : En → R α} (h : CG K ca E rel t f) (r : RelS K n G0 H0 G H σ δ) {Dd : Ends} {k : α → Fl} (g : GdS K ca E n G0 H0 Dd (fR (f (vw δ)) k))
    {P : β → Hp → Prop} (kk : ∀ a b G1 H1, Ex4 (frzG G H σ δ) H G1 H1 → RelS K n G0 H0 G H1 σ δ → rel G1 b a → GdS K ca E n G0 H0 Dd (k a) → P b H1) : t σ H P := by
  refine h σ (vw δ) (frzG G H σ δ) H P r.sfh r.rw_ ?_
  cases hf : f (vw δ) with
  | ok a =>
    rw [hf] at g
    exact fun b G1 H1 e q => kk a b G1 H1 e (r.growH e.h) q g
  | exc c =>
    rw [hf] at g
    exact fun H1 e => g σ H1 r.ls (r.e0.h.trans e)
  | bad =>
    rw [hf] at g
    exact g
/-! ### data without lists -/
mutual
def lf : D → Bool
  | .list _ => false
  | .tuple ds => lfs ds
  | .dict _ => false
  | _ => true
def lfs : List D → Bool
  | [] => true
  | d :: r => lf d && lfs r
end
mutual
theorem dp_hide {G' H' : Hp} (hG : Same G' H') (ho : ∀ a, Owned σ δ a → ∃ xs, H' a = some xs ∧ NoT xs) : ∀ {v : V} {d : D}, Dp K G' v d → lf d = true → Dp K (hidG G' σ δ) v d
  | _, _, .non, _ => .non
  | _, _, .bl b, _ => .bl b
  | _, _, .int i, _ => .int i
  | _, _, .str x, _ => .str x
  | _, _, .lst h r, e => by simp [lf] at e
  | _, _, .obj h x y z, e => by simp [lf] at e
  | _, _, .tup (a := a) h r, e => by
    refine .tup ?_ (dps_hide hG ho r (by simpa [lf] using e))
    rcases h with (h | ⟨o, h⟩) | h
    · refine .inl (.inl ?_)
      unfold hidG
      rw [if_neg]
      · exact h
      · intro q
        obtain ⟨xs, hx, hn⟩ := ho a q
        rw [hG _ _ h] at hx
        cases hx
        exact hn.1 _ rfl
    · refine .inl (.inr ⟨o, ?_⟩)
      unfold hidG
      rw [if_neg]
      · exact h
      · intro q
        obtain ⟨xs, hx, hn⟩ := ho a q
        rw [hG _ _ h] at hx
        cases hx
        exact hn.2 _ _ rfl
    · exact .inr h
theorem dps_hide {G' H' : Hp} (hG : Same G' H') (ho : ∀ a, Owned σ δ a → ∃ xs, H' a = some xs ∧ NoT xs) : ∀ {vs : List V} {ds : List D}, DpAll K G' vs ds → lfs ds = true → DpAll K (hidG G' σ δ) vs ds
  | _, _, .nil, _ => .nil
  | _, _, .cons h r, e => by
    simp only [lfs, Bool.and_eq_true] at e
    exact .cons (dp_hide hG ho h e.1) (dps_hide hG ho r e.2)
end
theorem RelS.hide {G' H' : Hp} (r : RelS K n G0 H0 G H σ δ) (e : Ex4 (frzG G H σ δ) H G' H') : RelS K n G0 H0 (hidG G' σ δ) H' σ δ ∧ ∀ a, Owned σ δ a → ∃ xs, H' a = some xs ∧ NoT xs := by
  have own : ∀ a, Owned σ δ a → ∃ xs, H' a = some xs ∧ NoT xs := fun a o => let ⟨_, _, xs, h, hn⟩ := r.owned o; ⟨xs, e.h _ _ h, hn⟩
  have sg : Same G (hidG G' σ δ) := fun b o hb => by
    unfold hidG
    rw [if_neg]
    · refine e.g b o ?_
      exact r.sgf b o hb
    · intro q
      rw [(r.owned q).2.1] at hb
      cases hb
  refine ⟨⟨r.ls, r.ld, ⟨r.e0.g.trans sg, fun b o hb => ?_, r.e0.h.trans e.h, fun b hb gb => ?_⟩, fun i d h => ?_, fun i s hs h => ?_, r.df⟩, own⟩
  · unfold hidG at hb
    split at hb
    · cases hb
    · exact e.s b o hb
  · unfold hidG
    split
    · rfl
    · exact e.n b (fun z => hb (r.e0.h.free z)) (r.ef.n b hb gb)
  · obtain ⟨v, h1, h2⟩ := r.im i d h
    exact ⟨v, h1, dp_mono sg h2⟩
  · obtain ⟨a, o, h1, h2, h3, h4, h5⟩ := r.own i s hs h
    refine ⟨a, o, h1, h2, ?_, e.h _ _ h4, h5.mono sg⟩
    unfold hidG
    rw [if_pos ⟨i, s, hs, h, h1⟩]
end
end HL
end
section
set_option Elab.async false
set_option linter.all false
set_option maxRecDepth 100000
set_option maxHeartbeats 4000000
namespace HL
open PySem PySem.Spec PyProof.Rows L2
section
variable {K : PySem.W.Frag} {ca : String → Addr} {E : L2.St → XK} {n : Nat}
/-! ### blocks -/
def sNil : Es → Fl := fun δ => .nx δ
def sSeq (g1 g2 : Es → Fl) : Es → Fl := fun δ => match g1 δ with
  | .nx δ' => g2 δ'
  | o => o
theorem cs_nil : CS K ca E n tNext sNil := fun G0 H0 G H σ δ Dd r g => g σ G H r
theorem cs_seq {t u : TS} {g1 g2 : Es → Fl} (h1 : CS K ca E n t g1) (h2 : CS K ca E n u g2) : CS K ca E n (tSeq t u) (sSeq g1 g2) := fun G0 H0 G H σ δ Dd r g => by
  refine h1 G0 H0 G H σ δ { Dd with nx := u Dd } r ?_
  unfold sSeq at g
  cases hf : g1 δ with
  | nx δ' => rw [hf] at g; exact fun σ' G' H' r' => h2 G0 H0 G' H' σ' δ' Dd r' g
  | rt d => rw [hf] at g; exact g
  | bk d => rw [hf] at g; exact g
  | ct d => rw [hf] at g; exact g
  | exc d => rw [hf] at g; exact g
  | bad => rw [hf] at g; exact g
/-! ### assignments -/
def sAsg (i : Nat) (f : FE) : Es → Fl := fun δ => fR (f (v0 δ)) fun d => if i < δ.length then .nx (δ.set i (some (.im d))) else .bad
def sAsgR (i : Nat) (f : FE) : Es → Fl := fun δ => fR (f (vw δ)) fun d => if i < δ.length ∧ lf d = true then .nx (δ.set i (some (.im d))) else .bad
theorem cs_asg {te : TE} {f : FE} {i : Nat} (h : CE K ca E te f) : CS K ca E n (tAsg te (gName i)) (sAsg i f) := fun G0 H0 G H σ δ Dd r g =>
  core0 h r g fun d v G1 H1 e r1 hd g1 => by
    split at g1
    · rename_i hi
      exact g1 _ _ _ (r1.set_im (by rw [← r.ld]; exact hi) hd)
    · exact g1.elim
theorem cs_asgR {te : TE} {f : FE} {i : Nat} (h : CE K ca E te f) : CS K ca E n (tAsg te (gName i)) (sAsgR i f) := fun G0 H0 G H σ δ Dd r g =>
  coreW h r g fun d v G1 H1 e r1 hd g1 => by
    split at g1
    · rename_i hi
      obtain ⟨r2, ho⟩ := r.hide e
      exact g1 _ _ _ (r2.set_im (by rw [← r.ld]; exact hi.1) (dp_hide e.s ho hd hi.2))
    · exact g1.elim
/-! ### new lists that will be changed -/
def CF (K : PySem.W.Frag) (ca : String → Addr) (E : L2.St → XK) (t : TE) (f : FA) : Prop :=
  ∀ (σ : L2.St) (ρ : En) (G H : Hp) (Q : VK), Same G H → RelE K G σ ρ → (match f ρ with
    | .ok ds => ∀ p xs G' H', Ex4 G H G' H' → H p = none → G' p = none → H' p = some (.lst xs) → DpAll K G' xs ds → Q (.ref p) H'
    | .exc c => ∀ H', Same H H' → EX ca (E σ) c H'
    | .bad => False) → t σ H Q
theorem cf_new {G H H1 G1 : Hp} {p : Addr} {xs : List V} (e : Ex4 G H G1 H1) (hp : H1 p = none) : Ex4 G H G1 (upd H1 p (.lst xs)) ∧ H p = none ∧ G1 p = none :=
  ⟨⟨e.g, e.s.trans (same_upd hp), e.h.trans (same_upd hp), e.n⟩, e.h.free hp, e.s.free hp⟩
def aLst (f : FA) : FA := fun ρ => (f ρ).bind fun ds => if ds.length ≤ 1000 then .ok ds else .bad
theorem cf_lst {t : TA} {f : FA} (h : CA K ca E t f) : CF K ca E (tLst t) (aLst f) := fun σ ρ G H Q sg re gg => by
  unfold aLst at gg
  refine h σ ρ G H _ sg re ?_
  cases hf : f ρ with
  | ok ds =>
    rw [hf, R.bind_ok] at gg
    intro vs G1 H1 e rv
    split at gg
    · rename_i hok
      split at hok
      · rename_i hl
        cases hok
        refine ⟨by rw [dps_len rv]; exact sz1000 hl, fun p hp => ?_⟩
        obtain ⟨a, b, c⟩ := cf_new (xs := vs) e hp
        exact gg p vs G1 _ a b c upd_same rv
      · cases hok
    · rename_i hex
      split at hex <;> cases hex
    · exact gg.elim
  | exc c => rw [hf] at gg; exact gg
  | bad => rw [hf] at gg; exact gg
def aLof (f : FA) : FA := fun ρ => (f ρ).bind fun ds => match ds with
  | [.list xs] => .ok xs
  | [.tuple xs] => .ok xs
  | _ => .bad
theorem cf_list {t : TA} {f : FA} (h : CA K ca E t f) : CF K ca E (tCB (fun xs H Q => ∃ p ys, xs = [.ref p] ∧ (SqL K H p ys ∨ SqT K H p ys) ∧ ∀ l, H l = none → Q (.ref l) (upd H l (.lst ys))) t) (aLof f) := fun σ ρ G H Q sg re gg => by
  unfold aLof at gg
  refine h σ ρ G H _ sg re ?_
  cases hf : f ρ with
  | ok ds =>
    rw [hf, R.bind_ok] at gg
    intro vs G1 H1 e rv
    split at gg
    · rename_i hok
      split at hok
      · cases hok
        obtain ⟨v, rfl, hv⟩ := dps1 rv
        obtain ⟨a, xs, rfl, sa, ra⟩ := dp_lst hv
        refine ⟨a, xs, rfl, .inl (e.s.seq sa), fun p hp => ?_⟩
        obtain ⟨a, b, c⟩ := cf_new (xs := xs) e hp
        exact gg p xs G1 _ a b c upd_same ra
      · cases hok
        obtain ⟨v, rfl, hv⟩ := dps1 rv
        obtain ⟨a, xs, rfl, sa, ra⟩ := dp_tup hv
        refine ⟨a, xs, rfl, .inr (sqT_mono e.s sa), fun p hp => ?_⟩
        obtain ⟨a, b, c⟩ := cf_new (xs := xs) e hp
        exact gg p xs G1 _ a b c upd_same ra
      · cases hok
    · rename_i hex
      split at hex <;> cases hex
    · exact gg.elim
  | exc c => rw [hf] at gg; exact gg
  | bad => rw [hf] at gg; exact gg
def aRep (f : FA) (g : FE) : FA := fun ρ => (f ρ).bind fun ds => (g ρ).bind fun k => match k with
  | .int i => if -1000 ≤ i ∧ i ≤ 1000 ∧ ds.length ≤ 1000 then .ok (List.replicate i.toNat ds).flatten else .bad
  | _ => .bad
theorem cf_rep {ta tb : TE} {f : FA} {g : FE} (ha : CF K ca E ta f) (hb : CE K ca E tb g) : CF K ca E (tOp rRep ta tb) (aRep f g) := fun σ ρ G H Q sg re gg => by
  unfold aRep at gg
  refine ha σ ρ G H _ sg re ?_
  cases hf : f ρ with
  | ok ds =>
    rw [hf, R.bind_ok] at gg
    intro p xs G1 H1 e hp gp hl rv
    refine hb σ ρ G1 H1 _ e.s (re.mono e.g) ?_
    cases hg : g ρ with
    | ok k =>
      rw [hg, R.bind_ok] at gg
      intro v G2 H2 e2 rk
      cases k with
      | int i =>
        cases dp_int rk
        simp only at gg
        split at gg
        · rename_i hok
          split at hok
          · rename_i hb3
            cases hok
            refine ⟨p, i, xs, rfl, rfl, e2.h _ _ hl, by omega, by omega, ?_, fun q hq => ?_⟩
            · rw [dps_len rv, sizeLine_eq]
              have h1 : i.toNat ≤ 1000 := by omega
              have := Nat.mul_le_mul hb3.2.2 h1
              omega
            · obtain ⟨a, b, c⟩ := cf_new (xs := (List.replicate i.toNat xs).flatten) (e.trans e2) hq
              exact gg q _ G2 _ a b c upd_same (dps_rep (dps_mono e2.g rv) _)
          · cases hok
        · rename_i hex
          split at hex <;> cases hex
        · exact gg.elim
      | _ => exact gg.elim
    | exc c => rw [hg] at gg; exact fun H' s => gg H' (e.h.trans s)
    | bad => rw [hg] at gg; exact gg.elim
  | exc c => rw [hf] at gg; exact gg
  | bad => rw [hf] at gg; exact gg
def xF (f : FA) : FE := fun ρ => (f ρ).bind fun ds => .ok (.list ds)
theorem ce_cf {t : TE} {f : FA} (h : CF K ca E t f) : CE K ca E t (xF f) := fun σ ρ G H Q sg re gg => by
  unfold xF at gg
  refine h σ ρ G H Q sg re ?_
  cases hf : f ρ with
  | ok ds =>
    rw [hf, R.bind_ok] at gg
    intro p xs G' H' e hp gp hl rv
    refine gg (.ref p) (upd G' p (.lst xs)) H' ⟨e.g.trans (same_upd gp), fun b o hb => ?_, e.h, fun b hb gb => ?_⟩ (.lst (SqL.of upd_same) (dps_mono (same_upd gp) rv))
    · by_cases hbp : b = p
      · subst hbp; rw [upd_same] at hb; rw [hl]; exact hb
      · rw [upd_ne hbp] at hb; exact e.s b o hb
    · rw [upd_ne (fun z => hb (by rw [z]; exact hp))]
      exact e.n b hb gb
  | exc c => rw [hf] at gg; exact gg
  | bad => rw [hf] at gg; exact gg
def sAsgO (i : Nat) (f : FA) : Es → Fl := fun δ => fR (f (v0 δ)) fun ds => if i < δ.length then .nx (δ.set i (some (.ow ds))) else .bad
theorem cs_asgO {te : TE} {f : FA} {i : Nat} (h : CF K ca E te f) : CS K ca E n (tAsg te (gName i)) (sAsgO i f) := fun G0 H0 G H σ δ Dd r g => by
  unfold sAsgO at g
  refine h σ (v0 δ) G H _ r.s r.re ?_
  cases hf : f (v0 δ) with
  | ok ds =>
    rw [hf, fR_ok] at g
    intro p xs G' H' e hp gp hl rv
    split at g
    · rename_i hi
      refine g _ _ _ ((r.grow e).set_ow (by rw [← r.ld]; exact hi) (r.e0.h.free hp) gp hl rv fun o => ?_)
      obtain ⟨_, _, ys, q, _⟩ := r.owned o
      rw [hp] at q
      cases q
    · exact g.elim
  | exc c => rw [hf] at g; exact fun H1 e => g σ H1 r.ls (r.e0.h.trans e)
  | bad => rw [hf] at g; exact g
/-- two empty lists at once -/
def sParO (i j : Nat) : Es → Fl := fun δ => if i < δ.length ∧ j < δ.length ∧ i ≠ j then .nx ((δ.set i (some (.ow []))).set j (some (.ow []))) else .bad
theorem cs_parO {i j : Nat} : CS K ca E n (tPar i j (tCons (tLst tNil) (tCons (tLst tNil) tNil))) (sParO i j) := fun G0 H0 G H σ δ Dd r g => by
  unfold sParO at g
  split at g
  · rename_i hi
    refine ⟨Nat.zero_le _, fun p hp => ⟨Nat.zero_le _, fun q hq => ?_⟩⟩
    refine ⟨.ref p, .ref q, rfl, ?_⟩
    have hpq : p ≠ q := fun z => by subst z; rw [upd_same] at hq; cases hq
    have hq0 : H q = none := by rw [upd_ne (Ne.symm hpq)] at hq; exact hq
    have e1 : Same H (upd (upd H p (.lst [])) q (.lst [])) := (same_upd hp).trans (same_upd hq)
    have r1 := r.growH e1
    have n1 : ∀ a, H a = none → ¬ Owned σ δ a := fun a ha o => by
      obtain ⟨_, _, ys, z, _⟩ := r.owned o
      rw [ha] at z
      cases z
    have r2 := r1.set_ow (i := i) (p := p) (xs := []) (ds := []) (by rw [← r.ld]; exact hi.1) (r.e0.h.free hp) (r.s.free hp) (by rw [upd_ne hpq, upd_same]) .nil (n1 p hp)
    refine g _ _ _ (r2.set_ow (i := j) (p := q) (xs := []) (ds := []) (by rw [← r.ld]; exact hi.2.1) (r.e0.h.free hq0) (r.s.free hq0) upd_same .nil ?_)
    rintro ⟨k, ds, h0, h1, h2⟩
    by_cases hik : i = k
    · subst hik
      rw [List.getElem?_set_self (by rw [r.ls, ← r.ld]; exact hi.1)] at h2
      cases h2
      exact hpq rfl
    · rw [List.getElem?_set_ne hik] at h1 h2
      exact n1 q hq0 ⟨k, ds, h0, h1, h2⟩
  · exact g.elim
def sPar (i j : Nat) (f : FA) : Es → Fl := fun δ => fR (f (v0 δ)) fun ds => match ds with
  | [a, b] => if i < δ.length ∧ j < δ.length then .nx ((δ.set i (some (.im a))).set j (some (.im b))) else .bad
  | _ => .bad
theorem cs_par {i j : Nat} {t : TA} {f : FA} (h : CA K ca E t f) : CS K ca E n (tPar i j t) (sPar i j f) := fun G0 H0 G H σ δ Dd r g =>
  core0 h r g fun ds vs G1 H1 e r1 hd g1 => by
    split at g1
    · obtain ⟨u, v, rfl, hu, hv⟩ := dps2 hd
      split at g1
      · rename_i hi
        exact ⟨u, v, rfl, g1 _ _ _ ((r1.set_im (by rw [← r.ld]; exact hi.1) hu).set_im (by rw [← r.ld]; exact hi.2) hv)⟩
      · exact g1.elim
    · exact g1.elim
def sAug (i : Nat) (g : D → D → R D) (f : FE) : Es → Fl := fun δ => fR (xV i (v0 δ)) fun x => fR (f (v0 δ)) fun y => fR (g x y) fun z => if i < δ.length then .nx (δ.set i (some (.im z))) else .bad
theorem cs_aug {i : Nat} {te : TE} {f : FE} {ti : TIp} {g : D → D → R D} (h : CE K ca E te f) (ho : OD K ca ti g) : CS K ca E n (tAug i te ti) (sAug i g f) := fun G0 H0 G H σ δ Dd r gg => by
  unfold sAug at gg
  cases hx : xV i (v0 δ) with
  | ok x =>
    rw [hx, fR_ok] at gg
    have hv : (v0 δ)[i]? = some (some x) := by
      unfold xV at hx
      split at hx
      · rename_i d h1; cases hx; exact h1
      · cases hx
    obtain ⟨v, h1, h2⟩ := r.im i x (v0_at hv)
    refine ⟨v, h1, ?_⟩
    refine core0 h r gg fun y w G1 H1 e r1 hd g1 => ?_
    refine ho (E σ) v w G1 H1 _ x y r1.s (dp_mono e.g h2) hd ?_
    cases hz : g x y with
    | ok z =>
      rw [hz, fR_ok] at g1
      intro u G2 H2 e2 hz2
      split at g1
      · rename_i hi
        exact g1 _ _ _ ((r1.grow e2).set_im (by rw [← r.ld]; exact hi) hz2)
      · exact g1.elim
    | exc c => rw [hz] at g1; exact fun H2 s2 => g1 σ H2 r.ls (r1.e0.h.trans s2)
    | bad => rw [hz] at g1; exact g1
  | exc c =>
    unfold xV at hx
    split at hx <;> cases hx
  | bad => rw [hx] at gg; exact gg.elim
/-! ### lists that change -/
def owAt (δ : Es) (i : Nat) : Option (List D) := match δ[i]? with
  | some (some (.ow ds)) => some ds
  | _ => none
theorem owAt_some {δ : Es} {i : Nat} {ds : List D} (h : owAt δ i = some ds) : δ[i]? = some (some (.ow ds)) := by
  unfold owAt at h
  split at h
  · rename_i e h1; cases h; exact h1
  · cases h
/-- xs.append(e); e may read lists that change -/
def sApp (i : Nat) (f : FE) : Es → Fl := fun δ => match owAt δ i with
  | some ds => fR (f (v0 δ)) fun d => if ds.length < 1000 then .nx (δ.set i (some (.ow (ds ++ [d])))) else .bad
  | none => .bad
theorem app_ty {H : Hp} {a : Addr} {xs : List V} (h : H a = some (.lst xs)) : tyV K "list" (.ref a) H := .inl ⟨rfl, _, SqL.of h⟩
theorem cs_app {i : Nat} {te : TE} {f : FE} (h : CE K ca E te f) : CS K ca E n (tDrop (tBM K "list" rAppend (tVar i) (tCons te tNil))) (sApp i f) := fun G0 H0 G H σ δ Dd r g => by
  unfold sApp at g
  split at g
  · rename_i ds ho
    have ho := owAt_some ho
    obtain ⟨a, xs, h1, h2, h3, h4, h5⟩ := r.ow i ds ho
    refine ⟨.ref a, h1, app_ty h4, ?_⟩
    refine core0 h r g fun d v G1 H1 e r1 hd g1 => ?_
    split at g1
    · rename_i hl
      refine ⟨a, xs, v, rfl, rfl, e.h _ _ h4, by rw [dps_len h5, sizeLine_eq]; omega, ?_⟩
      exact g1 _ _ _ (r1.mut ho h1 (dps_append (dps_mono e.g h5) (.cons hd .nil)))
    · exact g1.elim
  · exact g.elim
/-- xs.append(e), e reads lists that change -/
def sAppR (i : Nat) (f : FE) : Es → Fl := fun δ => match owAt δ i with
  | some ds => fR (f (vw δ)) fun d => if ds.length < 1000 ∧ lf d = true then .nx (δ.set i (some (.ow (ds ++ [d])))) else .bad
  | none => .bad
theorem cs_appR {i : Nat} {te : TE} {f : FE} (h : CE K ca E te f) : CS K ca E n (tDrop (tBM K "list" rAppend (tVar i) (tCons te tNil))) (sAppR i f) := fun G0 H0 G H σ δ Dd r g => by
  unfold sAppR at g
  split at g
  · rename_i ds ho
    have ho := owAt_some ho
    obtain ⟨a, xs, h1, h2, h3, h4, h5⟩ := r.ow i ds ho
    refine ⟨.ref a, h1, app_ty h4, ?_⟩
    refine coreW h r g fun d v G1 H1 e r1 hd g1 => ?_
    split at g1
    · rename_i hl
      obtain ⟨r2, how⟩ := r.hide e
      obtain ⟨a', xs', q1, q2, q3, q4, q5⟩ := r2.ow i ds ho
      rw [h1] at q1
      cases q1
      refine ⟨a, xs', v, rfl, rfl, q4, by rw [dps_len q5, sizeLine_eq]; omega, ?_⟩
      exact g1 _ _ _ (r2.mut ho h1 (dps_append q5 (.cons (dp_hide e.s how hd hl.2) .nil)))
    · exact g1.elim
  · exact g.elim
def sPop (i : Nat) : Es → Fl := fun δ => match owAt δ i with
  | some ds => if 0 < ds.length then .nx (δ.set i (some (.ow ds.dropLast))) else .bad
  | none => .bad
theorem cs_pop {i : Nat} : CS K ca E n (tDrop (tBM0 K "list" rPop (tVar i))) (sPop i) := fun G0 H0 G H σ δ Dd r g => by
  unfold sPop at g
  split at g
  · rename_i ds ho
    have ho := owAt_some ho
    obtain ⟨a, xs, h1, h2, h3, h4, h5⟩ := r.ow i ds ho
    split at g
    · rename_i hl
      have hlx : xs.length - 1 < xs.length := by rw [dps_len h5]; omega
      exact ⟨.ref a, h1, app_ty h4, a, xs, xs[xs.length - 1], rfl, rfl, h4, List.getElem?_eq_getElem hlx, g _ _ _ (r.mut ho h1 (dps_dropLast h5))⟩
    · exact g.elim
  · exact g.elim
/-- xs[k] = e; both may read lists that change -/
def sSet (i : Nat) (fk f : FE) : Es → Fl := fun δ => match owAt δ i with
  | some ds => fR (f (vw δ)) fun d => if lf d = true then fR (fk (vw δ)) fun k => match k with
    | .int j => match ixN ds.length j with
      | some m => .nx (δ.set i (some (.ow (ds.set m d))))
      | none => .bad
    | _ => .bad
    else .bad
  | none => .bad
theorem cs_set {i : Nat} {tk te : TE} {fk f : FE} (hk : CE K ca E tk fk) (h : CE K ca E te f) : CS K ca E n (tAsg te (gSub (tVar i) tk rSetL)) (sSet i fk f) := fun G0 H0 G H σ δ Dd r g => by
  unfold sSet at g
  split at g
  · rename_i ds ho
    have ho := owAt_some ho
    refine coreW h r g fun d v G1 H1 e r1 hd g1 => ?_
    split at g1
    · rename_i hl
      obtain ⟨r2, how⟩ := r.hide e
      have hd2 := dp_hide e.s how hd hl
      obtain ⟨a, xs, h1, h2, h3, h4, h5⟩ := r2.ow i ds ho
      refine ⟨.ref a, h1, ?_⟩
      refine coreW hk r2 g1 fun k w G3 H3 e3 r3 hw g3 => ?_
      cases k with
      | int j =>
        cases dp_int hw
        simp only at g3
        split at g3
        · rename_i m hm
          refine ⟨a, xs, j, m, rfl, rfl, e3.h _ _ h4, by rw [dps_len h5]; exact hm, ?_⟩
          exact g3 _ _ _ (r3.mut ho h1 (dps_set hd2 m h5))
        · exact g3.elim
      | _ => exact g3.elim
    · exact g1.elim
  · exact g.elim
/-- a list is read as it is from here on -/
def sFrz (i : Nat) (g : Es → Fl) : Es → Fl := fun δ => match owAt δ i with
  | some ds => g (δ.set i (some (.im (.list ds))))
  | none => .bad
theorem cs_frz {i : Nat} {t : TS} {g : Es → Fl} (h : CS K ca E n t g) : CS K ca E n t (sFrz i g) := fun G0 H0 G H σ δ Dd r gg => by
  unfold sFrz at gg
  split at gg
  · rename_i ds ho
    obtain ⟨G', _, r'⟩ := r.freeze (owAt_some ho)
    exact h G0 H0 G' H σ _ Dd r' gg
  · exact gg.elim
/-! ### other statements -/
def sExp (f : FE) : Es → Fl := fun δ => fR (f (vw δ)) fun _ => .nx δ
theorem cs_exp {te : TE} {f : FE} (h : CE K ca E te f) : CS K ca E n (tDrop te) (sExp f) := fun G0 H0 G H σ δ Dd r g =>
  coreW h r g fun d v G1 H1 e r1 hd g1 => g1 _ _ _ r1
def sRet (f : FE) : Es → Fl := fun δ => fR (f (vw δ)) fun d => .rt d
theorem cs_ret {te : TE} {f : FE} (h : CE K ca E te f) : CS K ca E n (tRet te) (sRet f) := fun G0 H0 G H σ δ Dd r g =>
  coreW h r g fun d v G1 H1 e r1 hd g1 => g1 _ _ _ (r.ef.trans e) hd
def sIf (f : FT) (g1 g2 : Es → Fl) : Es → Fl := fun δ => fR (f (vw δ)) fun b => if b = true then g1 δ else g2 δ
theorem cs_if {tt : TT} {t u : TS} {f : FT} {g1 g2 : Es → Fl} (h : CT K ca E tt f) (h1 : CS K ca E n t g1) (h2 : CS K ca E n u g2) : CS K ca E n (tIfS tt t u) (sIf f g1 g2) := fun G0 H0 G H σ δ Dd r g =>
  coreW h r g fun b c Gx H1 e r1 hb gg => by
    cases hb
    cases b with
    | true => rw [if_pos rfl] at gg ⊢; exact h1 G0 H0 G H1 σ δ Dd r1 gg
    | false => rw [if_neg Bool.false_ne_true] at gg ⊢; exact h2 G0 H0 G H1 σ δ Dd r1 gg
def sRaise (c : String) : Es → Fl := fun _ => .exc c
theorem cs_raise {c : String} {C : Addr} (hC : C = ca c) (hl : exL c = none := by decide +kernel) : CS K ca E n (fun _ σ H => E σ (.ref C) none H) (sRaise c) := fun G0 H0 G H σ δ Dd r g => by
  subst hC
  have := g σ H r.ls r.e0.h
  rwa [EX.plain hl] at this
/-! ### loops -/
def TGs' (K : PySem.W.Frag) (n : Nat) (g : TG) (γ : D → Es → R Es) : Prop := ∀ (x : V) (d : D) (G0 H0 G H : Hp) (σ : L2.St) (δ δ' : Es) (Q : L2.St → Hp → Prop), RelS K n G0 H0 G H σ δ → Dp K G x d → γ d δ = .ok δ' →
  (∀ σ', RelS K n G0 H0 G H σ' δ' → Q σ' H) → g x σ H Q
def hN (i : Nat) : D → Es → R Es := fun d δ => if i < δ.length then .ok (δ.set i (some (.im d))) else .bad
theorem tgs_name {i : Nat} : TGs' K n (gName i) (hN i) := fun x d G0 H0 G H σ δ δ' Q r hd hg q => by
  unfold hN at hg
  split at hg
  · rename_i hi
    cases hg
    exact q _ (r.set_im (by rw [← r.ld]; exact hi) hd)
  · cases hg
def h2 (i j : Nat) : D → Es → R Es
  | .tuple [a, b], δ => if i < δ.length ∧ j < δ.length then .ok ((δ.set i (some (.im a))).set j (some (.im b))) else .bad
  | _, _ => .bad
theorem tgs_pair {i j : Nat} : TGs' K n (gTup K 2 (gCons (gName i) (gCons (gName j) gNil))) (h2 i j) := fun x d G0 H0 G H σ δ δ' Q r hd hg q => by
  unfold h2 at hg
  split at hg
  · split at hg
    · rename_i hi
      cases hg
      obtain ⟨a, xs, rfl, sa, ra⟩ := dp_tup hd
      obtain ⟨u, v, rfl, hu, hv⟩ := dps2 ra
      exact ⟨a, [u, v], rfl, sqT_mono r.s sa, rfl, u, [v], rfl, v, [], rfl, rfl, q _ ((r.set_im (by rw [← r.ld]; exact hi.1) hu).set_im (by rw [← r.ld]; exact hi.2) hv)⟩
    · cases hg
  · cases hg
def forD (γ : D → Es → R Es) (body : Es → Fl) : List D → Es → Fl
  | [], δ => .nx δ
  | x :: xs, δ => fR (γ x δ).nx fun δ1 => match body δ1 with
    | .nx δ2 => forD γ body xs δ2
    | .ct δ2 => forD γ body xs δ2
    | .bk δ2 => .nx δ2
    | .rt d => .rt d
    | .exc c => .exc c
    | .bad => .bad
def sFor (fi : FA) (γ : D → Es → R Es) (body : Es → Fl) : Es → Fl := fun δ => fR (fi (v0 δ)) fun xs => forD γ body xs δ
theorem RelS.base {G0 H0 G1 H1 G H : Hp} {σ σ1 : L2.St} {δ δ1 : Es} (r1 : RelS K n G0 H0 G1 H1 σ1 δ1) (r : RelS K n G1 H0 G H σ δ) : RelS K n G0 H0 G H σ δ :=
  ⟨r.ls, r.ld, ⟨r1.e0.g.trans r.e0.g, r.e0.s, r.e0.h, fun b hb gb => r.e0.n b hb (r1.e0.n b hb gb)⟩, r.im, r.own, r.df⟩
theorem RelS.rebase {G0 H0 G H : Hp} {σ : L2.St} {δ : Es} (r : RelS K n G0 H0 G H σ δ) : RelS K n G H0 G H σ δ :=
  ⟨r.ls, r.ld, ⟨Same.refl G, r.e0.s, r.e0.h, fun b _ z => z⟩, r.im, r.own, r.df⟩
theorem cs_for {wi : TI} {g : TG} {tb : TS} {fi : FA} {γ : D → Es → R Es} {body : Es → Fl} (hi : CI K ca E wi fi) (hg : TGs' K n g γ) (hb : CS K ca E n tb body) : CS K ca E n (tFor wi g tb) (sFor fi γ body) := fun G0 H0 G H σ δ Dd r gg =>
  core0 hi r gg fun xs J G1 H1 e r1 yi g1 => by
    refine ⟨fun i m σ' H' => m = xs.length - i ∧ i ≤ xs.length ∧ ∃ (G' : Hp) (δ' : Es), RelS K n G1 H0 G' H' σ' δ' ∧ GdS K ca E n G0 H0 Dd (forD γ body (xs.drop i) δ'), ⟨xs.length, by simp, Nat.zero_le _, G1, δ, r1.rebase, by simpa using g1⟩, ?_⟩
    rintro i m σ' H' ⟨rfl, hil, G', δ', r', g'⟩
    by_cases hlt : i < xs.length
    · right
      have hx : xs[i]? = some xs[i] := List.getElem?_eq_getElem hlt
      rw [List.drop_eq_getElem_cons hlt] at g'
      unfold forD at g'
      obtain ⟨hgo, hyl⟩ := ((yi G' H' r'.e0.g r'.s i).1 _ hx)
      refine ⟨hgo, fun σ2 H2 => i + 1 ≤ xs.length ∧ ∃ (G' : Hp) (δ' : Es), RelS K n G1 H0 G' H2 σ2 δ' ∧ GdS K ca E n G0 H0 Dd (forD γ body (xs.drop (i + 1)) δ'), fun σ2 H2 hN => ⟨xs.length - (i + 1), by omega, rfl, hN.1, hN.2⟩, fun x H3 hy => ?_⟩
      obtain ⟨G3, e3, dx⟩ := hyl x H3 hy
      cases hq : γ xs[i] δ' with
      | ok δ1 =>
        rw [hq] at g'
        have g' : GdS K ca E n G0 H0 Dd (match body δ1 with
          | .nx δ2 => forD γ body (xs.drop (i + 1)) δ2
          | .ct δ2 => forD γ body (xs.drop (i + 1)) δ2
          | .bk δ2 => .nx δ2
          | .rt d => .rt d
          | .exc c => .exc c
          | .bad => .bad) := g'
        refine hg x _ G1 H0 G3 H3 σ' δ' δ1 _ (r'.grow e3) dx hq fun σ2 r2 => ?_
        refine hb G1 H0 G3 H3 σ2 δ1 _ r2 ?_
        cases hbd : body δ1 with
        | nx δ2 => rw [hbd] at g'; exact fun σ4 G4 H4 r4 => ⟨hlt, G4, δ2, r4, g'⟩
        | ct δ2 => rw [hbd] at g'; exact fun σ4 G4 H4 r4 => ⟨hlt, G4, δ2, r4, g'⟩
        | bk δ2 => rw [hbd] at g'; exact fun σ4 G4 H4 r4 => g' σ4 G4 H4 (r1.base r4)
        | rt d => rw [hbd] at g'; exact fun v G4 H4 e4 hd => g' v G4 H4 ⟨r1.e0.g.trans e4.g, e4.s, e4.h, fun b hb gb => e4.n b hb (r1.e0.n b hb gb)⟩ hd
        | exc c => rw [hbd] at g'; exact g'
        | bad => rw [hbd] at g'; exact g'
      | exc c => rw [hq] at g'; exact g'.elim
      | bad => rw [hq] at g'; exact g'.elim
    · left
      refine ⟨(yi G' H' r'.e0.g r'.s i).2 (by omega), ?_⟩
      rw [List.drop_eq_nil_iff.mpr (by omega)] at g'
      exact g' σ' G' H' (r1.base r')
def whD (ft : FT) (body : Es → Fl) : Nat → Es → Fl
  | 0, _ => .bad
  | m + 1, δ => fR (ft (vw δ)) fun b => if b = true then (match body δ with
    | .nx δ2 => whD ft body m δ2
    | .ct δ2 => whD ft body m δ2
    | .bk δ2 => .nx δ2
    | .rt d => .rt d
    | .exc c => .exc c
    | .bad => .bad) else .nx δ
theorem cs_while {tt : TT} {tb : TS} {ft : FT} {body : Es → Fl} (m : Nat) (ht : CT K ca E tt ft) (hb : CS K ca E n tb body) : CS K ca E n (tWhile tt tb) (whD ft body m) := fun G0 H0 G H σ δ Dd r gg => by
  refine ⟨fun m σ' H' => ∃ (G' : Hp) (δ' : Es), RelS K n G0 H0 G' H' σ' δ' ∧ GdS K ca E n G0 H0 Dd (whD ft body m δ'), ⟨m, G, δ, r, gg⟩, ?_⟩
  rintro m σ' H' ⟨G', δ', r', g'⟩
  cases m with
  | zero => exact g'.elim
  | succ m =>
    unfold whD at g'
    refine coreW ht r' g' fun b c Gx H1 e r1 hbb g1 => ?_
    cases hbb
    cases b with
    | false =>
      rw [if_neg Bool.false_ne_true] at g1 ⊢
      exact g1 _ _ _ r1
    | true =>
      rw [if_pos rfl] at g1 ⊢
      refine ⟨fun σ2 H2 => ∃ (G' : Hp) (δ' : Es), RelS K n G0 H0 G' H2 σ2 δ' ∧ GdS K ca E n G0 H0 Dd (whD ft body m δ'), fun σ2 H2 h => ⟨m, Nat.lt_succ_self m, h⟩, ?_⟩
      refine hb G0 H0 G' H1 σ' δ' _ r1 ?_
      cases hbd : body δ' with
      | nx δ2 => rw [hbd] at g1; exact fun σ4 G4 H4 r4 => ⟨G4, δ2, r4, g1⟩
      | ct δ2 => rw [hbd] at g1; exact fun σ4 G4 H4 r4 => ⟨G4, δ2, r4, g1⟩
      | bk δ2 => rw [hbd] at g1; exact fun σ4 G4 H4 r4 => g1 σ4 G4 H4 r4
      | rt d => rw [hbd] at g1; exact g1
      | exc c => rw [hbd] at g1; exact g1
      | bad => rw [hbd] at g1; exact g1
/-! ### a def -/
def runF (k : Nat) (g : Es → Fl) : List D → R D := fun ds => match g (ds.map (fun d => some (.im d)) ++ List.replicate k none) with
  | .rt d => .ok d
  | .nx _ => .ok .none
  | .exc c => .exc c
  | _ => .bad
theorem start_rel {G H : Hp} {N : List Str} {vs : List V} {ds : List D} {k : Nat} (s : Same G H) (h : DpAll K G vs ds) (hN : N.length = vs.length + k) : RelS K N.length G H G H (start N vs) (ds.map (fun d => some (.im d)) ++ List.replicate k none) := by
  have hl := dps_len h
  have lx : ∀ (i : Nat), (ds.map (fun d => some (Sl.im d)) ++ List.replicate k none)[i]? = if i < ds.length then (ds[i]?).map (fun d => some (.im d)) else if i < ds.length + k then some none else none := fun i => by
    by_cases h1 : i < ds.length
    · rw [List.getElem?_append_left (by simpa using h1), if_pos h1, List.getElem?_map]
    · rw [List.getElem?_append_right (by simpa using h1), if_neg h1, List.length_map]
      by_cases h2 : i < ds.length + k
      · rw [if_pos h2, List.getElem?_replicate, if_pos (by omega)]
      · rw [if_neg h2, List.getElem?_replicate, if_neg (by omega)]
  refine ⟨by simp [L2.start, hN], by simp [hN, hl], Ex4.refl s, fun i d hi => ?_, fun i es ho hi => ?_, fun i j a es fs _ ho _ hi => ?_⟩
  · rw [lx] at hi
    split at hi
    · rename_i h1
      rw [Option.map_eq_some_iff] at hi
      obtain ⟨e, he, hh⟩ := hi
      cases hh
      obtain ⟨v, hv, hd⟩ := dps_get h he
      refine ⟨v, ?_, hd⟩
      unfold L2.start
      rw [List.getElem?_append_left (by simp; omega), List.getElem?_map, hv]
      rfl
    · split at hi <;> cases hi
  · rw [lx] at hi
    split at hi
    · rw [Option.map_eq_some_iff] at hi
      obtain ⟨e, he, hh⟩ := hi
      cases hh
      cases ho
    · split at hi <;> cases hi
  · rw [lx] at hi
    split at hi
    · rw [Option.map_eq_some_iff] at hi
      obtain ⟨e, he, hh⟩ := hi
      cases hh
      cases ho
    · split at hi <;> cases hi
theorem run_def {N : List Str} {p k : Nat} {t : TS} {g : Es → Fl} {vs : List V} {H : Hp} {Q : VK} {E : XK} (hN : N.length = p + k) (h : CS K ca (fun _ => E) N.length t g) (sp : spD K ca p (runF k g) vs H Q E) :
    t { nx := fun _ H' => Q .non H', rt := Q } (start N vs) H := by
  obtain ⟨G, ds, s, hl, hd, gd⟩ := sp
  refine h G H G H (start N vs) _ _ (start_rel s hd (by rw [hl]; exact hN)) ?_
  unfold runF at gd
  cases hg : g (ds.map (fun d => some (.im d)) ++ List.replicate k none) with
  | nx δ => rw [hg] at gd; exact fun σ G' H' r => gd .non G' H' r.e0 .non
  | rt d => rw [hg] at gd; exact fun v G' H' e hd => gd v G' H' e hd
  | bk δ => rw [hg] at gd; exact gd.elim
  | ct δ => rw [hg] at gd; exact gd.elim
  | exc c => rw [hg] at gd; exact fun σ H' _ s => gd H' s
  | bad => rw [hg] at gd; exact gd.elim
theorem spD_len {p : Nat} {F : List D → R D} : ∀ vs H Q E, spD K ca p F vs H Q E → vs.length = p := fun _ _ _ _ ⟨_, _, _, h, _⟩ => h
end
end HL
end
section
set_option Elab.async false
set_option linter.all false
set_option maxRecDepth 100000
set_option maxHeartbeats 4000000
namespace HL
open PySem PySem.Spec PyProof.Rows L2
/-! ### tuple * int, any whole number up to 1000 -/
theorem tuple_mul1 (l : Addr) (items : Array Value) (n : Nat) (dd : Option Addr) (sl : Array (Option Value)) (x : Int) (u : Tok) (c0 : (decide (x < -(2 ^ 63)) || decide (x ≥ 2 ^ 63)) = false) (c1 : (items.isEmpty || x == 1) = true) :
    Meets (Builtin.«tuple.__mul__» ⟨[.ref l, .int x u], []⟩) (fun _ R s => s.heap.get? l = some { cls := .type "tuple", dict := dd, data := .seq items n, slots := sl } ∧
      R (.ok (.ret (Value.ref l))) s) :=
  .of_wp fun prog w A R s h => by
    obtain ⟨hp, g, d, tk, os⟩ := s
    obtain ⟨hl, h⟩ := h
    have f1 := AutoSeq1.idx_int
    wp_walk using PySem.AutoSeq1.wpAny_loadPart' hl
    repeat (first
      | (refine wpAny_ite_false (decide_eq_false (by rw [c0]; exact Bool.false_ne_true)) ?_; wp_walk using PySem.AutoSeq1.wpAny_loadPart' hl)
      | (refine wpAny_ite_true (decide_eq_true (by rw [c1])) ?_; wp_walk using PySem.AutoSeq1.wpAny_loadPart' hl))
    exact ⟨_, rfl, h⟩
theorem tuple_mul0 (l : Addr) (items : Array Value) (n : Nat) (dd : Option Addr) (sl : Array (Option Value)) (x : Int) (u : Tok) (c0 : (decide (x < -(2 ^ 63)) || decide (x ≥ 2 ^ 63)) = false) (c1 : (items.isEmpty || x == 1) = false) (c2 : (decide (x ≤ 0) || items.isEmpty) = true) :
    Meets (Builtin.«tuple.__mul__» ⟨[.ref l, .int x u], []⟩) (fun _ R s => s.heap.get? l = some { cls := .type "tuple", dict := dd, data := .seq items n, slots := sl } ∧
      R (.ok (.ret (Value.ref s.heap.objs.size))) { s with heap := s.heap.push { cls := Value.type "tuple", data := Data.seq #[] }, toks := s.toks }) :=
  .of_wp fun prog w A R s h => by
    obtain ⟨hp, g, d, tk, os⟩ := s
    obtain ⟨hl, h⟩ := h
    have f1 := AutoSeq1.idx_int
    wp_walk using PySem.AutoSeq1.wpAny_loadPart' hl
    repeat (first
      | (refine wpAny_ite_false (decide_eq_false (by rw [c0]; exact Bool.false_ne_true)) ?_; wp_walk using PySem.AutoSeq1.wpAny_loadPart' hl)
      | (refine wpAny_ite_false (decide_eq_false (by rw [c1]; exact Bool.false_ne_true)) ?_; wp_walk using PySem.AutoSeq1.wpAny_loadPart' hl)
      | (refine wpAny_ite_true (decide_eq_true (by rw [c2])) ?_; wp_walk using PySem.AutoSeq1.wpAny_loadPart' hl))
    exact ⟨_, rfl, h⟩
def rRepTA (K : PySem.W.Frag) : R2 := fun x y H Q => ∃ l k xs, x = .ref l ∧ y = .int k ∧ SqT K H l xs ∧ -1000 ≤ k ∧ k ≤ 1000 ∧ xs.length ≤ 1000 ∧ ((xs = [] ∨ k = 1) → Q (.ref l) H) ∧ (xs ≠ [] → k ≤ 0 → ∀ p, H p = none → Q (.ref p) (upd H p (.tup []))) ∧
  (xs ≠ [] → 2 ≤ k → ∀ p, H p = none → Q (.ref p) (upd H p (.tup (List.replicate k.toNat xs).flatten)))
theorem op_repTA {X : Cx} : OpR X (binaryOp .Mult) (rRepTA X.K) := by
  intro pins s σ H x y v u Q I rx ry h
  obtain ⟨l, k, xs, rfl, rfl, hT, h0, h1, hz, q1, q0, q2⟩ := h
  by_cases hk : xs ≠ [] ∧ 2 ≤ k
  · exact op_repT pins s σ H _ _ v u Q I rx ry ⟨l, k, xs, rfl, rfl, hT, hk.1, hk.2, h1, hz, q2 hk.1 hk.2⟩
  · cases rx
    obtain ⟨t, rfl⟩ := ry
    obtain ⟨its, r, ⟨⟨cls, dd, data, sl⟩, ho, hc, n, hd⟩, hs⟩ := I.tuple hT
    simp only at hc hd
    subst hc hd
    have hle : its.length = xs.length := r.length.symm
    have c0 : (decide (k < -(2 ^ 63)) || decide (k ≥ 2 ^ 63)) = false := by
      rw [decide_eq_false (by omega), decide_eq_false (by omega)] <;> rfl
    by_cases h1k : xs = [] ∨ k = 1
    · have c1 : (its.toArray.isEmpty || k == 1) = true := by
        rcases h1k with z | z
        · rw [z] at hle
          have : its = [] := List.eq_nil_of_length_eq_zero (by simpa using hle)
          rw [this]; rfl
        · rw [z]; simp
      exact wpAny_binaryOp_repeat_ref (T := "tuple") (U := "int") (by decide) ⟨_, ho, rfl⟩ (fun s' => typeIs_int s' k t) noFill_tuple_mul F.fills_int_mul F.slot_int_rmul repeat_tuple F.slot_int_index.lookup
        (call_meets F.slot_int_rmul (typeIs_int s k t) F.entry_int_rmul (F.args_int_rmul_2 _ _) (int_rmul_tuple k t l its.toArray n dd sl)
          ⟨ho, rfl, ⟨_, ho, rfl⟩, call_meets F.slot_tuple_mul ⟨_, ho, rfl⟩ F.entry_tuple_mul (F.args_tuple_mul_2 _ _) (tuple_mul1 l its.toArray n dd sl k t c0 c1) ⟨ho, ⟨.ref l, H, I, rfl, q1 h1k⟩⟩⟩)
    · have hne : xs ≠ [] := fun z => h1k (.inl z)
      have hk1 : k ≠ 1 := fun z => h1k (.inr z)
      have hk0 : k ≤ 0 := by
        have : ¬ 2 ≤ k := fun z => hk ⟨hne, z⟩
        omega
      have hi : its.toArray.isEmpty = false := by
        cases its with
        | nil => exact absurd (List.eq_nil_of_length_eq_zero (by simpa using hle.symm)) hne
        | cons a b => rfl
      have c1 : (its.toArray.isEmpty || k == 1) = false := by
        rw [hi, Bool.false_or]
        exact beq_eq_false_iff_ne.mpr hk1
      have c2 : (decide (k ≤ 0) || its.toArray.isEmpty) = true := by
        rw [decide_eq_true hk0]; rfl
      refine wpAny_binaryOp_repeat_ref (T := "tuple") (U := "int") (by decide) ⟨_, ho, rfl⟩ (fun s' => typeIs_int s' k t) noFill_tuple_mul F.fills_int_mul F.slot_int_rmul repeat_tuple F.slot_int_index.lookup
        (call_meets F.slot_int_rmul (typeIs_int s k t) F.entry_int_rmul (F.args_int_rmul_2 _ _) (int_rmul_tuple k t l its.toArray n dd sl)
          ⟨ho, rfl, ⟨_, ho, rfl⟩, call_meets F.slot_tuple_mul ⟨_, ho, rfl⟩ F.entry_tuple_mul (F.args_tuple_mul_2 _ _) (tuple_mul0 l its.toArray n dd sl k t c0 c1 c2) ⟨ho, ?_⟩⟩)
      refine ⟨.ref s.heap.objs.size, _, I.laid (t' := s.toks) (o := .tup []) (fun b ob q => Heap.get?_push_of_some _ q) (Nat.le_refl _) ?_, rfl, q0 hne hk0 _ (I.hok.fresh (Nat.le_refl _))⟩
      exact ⟨Nat.zero_le _, [], .nil, IsTup.new _ _⟩
section
variable {K : PySem.W.Frag} {ca : String → Addr} {E : L2.St → XK} {n : Nat}
def dRepT : D → D → R D
  | .tuple xs, .int k => if -1000 ≤ k ∧ k ≤ 1000 ∧ xs.length ≤ 1000 then .ok (.tuple (List.replicate k.toNat xs).flatten) else .bad
  | _, _ => .bad
theorem od_repT : OD K ca (rRepTA K) dRepT := fun E x y G H Q dx dy sg hx hy g => by
  unfold dRepT at g
  split at g
  · rename_i ds k
    split at g
    · rename_i hb
      obtain ⟨a, xs, rfl, sa, ra⟩ := dp_tup hx
      cases dp_int hy
      have hl := dps_len ra
      refine ⟨a, _, xs, rfl, rfl, sqT_mono sg sa, hb.1, hb.2.1, by rw [hl]; exact hb.2.2, fun h1 => ?_, fun hne hk => ?_, fun _ _ => g.newT sg (dps_rep ra _)⟩
      · have e : (List.replicate k.toNat ds).flatten = ds := by
          rcases h1 with h1 | h1
          · subst h1
            cases ra
            simp
          · subst h1
            simp
        rw [e] at g
        exact g.here (b := .ref a) sg (.tup sa ra)
      · have e : k.toNat = 0 := by omega
        rw [e] at g
        exact g.newT sg .nil
    · exact g.elim
  · exact g.elim
def dAddI : D → D → R D
  | .int a, .int b => .ok (.int (a + b))
  | _, _ => .bad
theorem od_addI : OD K ca (rI0 fun i j => .int (i + j)) dAddI := fun E x y G H Q dx dy sg hx hy g => by
  unfold dAddI at g
  split at g
  · cases dp_int hx; cases dp_int hy
    exact ⟨_, _, rfl, rfl, g.here (b := V.int _) sg (.int _)⟩
  · exact g.elim
def dFdivS : D → D → R D
  | .int a, .int b => if 0 < b ∧ b < 1073741824 then .ok (.int (a / b)) else .bad
  | _, _ => .bad
theorem od_fdivS : OD K ca (rI CDiv fun i j => .int (i / j)) dFdivS := fun E x y G H Q dx dy sg hx hy g => by
  unfold dFdivS at g
  split at g
  · cases dp_int hx; cases dp_int hy
    split at g
    · rename_i h
      exact ⟨_, _, rfl, rfl, h, g.here (b := V.int _) sg (.int _)⟩
    · exact g.elim
  · exact g.elim
def sAsgT (f : FE) (γ : D → Es → R Es) : Es → Fl := fun δ => fR (f (v0 δ)) fun d => fR (γ d δ).nx fun δ' => .nx δ'
theorem cs_asgT {te : TE} {f : FE} {g : TG} {γ : D → Es → R Es} (h : CE K ca E te f) (hg : TGs' K n g γ) : CS K ca E n (tAsg te g) (sAsgT f γ) := fun G0 H0 G H σ δ Dd r gg =>
  core0 h r gg fun d v G1 H1 e r1 hd g1 => by
    cases hq : γ d δ with
    | ok δ' =>
      rw [hq] at g1
      exact hg v d G0 H0 G1 H1 σ δ δ' _ r1 hd hq fun σ' r' => g1 σ' _ _ r'
    | exc c => rw [hq] at g1; exact g1.elim
    | bad => rw [hq] at g1; exact g1.elim
end
/-! ### defs -/
def OkD (P : Program) (w : World) (K : PySem.W.Frag) (mg : Str → Option Value) (base : Heap) (ca : String → Addr) (x : Str) (ps : List Str) (k : Nat) (F : List D → R D) : Prop :=
  ∃ f fd, mg x = some (.ref f) ∧ PySem.W.keepIn K (.ref f) = true ∧ Binds K fd ps [] ∧ FnOk P w K mg base (L2.CX P w) k f fd ps (spD K ca ps.length F)
section
variable {X : Cx} {ca : String → Addr} {E : L2.St → XK} {x : Str} {ps : List Str} {k : Nat} {F : List D → R D} {e : Expr} {es : List Expr} {t : TA} {p pos : Pos}
theorem passN (σ : L2.St) : PassesAt (L2.CX X.prog X.w) X σ (E0' σ) := fun _ _ _ _ _ _ h => by
  obtain ⟨_, _, _, _, _, _, _, _, _, _, _, _, z⟩ := h
  exact z.elim
theorem pe_callD {P : Program} {w : World} {K : PySem.W.Frag} {mg : Str → Option Value} {base : Heap} {A : Around} (h : OkD P w K mg base ca x ps k F) (hr : Room k A) (hg : Gl X x) (hx : ∀ σ, PassesAt (L2.CX X.prog X.w) X σ (E σ)) (ha : PA X (e :: es) t)
    (hP : X.prog = P := by rfl) (hw : X.w = w := by rfl) (hK : X.K = K := by rfl) (hmg : X.mg = mg := by rfl) (hbs : X.base = base := by rfl) (hA : X.A = A := by rfl)
    (hdb : (x == ("__debug__" : Str)) = false := by decide) (he : starEach (e :: es) X.env = (false, eval e X.env) :: starEach es X.env := by rfl) (hpl : (backTo pos (starEach es X.env)).any (·.1) = false := by rfl) :
    PE X (.Call (.Name x p) (e :: es) [] pos) (tCallS (spD K ca ps.length F) E t) := by
  subst hP hw hK hmg hbs hA
  obtain ⟨f, fd, hm, hk, hb, hF⟩ := h
  exact pe_callS hF hr hg hm hk hb hx ha hdb he hpl
end
structure ExF (K : PySem.W.Frag) (mg : Str → Option Value) (ca : String → Addr) (c : String) : Prop where
  g : mg (Str.ofString c) = some (.ref (ca c))
  x : PySem.W.excIn K (ca c) [.type "ValueError", .type "Exception", .type "BaseException", .type "object"] "ValueError.__new__" = true
  k : PySem.W.keepIn K (.ref (ca c)) = true
  b : PySem.W.subIn K (.ref (ca c)) (.type "BaseException") = some true
  t : PySem.W.typeIn K (.ref (ca c)) = some (.type "type")
end HL
end
section
set_option Elab.async false
set_option linter.all false
set_option maxRecDepth 100000
set_option maxHeartbeats 4000000
namespace HL
open PySem PySem.Spec PyProof.Rows L2
/-! ### several named clauses -/
def offI (i : Nat) (D : Ends) : Ends := { nx := fun a b => D.nx (a.set i none) b, rt := D.rt, bk := fun a b => D.bk (a.set i none) b, ct := fun a b => D.ct (a.set i none) b }
abbrev Cls := List (Value × (Addr → Value → Option Addr → TS))
def wMA (K : PySem.W.Frag) (i : Nat) (Wo : WX) (D : Ends) : Cls → WX
  | [] => Wo
  | (c, ts) :: r => fun k d σ H => ∃ b, PySem.W.exmOne K k c = some b ∧ (b = true → ∀ a, H a = none → ts a k d (offI i D) (σ.set i (some (.ref a))) H) ∧ (b = false → wMA K i Wo D r k d σ H)
inductive HdsA (X : Cx) (n : Str) : List ExceptHandler → Cls → Prop
  | nil : HdsA X n [] []
  | cons {x : Str} {c : Value} {ts : Addr → Value → Option Addr → TS} {s0 : Stmt} {su : List Stmt} {np p' : Pos} {hs : List ExceptHandler} {l : Cls} (hc : Names X x c)
      (ok : ∀ (a : Addr) (o : Obj) (k : Value) (d : Option Addr) (pn : List (Addr × Obj)), Zc k d o → (∃ vs, o.data = .fields vs) → PSs (X.suite a ((a, o) :: pn)) (s0 :: su) (ts a k d)) (r : HdsA X n hs l) :
      HdsA X n (.ExceptHandler (some (.Name x np)) (some n) (s0 :: su) p' :: hs) ((c, ts) :: l)
section
variable {X : Cx} {n : Str} {i : Nat} {body : List Stmt} {h0 : ExceptHandler} {hds : List ExceptHandler} {l : Cls} {pos : Pos} {tb : WX → TS} {Wo : WX}
theorem ps_tryA (hs : X.stack = X.env :: X.outer) (hf : X.env.frame = some X.env.locals) (hN : X.N.Nodup) (hi : X.N[i]? = some n) (hln : X.env.kindOf n = some .local) (tk : Takes X Wo)
    (hb : ∀ (W : WX) (pn : List (Addr × Obj)) (xe : Value → Shared → Prop), Takes (X.tr pn xe) W → PassesOwn (model X.prog X.w) X.A X.env xe → PSs (X.tr pn xe) body (tb W)) (hh : HdsA X n (h0 :: hds) l) :
    PS X (.Try body (h0 :: hds) [] [] pos) (fun D σ H => tb (wMA X.K i Wo D l) D σ H) := by
  refine ⟨fun pins s σ H D I h => ?_⟩
  have ok := I.ok
  have fr0 : X.A.frames = some (X.env :: X.outer) := ok.frames.trans (by rw [hs])
  have lc : Loc X.env.scope n := .inl hln
  refine wpAny_Try_except (wpAny_mono ((hb (wMA X.K i Wo D l) (X.pn ++ pins) (fun e t1 => wpAny (model X.prog X.w) X.A (noteFrame e X.env) (fun _ t2 => wpAny (model X.prog X.w) X.A (setFlight e none) (fun _ t3 => wpAny (model X.prog X.w) X.A (handleBy e X.env (h0 :: hds)) (SP X pins D) X.xe t3) X.xe t2) X.xe t1)
    (fun u s' xx => ?_) PassesOwn.looking).run [] s σ H D (I.toTry _) h) (fun f t1 sp => ?_) (fun e t1 he => he))
  · obtain ⟨a, B, sI, pq, τ, G, k, d, rfl, J', nb, up, sky, na, os, ag, w⟩ := xx
    have J : Inv X pins τ G sI := J'.ofTry ok
    have sky : Sky B (X.env :: X.outer) a (Zc k d) X.env.locals s'.heap := hs ▸ sky
    show wpAny (model X.prog X.w) X.A (noteFrame (.ref a) X.env) _ _ _
    refine Sky.land Zc.steady fr0 hf sky fun g3 fl3 up3 => ?_
    have J3 : Inv X pins τ G { s' with heap := g3 } := J.landed nb fl3.1 (up.trans up3) os ag
    obtain ⟨o3, v3, he3, hz3, hd3⟩ := fl3.there
    have nfr : a ∉ frs (X.env :: X.outer) := fun hm => by
      obtain ⟨_, o', e', hnf⟩ := fl3.2.2.1.mem hm
      cases he3.symm.trans e'
      exact hnf _ hd3
    have nL : a ≠ X.env.locals := fun z => nfr (List.mem_filterMap.mpr ⟨X.env, List.mem_cons_self, hf.trans (by rw [z])⟩)
    have nF : a ∉ X.fs := fun hm => by
      obtain ⟨e, he, q⟩ := List.mem_filterMap.mp hm
      exact nfr (List.mem_filterMap.mpr ⟨e, List.mem_cons_of_mem _ he, q⟩)
    have S3 := J3.suite he3 hd3 na nL nF
    have go : ∀ {hs' : List ExceptHandler} {l' : Cls}, HdsA X n hs' l' → wMA X.K i Wo D l' k d τ G → wpAny (model X.prog X.w) X.A (handleBy (.ref a) X.env hs') (SP X pins D) X.xe { s' with heap := g3 } := by
      intro hs' l' hk
      induction hk with
      | nil =>
        intro w
        refine wpAny_handleBy_nil ?_
        obtain ⟨k1, k2, k3, oe, vs, T, oT, tt, he, hz, hd, h1, hr⟩ := id fl3
        unfold PySem.passOn
        refine wpAny_bind (wpAny_field he hd h1 ?_)
        rw [if_neg (show ¬ ((Value.ref T == Value.none) = true) by simp)]
        have fin : wpAny (model X.prog X.w) X.A (setFlight (.ref a) X.env.frame) (fun _ t4 => wpAny (model X.prog X.w) X.A (throw (.ref a) : Sem Flow) (SP X pins D) X.xe t4) X.xe { s' with heap := g3 } := by
          rw [hf]
          exact HandSPX.setFlight_upZ fl3 fun g4 hh4 up4 => wpAny_throw (tk _ _ ⟨a, B, sI, pins, τ, G, k, d, rfl, J, nb, (up.trans up3).trans up4, .inr (.inr (by rw [hs]; exact hh4)), na, os, ag, w⟩)
        first
          | exact wpAny_bind (wpAny_pure (wpAny_bind fin))
          | exact wpAny_bind fin
      | @cons x c ts s0 su np p' hs2 l2 hc hsu r ih =>
        intro w
        obtain ⟨b, hb1, hyes, hno⟩ := w
        refine wpAny_handleBy_cons (codeAny_handlers_test ?_) (by intro q; cases q)
        have LT : PySem.W.Looks (model X.prog X.w) g3 (typeOf (.ref a)) k := fun A Q E t kk q => wpAny_typeOf_ref (kk _ _ he3) (by rw [hz3.1]; exact q)
        have LM := PySem.W.exm_one (M := model X.prog X.w) (J3.kIn) LT hb1
        have test : ∀ {Q : Value → Shared → Prop} {E : Value → Shared → Prop}, Q c { s' with heap := g3 } → wpAny (model X.prog X.w) (X.A.mark (some (.ref a))) (eval (.Name x np) X.env) Q E { s' with heap := g3 } := fun {Q E} q => by
          obtain ⟨hg, hdbg, hm | ⟨hm, hv, hnn⟩⟩ := hc
          · exact ld_glob (X := X.suite a ((a, o3) :: (X.pn ++ pins))) S3 hg hm q hdbg
          · exact ld_blt (X := X.suite a ((a, o3) :: (X.pn ++ pins))) S3 hg hm hv q hnn hdbg
        refine test (LM.here ?_)
        cases b with
        | false =>
          show wpAny _ X.A (handleBy (.ref a) X.env hs2) _ _ _
          exact ih (hno rfl)
        | true =>
          refine codeAny_handlers_suite_as (HandSPX.lands_againZ fl3 fun g4 fl4 up4 => ?_)
          have J4 : Inv X pins τ G { s' with heap := g4 } := J.landed nb fl4.1 ((up.trans up3).trans up4) os ag
          obtain ⟨o4, v4, he4, hz4, hd4⟩ := fl4.there
          have S4 := J4.suite he4 hd4 na nL nF
          refine store_ok (X := X.suite a ((a, o4) :: (X.pn ++ pins))) (v := .ref a) S4 hN hi lc rfl (fun t5 S5 => ?_) (.inr hln)
          refine wpAny_mono ((hsu a o4 k d (X.pn ++ pins) hz4 ⟨_, hd4⟩).run [] t5 _ G _ S5 (hyes rfl a na)) (fun f t6 sp => ?_) (fun _ _ z => False.elim z)
          have done : ∀ {τ6 : L2.St} {G6 : Hp} {Q : Shared → Prop}, Inv (X.suite a ((a, o4) :: (X.pn ++ pins))) [] τ6 G6 t6 → (∀ t7, Inv X pins (τ6.set i none) G6 t7 → Q t7) → wpAny (model X.prog X.w) X.A (do bindName X.env n .none; unbindBehindTheSuite X.env n p') (fun _ t7 => Q t7) X.xe t6 :=
            fun {τ6 G6 Q} S6 hq => gone_ok (S6.unsuite ok) hN hi hln hq
          cases f with
          | next => obtain ⟨τ6, G6, S6, q6⟩ := sp; exact done S6 fun t7 J7 => ⟨_, _, J7, q6⟩
          | brk => obtain ⟨τ6, G6, S6, q6⟩ := sp; exact done S6 fun t7 J7 => ⟨_, _, J7, q6⟩
          | cont => obtain ⟨τ6, G6, S6, q6⟩ := sp; exact done S6 fun t7 J7 => ⟨_, _, J7, q6⟩
          | ret u => obtain ⟨v6, τ6, G6, S6, r6, q6⟩ := sp; exact done S6 fun t7 J7 => ⟨_, _, _, J7, r6, q6⟩
    exact go hh w
  · cases f with
    | next => obtain ⟨τ, G, J', q⟩ := sp; exact wpAny_execs_nil ⟨τ, G, J'.ofTry ok, q⟩
    | brk => obtain ⟨τ, G, J', q⟩ := sp; exact ⟨τ, G, J'.ofTry ok, q⟩
    | cont => obtain ⟨τ, G, J', q⟩ := sp; exact ⟨τ, G, J'.ofTry ok, q⟩
    | ret u => obtain ⟨v, τ, G, J', r, q⟩ := sp; exact ⟨v, τ, G, J'.ofTry ok, r, q⟩
end
/-! ### the suite: return x if isinstance(e, A) and not isinstance(e, B) else y -/
def subX (c d : String) : Bool := c == d || d == "EstimateError"
def tIsT (K : PySem.W.Frag) (C a : Addr) (i : Nat) (B : Addr) : TT := fun σ H Q => tCB (rIsE K C a) (tCons (tVar i) (tCons (tC (.ref B)) tNil)) σ H fun x H' => ∃ k, TruV K x H' k ∧ Q k H'
def tSu (K : PySem.W.Frag) (C a : Addr) (i : Nat) (A B : Addr) (x y : Str) : TS := tRet (tIf (tAnd (tIsT K C a i A) (tNot (tIsT K C a i B))) (tC (.str x)) (tC (.str y)))
def tCl (K : PySem.W.Frag) (i : Nat) (A B : Addr) (x y : Str) : Addr → Value → Option Addr → TS := fun a k d Dd σ H => ∃ C, k = .ref C ∧ d = none ∧ ExcC K C ∧ tSu K C a i A B x y Dd σ H
theorem pss_cl {X : Cx} {b : List Stmt} {K : PySem.W.Frag} {i : Nat} {A B : Addr} {x y : Str} {a : Addr} {k : Value} {d : Option Addr} (h : ∀ C, k = .ref C → d = none → ExcC K C → PSs X b (tSu K C a i A B x y)) : PSs X b (tCl K i A B x y a k d) :=
  ⟨fun pins s σ H D I ⟨C, h1, h2, h3, q⟩ => (h C h1 h2 h3).run pins s σ H D I q⟩
structure Clause where
  c : String
  A : String
  B : String
  x : Str
  y : Str
def hdl : List Clause → String → Fl
  | [], c => .exc c
  | q :: r, c => if subX c q.c = true then .rt (.str (if (subX c q.A && !subX c q.B) = true then q.x else q.y)) else hdl r c
def sTry (Cr : List String) (g : Es → Fl) (cl : List Clause) : Es → Fl := fun δ => match g δ with
  | .exc c => if c ∈ Cr then hdl cl c else .bad
  | o => o
structure XF (K : PySem.W.Frag) (ca : String → Addr) (Cr Ct : List String) : Prop where
  l : ∀ c ∈ Cr, exL c = none
  c : ∀ c ∈ Cr, ExcC K (ca c)
  e : ∀ c ∈ Cr, ∀ d ∈ Ct, PySem.W.exmOne K (.ref (ca c)) (.ref (ca d)) = some (subX c d)
  k : ∀ c ∈ Cr, ∀ d ∈ Ct, PySem.W.kitOne K (.ref (ca c)) (.ref (ca d)) = some (subX c d)
def clsOf (K : PySem.W.Frag) (ca : String → Addr) (i : Nat) (cl : List Clause) : Cls := cl.map fun q => (.ref (ca q.c), tCl K i (ca q.A) (ca q.B) q.x q.y)
section
variable {K : PySem.W.Frag} {ca : String → Addr} {E : L2.St → XK} {n : Nat}
def CZ (K : PySem.W.Frag) (ca : String → Addr) (E : L2.St → XK) (n : Nat) (t : TS) (g : Es → Fl) : Prop :=
  ∀ (G0 H0 G H : Hp) (σ : L2.St) (δ : Es) (Dd : Ends), Same G0 H0 → RelS K n G0 H0 G H σ δ → GdS K ca E n G0 H0 Dd (g δ) → t Dd σ H
theorem cz_of {t : TS} {g : Es → Fl} (h : CS K ca E n t g) : CZ K ca E n t g := fun G0 H0 G H σ δ Dd _ r gg => h G0 H0 G H σ δ Dd r gg
theorem tIsT_ok {C a B : Addr} {i : Nat} {b : Bool} {σ : L2.St} {H : Hp} {Q : Bool → Hp → Prop} (h1 : σ[i]? = some (some (.ref a))) (h2 : PySem.W.kitOne K (.ref C) (.ref B) = some b) (q : Q b H) : tIsT K C a i B σ H Q :=
  ⟨.ref a, h1, .ref B, .ref B, b, rfl, fun u hu => hu, h2, b, rfl, q⟩
theorem cz_try {Cr Ct : List String} {cl : List Clause} {i : Nat} {tb : WX → TS} {g : Es → Fl} (xf : XF K ca Cr Ct) (hct : ∀ q ∈ cl, q.c ∈ Ct ∧ q.A ∈ Ct ∧ q.B ∈ Ct) (hi : i < n)
    (hb : ∀ W : WX, CS K ca (fun σ c d H => W c d σ H) n (tb W) g) : CZ K ca E n (fun D σ H => tb (wMA K i (fun c d σ H => E σ c d H) D (clsOf K ca i cl)) D σ H) (sTry Cr g cl) := fun G0 H0 G H σ δ Dd sG r gg => by
  refine hb _ G0 H0 G H σ δ Dd r ?_
  unfold sTry at gg
  cases hg : g δ with
  | nx δ => rw [hg] at gg; exact gg
  | rt d => rw [hg] at gg; exact gg
  | bk δ => rw [hg] at gg; exact gg
  | ct δ => rw [hg] at gg; exact gg
  | bad => rw [hg] at gg; exact gg
  | exc c =>
    rw [hg] at gg
    have g2 : GdS K ca E n G0 H0 Dd (if c ∈ Cr then hdl cl c else .bad) := gg
    clear gg
    by_cases hc : c ∈ Cr
    · rw [if_pos hc] at g2
      intro σ' H' hl sH
      rw [EX.plain (xf.l c hc)]
      show wMA K i _ Dd (clsOf K ca i cl) (.ref (ca c)) none σ' H'
      clear hg hb
      induction cl with
      | nil =>
        have g3 : EX ca (E σ') c H' := g2 σ' H' hl sH
        rw [EX.plain (xf.l c hc)] at g3
        exact g3
      | cons q r ih =>
        obtain ⟨q1, q2, q3⟩ := hct q List.mem_cons_self
        refine ⟨subX c q.c, xf.e c hc _ q1, fun hy a ha => ⟨ca c, rfl, rfl, xf.c c hc, ?_⟩, fun hn => ih (fun p hp => hct p (List.mem_cons_of_mem _ hp)) ?_⟩
        · have hs : (σ'.set i (some (.ref a)))[i]? = some (some (V.ref a)) := List.getElem?_set_self (by rw [hl]; exact hi)
          have gg : GdS K ca E n G0 H0 Dd (.rt (.str (if (subX c q.A && !subX c q.B) = true then q.x else q.y))) := by
            rw [hdl, if_pos hy] at g2
            exact g2
          have fin : Dd.rt (.str (if (subX c q.A && !subX c q.B) = true then q.x else q.y)) H' := gg (.str _) G0 H' ⟨Same.refl G0, sG.trans sH, sH, fun _ _ z => z⟩ (.str _)
          refine tIsT_ok hs (xf.k c hc _ q2) ?_
          cases hA : subX c q.A with
          | false =>
            rw [hA] at fin
            exact fin
          | true =>
            rw [if_pos rfl]
            refine tIsT_ok hs (xf.k c hc _ q3) ?_
            rw [hA] at fin
            cases hB : subX c q.B with
            | false => rw [hB] at fin; exact fin
            | true => rw [hB] at fin; exact fin
        · rw [hdl, hn, if_neg Bool.false_ne_true] at g2
          exact g2
    · rw [if_neg hc] at g2
      exact g2.elim
theorem cz_seq {t u : TS} {g1 g2 : Es → Fl} (h1 : CZ K ca E n t g1) (h2 : CS K ca E n u g2) : CZ K ca E n (tSeq t u) (sSeq g1 g2) := fun G0 H0 G H σ δ Dd sG r g => by
  refine h1 G0 H0 G H σ δ { Dd with nx := u Dd } sG r ?_
  unfold sSeq at g
  cases hf : g1 δ with
  | nx δ' => rw [hf] at g; exact fun σ' G' H' r' => h2 G0 H0 G' H' σ' δ' Dd r' g
  | rt d => rw [hf] at g; exact g
  | bk d => rw [hf] at g; exact g
  | ct d => rw [hf] at g; exact g
  | exc d => rw [hf] at g; exact g
  | bad => rw [hf] at g; exact g
theorem run_defZ {N : List Str} {p k : Nat} {t : TS} {g : Es → Fl} {vs : List V} {H : Hp} {Q : VK} {E : XK} (hN : N.length = p + k) (h : CZ K ca (fun _ => E) N.length t g) (sp : spD K ca p (runF k g) vs H Q E) :
    t { nx := fun _ H' => Q .non H', rt := Q } (start N vs) H := by
  obtain ⟨G, ds, s, hl, hd, gd⟩ := sp
  refine h G H G H (start N vs) _ _ s (start_rel s hd (by rw [hl]; exact hN)) ?_
  unfold runF at gd
  cases hg : g (ds.map (fun d => some (.im d)) ++ List.replicate k none) with
  | nx δ => rw [hg] at gd; exact fun σ G' H' r => gd .non G' H' r.e0 .non
  | rt d => rw [hg] at gd; exact fun v G' H' e hd => gd v G' H' e hd
  | bk δ => rw [hg] at gd; exact gd.elim
  | ct δ => rw [hg] at gd; exact gd.elim
  | exc c => rw [hg] at gd; exact fun σ H' _ s => gd H' s
  | bad => rw [hg] at gd; exact gd.elim
end
end HL
namespace HL
theorem allN {α : Type} {p : α → Prop} : ∀ x ∈ ([] : List α), p x := fun x h => nomatch h
theorem allC {α : Type} {p : α → Prop} {a : α} {l : List α} (h : p a) (r : ∀ x ∈ l, p x) : ∀ x ∈ a :: l, p x := fun x hx => by
  rcases List.mem_cons.mp hx with e | e
  · exact e ▸ h
  · exact r x e
end HL
end
section
set_option Elab.async false
set_option linter.all false
set_option maxRecDepth 100000
set_option maxHeartbeats 4000000
namespace HL
open PySem PySem.Spec PyProof.Rows L2
section
variable {X : Cx} {nm : Str} {i : Nat} {body : List Stmt} {h0 : ExceptHandler} {hds : List ExceptHandler} {pos : Pos} {tb : WX → TS}
variable {ca : String → Addr} {E : L2.St → XK} {n : Nat}
/-- a try statement with both its sides -/
theorem def_try {Cr Ct : List String} {cl : List Clause} {g : Es → Fl} (hs : X.stack = X.env :: X.outer) (hf : X.env.frame = some X.env.locals) (hN : X.N.Nodup) (hi : X.N[i]? = some nm) (hln : X.env.kindOf nm = some .local) (tk : Takes X (fun c d σ H => E σ c d H))
    (hb : ∀ (W : WX) (pn : List (Addr × Obj)) (xe : Value → Shared → Prop), Takes (X.tr pn xe) W → PassesOwn (model X.prog X.w) X.A X.env xe → PSs (X.tr pn xe) body (tb W))
    (hc : ∀ W : WX, CS X.K ca (fun σ c d H => W c d σ H) n (tb W) g)
    (hh : HdsA X nm (h0 :: hds) (clsOf X.K ca i cl)) (xf : XF X.K ca Cr Ct) (hct : ∀ q ∈ cl, q.c ∈ Ct ∧ q.A ∈ Ct ∧ q.B ∈ Ct) (hin : i < n) :
    ∃ t, PS X (.Try body (h0 :: hds) [] [] pos) t ∧ CZ X.K ca E n t (sTry Cr g cl) :=
  ⟨_, ps_tryA hs hf hN hi hln tk hb hh, cz_try xf hct hin hc⟩
theorem ex_one {s : Stmt} {g : Es → Fl} (h : ∃ t, PS X s t ∧ CZ X.K ca E n t g) : ∃ t, PSs X [s] t ∧ CZ X.K ca E n t g :=
  let ⟨t, a, b⟩ := h
  ⟨t, pss_one a, b⟩
theorem ex_cons {s : Stmt} {rest : List Stmt} {g1 g2 : Es → Fl} {u : TS} (h : ∃ t, PS X s t ∧ CZ X.K ca E n t g1) (h2 : PSs X rest u) (c2 : CS X.K ca E n u g2) : ∃ t, PSs X (s :: rest) t ∧ CZ X.K ca E n t (sSeq g1 g2) :=
  let ⟨t, a, b⟩ := h
  ⟨_, pss_cons a h2, cz_seq b c2⟩
theorem fin_try {N : List Str} {p k : Nat} {b : List Stmt} {g : Es → Fl} {vs : List V} {H : Hp} {Q : VK} {E : XK} (hN : N.length = p + k) (h : ∃ t, PSs X b t ∧ CZ X.K ca (fun _ => E) N.length t g) (sp : spD X.K ca p (runF k g) vs H Q E) :
    ∃ t, PSs X b t ∧ t { nx := fun _ H' => Q .non H', rt := Q } (start N vs) H :=
  let ⟨t, a, c⟩ := h
  ⟨t, a, run_defZ hN c sp⟩
end
theorem kit_refs {K : PySem.W.Frag} {C B : Addr} {b : Bool} (hcc : PySem.W.subIn K (.ref C) (.ref C) = some true) (hdct : PySem.W.hasDictIn K B = true) (ht : PySem.W.typeIn K (.ref B) = some (.type "type")) (h : PySem.W.subIn K (.ref C) (.ref B) = some b) : PySem.W.kitOne K (.ref C) (.ref B) = some b := by
  unfold PySem.W.kitOne
  by_cases e : C = B
  · subst e
    rw [hcc] at h
    rw [if_pos (by simp)]
    exact h
  · rw [if_neg (by simpa using e)]
    unfold PySem.W.hasDictIn at hdct
    cases hc : PySem.W.clsIn K B with
    | none => rw [hc] at hdct; cases hdct
    | some cd =>
      have e2 : ((PySem.W.clsIn K B).isSome && PySem.W.typeIn K (.ref B) == some (.type "type")) = true := by rw [hc, ht] <;> rfl
      show (if ((PySem.W.clsIn K B).isSome && PySem.W.typeIn K (.ref B) == some (.type "type")) = true then PySem.W.subIn K (.ref C) (.ref B) else none) = some b
      rw [if_pos e2]
      exact h
end HL
end
section
set_option linter.all false
set_option maxRecDepth 100000
namespace HM
open PySem L2 HL
def g_in_range : Es → Fl :=
  (sRet (xAnd (x1 (dIsi "int") (xV 0)) (xAnd (xNot (x1 (dIsi "bool") (xV 0))) (xCh dLe dLe (xV 1) (xV 0) (xV 2)))))
def m_in_range : List D → R D := runF 0 g_in_range
def g_greatest_divisor : Es → Fl :=
  (sSeq (whD (yTru (xV 1)) (sPar 0 1 (aC (xV 1) (aC (x2 dMod (xV 0) (xV 1)) aN))) 20000)
  (sRet (xV 0)))
def m_greatest_divisor : List D → R D := runF 0 g_greatest_divisor
def g_reduced : Es → Fl :=
  (sSeq (sAsg 2 (xCall 2 m_greatest_divisor (aC (xA dAbs (aC (xV 0) aN)) (aC (xV 1) aN))))
  (sRet (xA dTup (aC (x2 dFdiv (xV 0) (xV 2)) (aC (x2 dFdiv (xV 1) (xV 2)) aN)))))
def m_reduced : List D → R D := runF 1 g_reduced
def g_is_fraction : Es → Fl :=
  (sSeq (sIf (yOr (yNot (yTru (x1 (dIsi "tuple") (xV 0)))) (yOr (yBl (x2 dNe (xA dLen (aC (xV 0) aN)) (xC (.int 2)))) (yNot (yTru (xCall 3 m_in_range (aC (x2 dIx (xV 0) (xC (.int 0))) (aC (x1 dNeg (xC (.int 99999))) (aC (xC (.int 99999)) aN)))))))) (sRet (xC (.bool false))) sNil)
  (sRet (xAnd (xCall 3 m_in_range (aC (x2 dIx (xV 0) (xC (.int 1))) (aC (xC (.int 1)) (aC (xC (.int 99999)) aN)))) (x2 dEq (xCall 2 m_greatest_divisor (aC (xA dAbs (aC (x2 dIx (xV 0) (xC (.int 0))) aN)) (aC (x2 dIx (xV 0) (xC (.int 1))) aN))) (xC (.int 1))))))
def m_is_fraction : List D → R D := runF 0 g_is_fraction
def g_plus : Es → Fl :=
  (sRet (xCall 2 m_reduced (aC (x2 dAddA (x2 dMul (x2 dIx (xV 0) (xC (.int 0))) (x2 dIx (xV 1) (xC (.int 1)))) (x2 dMul (x2 dIx (xV 1) (xC (.int 0))) (x2 dIx (xV 0) (xC (.int 1))))) (aC (x2 dMul (x2 dIx (xV 0) (xC (.int 1))) (x2 dIx (xV 1) (xC (.int 1)))) aN))))
def m_plus : List D → R D := runF 0 g_plus
def g_times : Es → Fl :=
  (sRet (xCall 2 m_reduced (aC (x2 dMul (x2 dIx (xV 0) (xC (.int 0))) (x2 dIx (xV 1) (xC (.int 0)))) (aC (x2 dMul (x2 dIx (xV 0) (xC (.int 1))) (x2 dIx (xV 1) (xC (.int 1)))) aN))))
def m_times : List D → R D := runF 0 g_times
def g_trimmed : Es → Fl :=
  (sSeq (sAsgO 1 (aLof (aC (xV 0) aN)))
  (sSeq (whD (yAnd (yTru (xV 1)) (yBl (x2 dEq (x2 dIx (x2 dIx (xV 1) (x1 dNeg (xC (.int 1)))) (xC (.int 0))) (xC (.int 0))))) (sPop 1) 1200)
  (sRet (xA dTupOf (aC (xV 1) aN)))))
def m_trimmed : List D → R D := runF 1 g_trimmed
def g_sum_of : Es → Fl :=
  (sSeq (sAsgO 2 (aLst aN))
  (sSeq (sFor (iA dR1 (aC (xA dMax (aC (xA dLen (aC (xV 0) aN)) (aC (xA dLen (aC (xV 1) aN)) aN))) aN)) (hN 3) (sSeq (sAsg 4 (xIf (yBl (x2 dLt (xV 3) (xA dLen (aC (xV 0) aN)))) (x2 dIx (xV 0) (xV 3)) (xA dTup (aC (xC (.int 0)) (aC (xC (.int 1)) aN)))))
  (sSeq (sAsg 5 (xIf (yBl (x2 dLt (xV 3) (xA dLen (aC (xV 1) aN)))) (x2 dIx (xV 1) (xV 3)) (xA dTup (aC (xC (.int 0)) (aC (xC (.int 1)) aN)))))
  (sApp 2 (xCall 2 m_plus (aC (xV 4) (aC (xV 5) aN)))))))
  (sRet (xCall 1 m_trimmed (aC (xV 2) aN)))))
def m_sum_of : List D → R D := runF 4 g_sum_of
def g_multiple_of : Es → Fl :=
  (sRet (xCall 1 m_trimmed (aC (xLc (iSeq (xV 1)) (gN 2) (fun _ => .ok true) (xCall 2 m_times (aC (xV 0) (aC (xV 2) aN))) [2]) aN)))
def m_multiple_of : List D → R D := runF 1 g_multiple_of
def g_product_of : Es → Fl :=
  (sSeq (sAsgO 2 (aRep (aLst (aC (xA dTup (aC (xC (.int 0)) (aC (xC (.int 1)) aN))) aN)) (x2 dAddA (xA dLen (aC (xV 0) aN)) (xA dLen (aC (xV 1) aN)))))
  (sSeq (sFor (iA dEnum (aC (xV 0) aN)) (h2 3 4) (sFor (iA dEnum (aC (xV 1) aN)) (h2 5 6) (sSet 2 (x2 dAddA (xV 3) (xV 5)) (xCall 2 m_plus (aC (x2 dIx (xV 2) (x2 dAddA (xV 3) (xV 5))) (aC (xCall 2 m_times (aC (xV 4) (aC (xV 6) aN))) aN))))))
  (sRet (xCall 1 m_trimmed (aC (xV 2) aN)))))
def m_product_of : List D → R D := runF 5 g_product_of
def g_value_at : Es → Fl :=
  (sSeq (sAsg 2 (xA dTup (aC (xC (.int 0)) (aC (xC (.int 1)) aN))))
  (sSeq (sFor (iSeq (x1 dRev (xV 0))) (hN 3) (sAsg 2 (xCall 2 m_plus (aC (xCall 2 m_times (aC (xV 2) (aC (xV 1) aN))) (aC (xV 3) aN)))))
  (sRet (xV 2))))
def m_value_at : List D → R D := runF 2 g_value_at
def g_power_of : Es → Fl :=
  (sSeq (sAsg 2 (xA dTup (aC (xA dTup (aC (xC (.int 1)) (aC (xC (.int 1)) aN))) aN)))
  (sSeq (sFor (iA dR1 (aC (xV 1) aN)) (hN 3) (sAsg 2 (xCall 2 m_product_of (aC (xV 2) (aC (xV 0) aN)))))
  (sRet (xV 2))))
def m_power_of : List D → R D := runF 2 g_power_of
def g_choices : Es → Fl :=
  (sSeq (sAsg 2 (xC (.int 1)))
  (sSeq (sFor (iA dR1 (aC (xV 1) aN)) (hN 3) (sAsg 2 (x2 dFdiv (x2 dMul (xV 2) (x2 dSub (xV 0) (xV 3))) (x2 dAddA (xV 3) (xC (.int 1))))))
  (sRet (xV 2))))
def m_choices : List D → R D := runF 2 g_choices
def g_chance_of : Es → Fl :=
  (sSeq (sAsg 2 (xCall 2 m_power_of (aC (xA dTup (aC (xA dTup (aC (xC (.int 0)) (aC (xC (.int 1)) aN))) (aC (xA dTup (aC (xC (.int 1)) (aC (xC (.int 1)) aN))) aN))) (aC (xV 1) aN))))
  (sSeq (sAsg 3 (xCall 2 m_power_of (aC (xA dTup (aC (xA dTup (aC (xC (.int 1)) (aC (xC (.int 1)) aN))) (aC (xA dTup (aC (x1 dNeg (xC (.int 1))) (aC (xC (.int 1)) aN))) aN))) (aC (x2 dSub (xV 0) (xV 1)) aN))))
  (sRet (xCall 2 m_multiple_of (aC (xA dTup (aC (xCall 2 m_choices (aC (xV 0) (aC (xV 1) aN))) (aC (xC (.int 1)) aN))) (aC (xCall 2 m_product_of (aC (xV 2) (aC (xV 3) aN))) aN))))))
def m_chance_of : List D → R D := runF 2 g_chance_of
def g_check_trials : Es → Fl :=
  (sIf (yNot (yTru (xCall 3 m_in_range (aC (xV 0) (aC (xC (.int 1)) (aC (xC (.int 6)) aN)))))) (sRaise "InvalidTrials") sNil)
def m_check_trials : List D → R D := runF 0 g_check_trials
def g_is_quantity : Es → Fl :=
  (sSeq (sIf (yOr (yNot (yTru (x1 (dIsi "tuple") (xV 0)))) (yBl (x2 dGt (xA dLen (aC (xV 0) aN)) (x2 dAddA (xC (.int 8)) (xC (.int 1)))))) (sRet (xC (.bool false))) sNil)
  (sSeq (sIf (yTru (xLc (iSeq (xV 0)) (gN 1) (yNot (yTru (xCall 3 m_in_range (aC (xV 1) (aC (x1 dNeg (xC (.int 99))) (aC (xC (.int 99)) aN)))))) (xV 1) [1])) (sRet (xC (.bool false))) sNil)
  (sRet (xOr (x2 dEq (xV 0) (xA dTup aN)) (x2 dNe (x2 dIx (xV 0) (x1 dNeg (xC (.int 1)))) (xC (.int 0)))))))
def m_is_quantity : List D → R D := runF 1 g_is_quantity
def g_check_quantity : Es → Fl :=
  (sIf (yNot (yTru (xCall 1 m_is_quantity (aC (xV 0) aN)))) (sRaise "InvalidQuantity") sNil)
def m_check_quantity : List D → R D := runF 0 g_check_quantity
def g_are_values : Es → Fl :=
  (sRet (xAnd (x1 (dIsi "tuple") (xV 0)) (xAnd (x2 dEq (xA dLen (aC (xV 0) aN)) (xV 1)) (xNot (xLc (iSeq (xV 0)) (gN 2) (yNot (yTru (xCall 1 m_is_fraction (aC (xV 2) aN)))) (xV 2) [2])))))
def m_are_values : List D → R D := runF 1 g_are_values
def g_check_estimate : Es → Fl :=
  (sSeq (sExp (xCall 1 m_check_trials (aC (xV 0) aN)))
  (sIf (yNot (yTru (xCall 2 m_are_values (aC (xV 1) (aC (x2 dAddA (xV 0) (xC (.int 1))) aN))))) (sRaise "InvalidEstimate") sNil))
def m_check_estimate : List D → R D := runF 0 g_check_estimate
def g_polynomial_of : Es → Fl :=
  (sRet (xA dTupOf (aC (xLc (iSeq (xV 0)) (gN 1) (fun _ => .ok true) (xA dTup (aC (xV 1) (aC (xC (.int 1)) aN))) [1]) aN)))
def m_polynomial_of : List D → R D := runF 1 g_polynomial_of
def g_average_of : Es → Fl :=
  (sSeq (sAsg 2 (xA dTup aN))
  (sSeq (sFor (iA dEnum (aC (xV 1) aN)) (h2 3 4) (sAsg 2 (xCall 2 m_sum_of (aC (xV 2) (aC (xCall 2 m_multiple_of (aC (xV 4) (aC (xCall 2 m_chance_of (aC (xV 0) (aC (xV 3) aN))) aN))) aN)))))
  (sRet (xV 2))))
def m_average_of : List D → R D := runF 3 g_average_of
def g_average : Es → Fl :=
  (sSeq (sExp (xCall 2 m_check_estimate (aC (xV 0) (aC (xV 1) aN))))
  (sRet (xCall 2 m_average_of (aC (xV 0) (aC (xV 1) aN)))))
def m_average : List D → R D := runF 0 g_average
def g_is_chance : Es → Fl :=
  (sRet (xAnd (xCall 1 m_is_fraction (aC (xV 0) aN)) (xCh dLe dLe (xC (.int 0)) (x2 dIx (xV 0) (xC (.int 0))) (x2 dIx (xV 0) (xC (.int 1))))))
def m_is_chance : List D → R D := runF 0 g_is_chance
def g_failing_chance : Es → Fl :=
  (sSeq (sExp (xCall 1 m_check_trials (aC (xV 0) aN)))
  (sSeq (sExp (xCall 1 m_check_quantity (aC (xV 1) aN)))
  (sSeq (sIf (yNot (yTru (xCall 2 m_are_values (aC (xV 2) (aC (x2 dAddA (xV 0) (xC (.int 1))) aN))))) (sRaise "InvalidEstimate") sNil)
  (sSeq (sAsg 3 (xCall 2 m_sum_of (aC (xCall 2 m_average_of (aC (xV 0) (aC (xV 2) aN))) (aC (xCall 2 m_multiple_of (aC (xA dTup (aC (x1 dNeg (xC (.int 1))) (aC (xC (.int 1)) aN))) (aC (xCall 1 m_polynomial_of (aC (xV 1) aN)) aN))) aN))))
  (sSeq (sIf (yBl (x2 dEq (xV 3) (xA dTup aN))) (sRaise "IsHonest") sNil)
  (sSeq (sAsg 4 (xC (.int 0)))
  (sSeq (whD (yBl (x2 dEq (x2 dIx (xCall 2 m_value_at (aC (xV 3) (aC (xCall 2 m_reduced (aC (xV 4) (aC (xC (.int 16)) aN))) aN))) (xC (.int 0))) (xC (.int 0)))) (sAug 4 dAddI (xC (.int 1))) 1200)
  (sRet (xCall 2 m_reduced (aC (xV 4) (aC (xC (.int 16)) aN)))))))))))
def m_failing_chance : List D → R D := runF 2 g_failing_chance
def g_spread_of : Es → Fl :=
  (sSeq (sAsg 2 (xCall 2 m_average_of (aC (xV 0) (aC (xV 1) aN))))
  (sSeq (sAsg 3 (xCall 2 m_average_of (aC (xV 0) (aC (xA dTupOf (aC (xLc (iSeq (xV 1)) (gN 4) (fun _ => .ok true) (xCall 2 m_times (aC (xV 4) (aC (xV 4) aN))) [4]) aN)) aN))))
  (sRet (xCall 2 m_sum_of (aC (xV 3) (aC (xCall 2 m_multiple_of (aC (xA dTup (aC (x1 dNeg (xC (.int 1))) (aC (xC (.int 1)) aN))) (aC (xCall 2 m_product_of (aC (xV 2) (aC (xV 2) aN))) aN))) aN))))))
def m_spread_of : List D → R D := runF 3 g_spread_of
def g_spread : Es → Fl :=
  (sSeq (sExp (xCall 2 m_check_estimate (aC (xV 0) (aC (xV 1) aN))))
  (sRet (xCall 2 m_spread_of (aC (xV 0) (aC (xV 1) aN)))))
def m_spread : List D → R D := runF 0 g_spread
def g_check_chance : Es → Fl :=
  (sIf (yNot (yTru (xCall 1 m_is_chance (aC (xV 0) aN)))) (sRaise "InvalidNumber") sNil)
def m_check_chance : List D → R D := runF 0 g_check_chance
def g_average_at : Es → Fl :=
  (sSeq (sExp (xCall 2 m_check_estimate (aC (xV 0) (aC (xV 1) aN))))
  (sSeq (sExp (xCall 1 m_check_chance (aC (xV 2) aN)))
  (sRet (xCall 2 m_value_at (aC (xCall 2 m_average_of (aC (xV 0) (aC (xV 1) aN))) (aC (xV 2) aN))))))
def m_average_at : List D → R D := runF 0 g_average_at
def g_law_cell : Es → Fl :=
  (sSeq (sIf (yBl (x2 dLt (xV 1) (xA dLen (aC (xV 0) aN)))) (sRet (x2 dIx (xV 0) (xV 1))) sNil)
  (sRet (xC (.int 0))))
def m_law_cell : List D → R D := runF 0 g_law_cell
def g_law_whole : Es → Fl :=
  (sRet (xAnd (x1 (dIsi "int") (xV 0)) (xNot (x1 (dIsi "bool") (xV 0)))))
def m_law_whole : List D → R D := runF 0 g_law_whole
def g_law_row : Es → Fl :=
  (sSeq (sAsg 2 (xCall 2 m_law_cell (aC (xV 0) (aC (xV 1) aN))))
  (sSeq (sAsgO 3 (aLst aN))
  (sSeq (sFor (iA dR1 (aC (xC (.int 60)) aN)) (hN 4) (sIf (yBl (x2 dLt (xCall 2 m_law_cell (aC (xV 0) (aC (xV 1) aN))) (x2 dPow (xC (.int 10)) (xC (.int 18))))) (sSeq (sAsg 2 (x2 dMod (x2 dAddA (x2 dAddA (x2 dAddA (x2 dMul (xV 2) (xC (.int 48271))) (x2 dMul (xC (.int 131)) (xV 4))) (xC (.int 7))) (xCall 2 m_law_cell (aC (xV 0) (aC (x2 dMod (x2 dAddA (x2 dAddA (xV 1) (xC (.int 1))) (xV 4)) (xC (.int 20))) aN)))) (xC (.int 2147483647))))
  (sApp 3 (x2 dMod (x2 dFdiv (xV 2) (xC (.int 11))) (xC (.int 1000))))) (sSeq (sApp 3 (x2 dMod (xV 2) (xC (.int 1000))))
  (sAsg 2 (x2 dFdiv (xV 2) (xC (.int 1000)))))))
  (sRet (xV 3)))))
def m_law_row : List D → R D := runF 3 g_law_row
def g_law_in : Es → Fl :=
  (sRet (xAnd (xCall 1 m_law_whole (aC (xV 0) aN)) (xCh dLe dLe (xV 1) (xV 0) (xV 2))))
def m_law_in : List D → R D := runF 0 g_law_in
def g_law_gcd : Es → Fl :=
  (sSeq (whD (yBl (x2 dNe (xV 1) (xC (.int 0)))) (sPar 0 1 (aC (xV 1) (aC (x2 dMod (xV 0) (xV 1)) aN))) 20000)
  (sRet (xV 0)))
def m_law_gcd : List D → R D := runF 0 g_law_gcd
def g_law_low : Es → Fl :=
  (sSeq (sAsg 2 (xIf (yBl (x2 dGt (xV 1) (xC (.int 0)))) (xC (.int 1)) (x1 dNeg (xC (.int 1)))))
  (sSeq (sAsg 3 (xCall 2 m_law_gcd (aC (xA dAbs (aC (xV 0) aN)) (aC (xA dAbs (aC (xV 1) aN)) aN))))
  (sRet (xA dTup (aC (x2 dFdiv (x2 dMul (xV 2) (xV 0)) (xV 3)) (aC (x2 dFdiv (x2 dMul (xV 2) (xV 1)) (xV 3)) aN))))))
def m_law_low : List D → R D := runF 2 g_law_low
def g_law_is_fraction : Es → Fl :=
  (sSeq (sIf (yOr (yNot (yTru (x1 (dIsi "tuple") (xV 0)))) (yOr (yBl (x2 dNe (xA dLen (aC (xV 0) aN)) (xC (.int 2)))) (yNot (yTru (xCall 3 m_law_in (aC (x2 dIx (xV 0) (xC (.int 0))) (aC (x1 dNeg (xC (.int 99999))) (aC (xC (.int 99999)) aN)))))))) (sRet (xC (.bool false))) sNil)
  (sRet (xAnd (xCall 3 m_law_in (aC (x2 dIx (xV 0) (xC (.int 1))) (aC (xC (.int 1)) (aC (xC (.int 99999)) aN)))) (x2 dEq (xCall 2 m_law_gcd (aC (xA dAbs (aC (x2 dIx (xV 0) (xC (.int 0))) aN)) (aC (x2 dIx (xV 0) (xC (.int 1))) aN))) (xC (.int 1))))))
def m_law_is_fraction : List D → R D := runF 0 g_law_is_fraction
def g_law_fraction : Es → Fl :=
  (sRet (xCall 2 m_law_low (aC (x2 dSub (x2 dMod (xV 0) (xC (.int 19))) (xC (.int 9))) (aC (x2 dAddA (xC (.int 1)) (x2 dMod (xV 1) (xC (.int 6)))) aN))))
def m_law_fraction : List D → R D := runF 0 g_law_fraction
def g_law_estimate : Es → Fl :=
  (sSeq (sAsg 3 (xCall 2 m_law_row (aC (xV 0) (aC (xV 1) aN))))
  (sRet (xA dTupOf (aC (xLc (iA dR1 (aC (x2 dAddA (xV 2) (xC (.int 1))) aN)) (gN 4) (fun _ => .ok true) (xCall 2 m_law_fraction (aC (x2 dIx (xV 3) (xV 4)) (aC (x2 dIx (xV 3) (x2 dAddA (xC (.int 10)) (xV 4))) aN))) [4]) aN))))
def m_law_estimate : List D → R D := runF 2 g_law_estimate
def g_total : Es → Fl :=
  (sSeq (sAsg 1 (xA dTup (aC (xC (.int 0)) (aC (xC (.int 1)) aN))))
  (sSeq (sFor (iSeq (xV 0)) (hN 2) (sAsg 1 (xCall 2 m_plus (aC (xV 1) (aC (xV 2) aN)))))
  (sRet (xV 1))))
def m_total : List D → R D := runF 2 g_total
def g_can_estimate : Es → Fl :=
  (sSeq (sExp (xCall 1 m_check_trials (aC (xV 0) aN)))
  (sSeq (sExp (xCall 1 m_check_quantity (aC (xV 1) aN)))
  (sRet (x2 dLe (xA dLen (aC (xV 1) aN)) (x2 dAddA (xV 0) (xC (.int 1)))))))
def m_can_estimate : List D → R D := runF 0 g_can_estimate
def g_is_honest : Es → Fl :=
  (sSeq (sExp (xCall 1 m_check_trials (aC (xV 0) aN)))
  (sSeq (sExp (xCall 1 m_check_quantity (aC (xV 1) aN)))
  (sSeq (sIf (yNot (yTru (xCall 2 m_are_values (aC (xV 2) (aC (x2 dAddA (xV 0) (xC (.int 1))) aN))))) (sRet (xC (.bool false))) sNil)
  (sRet (x2 dEq (xCall 2 m_average_of (aC (xV 0) (aC (xV 2) aN))) (xCall 1 m_polynomial_of (aC (xV 1) aN)))))))
def m_is_honest : List D → R D := runF 0 g_is_honest
def g_is_paper : Es → Fl :=
  (sSeq (sExp (xCall 1 m_check_trials (aC (xV 0) aN)))
  (sSeq (sExp (xCall 1 m_check_quantity (aC (xV 1) aN)))
  (sSeq (sIf (yNot (yTru (x1 (dIsi "tuple") (xV 2)))) (sRet (xC (.bool false))) sNil)
  (sSeq (sFor (iSeq (xV 2)) (hN 3) (sSeq (sIf (yOr (yNot (yTru (x1 (dIsi "tuple") (xV 3)))) (yOr (yBl (x2 dNe (xA dLen (aC (xV 3) aN)) (xC (.int 2)))) (yNot (yTru (xCall 1 m_is_chance (aC (x2 dIx (xV 3) (xC (.int 0))) aN)))))) (sRet (xC (.bool false))) sNil)
  (sIf (yNot (yTru (xCall 3 m_in_range (aC (x2 dIx (xV 3) (xC (.int 1))) (aC (x1 dNeg (xC (.int 999))) (aC (xC (.int 999)) aN)))))) (sRet (xC (.bool false))) sNil)))
  (sSeq (sFor (iA dR1 (aC (x2 dAddA (xV 0) (xC (.int 1))) aN)) (hN 4) (sSeq (sAsg 5 (x2 dAddA (x2 dRepT (xA dTup (aC (xA dTup (aC (xC (.int 0)) (aC (xC (.int 1)) aN))) aN)) (xV 4)) (xA dTup (aC (xA dTup (aC (xC (.int 1)) (aC (xC (.int 1)) aN))) aN))))
  (sIf (yBl (x2 dNe (x2 dIx (xCall 1 m_total (aC (xLc (iSeq (xV 2)) (g2 6 7) (fun _ => .ok true) (xCall 2 m_times (aC (xA dTup (aC (xV 7) (aC (xC (.int 1)) aN))) (aC (xCall 2 m_value_at (aC (xV 5) (aC (xV 6) aN))) aN))) [6, 7]) aN)) (xC (.int 0))) (xC (.int 0)))) (sRet (xC (.bool false))) sNil)))
  (sSeq (sAsg 5 (xCall 1 m_polynomial_of (aC (xV 1) aN)))
  (sRet (x2 dNe (x2 dIx (xCall 1 m_total (aC (xLc (iSeq (xV 2)) (g2 6 7) (fun _ => .ok true) (xCall 2 m_times (aC (xA dTup (aC (xV 7) (aC (xC (.int 1)) aN))) (aC (xCall 2 m_value_at (aC (xV 5) (aC (xV 6) aN))) aN))) [6, 7]) aN)) (xC (.int 0))) (xC (.int 0))))))))))
def m_is_paper : List D → R D := runF 5 g_is_paper
def g_law_quantity : Es → Fl :=
  (sSeq (sAsg 3 (xCall 2 m_law_row (aC (xV 0) (aC (xV 1) aN))))
  (sSeq (sAsg 4 (xLc (iA dR1 (aC (x2 dMod (x2 dIx (xV 3) (xC (.int 0))) (x2 dAddA (xV 2) (xC (.int 1)))) aN)) (gN 5) (fun _ => .ok true) (x2 dSub (x2 dMod (x2 dIx (xV 3) (x2 dAddA (xC (.int 1)) (xV 5))) (xC (.int 19))) (xC (.int 9))) [5]))
  (sSeq (whD (yAnd (yBl (x2 dNe (xV 4) (xA dLst aN))) (yBl (x2 dEq (x2 dIx (xV 4) (x1 dNeg (xC (.int 1)))) (xC (.int 0))))) (sAsg 4 (xSl (xV 4) oN (oS (x1 dNeg (xC (.int 1)))))) 1200)
  (sRet (xA dTupOf (aC (xV 4) aN))))))
def m_law_quantity : List D → R D := runF 3 g_law_quantity
def g_law_quantified : Es → Fl :=
  (sSeq (sTry ["InvalidQuantity"] (sIf (yBl (x2 dEq (xV 0) (xC (.int 0)))) (sExp (xCall 2 m_can_estimate (aC (xC (.int 6)) (aC (xV 1) aN)))) (sIf (yBl (x2 dEq (xV 0) (xC (.int 1)))) (sExp (xCall 3 m_is_honest (aC (xC (.int 6)) (aC (xV 1) (aC (xC .none) aN))))) (sExp (xCall 3 m_is_paper (aC (xC (.int 6)) (aC (xV 1) (aC (xC .none) aN))))))) [⟨"InvalidQuantity", "EstimateError", "InvalidEstimate", (Str.ofString "quantity"), (Str.ofString "other")⟩])
  (sRet (xC (.str (Str.ofString "none")))))
def m_law_quantified : List D → R D := runF 1 g_law_quantified
def g_law_sum : Es → Fl :=
  (sSeq (sAsg 1 (xA dTup (aC (xC (.int 0)) (aC (xC (.int 1)) aN))))
  (sSeq (sFor (iSeq (xV 0)) (h2 2 3) (sAsg 1 (xCall 2 m_law_low (aC (x2 dAddA (x2 dMul (x2 dIx (xV 1) (xC (.int 0))) (xV 3)) (x2 dMul (xV 2) (x2 dIx (xV 1) (xC (.int 1))))) (aC (x2 dMul (x2 dIx (xV 1) (xC (.int 1))) (xV 3)) aN)))))
  (sRet (xV 1))))
def m_law_sum : List D → R D := runF 3 g_law_sum
def g_law_times : Es → Fl :=
  (sRet (xCall 2 m_law_low (aC (x2 dMul (x2 dIx (xV 0) (xC (.int 0))) (x2 dIx (xV 1) (xC (.int 0)))) (aC (x2 dMul (x2 dIx (xV 0) (xC (.int 1))) (x2 dIx (xV 1) (xC (.int 1)))) aN))))
def m_law_times : List D → R D := runF 0 g_law_times
def g_law_power : Es → Fl :=
  (sSeq (sAsg 2 (xA dTup (aC (xC (.int 1)) (aC (xC (.int 1)) aN))))
  (sSeq (sFor (iA dR1 (aC (xV 1) aN)) (hN 3) (sAsg 2 (xCall 2 m_law_times (aC (xV 2) (aC (xV 0) aN)))))
  (sRet (xV 2))))
def m_law_power : List D → R D := runF 2 g_law_power
def g_law_ways : Es → Fl :=
  (sSeq (sAsg 2 (xC (.int 1)))
  (sSeq (sFor (iA dR1 (aC (xV 1) aN)) (hN 3) (sAsg 2 (x2 dFdiv (x2 dMul (xV 2) (x2 dSub (xV 0) (xV 3))) (x2 dAddA (xV 3) (xC (.int 1))))))
  (sRet (xV 2))))
def m_law_ways : List D → R D := runF 2 g_law_ways
def g_law_chance : Es → Fl :=
  (sSeq (sAsg 3 (xA dTup (aC (x2 dSub (x2 dIx (xV 2) (xC (.int 1))) (x2 dIx (xV 2) (xC (.int 0)))) (aC (x2 dIx (xV 2) (xC (.int 1))) aN))))
  (sSeq (sAsg 4 (xCall 2 m_law_times (aC (xCall 2 m_law_power (aC (xV 2) (aC (xV 1) aN))) (aC (xCall 2 m_law_power (aC (xV 3) (aC (x2 dSub (xV 0) (xV 1)) aN))) aN))))
  (sRet (xCall 2 m_law_times (aC (xA dTup (aC (xCall 2 m_law_ways (aC (xV 0) (aC (xV 1) aN))) (aC (xC (.int 1)) aN))) (aC (xV 4) aN))))))
def m_law_chance : List D → R D := runF 2 g_law_chance
def g_law_mean : Es → Fl :=
  (sRet (xCall 1 m_law_sum (aC (xLc (iA dR1 (aC (x2 dAddA (xV 0) (xC (.int 1))) aN)) (gN 3) (fun _ => .ok true) (xCall 2 m_law_times (aC (xCall 3 m_law_chance (aC (xV 0) (aC (xV 3) (aC (xV 2) aN)))) (aC (x2 dIx (xV 1) (xV 3)) aN))) [3]) aN)))
def m_law_mean : List D → R D := runF 1 g_law_mean
def g_law_value : Es → Fl :=
  (sRet (xCall 1 m_law_sum (aC (xLc (iA dR1 (aC (xA dLen (aC (xV 0) aN)) aN)) (gN 2) (fun _ => .ok true) (xCall 2 m_law_times (aC (x2 dIx (xV 0) (xV 2)) (aC (xCall 2 m_law_power (aC (xV 1) (aC (xV 2) aN))) aN))) [2]) aN)))
def m_law_value : List D → R D := runF 1 g_law_value
def g_law_some : Es → Fl :=
  (sSeq (sAsg 2 (x2 dAddA (xC (.int 1)) (x2 dMod (x2 dIx (xV 0) (xV 1)) (xC (.int 7)))))
  (sRet (xCall 2 m_law_low (aC (x2 dMod (x2 dIx (xV 0) (x2 dAddA (xV 1) (xC (.int 1)))) (x2 dAddA (xV 2) (xC (.int 1)))) (aC (xV 2) aN)))))
def m_law_some : List D → R D := runF 1 g_law_some
def g_spread_at : Es → Fl :=
  (sSeq (sExp (xCall 2 m_check_estimate (aC (xV 0) (aC (xV 1) aN))))
  (sSeq (sExp (xCall 1 m_check_chance (aC (xV 2) aN)))
  (sRet (xCall 2 m_value_at (aC (xCall 2 m_spread_of (aC (xV 0) (aC (xV 1) aN))) (aC (xV 2) aN))))))
def m_spread_at : List D → R D := runF 0 g_spread_at
def g_law_spread : Es → Fl :=
  (sSeq (sAsg 3 (xCall 3 m_law_mean (aC (xV 0) (aC (xV 1) (aC (xV 2) aN)))))
  (sSeq (sAsg 4 (xCall 3 m_law_mean (aC (xV 0) (aC (xLc (iSeq (xV 1)) (gN 5) (fun _ => .ok true) (xCall 2 m_law_times (aC (xV 5) (aC (xV 5) aN))) [5]) (aC (xV 2) aN)))))
  (sRet (xCall 1 m_law_sum (aC (xA dLst (aC (xV 4) (aC (xA dTup (aC (x2 dMul (x1 dNeg (x2 dIx (xV 3) (xC (.int 0)))) (x2 dIx (xV 3) (xC (.int 0)))) (aC (x2 dMul (x2 dIx (xV 3) (xC (.int 1))) (x2 dIx (xV 3) (xC (.int 1)))) aN))) aN))) aN)))))
def m_law_spread : List D → R D := runF 3 g_law_spread
def g_falling : Es → Fl :=
  (sSeq (sAsg 2 (xC (.int 1)))
  (sSeq (sFor (iA dR1 (aC (xV 1) aN)) (hN 3) (sAug 2 dMul (x2 dSub (xV 0) (xV 3))))
  (sRet (xV 2))))
def m_falling : List D → R D := runF 2 g_falling
def g_honest_of : Es → Fl :=
  (sSeq (sAsgO 2 (aLst aN))
  (sSeq (sFor (iA dR1 (aC (x2 dAddA (xV 0) (xC (.int 1))) aN)) (hN 3) (sSeq (sAsgO 4 (aLst aN))
  (sSeq (sFor (iA dEnum (aC (xV 1) aN)) (h2 5 6) (sApp 4 (xCall 2 m_times (aC (xV 6) (aC (xCall 2 m_reduced (aC (xCall 2 m_falling (aC (xV 3) (aC (xV 5) aN))) (aC (xCall 2 m_falling (aC (xV 0) (aC (xV 5) aN))) aN))) aN)))))
  (sAppR 2 (xCall 1 m_total (aC (xV 4) aN))))))
  (sRet (xA dTupOf (aC (xV 2) aN)))))
def m_honest_of : List D → R D := runF 5 g_honest_of
def g_honest : Es → Fl :=
  (sSeq (sExp (xCall 1 m_check_trials (aC (xV 0) aN)))
  (sSeq (sExp (xCall 1 m_check_quantity (aC (xV 1) aN)))
  (sSeq (sIf (yBl (x2 dGt (xA dLen (aC (xV 1) aN)) (x2 dAddA (xV 0) (xC (.int 1))))) (sRaise "NoEstimate") sNil)
  (sRet (xCall 2 m_honest_of (aC (xV 0) (aC (xCall 1 m_polynomial_of (aC (xV 1) aN)) aN)))))))
def m_honest : List D → R D := runF 0 g_honest
def g_paper_of : Es → Fl :=
  (sSeq (sFor (iA dR1 (aC (xA dLen (aC (xV 1) aN)) aN)) (hN 2) (sSeq (sAsgO 3 (aLst aN))
  (sSeq (sFor (iA dR1 (aC (x2 dAddA (xV 0) (xC (.int 2))) aN)) (hN 4) (sSeq (sAsg 5 (x2 dMul (xCall 2 m_choices (aC (x2 dAddA (xV 0) (xC (.int 1))) (aC (xV 4) aN))) (xIf (yBl (x2 dEq (x2 dMod (xV 4) (xC (.int 2))) (xC (.int 0)))) (xC (.int 1)) (x1 dNeg (xC (.int 1))))))
  (sApp 3 (xA dTup (aC (xCall 2 m_reduced (aC (x2 dAddA (xV 2) (xV 4)) (aC (x2 dAddA (x2 dAddA (xA dLen (aC (xV 1) aN)) (xV 0)) (xC (.int 1))) aN))) (aC (xV 5) aN))))))
  (sIf (yBl (x2 dNe (x2 dIx (xCall 1 m_total (aC (xLc (iSeq (xV 3)) (g2 6 5) (fun _ => .ok true) (xCall 2 m_times (aC (xA dTup (aC (xV 5) (aC (xC (.int 1)) aN))) (aC (xCall 2 m_value_at (aC (xV 1) (aC (xV 6) aN))) aN))) [6, 5]) aN)) (xC (.int 0))) (xC (.int 0)))) (sRet (xA dTupOf (aC (xV 3) aN))) sNil))))
  (sRet (xC .none)))
def m_paper_of : List D → R D := runF 5 g_paper_of
def g_paper : Es → Fl :=
  (sSeq (sExp (xCall 1 m_check_trials (aC (xV 0) aN)))
  (sSeq (sExp (xCall 1 m_check_quantity (aC (xV 1) aN)))
  (sSeq (sIf (yBl (x2 dLe (xA dLen (aC (xV 1) aN)) (x2 dAddA (xV 0) (xC (.int 1))))) (sRaise "HasEstimate") sNil)
  (sRet (xCall 2 m_paper_of (aC (xV 0) (aC (xCall 1 m_polynomial_of (aC (xV 1) aN)) aN)))))))
def m_paper : List D → R D := runF 0 g_paper
def g_law_worth : Es → Fl :=
  (sRet (xCall 2 m_law_value (aC (xLc (iSeq (xV 0)) (gN 2) (fun _ => .ok true) (xA dTup (aC (xV 2) (aC (xC (.int 1)) aN))) [2]) (aC (xV 1) aN))))
def m_law_worth : List D → R D := runF 1 g_law_worth
def g_law_decided : Es → Fl :=
  (sTry ["NoEstimate", "HasEstimate"] (sRet (xIf (yBl (x2 dEq (xV 0) (xC (.int 0)))) (xCall 2 m_honest (aC (xV 1) (aC (xV 2) aN))) (xCall 2 m_paper (aC (xV 1) (aC (xV 2) aN))))) [⟨"NoEstimate", "EstimateError", "HasEstimate", (Str.ofString "no"), (Str.ofString "other")⟩, ⟨"HasEstimate", "EstimateError", "NoEstimate", (Str.ofString "has"), (Str.ofString "other")⟩])
def m_law_decided : List D → R D := runF 1 g_law_decided
def g_law_powers : Es → Fl :=
  (sRet (xCall 1 m_law_sum (aC (xLc (iSeq (xV 0)) (g2 2 3) (fun _ => .ok true) (xCall 2 m_law_times (aC (xA dTup (aC (xV 3) (aC (xC (.int 1)) aN))) (aC (xCall 2 m_law_power (aC (xV 2) (aC (xV 1) aN))) aN))) [2, 3]) aN)))
def m_law_powers : List D → R D := runF 2 g_law_powers
def g_law_is_paper : Es → Fl :=
  (sSeq (sIf (yNot (yTru (x1 (dIsi "tuple") (xV 2)))) (sRet (xC (.bool false))) sNil)
  (sSeq (sFor (iSeq (xV 2)) (hN 3) (sSeq (sIf (yOr (yNot (yTru (x1 (dIsi "tuple") (xV 3)))) (yOr (yBl (x2 dNe (xA dLen (aC (xV 3) aN)) (xC (.int 2)))) (yNot (yTru (xCall 1 m_law_is_fraction (aC (x2 dIx (xV 3) (xC (.int 0))) aN)))))) (sRet (xC (.bool false))) sNil)
  (sIf (yOr (yNot (yBl (xCh dLe dLe (xC (.int 0)) (x2 dIx (x2 dIx (xV 3) (xC (.int 0))) (xC (.int 0))) (x2 dIx (x2 dIx (xV 3) (xC (.int 0))) (xC (.int 1)))))) (yNot (yTru (xCall 3 m_law_in (aC (x2 dIx (xV 3) (xC (.int 1))) (aC (x1 dNeg (xC (.int 999))) (aC (xC (.int 999)) aN))))))) (sRet (xC (.bool false))) sNil)))
  (sSeq (sIf (yBl (x2 dNe (xLc (iA dR1 (aC (x2 dAddA (xV 0) (xC (.int 1))) aN)) (gN 4) (yBl (x2 dNe (x2 dIx (xCall 2 m_law_powers (aC (xV 2) (aC (xV 4) aN))) (xC (.int 0))) (xC (.int 0)))) (xV 4) [4]) (xA dLst aN))) (sRet (xC (.bool false))) sNil)
  (sRet (x2 dNe (x2 dIx (xCall 1 m_law_sum (aC (xLc (iSeq (xV 2)) (g2 5 6) (fun _ => .ok true) (xCall 2 m_law_times (aC (xA dTup (aC (xV 6) (aC (xC (.int 1)) aN))) (aC (xCall 2 m_law_worth (aC (xV 1) (aC (xV 5) aN))) aN))) [5, 6]) aN)) (xC (.int 0))) (xC (.int 0)))))))
def m_law_is_paper : List D → R D := runF 4 g_law_is_paper
def g_law_agrees : Es → Fl :=
  (sSeq (sFor (iA dR1 (aC (xC (.int 9)) aN)) (hN 3) (sSeq (sAsg 4 (xCall 2 m_law_low (aC (xV 3) (aC (xC (.int 9)) aN))))
  (sIf (yBl (x2 dNe (xCall 3 m_law_mean (aC (xV 0) (aC (xV 1) (aC (xV 4) aN)))) (xCall 2 m_law_worth (aC (xV 2) (aC (xV 4) aN))))) (sRet (xC (.bool false))) sNil)))
  (sRet (xC (.bool true))))
def m_law_agrees : List D → R D := runF 2 g_law_agrees
def g_law_failing : Es → Fl :=
  (sTry ["IsHonest"] (sRet (xCall 3 m_failing_chance (aC (xV 0) (aC (xV 1) (aC (xV 2) aN))))) [⟨"IsHonest", "EstimateError", "HasEstimate", (Str.ofString "honest"), (Str.ofString "other")⟩])
def m_law_failing : List D → R D := runF 1 g_law_failing
def g_minus : Es → Fl :=
  (sRet (xCall 2 m_plus (aC (xV 0) (aC (xA dTup (aC (x1 dNeg (x2 dIx (xV 1) (xC (.int 0)))) (aC (x2 dIx (xV 1) (xC (.int 1))) aN))) aN))))
def m_minus : List D → R D := runF 0 g_minus
def g_divided : Es → Fl :=
  (sSeq (sIf (yBl (x2 dLt (x2 dIx (xV 1) (xC (.int 0))) (xC (.int 0)))) (sRet (xCall 2 m_reduced (aC (x2 dMul (x1 dNeg (x2 dIx (xV 0) (xC (.int 0)))) (x2 dIx (xV 1) (xC (.int 1)))) (aC (x2 dMul (x1 dNeg (x2 dIx (xV 0) (xC (.int 1)))) (x2 dIx (xV 1) (xC (.int 0)))) aN)))) sNil)
  (sRet (xCall 2 m_reduced (aC (x2 dMul (x2 dIx (xV 0) (xC (.int 0))) (x2 dIx (xV 1) (xC (.int 1)))) (aC (x2 dMul (x2 dIx (xV 0) (xC (.int 1))) (x2 dIx (xV 1) (xC (.int 0)))) aN)))))
def m_divided : List D → R D := runF 0 g_divided
def g_successes_of : Es → Fl :=
  (sSeq (sAsg 1 (xC (.int 0)))
  (sSeq (sAsg 2 (xV 0))
  (sSeq (whD (yBl (x2 dGt (xV 2) (xC (.int 0)))) (sSeq (sAug 1 dAddI (x2 dMod (xV 2) (xC (.int 2))))
  (sAug 2 dFdivS (xC (.int 2)))) 1200)
  (sRet (xV 1)))))
def m_successes_of : List D → R D := runF 2 g_successes_of
def g_check_table : Es → Fl :=
  (sSeq (sIf (yNot (yTru (xCall 3 m_in_range (aC (xV 0) (aC (xC (.int 1)) (aC (xC (.int 4)) aN)))))) (sRaise "InvalidTrials") sNil)
  (sSeq (sAsg 2 (xC (.int 1)))
  (sSeq (sFor (iA dR1 (aC (xV 0) aN)) (hN 3) (sAug 2 dMul (xC (.int 2))))
  (sIf (yNot (yTru (xCall 2 m_are_values (aC (xV 1) (aC (xV 2) aN))))) (sRaise "InvalidEstimate") sNil))))
def m_check_table : List D → R D := runF 2 g_check_table
def g_table_average : Es → Fl :=
  (sSeq (sExp (xCall 2 m_check_table (aC (xV 0) (aC (xV 1) aN))))
  (sSeq (sAsg 2 (xA dTup aN))
  (sSeq (sFor (iA dEnum (aC (xV 1) aN)) (h2 3 4) (sSeq (sAsg 5 (xCall 1 m_successes_of (aC (xV 3) aN)))
  (sSeq (sAsg 6 (xCall 2 m_power_of (aC (xA dTup (aC (xA dTup (aC (xC (.int 0)) (aC (xC (.int 1)) aN))) (aC (xA dTup (aC (xC (.int 1)) (aC (xC (.int 1)) aN))) aN))) (aC (xV 5) aN))))
  (sSeq (sAsg 7 (xCall 2 m_power_of (aC (xA dTup (aC (xA dTup (aC (xC (.int 1)) (aC (xC (.int 1)) aN))) (aC (xA dTup (aC (x1 dNeg (xC (.int 1))) (aC (xC (.int 1)) aN))) aN))) (aC (x2 dSub (xV 0) (xV 5)) aN))))
  (sAsg 2 (xCall 2 m_sum_of (aC (xV 2) (aC (xCall 2 m_multiple_of (aC (xV 4) (aC (xCall 2 m_product_of (aC (xV 6) (aC (xV 7) aN))) aN))) aN))))))))
  (sRet (xV 2)))))
def m_table_average : List D → R D := runF 6 g_table_average
def g_table_spread_at : Es → Fl :=
  (sSeq (sExp (xCall 2 m_check_table (aC (xV 0) (aC (xV 1) aN))))
  (sSeq (sExp (xCall 1 m_check_chance (aC (xV 2) aN)))
  (sSeq (sParO 3 4)
  (sSeq (sFor (iA dEnum (aC (xV 1) aN)) (h2 5 6) (sSeq (sAsg 7 (xCall 1 m_successes_of (aC (xV 5) aN)))
  (sSeq (sAsg 8 (xA dTup (aC (xC (.int 1)) (aC (xC (.int 1)) aN))))
  (sSeq (sFor (iA dR1 (aC (xV 0) aN)) (hN 9) (sAsg 8 (xCall 2 m_times (aC (xV 8) (aC (xIf (yBl (x2 dLt (xV 9) (xV 7))) (xV 2) (xCall 2 m_minus (aC (xA dTup (aC (xC (.int 1)) (aC (xC (.int 1)) aN))) (aC (xV 2) aN)))) aN)))))
  (sSeq (sApp 3 (xCall 2 m_times (aC (xV 8) (aC (xV 6) aN))))
  (sApp 4 (xCall 2 m_times (aC (xV 8) (aC (xCall 2 m_times (aC (xV 6) (aC (xV 6) aN))) aN)))))))))
  (sRet (xCall 2 m_minus (aC (xCall 1 m_total (aC (xV 4) aN)) (aC (xCall 2 m_times (aC (xCall 1 m_total (aC (xV 3) aN)) (aC (xCall 1 m_total (aC (xV 3) aN)) aN))) aN))))))))
def m_table_spread_at : List D → R D := runF 7 g_table_spread_at
def g_evened : Es → Fl :=
  (sSeq (sExp (xCall 2 m_check_table (aC (xV 0) (aC (xV 1) aN))))
  (sSeq (sAsgO 2 (aLst aN))
  (sSeq (sFor (iA dR1 (aC (x2 dAddA (xV 0) (xC (.int 1))) aN)) (hN 3) (sSeq (sAsg 4 (xLc (iA dEnum (aC (xV 1) aN)) (g2 5 6) (yBl (x2 dEq (xCall 1 m_successes_of (aC (xV 5) aN)) (xV 3))) (xV 6) [5, 6]))
  (sApp 2 (xCall 2 m_divided (aC (xCall 1 m_total (aC (xV 4) aN)) (aC (xA dTup (aC (xA dLen (aC (xV 4) aN)) (aC (xC (.int 1)) aN))) aN))))))
  (sRet (xA dTupOf (aC (xV 2) aN))))))
def m_evened : List D → R D := runF 5 g_evened
def g_law_less : Es → Fl :=
  (sRet (x2 dLt (x2 dMul (x2 dIx (xV 0) (xC (.int 0))) (x2 dIx (xV 1) (xC (.int 1)))) (x2 dMul (x2 dIx (xV 1) (xC (.int 0))) (x2 dIx (xV 0) (xC (.int 1))))))
def m_law_less : List D → R D := runF 0 g_law_less
def g_law_table : Es → Fl :=
  (sSeq (sAsg 3 (xCall 2 m_law_row (aC (xV 0) (aC (xV 1) aN))))
  (sRet (xA dTupOf (aC (xLc (iA dR1 (aC (x2 dIx (xA dLst (aC (xC (.int 2)) (aC (xC (.int 4)) (aC (xC (.int 8)) (aC (xC (.int 16)) aN))))) (x2 dSub (xV 2) (xC (.int 1)))) aN)) (gN 4) (fun _ => .ok true) (xCall 2 m_law_fraction (aC (x2 dIx (xV 3) (xV 4)) (aC (x2 dIx (xV 3) (x2 dAddA (xC (.int 20)) (xV 4))) aN))) [4]) aN))))
def m_law_table : List D → R D := runF 2 g_law_table
def g_law_hits : Es → Fl :=
  (sSeq (sPar 1 2 (aC (xC (.int 0)) (aC (xV 0) aN)))
  (sSeq (whD (yBl (x2 dGt (xV 2) (xC (.int 0)))) (sSeq (sAsg 1 (x2 dAddA (xV 1) (x2 dMod (xV 2) (xC (.int 2)))))
  (sAsg 2 (x2 dFdiv (xV 2) (xC (.int 2))))) 1200)
  (sRet (xV 1))))
def m_law_hits : List D → R D := runF 2 g_law_hits
def g_law_table_mean : Es → Fl :=
  (sSeq (sAsgO 3 (aLst aN))
  (sSeq (sFor (iA dR1 (aC (xA dLen (aC (xV 1) aN)) aN)) (hN 4) (sSeq (sAsg 5 (xCall 1 m_law_hits (aC (xV 4) aN)))
  (sSeq (sAsg 6 (xA dTup (aC (x2 dSub (x2 dIx (xV 2) (xC (.int 1))) (x2 dIx (xV 2) (xC (.int 0)))) (aC (x2 dIx (xV 2) (xC (.int 1))) aN))))
  (sSeq (sAsg 7 (xCall 2 m_law_times (aC (xCall 2 m_law_power (aC (xV 2) (aC (xV 5) aN))) (aC (xCall 2 m_law_power (aC (xV 6) (aC (x2 dSub (xV 0) (xV 5)) aN))) aN))))
  (sApp 3 (xCall 2 m_law_times (aC (xV 7) (aC (x2 dIx (xV 1) (xV 4)) aN))))))))
  (sRet (xCall 1 m_law_sum (aC (xV 3) aN)))))
def m_law_table_mean : List D → R D := runF 5 g_law_table_mean
def g_law_tabled : Es → Fl :=
  (sTry ["InvalidTrials", "InvalidEstimate"] (sSeq (sIf (yBl (x2 dEq (xV 0) (xC (.int 0)))) (sRet (xCall 2 m_table_average (aC (xV 1) (aC (xV 2) aN)))) sNil)
  (sRet (xIf (yBl (x2 dEq (xV 0) (xC (.int 1)))) (xCall 2 m_evened (aC (xV 1) (aC (xV 2) aN))) (xCall 3 m_table_spread_at (aC (xV 1) (aC (xV 2) (aC (xA dTup (aC (xC (.int 1)) (aC (xC (.int 2)) aN))) aN))))))) [⟨"InvalidTrials", "EstimateError", "InvalidEstimate", (Str.ofString "trials"), (Str.ofString "other")⟩, ⟨"InvalidEstimate", "EstimateError", "InvalidTrials", (Str.ofString "estimate"), (Str.ofString "other")⟩])
def m_law_tabled : List D → R D := runF 1 g_law_tabled
def g_more_trials : Es → Fl :=
  (sSeq (sExp (xCall 2 m_check_estimate (aC (xV 0) (aC (xV 1) aN))))
  (sSeq (sIf (yNot (yTru (xCall 3 m_in_range (aC (xV 2) (aC (xV 0) (aC (xC (.int 6)) aN)))))) (sRaise "TooMany") sNil)
  (sSeq (sAsgO 3 (aLst aN))
  (sSeq (sFor (iA dR1 (aC (x2 dAddA (xV 2) (xC (.int 1))) aN)) (hN 4) (sSeq (sAsgO 5 (aLst aN))
  (sSeq (sFor (iA dEnum (aC (xV 1) aN)) (h2 6 7) (sIf (yAnd (yBl (x2 dLe (xV 6) (xV 4))) (yBl (x2 dLe (x2 dSub (xV 0) (xV 6)) (x2 dSub (xV 2) (xV 4))))) (sSeq (sAsg 8 (x2 dMul (xCall 2 m_choices (aC (xV 4) (aC (xV 6) aN))) (xCall 2 m_choices (aC (x2 dSub (xV 2) (xV 4)) (aC (x2 dSub (xV 0) (xV 6)) aN)))))
  (sApp 5 (xCall 2 m_times (aC (xCall 2 m_reduced (aC (xV 8) (aC (xCall 2 m_choices (aC (xV 2) (aC (xV 0) aN))) aN))) (aC (xV 7) aN))))) sNil))
  (sAppR 3 (xCall 1 m_total (aC (xV 5) aN))))))
  (sRet (xA dTupOf (aC (xV 3) aN)))))))
def m_more_trials : List D → R D := runF 6 g_more_trials
def g_law_more : Es → Fl :=
  (sTry ["TooMany"] (sRet (xCall 3 m_more_trials (aC (xV 0) (aC (xV 1) (aC (xV 2) aN))))) [⟨"TooMany", "EstimateError", "InvalidTrials", (Str.ofString "many"), (Str.ofString "other")⟩])
def m_law_more : List D → R D := runF 1 g_law_more
def g_law_plain : Es → Fl :=
  (sRet (x2 dEq (xLc (iSeq (xV 0)) (gN 1) (yNot (yTru (xCall 1 m_law_is_fraction (aC (xV 1) aN)))) (xV 1) [1]) (xA dLst aN)))
def m_law_plain : List D → R D := runF 1 g_law_plain
def g_check_points : Es → Fl :=
  (sSeq (sExp (xCall 1 m_check_trials (aC (xV 0) aN)))
  (sSeq (sIf (yOr (yNot (yTru (x1 (dIsi "tuple") (xV 1)))) (yBl (x2 dNe (xA dLen (aC (xV 1) aN)) (x2 dAddA (xV 0) (xC (.int 1)))))) (sRaise "InvalidPoints") sNil)
  (sSeq (sFor (iSeq (xV 1)) (hN 2) (sIf (yOr (yNot (yTru (x1 (dIsi "tuple") (xV 2)))) (yOr (yBl (x2 dNe (xA dLen (aC (xV 2) aN)) (xC (.int 2)))) (yOr (yNot (yTru (xCall 1 m_is_chance (aC (x2 dIx (xV 2) (xC (.int 0))) aN)))) (yNot (yTru (xCall 1 m_is_fraction (aC (x2 dIx (xV 2) (xC (.int 1))) aN))))))) (sRaise "InvalidPoints") sNil))
  (sFor (iA dZip (aC (xV 1) (aC (xSl (xV 1) (oS (xC (.int 1))) oN) aN))) (h2 3 4) (sIf (yBl (x2 dGe (x2 dMul (x2 dIx (x2 dIx (xV 3) (xC (.int 0))) (xC (.int 0))) (x2 dIx (x2 dIx (xV 4) (xC (.int 0))) (xC (.int 1)))) (x2 dMul (x2 dIx (x2 dIx (xV 4) (xC (.int 0))) (xC (.int 0))) (x2 dIx (x2 dIx (xV 3) (xC (.int 0))) (xC (.int 1)))))) (sRaise "InvalidPoints") sNil)))))
def m_check_points : List D → R D := runF 3 g_check_points
def g_from_averages : Es → Fl :=
  (sSeq (sExp (xCall 2 m_check_points (aC (xV 0) (aC (xV 1) aN))))
  (sSeq (sAsg 2 (xA dTup aN))
  (sSeq (sFor (iSeq (xV 1)) (h2 3 4) (sSeq (sAsg 5 (xA dTup (aC (xV 4) aN)))
  (sSeq (sFor (iSeq (xV 1)) (h2 6 7) (sIf (yBl (x2 dNe (xV 6) (xV 3))) (sSeq (sAsg 8 (xCall 2 m_multiple_of (aC (xCall 2 m_divided (aC (xA dTup (aC (xC (.int 1)) (aC (xC (.int 1)) aN))) (aC (xCall 2 m_minus (aC (xV 3) (aC (xV 6) aN))) aN))) (aC (xA dTup (aC (xCall 2 m_minus (aC (xA dTup (aC (xC (.int 0)) (aC (xC (.int 1)) aN))) (aC (xV 6) aN))) (aC (xA dTup (aC (xC (.int 1)) (aC (xC (.int 1)) aN))) aN))) aN))))
  (sAsg 5 (xCall 2 m_product_of (aC (xV 5) (aC (xV 8) aN))))) sNil))
  (sAsg 2 (xCall 2 m_sum_of (aC (xV 2) (aC (xV 5) aN)))))))
  (sRet (xCall 2 m_honest_of (aC (xV 0) (aC (xV 2) aN)))))))
def m_from_averages : List D → R D := runF 7 g_from_averages
def g_law_pointed : Es → Fl :=
  (sTry ["InvalidPoints"] (sRet (xCall 2 m_from_averages (aC (xV 0) (aC (xV 1) aN)))) [⟨"InvalidPoints", "EstimateError", "InvalidTrials", (Str.ofString "points"), (Str.ofString "other")⟩])
def m_law_pointed : List D → R D := runF 1 g_law_pointed
def g_added : Es → Fl :=
  (sSeq (sIf (yBl (x2 dEq (xA dLen (aC (xV 0) aN)) (xC (.int 6)))) (sRaise "TooMany") sNil)
  (sRet (x2 dAddA (xV 0) (xA dTup (aC (xV 1) aN)))))
def m_added : List D → R D := runF 0 g_added
def g_law_asked : Es → Fl :=
  (sSeq (sAsg 2 (xA dTup (aC (xA dTup (aC (xC (.int 0)) (aC (xC (.int 1)) aN))) (aC (xA dTup (aC (xC (.int 1)) (aC (xC (.int 1)) aN))) aN))))
  (sSeq (sIf (yBl (x2 dEq (xV 0) (xC (.int 0)))) (sRet (xCall 2 m_can_estimate (aC (xV 1) (aC (xV 1) aN)))) sNil)
  (sSeq (sIf (yBl (x2 dEq (xV 0) (xC (.int 1)))) (sRet (xCall 2 m_honest (aC (xC (.int 1)) (aC (xV 1) aN)))) sNil)
  (sSeq (sIf (yBl (x2 dEq (xV 0) (xC (.int 2)))) (sRet (xCall 3 m_is_honest (aC (xV 1) (aC (xV 1) (aC (xV 1) aN))))) sNil)
  (sSeq (sIf (yBl (x2 dEq (xV 0) (xC (.int 3)))) (sRet (xCall 2 m_average (aC (xC (.int 1)) (aC (xV 1) aN)))) sNil)
  (sSeq (sIf (yBl (x2 dEq (xV 0) (xC (.int 4)))) (sRet (xCall 3 m_average_at (aC (xC (.int 1)) (aC (xV 1) (aC (xV 1) aN))))) sNil)
  (sSeq (sIf (yBl (x2 dEq (xV 0) (xC (.int 5)))) (sRet (xCall 3 m_average_at (aC (xC (.int 1)) (aC (xV 2) (aC (xV 1) aN))))) sNil)
  (sSeq (sIf (yBl (x2 dEq (xV 0) (xC (.int 6)))) (sRet (xCall 3 m_failing_chance (aC (xC (.int 1)) (aC (xV 1) (aC (xV 1) aN))))) sNil)
  (sSeq (sIf (yBl (x2 dEq (xV 0) (xC (.int 7)))) (sRet (xCall 3 m_failing_chance (aC (xC (.int 1)) (aC (xA dTup (aC (xC (.int 0)) (aC (xC (.int 1)) aN))) (aC (xV 1) aN))))) sNil)
  (sSeq (sIf (yBl (x2 dEq (xV 0) (xC (.int 8)))) (sRet (xCall 3 m_table_spread_at (aC (xC (.int 1)) (aC (xV 1) (aC (xV 1) aN))))) sNil)
  (sSeq (sIf (yBl (x2 dEq (xV 0) (xC (.int 9)))) (sRet (xCall 3 m_table_spread_at (aC (xV 1) (aC (xV 1) (aC (xV 1) aN))))) sNil)
  (sSeq (sIf (yBl (x2 dEq (xV 0) (xC (.int 10)))) (sRet (xCall 3 m_more_trials (aC (xC (.int 1)) (aC (xV 1) (aC (xV 1) aN))))) sNil)
  (sRet (xCall 2 m_from_averages (aC (xV 1) (aC (xV 1) aN))))))))))))))))
def m_law_asked : List D → R D := runF 1 g_law_asked
end HM
end
section
set_option linter.all false
set_option maxRecDepth 100000
set_option maxHeartbeats 1000000
namespace HN
open PySem L2 HL HM
/-! ### how the words compute -/
@[simp] theorem xV_z (x : Option D) (r : En) : xV 0 (x :: r) = match x with
  | some d => .ok d
  | none => .bad := by unfold xV; cases x <;> rfl
@[simp] theorem xV_s (i : Nat) (x : Option D) (r : En) : xV (i + 1) (x :: r) = xV i r := by unfold xV; simp
@[simp] theorem xC_ap (d : D) (ρ : En) : xC d ρ = .ok d := rfl
@[simp] theorem x2_ap (g : D → D → R D) (fa fb : FE) (ρ : En) : x2 g fa fb ρ = (fa ρ).bind fun a => (fb ρ).bind fun b => g a b := rfl
@[simp] theorem x1_ap (g : D → R D) (fa : FE) (ρ : En) : x1 g fa ρ = (fa ρ).bind g := rfl
@[simp] theorem xA_ap (g : List D → R D) (f : FA) (ρ : En) : xA g f ρ = (f ρ).bind g := rfl
@[simp] theorem aN_ap (ρ : En) : aN ρ = .ok [] := rfl
@[simp] theorem aC_ap (f : FE) (g : FA) (ρ : En) : aC f g ρ = (f ρ).bind fun a => (g ρ).bind fun r => .ok (a :: r) := rfl
@[simp] theorem xCall_ap (n : Nat) (F : List D → R D) (f : FA) (ρ : En) : xCall n F f ρ = (f ρ).bind fun ds => if ds.length = n then F ds else .bad := rfl
@[simp] theorem yTru_ap (f : FE) (ρ : En) : yTru f ρ = (f ρ).bind dTru := rfl
@[simp] theorem yBl_ap (f : FE) (ρ : En) : yBl f ρ = (f ρ).bind dBl := rfl
@[simp] theorem yAnd_ap (f g : FT) (ρ : En) : yAnd f g ρ = (f ρ).bind fun k => if k = true then g ρ else .ok false := rfl
@[simp] theorem yOr_ap (f g : FT) (ρ : En) : yOr f g ρ = (f ρ).bind fun k => if k = true then .ok true else g ρ := rfl
@[simp] theorem yNot_ap (f : FT) (ρ : En) : yNot f ρ = (f ρ).bind fun k => .ok (!k) := rfl
@[simp] theorem xAnd_ap (f g : FE) (ρ : En) : xAnd f g ρ = (f ρ).bind fun a => (dTru a).bind fun k => if k = true then g ρ else .ok a := rfl
@[simp] theorem xOr_ap (f g : FE) (ρ : En) : xOr f g ρ = (f ρ).bind fun a => (dTru a).bind fun k => if k = true then .ok a else g ρ := rfl
@[simp] theorem xNot_ap (f : FE) (ρ : En) : xNot f ρ = (f ρ).bind fun a => (dTru a).bind fun k => .ok (.bool (!k)) := rfl
@[simp] theorem xIf_ap (t : FT) (f g : FE) (ρ : En) : xIf t f g ρ = (t ρ).bind fun k => if k = true then f ρ else g ρ := rfl
@[simp] theorem oN_ap (ρ : En) : oN ρ = .ok none := rfl
@[simp] theorem oS_ap (f : FE) (ρ : En) : oS f ρ = (f ρ).bind dOI := rfl
@[simp] theorem xSl_ap (f : FE) (fl fh : FO) (ρ : En) : xSl f fl fh ρ = (f ρ).bind fun d => (fl ρ).bind fun lo => (fh ρ).bind fun hi => dSl d lo hi := rfl
@[simp] theorem iSeq_ap (f : FE) (ρ : En) : iSeq f ρ = (f ρ).bind dItems := rfl
@[simp] theorem iA_ap (g : List D → R (List D)) (f : FA) (ρ : En) : iA g f ρ = (f ρ).bind g := rfl
@[simp] theorem aLst_ap (f : FA) (ρ : En) : aLst f ρ = (f ρ).bind fun ds => if ds.length ≤ 1000 then .ok ds else .bad := rfl
@[simp] theorem xF_ap (f : FA) (ρ : En) : xF f ρ = (f ρ).bind fun ds => .ok (.list ds) := rfl
@[simp] theorem dTru_none : dTru .none = .ok false := rfl
@[simp] theorem dTru_bool (b : Bool) : dTru (.bool b) = .ok b := rfl
@[simp] theorem dTru_int (i : Int) : dTru (.int i) = .ok (i != 0) := rfl
@[simp] theorem dTru_list (l : List D) : dTru (.list l) = .ok (!l.isEmpty) := rfl
@[simp] theorem dTru_tuple (l : List D) : dTru (.tuple l) = .ok (!l.isEmpty) := rfl
@[simp] theorem dBl_bool (b : Bool) : dBl (.bool b) = .ok b := rfl
@[simp] theorem dOI_int (i : Int) : dOI (.int i) = .ok (some i) := rfl
@[simp] theorem dAddA_int (a b : Int) : dAddA (.int a) (.int b) = .ok (.int (a + b)) := rfl
@[simp] theorem dAddI_int (a b : Int) : dAddI (.int a) (.int b) = .ok (.int (a + b)) := rfl
@[simp] theorem dSub_int (a b : Int) : dSub (.int a) (.int b) = .ok (.int (a - b)) := rfl
@[simp] theorem dNeg_int (a : Int) : dNeg (.int a) = .ok (.int (-a)) := rfl
@[simp] theorem dLt_int (a b : Int) : dLt (.int a) (.int b) = .ok (.bool (decide (a < b))) := rfl
@[simp] theorem dLe_int (a b : Int) : dLe (.int a) (.int b) = .ok (.bool (decide (a ≤ b))) := rfl
@[simp] theorem dGt_int (a b : Int) : dGt (.int a) (.int b) = .ok (.bool (decide (b < a))) := rfl
@[simp] theorem dGe_int (a b : Int) : dGe (.int a) (.int b) = .ok (.bool (decide (b ≤ a))) := rfl
@[simp] theorem dEq_int (a b : Int) : dEq (.int a) (.int b) = .ok (.bool (decide (a = b))) := by
  have : PyData.eqv (.int a) (.int b) = decide (a = b) := by simp only [PyData.eqv]; exact Bool.beq_eq_decide_eq a b
  unfold dEq
  rw [if_pos (by rfl), this]
@[simp] theorem dNe_int (a b : Int) : dNe (.int a) (.int b) = .ok (.bool (!decide (a = b))) := by
  have : PyData.eqv (.int a) (.int b) = decide (a = b) := by simp only [PyData.eqv]; exact Bool.beq_eq_decide_eq a b
  unfold dNe
  rw [if_pos (by rfl), this]
@[simp] theorem dLen_list (l : List D) : dLen [.list l] = .ok (.int l.length) := rfl
@[simp] theorem dLen_tuple (l : List D) : dLen [.tuple l] = .ok (.int l.length) := rfl
@[simp] theorem dAbs_int (i : Int) : dAbs [.int i] = .ok (.int i.natAbs) := by
  have e : (if i < 0 then -i else i) = (i.natAbs : Int) := by split <;> omega
  simp only [dAbs, e]
@[simp] theorem dMax_int (i j : Int) : dMax [.int i, .int j] = .ok (.int (max i j)) := by
  have e : (if j > i then j else i) = max i j := by split <;> omega
  simp only [dMax, e]
@[simp] theorem dTupOf_list (l : List D) : dTupOf [.list l] = .ok (.tuple l) := rfl
@[simp] theorem dTupOf_tuple (l : List D) : dTupOf [.tuple l] = .ok (.tuple l) := rfl
@[simp] theorem dLstOf_list (l : List D) : dLstOf [.list l] = .ok (.list l) := rfl
@[simp] theorem dLstOf_tuple (l : List D) : dLstOf [.tuple l] = .ok (.list l) := rfl
@[simp] theorem dItems_list (l : List D) : dItems (.list l) = .ok l := rfl
@[simp] theorem dItems_tuple (l : List D) : dItems (.tuple l) = .ok l := rfl
@[simp] theorem dEnum_list (l : List D) : dEnum [.list l] = .ok (enumF 0 l) := rfl
@[simp] theorem dEnum_tuple (l : List D) : dEnum [.tuple l] = .ok (enumF 0 l) := rfl
@[simp] theorem dRev_tuple (l : List D) : dRev (.tuple l) = .ok (.tuple l.reverse) := rfl
@[simp] theorem dRev_list (l : List D) : dRev (.list l) = .ok (.list l.reverse) := rfl
theorem dTup_ok (l : List D) (h : l.length ≤ 1000) : dTup l = .ok (.tuple l) := by unfold dTup; rw [if_pos h]
@[simp] theorem dTup_0 : dTup [] = .ok (.tuple []) := rfl
@[simp] theorem dTup_1 (a : D) : dTup [a] = .ok (.tuple [a]) := rfl
@[simp] theorem dTup_2 (a b : D) : dTup [a, b] = .ok (.tuple [a, b]) := rfl
@[simp] theorem dLst_0 : dLst [] = .ok (.list []) := rfl
@[simp] theorem dLst_1 (a : D) : dLst [a] = .ok (.list [a]) := rfl
@[simp] theorem dLst_2 (a b : D) : dLst [a, b] = .ok (.list [a, b]) := rfl
@[simp] theorem dIx_t0 (a : D) (r : List D) : dIx (.tuple (a :: r)) (.int 0) = .ok a := by
  have : atI (a :: r) (0 : Int) = some a := atI_nat (j := 0) rfl
  simp only [dIx, this]
@[simp] theorem dIx_t1 (a b : D) (r : List D) : dIx (.tuple (a :: b :: r)) (.int 1) = .ok b := by
  have : atI (a :: b :: r) (1 : Int) = some b := atI_nat (j := 1) rfl
  simp only [dIx, this]
theorem dIx_tn {l : List D} {i : Int} {j : Nat} {d : D} (hj : i = (j : Int)) (h : l[j]? = some d) : dIx (.tuple l) (.int i) = .ok d := by
  subst hj
  simp only [dIx, atI_nat h]
theorem dIx_ln {l : List D} {i : Int} {j : Nat} {d : D} (hj : i = (j : Int)) (h : l[j]? = some d) : dIx (.list l) (.int i) = .ok d := by
  subst hj
  simp only [dIx, atI_nat h]
theorem dMul_ok {a b : Int} (h : a.natAbs.log2 + b.natAbs.log2 < 1000000) : dMul (.int a) (.int b) = .ok (.int (a * b)) := by simp only [dMul, h, true_or, if_pos]
theorem dMul_r {a b : Int} (h : b.natAbs < 2 ^ 64) : dMul (.int a) (.int b) = .ok (.int (a * b)) := by simp only [dMul, h, or_true, if_pos]
theorem dFdiv_ok {a b : Int} (h0 : 0 < b) (h : b.natAbs.log2 < 9000) : dFdiv (.int a) (.int b) = .ok (.int (a / b)) := by simp only [dFdiv, h0, h, and_self, if_pos]
theorem dMod_ok {a b : Int} (h0 : 0 < b) : dMod (.int a) (.int b) = .ok (.int (a % b)) := by simp only [dMod, h0, if_pos]
theorem log2_lt {a k : Nat} (h : a < 2 ^ k) (hk : 0 < k) : a.log2 < k := PySem.Flt.log2_lt_of hk h
/-! ### statements -/
def Fl.th (f : Fl) (g : Es → Fl) : Fl := match f with
  | .nx δ => g δ
  | o => o
@[simp] theorem th_nx (δ : Es) (g : Es → Fl) : Fl.th (.nx δ) g = g δ := (rfl)
@[simp] theorem th_rt (d : D) (g : Es → Fl) : Fl.th (.rt d) g = .rt d := rfl
@[simp] theorem th_exc (d : String) (g : Es → Fl) : Fl.th (.exc d) g = .exc d := rfl
@[simp] theorem th_bad (g : Es → Fl) : Fl.th .bad g = .bad := rfl
theorem sSeq_ap (g1 g2 : Es → Fl) (δ : Es) : sSeq g1 g2 δ = Fl.th (g1 δ) g2 := by
  unfold sSeq Fl.th
  cases g1 δ <;> rfl
@[simp] theorem sNil_ap (δ : Es) : sNil δ = .nx δ := rfl
@[simp] theorem sRet_ap (f : FE) (δ : Es) : sRet f δ = fR (f (vw δ)) fun d => .rt d := rfl
@[simp] theorem sExp_ap (f : FE) (δ : Es) : sExp f δ = fR (f (vw δ)) fun _ => .nx δ := rfl
@[simp] theorem sAsg_ap (i : Nat) (f : FE) (δ : Es) : sAsg i f δ = fR (f (v0 δ)) fun d => if i < δ.length then .nx (δ.set i (some (.im d))) else .bad := rfl
@[simp] theorem sAsgR_ap (i : Nat) (f : FE) (δ : Es) : sAsgR i f δ = fR (f (vw δ)) fun d => if i < δ.length ∧ lf d = true then .nx (δ.set i (some (.im d))) else .bad := rfl
@[simp] theorem sAsgO_ap (i : Nat) (f : FA) (δ : Es) : sAsgO i f δ = fR (f (v0 δ)) fun ds => if i < δ.length then .nx (δ.set i (some (.ow ds))) else .bad := rfl
@[simp] theorem sIf_ap (t : FT) (g1 g2 : Es → Fl) (δ : Es) : sIf t g1 g2 δ = fR (t (vw δ)) fun b => if b = true then g1 δ else g2 δ := rfl
@[simp] theorem sFor_ap (fi : FA) (γ : D → Es → R Es) (b : Es → Fl) (δ : Es) : sFor fi γ b δ = fR (fi (v0 δ)) fun xs => forD γ b xs δ := rfl
@[simp] theorem sRaise_ap (c : String) (δ : Es) : sRaise c δ = .exc c := rfl
@[simp] theorem sPar_ap (i j : Nat) (f : FA) (δ : Es) : sPar i j f δ = fR (f (v0 δ)) fun ds => match ds with
  | [a, b] => if i < δ.length ∧ j < δ.length then .nx ((δ.set i (some (.im a))).set j (some (.im b))) else .bad
  | _ => .bad := rfl
@[simp] theorem vw_nil : vw [] = [] := rfl
@[simp] theorem vw_im (d : D) (r : Es) : vw (some (.im d) :: r) = some d :: vw r := rfl
@[simp] theorem vw_ow (d : List D) (r : Es) : vw (some (.ow d) :: r) = some (.list d) :: vw r := rfl
@[simp] theorem vw_none (r : Es) : vw (none :: r) = none :: vw r := rfl
@[simp] theorem v0_nil : v0 [] = [] := rfl
@[simp] theorem v0_im (d : D) (r : Es) : v0 (some (.im d) :: r) = some d :: v0 r := rfl
@[simp] theorem v0_ow (d : List D) (r : Es) : v0 (some (.ow d) :: r) = none :: v0 r := rfl
@[simp] theorem v0_none (r : Es) : v0 (none :: r) = none :: v0 r := rfl
theorem runF_rt {k : Nat} {g : Es → Fl} {ds : List D} {d : D} (h : g (ds.map (fun d => some (.im d)) ++ List.replicate k none) = .rt d) : runF k g ds = .ok d := by
  unfold runF
  rw [h]
theorem runF_nx {k : Nat} {g : Es → Fl} {ds : List D} {δ : Es} (h : g (ds.map (fun d => some (.im d)) ++ List.replicate k none) = .nx δ) : runF k g ds = .ok .none := by
  unfold runF
  rw [h]
theorem runF_exc {k : Nat} {g : Es → Fl} {ds : List D} {c : String} (h : g (ds.map (fun d => some (.im d)) ++ List.replicate k none) = .exc c) : runF k g ds = .exc c := by
  unfold runF
  rw [h]
theorem whD_s (ft : FT) (body : Es → Fl) (m : Nat) (δ : Es) : whD ft body (m + 1) δ = fR (ft (vw δ)) fun b => if b = true then (match body δ with
    | .nx δ2 => whD ft body m δ2
    | .ct δ2 => whD ft body m δ2
    | .bk δ2 => .nx δ2
    | .rt d => .rt d
    | .exc c => .exc c
    | .bad => .bad) else .nx δ := rfl
/-! ### the greatest common divisor -/
theorem mod_half {a b : Nat} (h : b ≠ 0) (hr : a % b ≠ 0) : 2 * (b % (a % b)) < b := by
  have h1 : a % b < b := Nat.mod_lt a (Nat.pos_of_ne_zero h)
  by_cases h2 : 2 * (a % b) ≤ b
  · have := Nat.mod_lt b (Nat.pos_of_ne_zero hr)
    omega
  · have h3 : b % (a % b) = b - a % b := by
      rw [Nat.mod_eq_sub_mod (by omega), Nat.mod_eq_of_lt (by omega)]
    omega
def stepG : Es → Fl := sPar 0 1 (aC (xV 1) (aC (x2 dMod (xV 0) (xV 1)) aN))
theorem stepG_ok (a b : Nat) (h : b ≠ 0) : stepG [some (.im (.int a)), some (.im (.int b))] = .nx [some (.im (.int b)), some (.im (.int ((a % b : Nat) : Int)))] := by
  have hb : (0 : Int) < b := by omega
  simp [stepG, dMod_ok hb]
theorem gcd_loop : ∀ (n : Nat) (m a b : Nat), b < 2 ^ n → 2 * n + 1 ≤ m → whD (yTru (xV 1)) stepG m [some (.im (.int a)), some (.im (.int b))] = .nx [some (.im (.int (Nat.gcd a b))), some (.im (.int 0))]
  | 0, m, a, b, hb, hm => by
    obtain ⟨k, rfl⟩ : ∃ k, m = k + 1 := ⟨m - 1, by omega⟩
    have : b = 0 := by simpa using hb
    subst this
    simp [whD_s]
  | n + 1, m, a, b, hb, hm => by
    obtain ⟨k, rfl⟩ : ∃ k, m = k + 1 + 1 := ⟨m - 2, by omega⟩
    by_cases h0 : b = 0
    · subst h0
      simp [whD_s]
    · rw [whD_s]
      have e1 : ((b : Int) != 0) = true := by simp; omega
      simp only [vw_im, vw_nil, yTru_ap, xV_s, xV_z, R.bind_ok, dTru_int, e1, fR_ok, if_pos, stepG_ok a b h0]
      by_cases h1 : a % b = 0
      · rw [h1, whD_s]
        simp
        rw [Nat.gcd_comm, Nat.gcd_rec, h1]
        simp
      · rw [whD_s]
        have e2 : (((a % b : Nat) : Int) != 0) = true := by simp; omega
        simp only [vw_im, vw_nil, yTru_ap, xV_s, xV_z, R.bind_ok, dTru_int, e2, fR_ok, if_pos, stepG_ok b (a % b) h1]
        have hh := mod_half h0 h1
        rw [gcd_loop n k (a % b) (b % (a % b)) (by rw [Nat.pow_succ] at hb; omega) (by omega)]
        congr 4
        rw [Nat.gcd_comm (a % b), ← Nat.gcd_rec, ← Nat.gcd_rec, Nat.gcd_comm]
theorem m_gcd_ok {a b : Nat} (hb : b < 2 ^ 9000) : m_greatest_divisor [.int a, .int b] = .ok (.int (Nat.gcd a b)) := by
  refine runF_rt ?_
  show sSeq (whD (yTru (xV 1)) stepG 20000) (sRet (xV 0)) [some (.im (.int a)), some (.im (.int b))] = _
  rw [sSeq_ap, gcd_loop 9000 20000 a b hb (by decide)]
  simp
/-! ### fractions -/
def fr (q : Rat) : D := .tuple [.int q.num, .int (q.den : Nat)]
theorem reduced_ok {a : Int} {b : Nat} (h0 : b ≠ 0) (hb : b < 2 ^ 9000) : m_reduced [.int a, .int b] = .ok (fr (mkRat a b)) := by
  have hg : 0 < Nat.gcd a.natAbs b := Nat.gcd_pos_of_pos_right _ (Nat.pos_of_ne_zero h0)
  have hgi : (0 : Int) < (Nat.gcd a.natAbs b : Nat) := by omega
  have hgl : ((Nat.gcd a.natAbs b : Nat) : Int).natAbs.log2 < 9000 := by
    rw [Int.natAbs_natCast]
    exact log2_lt (Nat.lt_of_le_of_lt (Nat.gcd_le_right _ (Nat.pos_of_ne_zero h0)) hb) (by decide)
  have e1 : (mkRat a b).num = a / (Nat.gcd a.natAbs b : Nat) := by rw [Rat.num_mkRat, if_neg h0, Nat.gcd_comm]
  have e2 : (((mkRat a b).den : Nat) : Int) = (b : Int) / (Nat.gcd a.natAbs b : Nat) := by
    rw [Rat.den_mkRat, if_neg h0, Nat.gcd_comm]; rfl
  refine runF_rt ?_
  unfold g_reduced fr
  rw [sSeq_ap, e1, e2]
  simp [m_gcd_ok hb, dFdiv_ok hgi hgl]
/-- a fraction of bounded size -/
structure Sm (q : Rat) : Prop where
  n : q.num.natAbs < 2 ^ 2000
  d : q.den < 2 ^ 2000
theorem nat_lt_mul {a b c d : Nat} (h1 : a < c) (h2 : b < d) : a * b < c * d := Nat.mul_lt_mul'' h1 h2
theorem mul_sz {a b : Int} {k l : Nat} (ha : a.natAbs < 2 ^ k) (hb : b.natAbs < 2 ^ l) (hk : 0 < k) (hl : 0 < l) (h : k + l < 1000000) : dMul (.int a) (.int b) = .ok (.int (a * b)) := by
  refine dMul_ok ?_
  have := log2_lt ha hk
  have := log2_lt hb hl
  omega
theorem plus_ok {x y : Rat} (hx : Sm x) (hy : Sm y) : m_plus [fr x, fr y] = .ok (fr (x + y)) := by
  have hd : x.den * y.den ≠ 0 := Nat.mul_ne_zero x.den_nz y.den_nz
  have hb : x.den * y.den < 2 ^ 9000 := Nat.lt_of_lt_of_le (nat_lt_mul hx.d hy.d) (by rw [← Nat.pow_add]; exact Nat.pow_le_pow_right (by decide) (by decide))
  have e : ((x.den : Int) * (y.den : Int)) = ((x.den * y.den : Nat) : Int) := by simp
  refine runF_rt ?_
  have m1 := mul_sz (a := x.num) (b := y.den) (k := 2000) (l := 2000) hx.n (by simpa using hy.d) (by decide) (by decide) (by decide)
  have m2 := mul_sz (a := y.num) (b := x.den) (k := 2000) (l := 2000) hy.n (by simpa using hx.d) (by decide) (by decide) (by decide)
  have m3 := mul_sz (a := x.den) (b := y.den) (k := 2000) (l := 2000) (by simpa using hx.d) (by simpa using hy.d) (by decide) (by decide) (by decide)
  unfold g_plus
  rw [Rat.add_def']
  simp [fr, m1, m2, m3]
  rw [e]
  simpa [fr] using congrArg (fun r => fR r fun d => Fl.rt d) (reduced_ok (a := x.num * y.den + y.num * x.den) hd hb)
theorem times_ok {x y : Rat} (hx : Sm x) (hy : Sm y) : m_times [fr x, fr y] = .ok (fr (x * y)) := by
  have hd : x.den * y.den ≠ 0 := Nat.mul_ne_zero x.den_nz y.den_nz
  have hb : x.den * y.den < 2 ^ 9000 := Nat.lt_of_lt_of_le (nat_lt_mul hx.d hy.d) (by rw [← Nat.pow_add]; exact Nat.pow_le_pow_right (by decide) (by decide))
  have e : ((x.den : Int) * (y.den : Int)) = ((x.den * y.den : Nat) : Int) := by simp
  refine runF_rt ?_
  have m1 := mul_sz (a := x.num) (b := y.num) (k := 2000) (l := 2000) hx.n hy.n (by decide) (by decide) (by decide)
  have m3 := mul_sz (a := x.den) (b := y.den) (k := 2000) (l := 2000) (by simpa using hx.d) (by simpa using hy.d) (by decide) (by decide) (by decide)
  unfold g_times
  rw [Rat.mul_def']
  simp [fr, m1, m3]
  rw [e]
  simpa [fr] using congrArg (fun r => fR r fun d => Fl.rt d) (reduced_ok (a := x.num * y.num) hd hb)
end HN
end
section
set_option linter.all false
set_option maxRecDepth 100000
set_option maxHeartbeats 1000000
set_option exponentiation.threshold 20000
namespace HN
open PySem L2 HL HM
theorem lgcd_loop : ∀ (n : Nat) (m a b : Nat), b < 2 ^ n → 2 * n + 1 ≤ m → whD (yBl (x2 dNe (xV 1) (xC (.int 0)))) stepG m [some (.im (.int a)), some (.im (.int b))] = .nx [some (.im (.int (Nat.gcd a b))), some (.im (.int 0))]
  | 0, m, a, b, hb, hm => by
    obtain ⟨k, rfl⟩ : ∃ k, m = k + 1 := ⟨m - 1, by omega⟩
    have : b = 0 := by simpa using hb
    subst this
    simp [whD_s]
  | n + 1, m, a, b, hb, hm => by
    obtain ⟨k, rfl⟩ : ∃ k, m = k + 1 + 1 := ⟨m - 2, by omega⟩
    by_cases h0 : b = 0
    · subst h0
      simp [whD_s]
    · rw [whD_s]
      have e1 : (!decide ((b : Int) = 0)) = true := by simp; omega
      simp only [vw_im, vw_nil, yBl_ap, x2_ap, xC_ap, dNe_int, dBl_bool, xV_s, xV_z, R.bind_ok, e1, fR_ok, if_pos, stepG_ok a b h0]
      by_cases h1 : a % b = 0
      · rw [h1, whD_s]
        simp
        rw [Nat.gcd_comm, Nat.gcd_rec, h1]
        simp
      · rw [whD_s]
        have e2 : (!decide (((a % b : Nat) : Int) = 0)) = true := by simp; omega
        simp only [vw_im, vw_nil, yBl_ap, x2_ap, xC_ap, dNe_int, dBl_bool, xV_s, xV_z, R.bind_ok, e2, fR_ok, if_pos, stepG_ok b (a % b) h1]
        have hh := mod_half h0 h1
        rw [lgcd_loop n k (a % b) (b % (a % b)) (by rw [Nat.pow_succ] at hb; omega) (by omega)]
        congr 4
        rw [Nat.gcd_comm (a % b), ← Nat.gcd_rec, ← Nat.gcd_rec, Nat.gcd_comm]
theorem lgcd_ok {a b : Nat} (hb : b < 2 ^ 9000) : m_law_gcd [.int a, .int b] = .ok (.int (Nat.gcd a b)) := by
  refine runF_rt ?_
  show sSeq (whD (yBl (x2 dNe (xV 1) (xC (.int 0)))) stepG 20000) (sRet (xV 0)) [some (.im (.int a)), some (.im (.int b))] = _
  rw [sSeq_ap, lgcd_loop 9000 20000 a b hb (by decide)]
  simp
theorem low_ok {a b : Int} (h0 : b ≠ 0) (ha : a.natAbs < 2 ^ 9000) (hb : b.natAbs < 2 ^ 9000) : m_law_low [.int a, .int b] = .ok (fr (Rat.divInt a b)) := by
  have hg : 0 < Nat.gcd a.natAbs b.natAbs := Nat.gcd_pos_of_pos_right _ (by omega)
  have hgi : (0 : Int) < (Nat.gcd a.natAbs b.natAbs : Nat) := by omega
  have hgl : ((Nat.gcd a.natAbs b.natAbs : Nat) : Int).natAbs.log2 < 9000 := by
    rw [Int.natAbs_natCast]
    exact log2_lt (Nat.lt_of_le_of_lt (Nat.gcd_le_right _ (by omega)) hb) (by decide)
  have eg : b.gcd a = Nat.gcd a.natAbs b.natAbs := by unfold Int.gcd; rw [Nat.gcd_comm]
  have e1 : (Rat.divInt a b).num = b.sign * a / (Nat.gcd a.natAbs b.natAbs : Nat) := by rw [Rat.num_divInt, eg]
  have e2 : (((Rat.divInt a b).den : Nat) : Int) = (b.sign * b) / (Nat.gcd a.natAbs b.natAbs : Nat) := by
    rw [Rat.den_divInt, if_neg h0, eg]
    have : b.sign * b = (b.natAbs : Int) := by
      rcases Int.lt_trichotomy b 0 with h | h | h
      · rw [Int.sign_eq_neg_one_of_neg h]; omega
      · omega
      · rw [Int.sign_eq_one_of_pos h]; omega
    rw [this]; rfl
  have m1 : ∀ x : Int, x.natAbs < 2 ^ 9000 → dMul (.int b.sign) (.int x) = .ok (.int (b.sign * x)) := fun x hx => by
    refine mul_sz (k := 1) (l := 9000) ?_ hx (by decide) (by decide) (by decide)
    rw [Int.natAbs_sign]
    split <;> omega
  refine runF_rt ?_
  unfold g_law_low
  rw [sSeq_ap]
  have es : xIf (yBl (x2 dGt (xV 1) (xC (.int 0)))) (xC (.int 1)) (x1 dNeg (xC (.int 1))) [some (PyData.int a), some (.int b), none, none] = .ok (.int b.sign) := by
    by_cases hp : 0 < b
    · simp [hp, Int.sign_eq_one_of_pos hp]
    · have hn : b < 0 := by omega
      simp [hp, Int.sign_eq_neg_one_of_neg hn]
  have st1 : sAsg 2 (xIf (yBl (x2 dGt (xV 1) (xC (.int 0)))) (xC (.int 1)) (x1 dNeg (xC (.int 1)))) (List.map (fun d => some (Sl.im d)) [PyData.int a, .int b] ++ List.replicate 2 none) = .nx [some (.im (.int a)), some (.im (.int b)), some (.im (.int b.sign)), none] := by
    show fR (xIf (yBl (x2 dGt (xV 1) (xC (.int 0)))) (xC (.int 1)) (x1 dNeg (xC (.int 1))) [some (PyData.int a), some (.int b), none, none]) _ = _
    rw [es]
    rfl
  rw [st1, th_nx, sSeq_ap]
  unfold fr
  rw [e1, e2]
  simp [lgcd_ok hb, m1 a ha, m1 b hb, dFdiv_ok hgi hgl]
/-! ### sizes -/
def Bd (M V : Nat) (q : Rat) : Prop := ∃ z : Int, q * (M : Rat) = (z : Rat) ∧ z.natAbs ≤ V * M
theorem bd_num {M V : Nat} {q : Rat} (hM : M ≠ 0) (h : Bd M V q) : q.num.natAbs ≤ V * M ∧ q.den ≤ M := by
  obtain ⟨z, hz, hv⟩ := h
  have hq : q = mkRat z M := by
    have hM' : (M : Rat) ≠ 0 := by simpa using hM
    rw [Rat.mkRat_eq_div, ← hz]
    show q = q * (M : Rat) / (M : Rat)
    rw [Rat.mul_div_cancel hM']
  constructor
  · rw [hq, Rat.num_mkRat, if_neg hM]
    exact Nat.le_trans (Int.natAbs_ediv_le_natAbs z _) hv
  · rw [hq, Rat.den_mkRat, if_neg hM]
    exact Nat.div_le_self _ _
theorem Bd.sm {M V : Nat} {q : Rat} (h : Bd M V q) (hM : M ≠ 0) (h1 : M < 2 ^ 2000) (h2 : V * M < 2 ^ 2000) : Sm q := by
  obtain ⟨a, b⟩ := bd_num hM h
  exact ⟨Nat.lt_of_le_of_lt a h2, Nat.lt_of_le_of_lt b h1⟩
theorem Bd.add {M V W : Nat} {q r : Rat} (h : Bd M V q) (h' : Bd M W r) : Bd M (V + W) (q + r) := by
  obtain ⟨z, hz, hv⟩ := h
  obtain ⟨y, hy, hw⟩ := h'
  refine ⟨z + y, by rw [Rat.add_mul, hz, hy]; simp, ?_⟩
  rw [Nat.add_mul]
  omega
theorem Bd.mul {M N V W : Nat} {q r : Rat} (h : Bd M V q) (h' : Bd N W r) : Bd (M * N) (V * W) (q * r) := by
  obtain ⟨z, hz, hv⟩ := h
  obtain ⟨y, hy, hw⟩ := h'
  refine ⟨z * y, ?_, ?_⟩
  · have : q * r * ((M * N : Nat) : Rat) = (q * (M : Rat)) * (r * (N : Rat)) := by rw [Rat.natCast_mul]; grind
    rw [this, hz, hy]
    simp
  · rw [Int.natAbs_mul]
    calc z.natAbs * y.natAbs ≤ (V * M) * (W * N) := Nat.mul_le_mul hv hw
      _ = V * W * (M * N) := by grind
theorem Bd.mono {M V W : Nat} {q : Rat} (h : Bd M V q) (hw : V ≤ W) : Bd M W q := by
  obtain ⟨z, hz, hv⟩ := h
  exact ⟨z, hz, Nat.le_trans hv (Nat.mul_le_mul_right _ hw)⟩
theorem Bd.up {M V : Nat} {q : Rat} (h : Bd M V q) (N : Nat) : Bd (M * N) V q := by
  obtain ⟨z, hz, hv⟩ := h
  refine ⟨z * N, ?_, ?_⟩
  · have : q * ((M * N : Nat) : Rat) = (q * (M : Rat)) * (N : Rat) := by rw [Rat.natCast_mul]; grind
    rw [this, hz, Rat.intCast_mul]
    rfl
  · rw [Int.natAbs_mul, Int.natAbs_natCast, ← Nat.mul_assoc]
    exact Nat.mul_le_mul_right _ hv
theorem Bd.neg {M V : Nat} {q : Rat} (h : Bd M V q) : Bd M V (-q) := by
  obtain ⟨z, hz, hv⟩ := h
  exact ⟨-z, by rw [Rat.neg_mul, hz]; simp, by rw [Int.natAbs_neg]; exact hv⟩
theorem bd_int {z : Int} {V : Nat} (h : z.natAbs ≤ V) : Bd 1 V (z : Rat) := ⟨z, by simp, by simpa using h⟩
theorem bd_div {a : Int} {b M V : Nat} (hb : b ≠ 0) (hd : b ∣ M) (h : a.natAbs ≤ V * b) : Bd M V (mkRat a b) := by
  obtain ⟨c, rfl⟩ := hd
  refine ⟨a * c, ?_, ?_⟩
  · have hb' : (b : Rat) ≠ 0 := by simpa using hb
    rw [Rat.mkRat_eq_div, Rat.natCast_mul]
    have := Rat.div_mul_cancel (a := (a : Rat)) hb'
    have e : (a : Rat) / (b : Rat) * ((b : Rat) * (c : Rat)) = ((a : Rat) / (b : Rat) * (b : Rat)) * (c : Rat) := by grind
    rw [e, this, Rat.intCast_mul]
    rfl
  · rw [Int.natAbs_mul, Int.natAbs_natCast, ← Nat.mul_assoc]
    exact Nat.mul_le_mul_right _ h
theorem bd_zero {M V : Nat} : Bd M V 0 := ⟨0, by simp, by simp⟩
theorem bd_one {M : Nat} : Bd M 1 1 := ⟨M, by rw [Rat.one_mul]; rfl, by simp⟩
/-! ### pairs of whole numbers, times and sums found by the law -/
def pr (p : Int × Nat) : D := .tuple [.int p.1, .int (p.2 : Nat)]
def pv' (p : Int × Nat) : Rat := mkRat p.1 p.2
theorem fr_pr (q : Rat) : fr q = pr (q.num, q.den) := rfl
theorem pv_fr (q : Rat) : pv' (q.num, q.den) = q := Rat.mkRat_self q
structure SmP (p : Int × Nat) : Prop where
  z : p.2 ≠ 0
  n : p.1.natAbs < 2 ^ 4400
  d : p.2 < 2 ^ 4400
theorem Sm.p {q : Rat} (h : Sm q) : SmP (q.num, q.den) := ⟨q.den_nz, Nat.lt_trans h.n (Nat.pow_lt_pow_right (by decide) (by decide)), Nat.lt_trans h.d (Nat.pow_lt_pow_right (by decide) (by decide))⟩
theorem ltimes_ok {p q : Int × Nat} (hp : SmP p) (hq : SmP q) : m_law_times [pr p, pr q] = .ok (fr (pv' p * pv' q)) := by
  have hd : ((p.2 : Int) * (q.2 : Int)) ≠ 0 := by
    have := Nat.mul_ne_zero hp.z hq.z
    rw [← Int.natCast_mul]
    omega
  have b9 : (2 : Nat) ^ 4400 * 2 ^ 4400 ≤ 2 ^ 9000 := by rw [← Nat.pow_add]; exact Nat.pow_le_pow_right (by decide) (by decide)
  have n1 : (p.1 * q.1).natAbs < 2 ^ 9000 := by rw [Int.natAbs_mul]; exact Nat.lt_of_lt_of_le (nat_lt_mul hp.n hq.n) b9
  have n2 : ((p.2 : Int) * (q.2 : Int)).natAbs < 2 ^ 9000 := by rw [Int.natAbs_mul]; exact Nat.lt_of_lt_of_le (nat_lt_mul (by simpa using hp.d) (by simpa using hq.d)) b9
  have m1 := mul_sz (a := p.1) (b := q.1) (k := 4400) (l := 4400) hp.n hq.n (by decide) (by decide) (by decide)
  have m3 := mul_sz (a := p.2) (b := q.2) (k := 4400) (l := 4400) (by simpa using hp.d) (by simpa using hq.d) (by decide) (by decide) (by decide)
  have e : Rat.divInt (p.1 * q.1) ((p.2 : Int) * (q.2 : Int)) = pv' p * pv' q := by
    rw [← Rat.divInt_mul_divInt]
    simp [pv']
  refine runF_rt ?_
  unfold g_law_times
  have := low_ok hd n1 n2
  rw [e] at this
  simp [pr, m1, m3, this]
def lsum (l : List (Int × Nat)) : Rat := (l.map pv').sum
/-- the sums on the way are small -/
def PSm : Rat → List (Int × Nat) → Prop
  | s, [] => Sm s
  | s, p :: r => Sm s ∧ SmP p ∧ PSm (s + pv' p) r
theorem PSm.hd {s : Rat} {l : List (Int × Nat)} (h : PSm s l) : Sm s := by
  cases l with
  | nil => exact h
  | cons p r => exact h.1
def bodySum : Es → Fl := sAsg 1 (xCall 2 m_law_low (aC (x2 dAddA (x2 dMul (x2 dIx (xV 1) (xC (.int 0))) (xV 3)) (x2 dMul (xV 2) (x2 dIx (xV 1) (xC (.int 1))))) (aC (x2 dMul (x2 dIx (xV 1) (xC (.int 1))) (xV 3)) aN)))
theorem forD_cons {γ : D → Es → R Es} {body : Es → Fl} {x : D} {xs : List D} {δ δ1 δ2 : Es} (h1 : γ x δ = .ok δ1) (h2 : body δ1 = .nx δ2) : forD γ body (x :: xs) δ = forD γ body xs δ2 := by
  rw [forD, h1]
  simp only [R.nx, fR_ok, h2]
theorem forD_rt {γ : D → Es → R Es} {body : Es → Fl} {x : D} {xs : List D} {δ δ1 : Es} {d : D} (h1 : γ x δ = .ok δ1) (h2 : body δ1 = .rt d) : forD γ body (x :: xs) δ = .rt d := by
  rw [forD, h1]
  simp only [R.nx, fR_ok, h2]
theorem bodySum_ok {s : Rat} {p : Int × Nat} {u : D} (hs : Sm s) (hp : SmP p) : bodySum [some (.im u), some (.im (fr s)), some (.im (.int p.1)), some (.im (.int (p.2 : Nat)))] = .nx [some (.im u), some (.im (fr (s + pv' p))), some (.im (.int p.1)), some (.im (.int (p.2 : Nat)))] := by
  have hd : ((s.den : Int) * (p.2 : Int)) ≠ 0 := by
    have := Nat.mul_ne_zero s.den_nz hp.z
    rw [← Int.natCast_mul]
    omega
  have b1 : (s.num * (p.2 : Int)).natAbs < 2 ^ 2000 * 2 ^ 4400 := by rw [Int.natAbs_mul]; exact nat_lt_mul hs.n (by simpa using hp.d)
  have b2 : (p.1 * (s.den : Int)).natAbs < 2 ^ 4400 * 2 ^ 2000 := by rw [Int.natAbs_mul]; exact nat_lt_mul hp.n (by simpa using hs.d)
  have b9 : (2 : Nat) ^ 2000 * 2 ^ 4400 + 2 ^ 4400 * 2 ^ 2000 ≤ 2 ^ 9000 := by decide +kernel
  have n1 : (s.num * (p.2 : Int) + p.1 * (s.den : Int)).natAbs < 2 ^ 9000 := by
    have := Int.natAbs_add_le (s.num * (p.2 : Int)) (p.1 * (s.den : Int))
    omega
  have n2 : ((s.den : Int) * (p.2 : Int)).natAbs < 2 ^ 9000 := by
    have : ((s.den : Int) * (p.2 : Int)).natAbs < 2 ^ 2000 * 2 ^ 4400 := by rw [Int.natAbs_mul]; exact nat_lt_mul (by simpa using hs.d) (by simpa using hp.d)
    omega
  have m1 := mul_sz (a := s.num) (b := p.2) (k := 2000) (l := 4400) hs.n (by simpa using hp.d) (by decide) (by decide) (by decide)
  have m2 := mul_sz (a := p.1) (b := s.den) (k := 4400) (l := 2000) hp.n (by simpa using hs.d) (by decide) (by decide) (by decide)
  have m3 := mul_sz (a := s.den) (b := p.2) (k := 2000) (l := 4400) (by simpa using hs.d) (by simpa using hp.d) (by decide) (by decide) (by decide)
  have e : Rat.divInt (s.num * (p.2 : Int) + p.1 * (s.den : Int)) ((s.den : Int) * (p.2 : Int)) = s + pv' p := by
    have h1 : (s.den : Int) ≠ 0 := by have := s.den_nz; omega
    have h2 : (p.2 : Int) ≠ 0 := by have := hp.z; omega
    have h3 := Rat.divInt_add_divInt s.num p.1 h1 h2
    rw [← h3, Rat.num_divInt_den]
    simp [pv']
  have := low_ok hd n1 n2
  rw [e] at this
  simp [bodySum, fr, m1, m2, m3] at this ⊢
  rw [this]
  simp
theorem lsum_loop : ∀ (l : List (Int × Nat)) (s : Rat) (u : D) (o1 o2 : Option Sl), PSm s l → ∃ o3 o4, forD (h2 2 3) bodySum (l.map pr) [some (.im u), some (.im (fr s)), o1, o2] = .nx [some (.im u), some (.im (fr (s + lsum l))), o3, o4]
  | [], s, u, o1, o2, h => ⟨o1, o2, by simp [forD, lsum, Rat.add_zero]⟩
  | p :: r, s, u, o1, o2, h => by
    obtain ⟨o3, o4, e⟩ := lsum_loop r (s + pv' p) u (some (.im (.int p.1))) (some (.im (.int (p.2 : Nat)))) h.2.2
    refine ⟨o3, o4, ?_⟩
    rw [List.map_cons, forD_cons (δ1 := [some (.im u), some (.im (fr s)), some (.im (.int p.1)), some (.im (.int (p.2 : Nat)))]) (by simp [h2, pr]) (bodySum_ok h.1 h.2.1), e]
    simp [lsum, Rat.add_assoc]
theorem lsum_ok {l : List (Int × Nat)} (h : PSm 0 l) : m_law_sum [.list (l.map pr)] = .ok (fr (lsum l)) := by
  obtain ⟨o3, o4, e⟩ := lsum_loop l 0 (.list (l.map pr)) none none h
  refine runF_rt ?_
  show sSeq (sAsg 1 (xA dTup (aC (xC (.int 0)) (aC (xC (.int 1)) aN)))) (sSeq (sFor (iSeq (xV 0)) (h2 2 3) bodySum) (sRet (xV 1))) [some (.im (.list (l.map pr))), none, none, none] = _
  have e0 : PyData.tuple [.int 0, .int 1] = fr 0 := rfl
  rw [sSeq_ap]
  simp only [sAsg_ap, xA_ap, aC_ap, xC_ap, aN_ap, R.bind_ok, dTup_2, fR_ok, e0]
  rw [if_pos (by simp)]
  simp only [th_nx, sSeq_ap, List.set, sFor_ap, v0_im, v0_none, v0_nil, iSeq_ap, xV_z, R.bind_ok, dItems_list, fR_ok]
  rw [e]
  simp [Rat.zero_add]
end HN
end
section
set_option linter.all false
set_option maxRecDepth 100000
set_option maxHeartbeats 1000000
set_option exponentiation.threshold 20000
namespace HN
open PySem L2 HL HM
/-! ### equality of data -/
structure Sh (n : Nat) (d : D) : Prop where
  c : d.canLay0 = true
  d : d.depth ≤ n
theorem sh_int (i : Int) : Sh 0 (.int i) := ⟨rfl, Nat.zero_le _⟩
theorem sh_none : Sh 0 (.none) := ⟨rfl, Nat.zero_le _⟩
theorem sh_bool (b : Bool) : Sh 0 (.bool b) := ⟨rfl, Nat.zero_le _⟩
theorem Sh.mono {n m : Nat} {d : D} (h : Sh n d) (hm : n ≤ m) : Sh m d := ⟨h.c, Nat.le_trans h.d hm⟩
theorem sh_all {n : Nat} : ∀ {ds : List D}, (∀ d ∈ ds, Sh n d) → PyData.canLayAll0 ds = true ∧ PyData.depthAll ds ≤ n
  | [], _ => ⟨rfl, Nat.zero_le _⟩
  | d :: r, h => by
    obtain ⟨a, b⟩ := sh_all (ds := r) fun x hx => h x (List.mem_cons_of_mem _ hx)
    have hd := h d List.mem_cons_self
    constructor
    · simp only [PyData.canLayAll0, hd.c, a, Bool.and_self]
    · simp only [PyData.depthAll]
      exact Nat.max_le.mpr ⟨hd.d, b⟩
theorem sh_tuple {n : Nat} {ds : List D} (h : ∀ d ∈ ds, Sh n d) : Sh (n + 1) (.tuple ds) := by
  obtain ⟨a, b⟩ := sh_all h
  exact ⟨by simp only [PyData.canLay0, a], by simp only [PyData.depth]; omega⟩
theorem sh_list {n : Nat} {ds : List D} (h : ∀ d ∈ ds, Sh n d) : Sh (n + 1) (.list ds) := by
  obtain ⟨a, b⟩ := sh_all h
  exact ⟨by simp only [PyData.canLay0, a], by simp only [PyData.depth]; omega⟩
theorem Sh.sh {n : Nat} {d : D} (h : Sh n d) (hn : n ≤ 64) : SeqAt.shaped d = true := by
  unfold SeqAt.shaped
  rw [h.c, decide_eq_true (Nat.le_trans h.d hn)]
  rfl
theorem dEq_sh {n m : Nat} {d e : D} (h1 : Sh n d) (h2 : Sh m e) (hn : n ≤ 64) (hm : m ≤ 64) : dEq d e = .ok (.bool (PyData.eqv d e)) := by
  unfold dEq
  rw [h1.sh hn, h2.sh hm]
  rfl
theorem dNe_sh {n m : Nat} {d e : D} (h1 : Sh n d) (h2 : Sh m e) (hn : n ≤ 64) (hm : m ≤ 64) : dNe d e = .ok (.bool (!PyData.eqv d e)) := by
  unfold dNe
  rw [h1.sh hn, h2.sh hm]
  rfl
theorem eqv_int (a b : Int) : PyData.eqv (.int a) (.int b) = decide (a = b) := by simp only [PyData.eqv]; exact Bool.beq_eq_decide_eq a b
theorem eqv_tuple (xs ys : List D) : PyData.eqv (.tuple xs) (.tuple ys) = PyData.eqvAll xs ys := by simp only [PyData.eqv]
theorem eqv_list (xs ys : List D) : PyData.eqv (.list xs) (.list ys) = PyData.eqvAll xs ys := by simp only [PyData.eqv]
theorem eqvAll_map {α : Type} [DecidableEq α] {f : α → D} (h : ∀ x y, PyData.eqv (f x) (f y) = decide (x = y)) : ∀ xs ys : List α, PyData.eqvAll (xs.map f) (ys.map f) = decide (xs = ys)
  | [], [] => rfl
  | x :: xs, [] => rfl
  | [], y :: ys => rfl
  | x :: xs, y :: ys => by
    rw [List.map_cons, List.map_cons, PyData.eqvAll, h, eqvAll_map h xs ys]
    by_cases h1 : x = y
    · by_cases h2 : xs = ys <;> simp [h1, h2]
    · simp [h1]
theorem eqv_fr (x y : Rat) : PyData.eqv (fr x) (fr y) = decide (x = y) := by
  unfold fr
  rw [eqv_tuple, PyData.eqvAll, PyData.eqvAll, PyData.eqvAll, eqv_int, eqv_int]
  by_cases h : x = y
  · subst h; simp
  · rw [decide_eq_false h]
    by_cases h1 : x.num = y.num
    · have h2 : ¬ ((x.den : Int) = (y.den : Int)) := fun e => h (Rat.ext h1 (by omega))
      simp [h2]
    · simp [h1]
theorem sh_fr (x : Rat) : Sh 1 (fr x) := sh_tuple (n := 0) fun d hd => by
  rcases List.mem_cons.mp hd with rfl | hd
  · exact sh_int _
  · rw [List.mem_singleton.mp hd]; exact sh_int _
theorem sh_map {α : Type} {n : Nat} {f : α → D} (h : ∀ x, Sh n (f x)) (l : List α) : ∀ d ∈ l.map f, Sh n d := fun d hd => by
  obtain ⟨x, _, rfl⟩ := List.mem_map.mp hd
  exact h x
@[simp] theorem dEq_fr (x y : Rat) : dEq (fr x) (fr y) = .ok (.bool (decide (x = y))) := by rw [dEq_sh (sh_fr x) (sh_fr y) (by decide) (by decide), eqv_fr]
@[simp] theorem dNe_fr (x y : Rat) : dNe (fr x) (fr y) = .ok (.bool (!decide (x = y))) := by rw [dNe_sh (sh_fr x) (sh_fr y) (by decide) (by decide), eqv_fr]
@[simp] theorem dEq_frs (xs ys : List Rat) : dEq (.tuple (xs.map fr)) (.tuple (ys.map fr)) = .ok (.bool (decide (xs = ys))) := by
  rw [dEq_sh (sh_tuple (sh_map sh_fr xs)) (sh_tuple (sh_map sh_fr ys)) (by decide) (by decide), eqv_tuple, eqvAll_map eqv_fr]
@[simp] theorem dNe_frs (xs ys : List Rat) : dNe (.tuple (xs.map fr)) (.tuple (ys.map fr)) = .ok (.bool (!decide (xs = ys))) := by
  rw [dNe_sh (sh_tuple (sh_map sh_fr xs)) (sh_tuple (sh_map sh_fr ys)) (by decide) (by decide), eqv_tuple, eqvAll_map eqv_fr]
theorem dNe_ints (xs ys : List Int) : dNe (.list (xs.map .int)) (.list (ys.map .int)) = .ok (.bool (!decide (xs = ys))) := by
  rw [dNe_sh (sh_list (sh_map sh_int xs)) (sh_list (sh_map sh_int ys)) (by decide) (by decide), eqv_list, eqvAll_map eqv_int]
theorem dEq_tints (xs ys : List Int) : dEq (.tuple (xs.map .int)) (.tuple (ys.map .int)) = .ok (.bool (decide (xs = ys))) := by
  rw [dEq_sh (sh_tuple (sh_map sh_int xs)) (sh_tuple (sh_map sh_int ys)) (by decide) (by decide), eqv_tuple, eqvAll_map eqv_int]
/-! ### comprehensions -/
theorem lc_map {α : Type} {γ : D → En → R En} {fe : FE} {ρ : En} {f g : α → D} : ∀ {l : List α}, (∀ a ∈ l, ∃ ρ2, γ (f a) ρ = .ok ρ2 ∧ fe ρ2 = .ok (g a)) → lcD γ (fun _ => .ok true) fe ρ (l.map f) = .ok (l.map g)
  | [], _ => rfl
  | a :: l, h => by
    obtain ⟨ρ2, h1, h2⟩ := h a List.mem_cons_self
    rw [List.map_cons, lcD, h1]
    simp only [R.nx, R.bind_ok, if_pos, h2, lc_map fun b hb => h b (List.mem_cons_of_mem _ hb), List.map_cons]
theorem lc_filter {α : Type} {γ : D → En → R En} {ft : FT} {fe : FE} {ρ : En} {f g : α → D} {p : α → Bool} : ∀ {l : List α}, (∀ a ∈ l, ∃ ρ2, γ (f a) ρ = .ok ρ2 ∧ ft ρ2 = .ok (p a) ∧ (p a = true → fe ρ2 = .ok (g a))) → lcD γ ft fe ρ (l.map f) = .ok ((l.filter p).map g)
  | [], _ => rfl
  | a :: l, h => by
    obtain ⟨ρ2, h1, h2, h3⟩ := h a List.mem_cons_self
    rw [List.map_cons, lcD, h1]
    simp only [R.nx, R.bind_ok, h2]
    by_cases hp : p a = true
    · simp only [hp, if_pos, h3 hp, R.bind_ok, lc_filter fun b hb => h b (List.mem_cons_of_mem _ hb), List.filter_cons, List.map_cons]
    · simp only [hp, if_neg, lc_filter fun b hb => h b (List.mem_cons_of_mem _ hb), List.filter_cons]
      simp
theorem rngD_map (lo : Int) (n : Nat) : rngD lo n = (List.range n).map fun i : Nat => .int (lo + (i : Int)) := rfl
@[simp] theorem rngD_len (lo : Int) (n : Nat) : (rngD lo n).length = n := by simp [rngD]
def rngI (n : Nat) : List Int := (List.range n).map fun i : Nat => (i : Int)
theorem rngD_I (n : Nat) : rngD 0 n = (rngI n).map .int := by
  unfold rngD rngI
  rw [List.map_map]
  apply List.map_congr_left
  intro i _
  simp
theorem rngI_len (n : Nat) : (rngI n).length = n := by simp [rngI]
theorem mem_rngI {n : Nat} {t : Int} : t ∈ rngI n ↔ 0 ≤ t ∧ t < n := by
  unfold rngI
  rw [List.mem_map]
  constructor
  · rintro ⟨i, hi, rfl⟩
    have : i < n := by simpa using hi
    omega
  · intro h
    exact ⟨t.toNat, by simp; omega, by omega⟩
theorem dR1_I {j : Int} (h : -1000000 ≤ j) (h' : j ≤ 1000000) : dR1 [.int j] = .ok ((rngI j.toNat).map .int) := by
  simp only [dR1]
  rw [if_pos ⟨by omega, by omega⟩, rngD_I]
theorem dR1_ok {j : Int} (h : -1000000 ≤ j) (h' : j ≤ 1000000) : dR1 [.int j] = .ok (rngD 0 j.toNat) := by
  simp only [dR1]
  rw [if_pos ⟨by omega, by omega⟩]
/-! ### the cells of the script -/
def cell (ns : List Int) (k : Int) : Int := if k < ns.length then ns.getD k.toNat 0 else 0
def scr (ns : List Int) : D := .list (ns.map .int)
theorem cell_ok (ns : List Int) {k : Int} (hk : 0 ≤ k) : m_law_cell [scr ns, .int k] = .ok (.int (cell ns k)) := by
  refine runF_rt ?_
  unfold g_law_cell cell
  rw [sSeq_ap]
  by_cases h : k < ns.length
  · have hk2 : k.toNat < ns.length := by omega
    have e : dIx (scr ns) (.int k) = .ok (.int (ns.getD k.toNat 0)) := dIx_ln (j := k.toNat) (by omega) (by simp [hk2])
    unfold scr at e
    simp [h, scr, e]
  · simp [h, scr]
structure Draws (ds : List Int) : Prop where
  len : ds.length = 60
  rng : ∀ d ∈ ds, 0 ≤ d ∧ d < 1000
def bodyRow : Es → Fl := sIf (yBl (x2 dLt (xCall 2 m_law_cell (aC (xV 0) (aC (xV 1) aN))) (x2 dPow (xC (.int 10)) (xC (.int 18))))) (sSeq (sAsg 2 (x2 dMod (x2 dAddA (x2 dAddA (x2 dAddA (x2 dMul (xV 2) (xC (.int 48271))) (x2 dMul (xC (.int 131)) (xV 4))) (xC (.int 7))) (xCall 2 m_law_cell (aC (xV 0) (aC (x2 dMod (x2 dAddA (x2 dAddA (xV 1) (xC (.int 1))) (xV 4)) (xC (.int 20))) aN)))) (xC (.int 2147483647))))
  (sApp 3 (x2 dMod (x2 dFdiv (xV 2) (xC (.int 11))) (xC (.int 1000))))) (sSeq (sApp 3 (x2 dMod (xV 2) (xC (.int 1000))))
  (sAsg 2 (x2 dFdiv (xV 2) (xC (.int 1000)))))
theorem sApp_ap (i : Nat) (f : FE) (δ : Es) : sApp i f δ = match owAt δ i with
  | some ds => fR (f (v0 δ)) fun d => if ds.length < 1000 then .nx (δ.set i (some (.ow (ds ++ [d])))) else .bad
  | none => .bad := rfl
@[simp] theorem owAt_z (d : List D) (r : Es) : owAt (some (.ow d) :: r) 0 = some d := rfl
@[simp] theorem owAt_s (x : Option Sl) (r : Es) (i : Nat) : owAt (x :: r) (i + 1) = owAt r i := by
  unfold owAt
  simp
theorem bodyRow_ok {ns : List Int} {at_ c t : Int} {acc : List D} (ha : 0 ≤ at_) (ht : 0 ≤ t) (ht' : t < 1000) (hl : acc.length < 1000) : ∃ (c' x : Int), 0 ≤ x ∧ x < 1000 ∧
    bodyRow [some (.im (scr ns)), some (.im (.int at_)), some (.im (.int c)), some (.ow acc), some (.im (.int t))] = .nx [some (.im (scr ns)), some (.im (.int at_)), some (.im (.int c')), some (.ow (acc ++ [.int x])), some (.im (.int t))] := by
  have hp : dPow (.int 10) (.int 18) = .ok (.int 1000000000000000000) := by
    simp only [dPow]
    rw [if_pos (by decide)]
    rfl
  have h20 : 0 ≤ (at_ + 1 + t) % 20 := Int.emod_nonneg _ (by decide)
  by_cases hc : cell ns at_ < 1000000000000000000
  · refine ⟨(c * 48271 + 131 * t + 7 + cell ns ((at_ + 1 + t) % 20)) % 2147483647, ((c * 48271 + 131 * t + 7 + cell ns ((at_ + 1 + t) % 20)) % 2147483647) / 11 % 1000, Int.emod_nonneg _ (by decide), Int.emod_lt_of_pos _ (by decide), ?_⟩
    have m1 : dMul (.int c) (.int 48271) = .ok (.int (c * 48271)) := dMul_r (by decide)
    have m2 : dMul (.int 131) (.int t) = .ok (.int (131 * t)) := dMul_r (by omega)
    have hcl := cell_ok ns ha
    have hc2 := cell_ok ns h20
    have d1 : ∀ x : Int, dMod (.int x) (.int 20) = .ok (.int (x % 20)) := fun x => dMod_ok (by decide)
    have d2 : ∀ x : Int, dMod (.int x) (.int 2147483647) = .ok (.int (x % 2147483647)) := fun x => dMod_ok (by decide)
    have d3 : ∀ x : Int, dMod (.int x) (.int 1000) = .ok (.int (x % 1000)) := fun x => dMod_ok (by decide)
    have d4 : ∀ x : Int, dFdiv (.int x) (.int 11) = .ok (.int (x / 11)) := fun x => dFdiv_ok (by decide) (by decide)
    unfold bodyRow
    simp [hcl, hc2, hp, hc, sSeq_ap, sApp_ap, m1, m2, d1, d2, d3, d4, hl]
  · refine ⟨c / 1000, c % 1000, Int.emod_nonneg _ (by decide), Int.emod_lt_of_pos _ (by decide), ?_⟩
    have hcl := cell_ok ns ha
    have d3 : ∀ x : Int, dMod (.int x) (.int 1000) = .ok (.int (x % 1000)) := fun x => dMod_ok (by decide)
    have d4 : ∀ x : Int, dFdiv (.int x) (.int 1000) = .ok (.int (x / 1000)) := fun x => dFdiv_ok (by decide) (by decide)
    unfold bodyRow
    simp [hcl, hp, hc, sSeq_ap, sApp_ap, d3, d4, hl]
theorem row_loop {ns : List Int} {at_ : Int} (ha : 0 ≤ at_) : ∀ (ts : List Int) (c : Int) (acc : List Int) (o : Option Sl), (∀ t ∈ ts, 0 ≤ t ∧ t < 1000) → (∀ d ∈ acc, 0 ≤ d ∧ d < 1000) → acc.length + ts.length ≤ 900 →
    ∃ (c' : Int) (acc' : List Int) (o' : Option Sl), (∀ d ∈ acc', 0 ≤ d ∧ d < 1000) ∧ acc'.length = acc.length + ts.length ∧
      forD (hN 4) bodyRow (ts.map .int) [some (.im (scr ns)), some (.im (.int at_)), some (.im (.int c)), some (.ow (acc.map .int)), o] = .nx [some (.im (scr ns)), some (.im (.int at_)), some (.im (.int c')), some (.ow (acc'.map .int)), o']
  | [], c, acc, o, _, h, _ => ⟨c, acc, o, h, rfl, rfl⟩
  | t :: ts, c, acc, o, ht, h, hl => by
    have h1 := ht t List.mem_cons_self
    rw [List.length_cons] at hl
    obtain ⟨c1, x, hx0, hx1, e⟩ := bodyRow_ok (ns := ns) (at_ := at_) (c := c) (t := t) (acc := acc.map .int) ha h1.1 h1.2 (by simp; omega)
    obtain ⟨c', acc', o', k1, k2, k3⟩ := row_loop ha ts c1 (acc ++ [x]) (some (.im (.int t))) (fun y hy => ht y (List.mem_cons_of_mem _ hy)) (fun d hd => by
      rcases List.mem_append.mp hd with hd | hd
      · exact h d hd
      · rw [List.mem_singleton.mp hd]; exact ⟨hx0, hx1⟩) (by simp; omega)
    refine ⟨c', acc', o', k1, by rw [k2]; simp; omega, ?_⟩
    rw [List.map_cons, forD_cons (by simp [hN]) e, ← k3]
    simp
theorem row_ok (ns : List Int) {at_ : Int} (ha : 0 ≤ at_) : ∃ ds, Draws ds ∧ m_law_row [scr ns, .int at_] = .ok (.list (ds.map .int)) := by
  obtain ⟨c', acc', o', k1, k2, k3⟩ := row_loop (ns := ns) ha (rngI 60) (cell ns at_) [] none (fun t ht => by
    have := mem_rngI.mp ht
    omega) (fun d hd => nomatch hd) (by rw [rngI_len]; decide)
  refine ⟨acc', ⟨by rw [k2, rngI_len]; rfl, k1⟩, ?_⟩
  refine runF_rt ?_
  show sSeq (sAsg 2 (xCall 2 m_law_cell (aC (xV 0) (aC (xV 1) aN)))) (sSeq (sAsgO 3 (aLst aN)) (sSeq (sFor (iA dR1 (aC (xC (.int 60)) aN)) (hN 4) bodyRow) (sRet (xV 3)))) [some (.im (scr ns)), some (.im (.int at_)), none, none, none] = _
  have d60 : dR1 [.int 60] = .ok ((rngI 60).map .int) := dR1_I (by decide) (by decide)
  simp at k3
  simp [sSeq_ap, cell_ok ns ha, d60, k3]
theorem Draws.at_ {ds : List Int} (h : Draws ds) {i : Int} (h0 : 0 ≤ i) (h1 : i < 60) : ∃ x, 0 ≤ x ∧ x < 1000 ∧ dIx (.list (ds.map .int)) (.int i) = .ok (.int x) := by
  have hi : i.toNat < ds.length := by rw [h.len]; omega
  have hx := h.rng ds[i.toNat] (List.getElem_mem hi)
  exact ⟨ds[i.toNat], hx.1, hx.2, dIx_ln (j := i.toNat) (by omega) (by simp [hi])⟩
/-! ### drawn fractions -/
def drawn (q : Rat) : Prop := ∃ (a : Int) (b : Nat), -9 ≤ a ∧ a ≤ 9 ∧ 1 ≤ b ∧ b ≤ 6 ∧ q = mkRat a b
theorem fraction_ok {x y : Int} : ∃ q, drawn q ∧ m_law_fraction [.int x, .int y] = .ok (fr q) := by
  have h1 := Int.emod_nonneg x (show (19 : Int) ≠ 0 by decide)
  have h2 := Int.emod_lt_of_pos x (show (0 : Int) < 19 by decide)
  have h3 := Int.emod_nonneg y (show (6 : Int) ≠ 0 by decide)
  have h4 := Int.emod_lt_of_pos y (show (0 : Int) < 6 by decide)
  have s9 : ∀ z : Int, z.natAbs ≤ 9 → z.natAbs < 2 ^ 9000 := fun z hz => Nat.lt_of_le_of_lt hz (by decide +kernel)
  have lo := low_ok (a := x % 19 - 9) (b := 1 + y % 6) (by omega) (s9 _ (by omega)) (s9 _ (by omega))
  have d1 : dMod (.int x) (.int 19) = .ok (.int (x % 19)) := dMod_ok (by decide)
  have d2 : dMod (.int y) (.int 6) = .ok (.int (y % 6)) := dMod_ok (by decide)
  refine ⟨mkRat (x % 19 - 9) (1 + y % 6).toNat, ⟨_, _, by omega, by omega, by omega, by omega, rfl⟩, runF_rt ?_⟩
  have e : Rat.divInt (x % 19 - 9) (1 + y % 6) = mkRat (x % 19 - 9) (1 + y % 6).toNat := by
    rw [← Rat.divInt_ofNat]
    congr 1
    omega
  rw [e] at lo
  unfold g_law_fraction
  simp [d1, d2, lo]
theorem drawn.bd {q : Rat} (h : drawn q) : Bd 60 9 q := by
  obtain ⟨a, b, h1, h2, h3, h4, rfl⟩ := h
  refine bd_div (by omega) ?_ ?_
  · have : b = 1 ∨ b = 2 ∨ b = 3 ∨ b = 4 ∨ b = 5 ∨ b = 6 := by omega
    rcases this with rfl | rfl | rfl | rfl | rfl | rfl <;> decide
  · have : a.natAbs ≤ 9 := by omega
    calc a.natAbs ≤ 9 * 1 := by omega
      _ ≤ 9 * b := Nat.mul_le_mul_left _ h3
theorem est_list {ds : List Int} (hd : Draws ds) : ∀ (l : List Int), (∀ t ∈ l, 0 ≤ t ∧ t < 50) → ∃ es : List Rat, es.length = l.length ∧ (∀ e ∈ es, drawn e) ∧
    ∀ (u v w : Option D), lcD (gN 4) (fun _ => .ok true) (xCall 2 m_law_fraction (aC (x2 dIx (xV 3) (xV 4)) (aC (x2 dIx (xV 3) (x2 dAddA (xC (.int 10)) (xV 4))) aN))) [u, v, w, some (.list (ds.map .int)), none] (l.map .int) = .ok (es.map fr)
  | [], _ => ⟨[], rfl, (fun _ h => by cases h), fun _ _ _ => rfl⟩
  | t :: l, h => by
    obtain ⟨es, h1, h2, h3⟩ := est_list hd l fun x hx => h x (List.mem_cons_of_mem _ hx)
    have ht := h t List.mem_cons_self
    obtain ⟨x, _, _, ex⟩ := hd.at_ ht.1 (by omega : t < 60)
    obtain ⟨y, _, _, ey⟩ := hd.at_ (i := 10 + t) (by omega) (by omega)
    obtain ⟨q, hq, e⟩ := fraction_ok (x := x) (y := y)
    refine ⟨q :: es, by simp [h1], fun z hz => ?_, fun u v w => ?_⟩
    · rcases List.mem_cons.mp hz with rfl | hz
      · exact hq
      · exact h2 z hz
    · rw [List.map_cons, lcD, h3 u v w]
      simp [gN, R.nx, ex, ey, e]
theorem estimate_ok (ns : List Int) {at_ n : Int} (ha : 0 ≤ at_) (hn : 0 ≤ n) (hn' : n ≤ 40) : ∃ es : List Rat, es.length = n.toNat + 1 ∧ (∀ e ∈ es, drawn e) ∧ m_law_estimate [scr ns, .int at_, .int n] = .ok (.tuple (es.map fr)) := by
  obtain ⟨ds, hd, er⟩ := row_ok ns ha
  obtain ⟨es, h1, h2, h3⟩ := est_list hd (rngI (n + 1).toNat) fun t ht => by
    have := mem_rngI.mp ht
    omega
  refine ⟨es, by rw [h1, rngI_len]; omega, h2, runF_rt ?_⟩
  have dr : dR1 [.int (n + 1)] = .ok ((rngI (n + 1).toNat).map .int) := dR1_I (by omega) (by omega)
  have hl : (rngI (n + 1).toNat).length ≤ 1000 := by rw [rngI_len]; omega
  unfold g_law_estimate
  rw [sSeq_ap]
  simp [er, xLc, dr, hl, wipeD, h3]
/-! ### drawn quantities -/
theorem xV_vw {δ : Es} {i : Nat} {d : D} (h : δ[i]? = some (some (.im d))) : xV i (vw δ) = .ok d := by
  unfold xV vw
  rw [List.getElem?_map, h]
  rfl
theorem xV_v0 {δ : Es} {i : Nat} {d : D} (h : δ[i]? = some (some (.im d))) : xV i (v0 δ) = .ok d := by
  unfold xV v0
  rw [List.getElem?_map, h]
  rfl
def bodyT (i : Nat) : Es → Fl := sAsg i (xSl (xV i) oN (oS (x1 dNeg (xC (.int 1)))))
def testT (i : Nat) : FT := yAnd (yBl (x2 dNe (xV i) (xA dLst aN))) (yBl (x2 dEq (x2 dIx (xV i) (x1 dNeg (xC (.int 1)))) (xC (.int 0))))
theorem cut_last {α : Type} (l : List α) (x : α) : cutD (l ++ [x]) none (some (-1)) = l := by
  unfold cutD
  have h1 : HT.sIx (l ++ [x]).length 0 none = 0 := rfl
  have h2 : HT.sIx (l ++ [x]).length (l ++ [x]).length (some (-1)) = l.length := by
    have h := HT.clip_eq (-1) (l ++ [x]).length (l ++ [x]).length
    rw [if_pos (by decide)] at h
    have hl : (l ++ [x]).length = l.length + 1 := by simp
    omega
  rw [h1, h2]
  simp
theorem dIx_last {l : List D} {d : D} : dIx (.list (l ++ [d])) (.int (-1)) = .ok d := by
  simp only [dIx, atI_last]
theorem dIx_lastT {l : List D} {d : D} : dIx (.tuple (l ++ [d])) (.int (-1)) = .ok d := by
  simp only [dIx, atI_last]
theorem snoc_cases {α : Type} (l : List α) : l = [] ∨ ∃ r x, l = r ++ [x] := by
  cases l with
  | nil => exact .inl rfl
  | cons a b => exact .inr ⟨_, _, (List.dropLast_concat_getLast (List.cons_ne_nil a b)).symm⟩
/-- without the zeros at the end -/
structure Trim (l q : List Int) : Prop where
  ex : ∃ k, l = q ++ List.replicate k 0
  last : q = [] ∨ ∃ r x, q = r ++ [x] ∧ x ≠ 0
theorem testT_nil {i : Nat} {δ : Es} (h : δ[i]? = some (some (.im (.list [])))) : testT i (vw δ) = .ok false := by
  have e : dNe (.list []) (.list []) = .ok (.bool false) := by rw [show (PyData.list [] : D) = .list (([] : List Int).map .int) from rfl, dNe_ints]; rfl
  simp [testT, xV_vw h, e]
theorem testT_snoc {i : Nat} {δ : Es} {r : List Int} {y : Int} (h : δ[i]? = some (some (.im (.list ((r ++ [y]).map .int))))) : testT i (vw δ) = .ok (decide (y = 0)) := by
  have e : dNe (.list ((r ++ [y]).map .int)) (.list []) = .ok (.bool true) := by rw [show (PyData.list [] : D) = .list (([] : List Int).map .int) from rfl, dNe_ints]; simp
  have ix : dIx (.list ((r ++ [y]).map .int)) (.int (-1)) = .ok (.int y) := by rw [List.map_append]; exact dIx_last
  unfold testT
  simp only [yAnd_ap, yBl_ap, x2_ap, xV_vw h, xA_ap, aN_ap, R.bind_ok, dLst_0, e, dBl_bool, if_pos, x1_ap, xC_ap, dNeg_int, ix, dEq_int]
theorem bodyT_snoc {i : Nat} {δ : Es} {r : List Int} {y : Int} (h : δ[i]? = some (some (.im (.list ((r ++ [y]).map .int))))) : bodyT i δ = .nx (δ.set i (some (.im (.list (r.map .int))))) := by
  have hi : i < δ.length := (List.getElem?_eq_some_iff.mp h).1
  have hc : cutD ((r ++ [y]).map PyData.int) none (some (-1)) = r.map .int := by rw [List.map_append]; exact cut_last _ _
  unfold bodyT
  simp only [sAsg_ap, xSl_ap, xV_v0 h, R.bind_ok, oN_ap, oS_ap, x1_ap, xC_ap, dNeg_int, dOI_int, dSl, hc, fR_ok, if_pos hi]
theorem trim_loop {i : Nat} : ∀ (k : Nat) (m : Nat) (l : List Int) (δ : Es), l.length ≤ k → k < m → δ[i]? = some (some (.im (.list (l.map .int)))) → ∃ q, Trim l q ∧ whD (testT i) (bodyT i) m δ = .nx (δ.set i (some (.im (.list (q.map .int))))) := by
  have stay : ∀ (δ : Es) (x : Option Sl), δ[i]? = some x → δ.set i x = δ := fun δ x h => by
    apply List.ext_getElem?
    intro j
    by_cases hij : i = j
    · subst hij
      rw [List.getElem?_set_self (List.getElem?_eq_some_iff.mp h).1, h]
    · rw [List.getElem?_set_ne hij]
  intro k
  induction k with
  | zero =>
    intro m l δ hl hm h
    obtain ⟨j, rfl⟩ : ∃ j, m = j + 1 := ⟨m - 1, by omega⟩
    have : l = [] := List.eq_nil_of_length_eq_zero (by omega)
    subst this
    refine ⟨[], ⟨⟨0, rfl⟩, .inl rfl⟩, ?_⟩
    rw [whD_s, testT_nil h, fR_ok, if_neg Bool.false_ne_true, stay δ _ h]
  | succ k ih =>
    intro m l δ hl hm h
    obtain ⟨j, rfl⟩ : ∃ j, m = j + 1 := ⟨m - 1, by omega⟩
    rcases snoc_cases l with rfl | ⟨r, y, rfl⟩
    · refine ⟨[], ⟨⟨0, rfl⟩, .inl rfl⟩, ?_⟩
      rw [whD_s, testT_nil h, fR_ok, if_neg Bool.false_ne_true, stay δ _ h]
    · by_cases hy : y = 0
      · subst hy
        have hi : i < δ.length := (List.getElem?_eq_some_iff.mp h).1
        obtain ⟨q, ⟨⟨k', hk'⟩, hq⟩, e⟩ := ih j r (δ.set i (some (.im (.list (r.map .int))))) (by simp at hl; omega) (by omega) (List.getElem?_set_self hi)
        refine ⟨q, ⟨⟨k' + 1, by rw [List.replicate_succ', ← List.append_assoc, ← hk']⟩, hq⟩, ?_⟩
        rw [whD_s, testT_snoc h, fR_ok, if_pos (by simp), bodyT_snoc h]
        simp only [e, List.set_set]
      · refine ⟨r ++ [y], ⟨⟨0, by simp⟩, .inr ⟨r, y, rfl, hy⟩⟩, ?_⟩
        rw [whD_s, testT_snoc h, fR_ok, if_neg (by simp [hy]), stay δ _ h]
/-- a quantity with entries from -c to c -/
structure Qty (c : Nat) (q : List Int) : Prop where
  rng : ∀ x ∈ q, -(c : Int) ≤ x ∧ x ≤ c
  last : q = [] ∨ ∃ r x, q = r ++ [x] ∧ x ≠ 0
theorem qty_list {ds : List Int} (hd : Draws ds) : ∀ (l : List Int), (∀ t ∈ l, 0 ≤ t ∧ t < 50) → ∃ es : List Int, es.length = l.length ∧ (∀ e ∈ es, -9 ≤ e ∧ e ≤ 9) ∧
    ∀ (u v w : Option D) , lcD (gN 5) (fun _ => .ok true) (x2 dSub (x2 dMod (x2 dIx (xV 3) (x2 dAddA (xC (.int 1)) (xV 5))) (xC (.int 19))) (xC (.int 9))) [u, v, w, some (.list (ds.map .int)), none, none] (l.map .int) = .ok (es.map .int)
  | [], _ => ⟨[], rfl, (fun _ h => by cases h), fun _ _ _ => rfl⟩
  | t :: l, h => by
    obtain ⟨es, h1, h2, h3⟩ := qty_list hd l fun x hx => h x (List.mem_cons_of_mem _ hx)
    have ht := h t List.mem_cons_self
    obtain ⟨x, _, _, ex⟩ := hd.at_ (i := 1 + t) (by omega) (by omega)
    have d1 : dMod (.int x) (.int 19) = .ok (.int (x % 19)) := dMod_ok (by decide)
    refine ⟨(x % 19 - 9) :: es, by simp [h1], fun z hz => ?_, fun u v w => ?_⟩
    · rcases List.mem_cons.mp hz with rfl | hz
      · have := Int.emod_nonneg x (show (19 : Int) ≠ 0 by decide)
        have := Int.emod_lt_of_pos x (show (0 : Int) < 19 by decide)
        omega
      · exact h2 z hz
    · rw [List.map_cons, lcD, h3 u v w]
      simp [gN, R.nx, ex, d1]
theorem quantity_ok (ns : List Int) {at_ m : Int} (ha : 0 ≤ at_) (hm : 0 ≤ m) (hm' : m ≤ 40) : ∃ q : List Int, Qty 9 q ∧ (q.length : Int) ≤ m ∧ m_law_quantity [scr ns, .int at_, .int m] = .ok (.tuple (q.map .int)) := by
  obtain ⟨ds, hd, er⟩ := row_ok ns ha
  obtain ⟨x, hx0, hx1, ex⟩ := hd.at_ (i := 0) (by decide) (by decide)
  have hb0 := Int.emod_nonneg x (show m + 1 ≠ 0 by omega)
  have hb1 := Int.emod_lt_of_pos x (show 0 < m + 1 by omega)
  obtain ⟨es, h1, h2, h3⟩ := qty_list hd (rngI (x % (m + 1)).toNat) fun t ht => by
    have := mem_rngI.mp ht
    omega
  obtain ⟨q, ⟨⟨k, hk⟩, hq⟩, e⟩ := trim_loop (i := 4) es.length 1200 es [some (.im (scr ns)), some (.im (.int at_)), some (.im (.int m)), some (.im (.list (ds.map .int))), some (.im (.list (es.map .int))), none] (Nat.le_refl _) (by rw [h1, rngI_len]; omega) rfl
  have hlen : q.length ≤ es.length := by rw [hk]; simp
  refine ⟨q, ⟨fun y hy => h2 y (by rw [hk]; exact List.mem_append_left _ hy), hq⟩, by rw [h1, rngI_len] at hlen; omega, runF_rt ?_⟩
  have dm : dMod (.int x) (.int (m + 1)) = .ok (.int (x % (m + 1))) := dMod_ok (by omega)
  have dr : dR1 [.int (x % (m + 1))] = .ok ((rngI (x % (m + 1)).toNat).map .int) := dR1_I (by omega) (by omega)
  have hl : (rngI (x % (m + 1)).toNat).length ≤ 1000 := by rw [rngI_len]; omega
  show sSeq _ (sSeq _ (sSeq (whD (testT 4) (bodyT 4) 1200) (sRet (xA dTupOf (aC (xV 4) aN))))) [some (.im (scr ns)), some (.im (.int at_)), some (.im (.int m)), none, none, none] = _
  simp [sSeq_ap, er, xLc, ex, dm, dr, hl, wipeD, h3, e]
end HN
end
section
set_option linter.all false
set_option maxRecDepth 100000
set_option maxHeartbeats 1000000
set_option exponentiation.threshold 20000
namespace HN
open PySem L2 HL HM
/-! ### kinds -/
@[simp] theorem isi_ii (i : Int) : dIsi "int" (.int i) = .ok (.bool true) := by
  have : kitB "int" "int" = some true := by decide +kernel
  simp only [dIsi, tyN, this]
@[simp] theorem isi_bi (i : Int) : dIsi "bool" (.int i) = .ok (.bool false) := by
  have : kitB "int" "bool" = some false := by decide +kernel
  simp only [dIsi, tyN, this]
@[simp] theorem isi_tt (l : List D) : dIsi "tuple" (.tuple l) = .ok (.bool true) := by
  have : kitB "tuple" "tuple" = some true := by decide +kernel
  simp only [dIsi, tyN, this]
@[simp] theorem isi_tl (l : List D) : dIsi "tuple" (.list l) = .ok (.bool false) := by
  have : kitB "list" "tuple" = some false := by decide +kernel
  simp only [dIsi, tyN, this]
theorem in_range_ok (v lo hi : Int) : m_in_range [.int v, .int lo, .int hi] = .ok (.bool (decide (lo ≤ v) && decide (v ≤ hi))) := by
  refine runF_rt ?_
  unfold g_in_range
  by_cases h : lo ≤ v <;> simp [xCh, h]
theorem check_trials_ok {n : Int} (h1 : 1 ≤ n) (h6 : n ≤ 6) : m_check_trials [.int n] = .ok .none := by
  refine runF_nx (δ := [some (.im (.int n))]) ?_
  unfold g_check_trials
  simp [in_range_ok, h1, h6]
theorem dIx_m1 {l : List D} {d : D} : dIx (.tuple (l ++ [d])) (.int (-1)) = .ok d := dIx_lastT
theorem is_quantity_ok {c : Nat} {q : List Int} (hc : c ≤ 99) (h : Qty c q) (hl : q.length ≤ 9) : m_is_quantity [.tuple (q.map .int)] = .ok (.bool true) := by
  refine runF_rt ?_
  unfold g_is_quantity
  have lc : lcD (gN 1) (yNot (yTru (xCall 3 m_in_range (aC (xV 1) (aC (x1 dNeg (xC (.int 99))) (aC (xC (.int 99)) aN)))))) (xV 1) [some (.tuple (q.map .int)), none] (q.map .int) = .ok [] := by
    have := lc_filter (γ := gN 1) (ft := yNot (yTru (xCall 3 m_in_range (aC (xV 1) (aC (x1 dNeg (xC (.int 99))) (aC (xC (.int 99)) aN)))))) (fe := xV 1) (ρ := [some (.tuple (q.map .int)), none]) (f := PyData.int) (g := PyData.int) (p := fun _ => false) (l := q) fun a ha => by
      have hr := h.rng a ha
      refine ⟨[some (.tuple (q.map .int)), some (.int a)], by simp [gN], ?_, fun z => by cases z⟩
      have e1 : -99 ≤ a := by omega
      have e2 : a ≤ 99 := by omega
      simp [in_range_ok, e1, e2]
    rw [this, show q.filter (fun _ => false) = [] from List.filter_eq_nil_iff.mpr (by simp)]
    rfl
  have hl' : ¬ ((9 : Int) < (q.length : Int)) := by omega
  have hl2 : q.length ≤ 1000 := by omega
  rcases h.last with rfl | ⟨r, x, rfl, hx⟩
  · simp [sSeq_ap, xLc, lcD, wipeD]
    have : dEq (.tuple []) (.tuple []) = .ok (.bool true) := by
      rw [show (PyData.tuple [] : D) = .tuple (([] : List Int).map .int) from rfl, dEq_tints]; rfl
    simp [this]
  · have e : dEq (.tuple ((r ++ [x]).map .int)) (.tuple []) = .ok (.bool false) := by
      rw [show (PyData.tuple [] : D) = .tuple (([] : List Int).map .int) from rfl, dEq_tints]; simp
    have ix : dIx (.tuple ((r ++ [x]).map .int)) (.int (-1)) = .ok (.int x) := by rw [List.map_append]; exact dIx_lastT
    simp only [List.map_append, List.map_cons, List.map_nil] at e ix lc
    have h9 : ¬ ((9 : Int) < (r.length : Int) + 1) := by simp at hl; omega
    have h1000 : r.length + 1 ≤ 1000 := by simp at hl; omega
    simp [sSeq_ap, xLc, lc, wipeD, h9, h1000, e, ix, hx]
theorem check_quantity_ok {c : Nat} {q : List Int} (hc : c ≤ 99) (h : Qty c q) (hl : q.length ≤ 9) : m_check_quantity [.tuple (q.map .int)] = .ok .none := by
  refine runF_nx (δ := [some (.im (.tuple (q.map .int)))]) ?_
  unfold g_check_quantity
  simp [is_quantity_ok hc h hl]
def polyQ (q : List Int) : List Rat := q.map fun z : Int => ((z : Int) : Rat)
theorem polynomial_of_ok {q : List Int} (hl : q.length ≤ 1000) : m_polynomial_of [.tuple (q.map .int)] = .ok (.tuple ((polyQ q).map fr)) := by
  refine runF_rt ?_
  unfold g_polynomial_of
  have lc : lcD (gN 1) (fun _ => .ok true) (xA dTup (aC (xV 1) (aC (xC (.int 1)) aN))) [some (.tuple (q.map .int)), none] (q.map .int) = .ok (q.map fun z : Int => fr ((z : Int) : Rat)) :=
    lc_map fun a ha => ⟨[some (.tuple (q.map .int)), some (.int a)], by simp [gN], by simp; rfl⟩
  have e : (polyQ q).map fr = q.map fun z : Int => fr ((z : Int) : Rat) := by unfold polyQ; rw [List.map_map]; rfl
  rw [e]
  simp [xLc, wipeD, lc, hl]
/-! ### falling products -/
def dF (n : Nat) : Nat → Nat
  | 0 => 1
  | i + 1 => dF n i * (n - i)
theorem dF_pos {n : Nat} : ∀ {i : Nat}, i ≤ n → 0 < dF n i
  | 0, _ => Nat.one_pos
  | i + 1, h => Nat.mul_pos (dF_pos (by omega)) (by omega)
theorem dF_zero {n : Nat} : ∀ {i : Nat}, n < i → dF n i = 0
  | 0, h => by omega
  | i + 1, h => by
    unfold dF
    by_cases hi : n < i
    · rw [dF_zero hi]; simp
    · have : n - i = 0 := by omega
      rw [this]; simp
theorem dF_succ (n i : Nat) : (dF n i : Int) * ((n : Int) - (i : Int)) = (dF n (i + 1) : Nat) := by
  by_cases h : i ≤ n
  · rw [show dF n (i + 1) = dF n i * (n - i) from rfl, Int.natCast_mul, Int.natCast_sub h]
  · rw [dF_zero (by omega), dF_zero (by omega)]
    simp
theorem dF_le {n : Nat} : ∀ i, dF n i ≤ n ^ i
  | 0 => Nat.le_refl _
  | i + 1 => by
    unfold dF
    rw [Nat.pow_succ]
    exact Nat.mul_le_mul (dF_le i) (by omega)
theorem sAug_ap (i : Nat) (g : D → D → R D) (f : FE) (δ : Es) : sAug i g f δ = fR (xV i (v0 δ)) fun x => fR (f (v0 δ)) fun y => fR (g x y) fun z => if i < δ.length then .nx (δ.set i (some (.im z))) else .bad := rfl
theorem falling_loop {n : Nat} (hn : n ≤ 1000) : ∀ (j i : Nat) (u : D) (o : Option Sl), i + j ≤ 1000 → ∃ o', forD (hN 3) (sAug 2 dMul (x2 dSub (xV 0) (xV 3))) (((List.range' i j).map fun t : Nat => ((t : Nat) : Int)).map .int) [some (.im (.int n)), some (.im u), some (.im (.int (dF n i))), o] = .nx [some (.im (.int n)), some (.im u), some (.im (.int (dF n (i + j)))), o']
  | 0, i, u, o, _ => ⟨o, rfl⟩
  | j + 1, i, u, o, h => by
    obtain ⟨o', e⟩ := falling_loop hn j (i + 1) u (some (.im (.int (i : Nat)))) (by omega)
    refine ⟨o', ?_⟩
    have m : dMul (.int (dF n i)) (.int ((n : Int) - (i : Int))) = .ok (.int (dF n (i + 1) : Nat)) := by
      rw [dMul_r (by omega), dF_succ]
    rw [List.range'_succ, List.map_cons, List.map_cons, forD_cons (δ1 := [some (.im (.int n)), some (.im u), some (.im (.int (dF n i))), some (.im (.int (i : Nat)))]) (δ2 := [some (.im (.int n)), some (.im u), some (.im (.int (dF n (i + 1) : Nat))), some (.im (.int (i : Nat)))]) (by simp [hN]) (by simp [sAug_ap, m])]
    rw [show i + (j + 1) = i + 1 + j by omega]
    exact e
theorem dr_n {i : Nat} (hi : i ≤ 1000) : dR1 [.int (i : Int)] = .ok ((List.range' 0 i).map fun t : Nat => .int ((t : Nat) : Int)) := by
    have := dR1_I (j := (i : Int)) (by omega) (by omega)
    have er : rngI i = (List.range' 0 i).map fun t : Nat => ((t : Nat) : Int) := by unfold rngI; rw [List.range_eq_range']
    rw [Int.toNat_natCast, er, List.map_map] at this
    exact this
theorem falling_ok {n i : Nat} (hn : n ≤ 1000) (hi : i ≤ 1000) : m_falling [.int n, .int i] = .ok (.int (dF n i)) := by
  obtain ⟨o', e⟩ := falling_loop hn i 0 (.int i) none (by omega)
  refine runF_rt ?_
  unfold g_falling
  have e1 : ((dF n 0 : Nat) : Int) = 1 := rfl
  rw [e1, List.map_map, Nat.zero_add] at e
  have e2 : ((PyData.int : Int → D) ∘ fun t : Nat => ((t : Nat) : Int)) = fun t : Nat => .int ((t : Nat) : Int) := rfl
  rw [e2] at e
  simp [sSeq_ap, dr_n hi, e]
/-! ### total -/
def PSr : Rat → List Rat → Prop
  | s, [] => Sm s
  | s, x :: r => Sm s ∧ Sm x ∧ PSr (s + x) r
theorem total_loop : ∀ (l : List Rat) (s : Rat) (u : D) (o : Option Sl), PSr s l → ∃ o', forD (hN 2) (sAsg 1 (xCall 2 m_plus (aC (xV 1) (aC (xV 2) aN)))) (l.map fr) [some (.im u), some (.im (fr s)), o] = .nx [some (.im u), some (.im (fr (s + l.sum))), o']
  | [], s, u, o, h => ⟨o, by simp [forD, Rat.add_zero]⟩
  | x :: l, s, u, o, h => by
    obtain ⟨o', e⟩ := total_loop l (s + x) u (some (.im (fr x))) h.2.2
    refine ⟨o', ?_⟩
    rw [List.map_cons, forD_cons (δ1 := [some (.im u), some (.im (fr s)), some (.im (fr x))]) (δ2 := [some (.im u), some (.im (fr (s + x))), some (.im (fr x))]) (by simp [hN]) (by simp [plus_ok h.1 h.2.1]), e]
    simp [Rat.add_assoc]
theorem total_ok {l : List Rat} (h : PSr 0 l) : m_total [.list (l.map fr)] = .ok (fr l.sum) := by
  obtain ⟨o', e⟩ := total_loop l 0 (.list (l.map fr)) none h
  refine runF_rt ?_
  unfold g_total
  have e0 : PyData.tuple [.int 0, .int 1] = fr 0 := rfl
  simp [sSeq_ap, e0, e, Rat.zero_add]
theorem PSr.of {M V : Nat} (hM : M ≠ 0) (h1 : M < 2 ^ 2000) : ∀ {l : List Rat} {s : Rat} {W : Nat}, Bd M W s → (∀ x ∈ l, Bd M V x) → (W + l.length * V) * M < 2 ^ 2000 → V * M < 2 ^ 2000 → PSr s l
  | [], s, W, hs, _, h, _ => hs.sm hM h1 (by simpa using h)
  | x :: l, s, W, hs, hx, h, h2 => by
    have hx0 := hx x List.mem_cons_self
    have hW : W * M < 2 ^ 2000 := Nat.lt_of_le_of_lt (Nat.mul_le_mul_right _ (by omega)) h
    refine ⟨hs.sm hM h1 hW, hx0.sm hM h1 h2, PSr.of hM h1 (hs.add hx0) (fun y hy => hx y (List.mem_cons_of_mem _ hy)) ?_ h2⟩
    have : W + V + l.length * V = W + (x :: l).length * V := by rw [List.length_cons, Nat.add_mul]; omega
    rw [this]
    exact h
theorem bd_sum {M V : Nat} : ∀ {l : List Rat}, (∀ x ∈ l, Bd M V x) → Bd M (l.length * V) l.sum
  | [], _ => by simpa using bd_zero
  | x :: l, h => by
    have := (h x List.mem_cons_self).add (bd_sum (l := l) fun y hy => h y (List.mem_cons_of_mem _ hy))
    rw [List.sum_cons]
    refine this.mono ?_
    rw [List.length_cons, Nat.add_mul]
    omega
/-! ### the honest estimate of a row -/
def terms (n k : Nat) : Nat → List Rat → List Rat
  | _, [] => []
  | e, x :: r => x * mkRat (dF k e) (dF n e) :: terms n k (e + 1) r
theorem terms_len (n k : Nat) : ∀ (e : Nat) (r : List Rat), (terms n k e r).length = r.length
  | e, [] => rfl
  | e, x :: r => by simp [terms, terms_len n k (e + 1) r]
def hv (n k : Nat) (row : List Rat) : Rat := (terms n k 0 row).sum
def hon (n : Nat) (row : List Rat) : List Rat := (List.range (n + 1)).map fun k => hv n k row
theorem hon_len (n : Nat) (row : List Rat) : (hon n row).length = n + 1 := by simp [hon]
theorem dF_table : ∀ n, n ≤ 6 → ∀ e, e ≤ n → dF n e ∣ 720 ∧ dF n e ≤ 720 := by decide
theorem dF_small : ∀ n, n ≤ 6 → ∀ e, e ≤ 8 → dF n e ≤ 720 := by decide
theorem ratio_bd {n k e : Nat} (hn : n ≤ 6) (hk : k ≤ n) (he : e ≤ n) : Bd 720 720 (mkRat (dF k e) (dF n e)) := by
  obtain ⟨h1, h2⟩ := dF_table n hn e he
  have hp := dF_pos he
  refine bd_div (by omega) h1 ?_
  have h3 := dF_small k (by omega) e (by omega)
  rw [Int.natAbs_natCast]
  exact Nat.le_trans h3 (Nat.le_mul_of_pos_right _ hp)
theorem terms_bd {n k M V : Nat} (hn : n ≤ 6) (hk : k ≤ n) : ∀ (row : List Rat) (e : Nat), e + row.length ≤ n + 1 → (∀ x ∈ row, Bd M V x) → ∀ x ∈ terms n k e row, Bd (M * 720) (V * 720) x
  | [], e, _, _ => fun x hx => by cases hx
  | y :: r, e, h, hb => fun x hx => by
    rw [List.length_cons] at h
    rcases List.mem_cons.mp hx with rfl | hx
    · exact (hb y List.mem_cons_self).mul (ratio_bd hn hk (by omega))
    · exact terms_bd hn hk r (e + 1) (by omega) (fun z hz => hb z (List.mem_cons_of_mem _ hz)) x hx
theorem z1 : 720 < 2 ^ 9000 := by decide +kernel
theorem z2 : 720 < 2 ^ 2000 := by decide +kernel
theorem z3 : 720 * 720 < 2 ^ 2000 := by decide +kernel
theorem ratio_sm {n k e : Nat} (hn : n ≤ 6) (hk : k ≤ n) (he : e ≤ n) : Sm (mkRat (dF k e) (dF n e)) := (ratio_bd hn hk he).sm (by decide) z2 z3
theorem dF_big {n e : Nat} (hn : n ≤ 6) (he : e ≤ n) : dF n e < 2 ^ 9000 := Nat.lt_of_le_of_lt (dF_table n hn e he).2 z1
def bodyH : Es → Fl := sApp 4 (xCall 2 m_times (aC (xV 6) (aC (xCall 2 m_reduced (aC (xCall 2 m_falling (aC (xV 3) (aC (xV 5) aN))) (aC (xCall 2 m_falling (aC (xV 0) (aC (xV 5) aN))) aN))) aN)))
theorem inner_loop {n k : Nat} (hn : n ≤ 6) (hk : k ≤ n) : ∀ (row : List Rat) (e : Nat) (acc : List D) (u : D) (res : List D) (o1 o2 : Option Sl), e + row.length ≤ n + 1 → (∀ x ∈ row, Sm x) → acc.length + row.length < 900 →
    ∃ o3 o4, forD (h2 5 6) bodyH (enumF e (row.map fr)) [some (.im (.int n)), some (.im u), some (.ow res), some (.im (.int k)), some (.ow acc), o1, o2] =
      .nx [some (.im (.int n)), some (.im u), some (.ow res), some (.im (.int k)), some (.ow (acc ++ (terms n k e row).map fr)), o3, o4]
  | [], e, acc, u, res, o1, o2, _, _, _ => ⟨o1, o2, by simp [enumF, forD, terms]⟩
  | x :: r, e, acc, u, res, o1, o2, h, hs, hl => by
    rw [List.length_cons] at h hl
    obtain ⟨o3, o4, eq⟩ := inner_loop hn hk r (e + 1) (acc ++ [fr (x * mkRat (dF k e) (dF n e))]) u res (some (.im (.int (e : Nat)))) (some (.im (fr x))) (by omega) (fun y hy => hs y (List.mem_cons_of_mem _ hy)) (by simp; omega)
    refine ⟨o3, o4, ?_⟩
    have hp := dF_pos (show e ≤ n by omega)
    have rd := reduced_ok (a := (dF k e : Int)) (b := (dF n e : Nat)) (by omega) (dF_big hn (by omega))
    have tm := times_ok (hs x List.mem_cons_self) (ratio_sm hn hk (show e ≤ n by omega))
    have b : bodyH [some (.im (.int n)), some (.im u), some (.ow res), some (.im (.int k)), some (.ow acc), some (.im (.int (e : Nat))), some (.im (fr x))] = .nx [some (.im (.int n)), some (.im u), some (.ow res), some (.im (.int k)), some (.ow (acc ++ [fr (x * mkRat (dF k e) (dF n e))])), some (.im (.int (e : Nat))), some (.im (fr x))] := by
      have ha : acc.length < 1000 := by omega
      simp [bodyH, sApp_ap, falling_ok (n := k) (i := e) (by omega) (by omega), falling_ok (n := n) (i := e) (by omega) (by omega), rd, tm, ha]
    rw [List.map_cons, enumF, forD_cons (by simp [h2]) b, eq]
    simp [terms]
end HN
end
section
set_option linter.all false
set_option maxRecDepth 100000
set_option maxHeartbeats 1000000
set_option exponentiation.threshold 20000
namespace HN
open PySem L2 HL HM
/-! ### honest_of, honest -/
@[simp] theorem lf_fr (q : Rat) : lf (fr q) = true := rfl
theorem sAppR_ap (i : Nat) (f : FE) (δ : Es) : sAppR i f δ = match owAt δ i with
  | some ds => fR (f (vw δ)) fun d => if ds.length < 1000 ∧ lf d = true then .nx (δ.set i (some (.ow (ds ++ [d])))) else .bad
  | none => .bad := rfl
/-- rows whose numbers are small enough to be estimated -/
structure RowB (M V : Nat) (row : List Rat) : Prop where
  b : ∀ x ∈ row, Bd M V x
  m : M ≠ 0
  s : 10 * (V * 720) * (M * 720) < 2 ^ 2000
  s2 : M * 720 < 2 ^ 2000
theorem RowB.sm {M V : Nat} {row : List Rat} (h : RowB M V row) : ∀ x ∈ row, Sm x := fun x hx => by
  refine (h.b x hx).sm h.m (Nat.lt_of_le_of_lt (Nat.le_mul_of_pos_right _ (by decide)) h.s2) (Nat.lt_of_le_of_lt ?_ h.s)
  refine Nat.mul_le_mul ?_ (Nat.le_mul_of_pos_right _ (by decide))
  omega
theorem RowB.ps {M V n k : Nat} {row : List Rat} (h : RowB M V row) (hn : n ≤ 6) (hk : k ≤ n) (hl : row.length ≤ n + 1) : PSr 0 (terms n k 0 row) := by
  have hm : M * 720 ≠ 0 := Nat.mul_ne_zero h.m (by decide)
  refine PSr.of (W := 0) (V := V * 720) hm h.s2 bd_zero (terms_bd hn hk row 0 (by omega) h.b) (Nat.lt_of_le_of_lt ?_ h.s) (Nat.lt_of_le_of_lt ?_ h.s)
  · refine Nat.mul_le_mul_right _ ?_
    rw [terms_len, Nat.zero_add]
    exact Nat.mul_le_mul_right _ (by omega)
  · refine Nat.mul_le_mul_right _ ?_
    omega
theorem hv_bd {M V n k : Nat} {row : List Rat} (h : ∀ x ∈ row, Bd M V x) (hn : n ≤ 6) (hk : k ≤ n) (hl : row.length ≤ n + 1) : Bd (M * 720) (7 * (V * 720)) (hv n k row) := by
  refine (bd_sum (terms_bd hn hk row 0 (by omega) h)).mono ?_
  rw [terms_len]
  exact Nat.mul_le_mul_right _ (by omega)
def bodyO : Es → Fl := sSeq (sAsgO 4 (aLst aN)) (sSeq (sFor (iA dEnum (aC (xV 1) aN)) (h2 5 6) bodyH) (sAppR 2 (xCall 1 m_total (aC (xV 4) aN))))
@[simp] theorem dEnum_t (l : List D) : dEnum [.tuple l] = .ok (enumF 0 l) := rfl
@[simp] theorem dEnum_l (l : List D) : dEnum [.list l] = .ok (enumF 0 l) := rfl
theorem bodyO_ok {n k M V : Nat} {row : List Rat} (h : RowB M V row) (hn : n ≤ 6) (hk : k ≤ n) (hl : row.length ≤ n + 1) (res : List D) (hr : res.length < 900) (o4 o5 o6 : Option Sl) :
    ∃ p4 p5 p6, bodyO [some (.im (.int n)), some (.im (.tuple (row.map fr))), some (.ow res), some (.im (.int k)), o4, o5, o6] = .nx [some (.im (.int n)), some (.im (.tuple (row.map fr))), some (.ow (res ++ [fr (hv n k row)])), some (.im (.int k)), p4, p5, p6] := by
  obtain ⟨p5, p6, e⟩ := inner_loop hn hk row 0 [] (.tuple (row.map fr)) res o5 o6 (by omega) h.sm (by simp; omega)
  refine ⟨some (.ow ((terms n k 0 row).map fr)), p5, p6, ?_⟩
  have t := total_ok (h.ps hn hk hl)
  have hr' : res.length < 1000 := by omega
  have ap : (aLst aN : FA) = fun _ => .ok [] := rfl
  have e' := e
  simp only [List.nil_append] at e'
  unfold bodyO
  rw [sSeq_ap]
  simp only [ap, sAsgO_ap, fR_ok]
  rw [if_pos (by simp)]
  simp only [List.set, th_nx]
  rw [sSeq_ap]
  simp only [sFor_ap, iA_ap, aC_ap, aN_ap, v0_im, v0_none, v0_nil, v0_ow, xV_s, xV_z, R.bind_ok, fR_ok, dEnum_t]
  rw [e', th_nx, sAppR_ap]
  have tv : (terms n k 0 row).sum = hv n k row := rfl
  rw [tv] at t
  simp [t, hr']
theorem outer_loop {n M V : Nat} {row : List Rat} (h : RowB M V row) (hn : n ≤ 6) (hl : row.length ≤ n + 1) : ∀ (j k : Nat) (res : List D) (o3 o4 o5 o6 : Option Sl), k + j ≤ n + 1 → res.length + j < 900 →
    ∃ p3 p4 p5 p6, forD (hN 3) bodyO ((List.range' k j).map fun t : Nat => .int ((t : Nat) : Int)) [some (.im (.int n)), some (.im (.tuple (row.map fr))), some (.ow res), o3, o4, o5, o6] = .nx [some (.im (.int n)), some (.im (.tuple (row.map fr))), some (.ow (res ++ (List.range' k j).map fun t => fr (hv n t row))), p3, p4, p5, p6]
  | 0, k, res, o3, o4, o5, o6, _, _ => ⟨o3, o4, o5, o6, by simp [forD]⟩
  | j + 1, k, res, o3, o4, o5, o6, hk, hr => by
    obtain ⟨q4, q5, q6, e1⟩ := bodyO_ok (k := k) h hn (by omega) hl res (by omega) o4 o5 o6
    obtain ⟨p3, p4, p5, p6, e2⟩ := outer_loop h hn hl j (k + 1) (res ++ [fr (hv n k row)]) (some (.im (.int (k : Nat)))) q4 q5 q6 (by omega) (by simp; omega)
    refine ⟨p3, p4, p5, p6, ?_⟩
    rw [List.range'_succ, List.map_cons, forD_cons (by simp [hN]) e1, e2]
    simp
theorem honest_of_ok {n M V : Nat} {row : List Rat} (h : RowB M V row) (hn : n ≤ 6) (hl : row.length ≤ n + 1) : m_honest_of [.int n, .tuple (row.map fr)] = .ok (.tuple ((hon n row).map fr)) := by
  obtain ⟨p3, p4, p5, p6, e⟩ := outer_loop h hn hl (n + 1) 0 [] none none none none (by omega) (by simp; omega)
  refine runF_rt ?_
  have dr := dr_n (i := n + 1) (by omega)
  have c1 : ((n : Int) + 1) = ((n + 1 : Nat) : Int) := by omega
  have ap : (aLst aN : FA) = fun _ => .ok [] := rfl
  have eh : (hon n row).map fr = (List.range' 0 (n + 1)).map fun t => fr (hv n t row) := by
    unfold hon
    rw [List.map_map, List.range_eq_range']
    rfl
  rw [List.nil_append, ← eh] at e
  show sSeq (sAsgO 2 (aLst aN)) (sSeq (sFor (iA dR1 (aC (x2 dAddA (xV 0) (xC (.int 1))) aN)) (hN 3) bodyO) (sRet (xA dTupOf (aC (xV 2) aN)))) [some (.im (.int n)), some (.im (.tuple (row.map fr))), none, none, none, none, none] = _
  rw [sSeq_ap]
  simp only [ap, sAsgO_ap, fR_ok]
  rw [if_pos (by simp)]
  simp only [List.set, th_nx]
  rw [sSeq_ap]
  simp only [sFor_ap, iA_ap, aC_ap, aN_ap, x2_ap, xC_ap, v0_im, v0_none, v0_nil, v0_ow, xV_s, xV_z, R.bind_ok, fR_ok, dAddA_int, c1, dr]
  rw [e, th_nx]
  simp
theorem rowB_int {q : List Int} (h : ∀ x ∈ q, x.natAbs ≤ 999) : RowB 1 999 (polyQ q) where
  b x hx := by
    obtain ⟨z, hz, rfl⟩ := List.mem_map.mp hx
    exact bd_int (h z hz)
  m := by decide
  s := by decide +kernel
  s2 := by decide +kernel
theorem polyQ_len (q : List Int) : (polyQ q).length = q.length := by simp [polyQ]
theorem honest_ok {n c : Nat} {q : List Int} (h1 : 1 ≤ n) (hn : n ≤ 6) (hc : c ≤ 99) (h : Qty c q) (hl : q.length ≤ n + 1) : m_honest [.int n, .tuple (q.map .int)] = .ok (.tuple ((hon n (polyQ q)).map fr)) := by
  refine runF_rt ?_
  unfold g_honest
  have hb : RowB 1 999 (polyQ q) := rowB_int fun x hx => by have := h.rng x hx; omega
  have e1 := check_trials_ok (n := (n : Int)) (by omega) (by omega)
  have e2 := check_quantity_ok hc h (by omega)
  have e3 := polynomial_of_ok (q := q) (by omega)
  have e4 := honest_of_ok hb hn (by rw [polyQ_len]; exact hl)
  have e5 : ¬ ((n : Int) + 1 < (q.length : Int)) := by omega
  simp [sSeq_ap, e1, e2, e3, e4, e5]
/-! ### the estimate is linear -/
theorem terms_add (n k : Nat) : ∀ (e : Nat) (a b : List Rat), a.length = b.length → (terms n k e (List.zipWith (· + ·) a b)).sum = (terms n k e a).sum + (terms n k e b).sum
  | e, [], [], _ => by simp [terms, Rat.add_zero]
  | e, x :: a, y :: b, h => by
    have := terms_add n k (e + 1) a b (by simpa using h)
    simp only [List.zipWith, terms, List.sum_cons, this, Rat.add_mul]
    grind
theorem terms_mul (n k : Nat) (c : Rat) : ∀ (e : Nat) (a : List Rat), (terms n k e (a.map (c * ·))).sum = c * (terms n k e a).sum
  | e, [] => by simp [terms, Rat.mul_zero]
  | e, x :: a => by
    have := terms_mul n k c (e + 1) a
    simp only [List.map_cons, terms, List.sum_cons, this, Rat.mul_add, Rat.mul_assoc]
theorem terms_zero (n k : Nat) : ∀ (m e : Nat), (terms n k e (List.replicate m 0)).sum = 0
  | 0, e => by simp [terms]
  | m + 1, e => by
    have := terms_zero n k m (e + 1)
    simp only [List.replicate_succ, terms, List.sum_cons, this, Rat.zero_mul, Rat.add_zero]
theorem terms_app (n k : Nat) : ∀ (e : Nat) (a b : List Rat), (terms n k e (a ++ b)).sum = (terms n k e a).sum + (terms n k (e + a.length) b).sum
  | e, [], b => by simp [terms, Rat.zero_add]
  | e, x :: a, b => by
    have := terms_app n k (e + 1) a b
    simp only [List.cons_append, terms, List.sum_cons, this, List.length_cons, Rat.add_assoc]
    rw [show e + 1 + a.length = e + (a.length + 1) by omega]
theorem hv_pad (n k m : Nat) (a : List Rat) : hv n k (a ++ List.replicate m 0) = hv n k a := by
  unfold hv
  rw [terms_app, terms_zero, Rat.add_zero]
end HN
end
section
set_option linter.all false
set_option maxRecDepth 100000
set_option maxHeartbeats 1000000
set_option exponentiation.threshold 20000
namespace HN
open PySem L2 HL HM
/-! ### tools for the laws -/
theorem seqN {g1 g2 : Es → Fl} {δ δ' : Es} {r : Fl} (h1 : g1 δ = .nx δ') (h2 : g2 δ' = r) : sSeq g1 g2 δ = r := by
  rw [sSeq_ap, h1, th_nx, h2]
theorem dr_N {i : Nat} (hi : i ≤ 1000) : dR1 [.int (i : Int)] = .ok ((List.range i).map fun t : Nat => .int ((t : Nat) : Int)) := by
  rw [dr_n hi, List.range_eq_range']
theorem dr_Z {z : Int} {i : Nat} (e : z = (i : Int)) (hi : i ≤ 1000) : dR1 [.int z] = .ok ((List.range i).map fun t : Nat => .int ((t : Nat) : Int)) := by
  rw [e, dr_N hi]
theorem xLc_ok {α : Type} {fi : FA} {γ : D → En → R En} {fe : FE} {vs : List Nat} {ρ : En} {f g : α → D} {l : List α} (h1 : fi ρ = .ok (l.map f)) (h2 : l.length ≤ 1000)
    (h3 : ∀ a ∈ l, ∃ ρ2, γ (f a) (wipeD ρ vs) = .ok ρ2 ∧ fe ρ2 = .ok (g a)) : xLc fi γ (fun _ => .ok true) fe vs ρ = .ok (.list (l.map g)) := by
  unfold xLc
  rw [h1, R.bind_ok, List.length_map, if_pos h2, lc_map h3, R.bind_ok]
theorem dIx_mT {α : Type} {l : List α} {f : α → D} {j : Nat} (hj : j < l.length) : dIx (.tuple (l.map f)) (.int (j : Int)) = .ok (f l[j]) := dIx_tn rfl (by simp [hj])
theorem dIx_mL {α : Type} {l : List α} {f : α → D} {j : Nat} (hj : j < l.length) : dIx (.list (l.map f)) (.int (j : Int)) = .ok (f l[j]) := dIx_ln rfl (by simp [hj])
theorem dRepT_ok {xs : List D} {z : Int} {k : Nat} (e : z = (k : Int)) (hk : k ≤ 1000) (hx : xs.length ≤ 1000) : dRepT (.tuple xs) (.int z) = .ok (.tuple (List.replicate k xs).flatten) := by
  subst e
  simp only [dRepT]
  rw [if_pos ⟨by omega, by omega, hx⟩]
  rfl
theorem rep1 {α : Type} (a : α) : ∀ k, (List.replicate k [a]).flatten = List.replicate k a
  | 0 => rfl
  | k + 1 => by rw [List.replicate_succ, List.flatten_cons, rep1 a k]; rfl
theorem dAddA_tt {a b : List D} (h : a.length + b.length ≤ 1000) : dAddA (.tuple a) (.tuple b) = .ok (.tuple (a ++ b)) := by simp only [dAddA, if_pos h]
theorem dAddA_ll {a b : List D} (h : a.length + b.length ≤ 1000) : dAddA (.list a) (.list b) = .ok (.list (a ++ b)) := by simp only [dAddA, if_pos h]
theorem hon_at {n k : Nat} {row : List Rat} (hk : k ≤ n) : dIx (.tuple ((hon n row).map fr)) (.int (k : Int)) = .ok (fr (hv n k row)) := by
  rw [dIx_mT (by rw [hon_len]; omega)]
  simp [hon]
theorem one_ok {x : Int} {m : Int} (hm : 0 < m) (hm' : m ≤ 1000) : ∃ n : Nat, (1 : Int) ≤ n ∧ (n : Int) ≤ m ∧ 1 + x % m = (n : Int) := by
  have h1 := Int.emod_nonneg x (show m ≠ 0 by omega)
  have h2 := Int.emod_lt_of_pos x hm
  exact ⟨(1 + x % m).toNat, by omega, by omega, by omega⟩
theorem psm_two {M V : Nat} {a b : Rat} (ha : Bd M V a) (hb : Bd M V b) (hM : M ≠ 0) (h1 : M < 2 ^ 2000) (h2 : 2 * V * M < 2 ^ 2000) : PSm 0 [(a.num, a.den), (b.num, b.den)] := by
  have hv : V * M < 2 ^ 2000 := Nat.lt_of_le_of_lt (Nat.mul_le_mul_right _ (by omega)) h2
  have s1 := ha.sm hM h1 hv
  have s2 := hb.sm hM h1 hv
  have s0 : Sm 0 := (bd_zero (M := 1)).sm (by decide) z2' (by rw [Nat.zero_mul]; exact Nat.two_pow_pos _)
  refine ⟨s0, s1.p, ?_, s2.p, ?_⟩
  · rw [pv_fr, Rat.zero_add]; exact s1
  · rw [pv_fr, pv_fr, Rat.zero_add]
    exact (ha.add hb).sm hM h1 (by rw [← Nat.two_mul]; exact h2)
where z2' : 1 < 2 ^ 2000 := by decide +kernel
end HN
end
section
set_option Elab.async false
set_option linter.all false
set_option maxRecDepth 100000
set_option maxHeartbeats 4000000
namespace HL
open PySem PySem.Spec PyProof.Rows L2
/-! ### a try whose body is one call, and whose suite looks at the exception -/
section
variable {K : PySem.W.Frag} {ca : String → Addr} {E : L2.St → XK} {n : Nat} {P : L2.St → Prop}
def CGp (P : L2.St → Prop) (K : PySem.W.Frag) {α β : Type} (rel : Hp → β → α → Prop) (t : L2.St → Hp → (β → Hp → Prop) → Prop) (f : En → R α) : Prop :=
  ∀ (σ : L2.St) (ρ : En) (G H : Hp) (Q : β → Hp → Prop), P σ → Same G H → RelE K G σ ρ → (∃ a, f ρ = .ok a ∧ ∀ b G' H', Ex4 G H G' H' → rel G' b a → Q b H') → t σ H Q
abbrev CEp (P : L2.St → Prop) (K : PySem.W.Frag) (t : TE) (f : FE) : Prop := CGp P K (rD K) t f
abbrev CAp (P : L2.St → Prop) (K : PySem.W.Frag) (t : TA) (f : FA) : Prop := CGp P K (rDs K) t f
theorem cep_of {t : TE} {f : FE} (h : CE K ca E0' t f) : CEp P K t f := fun σ ρ G H Q _ sg re ⟨a, e, q⟩ => h σ ρ G H Q sg re (by rw [e]; exact q)
theorem cep_isE {i : Nat} {a C B : Addr} {b : Bool} (hP : ∀ σ, P σ → σ[i]? = some (some (.ref a))) (hk : PySem.W.kitOne K (.ref C) (.ref B) = some b) : CEp P K (tCB (rIsE K C a) (tCons (tVar i) (tCons (tC (.ref B)) tNil))) (xC (.bool b)) := fun σ ρ G H Q p sg re ⟨x, e, q⟩ => by
  cases e
  exact ⟨.ref a, hP σ p, .ref B, .ref B, b, rfl, fun u hu => hu, hk, q (.bl b) G H (Ex4.refl sg) (.bl b)⟩
theorem cap_nil : CAp P K tNil aN := fun σ ρ G H Q _ sg re ⟨a, e, q⟩ => by
  cases e
  exact q [] G H (Ex4.refl sg) .nil
theorem cap_cons {te : TE} {t : TA} {f : FE} {g : FA} (h : CEp P K te f) (hr : CAp P K t g) : CAp P K (tCons te t) (aC f g) := fun σ ρ G H Q p sg re ⟨a, e, q⟩ => by
  unfold aC at e
  obtain ⟨x, ex, e⟩ := bind_ok e
  obtain ⟨r, er, e⟩ := bind_ok e
  cases e
  refine h σ ρ G H _ p sg re ⟨x, ex, fun v G1 H1 e1 d1 => ?_⟩
  exact hr σ ρ G1 H1 _ p e1.s (re.mono e1.g) ⟨r, er, fun vs G2 H2 e2 d2 => q _ G2 H2 (e1.trans e2) (.cons (dp_mono e2.g d1) d2)⟩
theorem cep_lst {t : TA} {f : FA} (h : CAp P K t f) : CEp P K (tLst t) (xA dLst f) := fun σ ρ G H Q p sg re ⟨a, e, q⟩ => by
  unfold xA at e
  obtain ⟨ds, ed, e⟩ := bind_ok e
  unfold dLst at e
  split at e
  · rename_i hl
    cases e
    refine h σ ρ G H _ p sg re ⟨ds, ed, fun vs G1 H1 e1 d1 => ⟨by rw [dps_len d1]; exact sz1000 hl, fun pp hp => ?_⟩⟩
    exact q (.ref pp) (upd G1 pp (.lst vs)) (upd H1 pp (.lst vs)) (e1.trans (Ex4.new e1.s hp)) (.lst (SqL.of upd_same) (dps_mono (same_upd (e1.s.free hp)) d1))
  · cases e
theorem cep_op {r : R2} {g : D → D → R D} {ta tb : TE} {fa fb : FE} (ho : OD K ca r g) (ha : CEp P K ta fa) (hb : CEp P K tb fb) : CEp P K (tOp r ta tb) (x2 g fa fb) := fun σ ρ G H Q p sg re ⟨a, e, q⟩ => by
  unfold x2 at e
  obtain ⟨x, ex, e⟩ := bind_ok e
  obtain ⟨y, ey, e⟩ := bind_ok e
  refine ha σ ρ G H _ p sg re ⟨x, ex, fun v G1 H1 e1 d1 => ?_⟩
  refine hb σ ρ G1 H1 _ p e1.s (re.mono e1.g) ⟨y, ey, fun u G2 H2 e2 d2 => ?_⟩
  refine ho (fun _ _ _ => False) v u G2 H2 Q x y e2.s (dp_mono e2.g d1) d2 ?_
  rw [e]
  exact fun b G3 H3 e3 d3 => q b G3 H3 ((e1.trans e2).trans e3) d3
/-! suites of assignments -/
def CSp (P : L2.St → Prop) (K : PySem.W.Frag) (n : Nat) (t : TS) (g : Es → Fl) : Prop :=
  ∀ (G0 H0 G H : Hp) (σ : L2.St) (δ : Es) (Dd : Ends), P σ → RelS K n G0 H0 G H σ δ → (∃ δ', g δ = .nx δ' ∧ ∀ σ' G' H', P σ' → RelS K n G0 H0 G' H' σ' δ' → Dd.nx σ' H') → t Dd σ H
theorem csp_asg {te : TE} {f : FE} {i : Nat} (hP : ∀ σ v, P σ → P (σ.set i v)) (h : CEp P K te f) : CSp P K n (tAsg te (gName i)) (sAsg i f) := fun G0 H0 G H σ δ Dd p r ⟨δ', e, q⟩ => by
  unfold sAsg at e
  cases hf : f (v0 δ) with
  | ok d =>
    rw [hf, fR_ok] at e
    split at e
    · rename_i hi
      cases e
      refine h σ (v0 δ) G H _ p r.s r.re ⟨d, hf, fun v G1 H1 e1 d1 => ?_⟩
      exact q _ G1 H1 (hP _ _ p) ((r.grow e1).set_im (by rw [← r.ld]; exact hi) d1)
    · cases e
  | exc c => rw [hf] at e; cases e
  | bad => rw [hf] at e; cases e
theorem csp_seq {t u : TS} {g1 g2 : Es → Fl} (h1 : CSp P K n t g1) (h2 : CSp P K n u g2) : CSp P K n (tSeq t u) (sSeq g1 g2) := fun G0 H0 G H σ δ Dd p r ⟨δ', e, q⟩ => by
  unfold sSeq at e
  cases hf : g1 δ with
  | nx δ1 =>
    rw [hf] at e
    exact h1 G0 H0 G H σ δ { Dd with nx := u Dd } p r ⟨δ1, hf, fun σ' G' H' p' r' => h2 G0 H0 G' H' σ' δ1 Dd p' r' ⟨δ', e, q⟩⟩
  | rt d => rw [hf] at e; cases e
  | bk d => rw [hf] at e; cases e
  | ct d => rw [hf] at e; cases e
  | exc d => rw [hf] at e; cases e
  | bad => rw [hf] at e; cases e
theorem RelS.set_any {G0 H0 G H : Hp} {σ : L2.St} {δ : Es} (r : RelS K n G0 H0 G H σ δ) {i : Nat} (v : Option V) : RelS K n G0 H0 G H (σ.set i v) (δ.set i none) := by
  have key : ∀ (j : Nat) (s : Sl), (δ.set i none)[j]? = some (some s) → i ≠ j ∧ δ[j]? = some (some s) := fun j s h => by
    by_cases e : i = j
    · subst e
      by_cases hl : i < δ.length
      · rw [List.getElem?_set_self hl] at h; cases h
      · rw [List.getElem?_eq_none (by rw [List.length_set]; omega)] at h; cases h
    · exact ⟨e, by rwa [List.getElem?_set_ne e] at h⟩
  refine ⟨by simp [r.ls], by simp [r.ld], r.e0, fun j d hj => ?_, fun j ds ho hj => ?_, fun j k a ds es hjk ho1 ho2 hj hk sj sk => ?_⟩
  · obtain ⟨e, hj⟩ := key j _ hj
    rw [List.getElem?_set_ne e]
    exact r.im j d hj
  · obtain ⟨e, hj⟩ := key j _ hj
    rw [List.getElem?_set_ne e]
    exact r.own j ds ho hj
  · obtain ⟨e1, hj⟩ := key j _ hj
    obtain ⟨e2, hk⟩ := key k _ hk
    rw [List.getElem?_set_ne e1] at sj
    rw [List.getElem?_set_ne e2] at sk
    exact r.df j k a ds es hjk ho1 ho2 hj hk sj sk
/-- the class's name decides what the suite does -/
def sTryX (i : Nat) (Cr : List String) (f : FE) (hd : String → Es → Fl) : Es → Fl := fun δ => match f (v0 δ) with
  | .ok _ => .nx δ
  | .exc c => if c ∈ Cr then (match hd c (δ.set i none) with | .nx δ' => .nx (δ'.set i none) | _ => .bad) else .bad
  | .bad => .bad
theorem cs_tryX {Cr : List String} {i : Nat} {te : WX → TE} {f : FE} {hd : String → Es → Fl} {Cl : Value} {ts : Addr → Value → Option Addr → TS} (hi : i < n)
    (hb : ∀ W : WX, CE K ca (fun σ c d H => W c d σ H) (te W) f) (hL : ∀ c ∈ Cr, exL c = none) (hx : ∀ c ∈ Cr, PySem.W.exmOne K (.ref (ca c)) Cl = some true)
    (hs : ∀ c ∈ Cr, ∀ a : Addr, CSp (fun σ => σ[i]? = some (some (.ref a))) K n (ts a (.ref (ca c)) none) (hd c)) :
    CS K ca E n (fun D σ H => tDrop (te (wMA K i (fun c d σ H => E σ c d H) D [(Cl, ts)])) D σ H) (sTryX i Cr f hd) := fun G0 H0 G H σ δ Dd r g => by
  refine hb _ σ (v0 δ) G H _ r.s r.re ?_
  unfold sTryX at g
  cases hf : f (v0 δ) with
  | ok d =>
    rw [hf] at g
    exact fun v G1 H1 e1 _ => g σ G1 H1 (r.grow e1)
  | bad => rw [hf] at g; exact g.elim
  | exc c =>
    rw [hf] at g
    simp only at g
    split at g
    · rename_i hc
      intro H1 s1
      rw [EX.plain (hL c hc)]
      refine ⟨true, hx c hc, fun _ a ha => ?_, fun z => by cases z⟩
      have r1 : RelS K n G0 H0 G H1 (σ.set i (some (.ref a))) (δ.set i none) := (r.growH s1).set_any _
      refine hs c hc a G0 H0 G H1 _ _ _ (List.getElem?_set_self (by rw [r.ls]; exact hi)) r1 ?_
      cases hh : hd c (δ.set i none) with
      | nx δ' =>
        rw [hh] at g
        exact ⟨δ', rfl, fun σ' G' H' _ r' => g _ _ _ (r'.set_any none)⟩
      | rt d => rw [hh] at g; exact g.elim
      | bk d => rw [hh] at g; exact g.elim
      | ct d => rw [hh] at g; exact g.elim
      | exc d => rw [hh] at g; exact g.elim
      | bad => rw [hh] at g; exact g.elim
    · exact g.elim
end
section
variable {X : Cx} {nm : Str} {i : Nat} {ec : Stmt} {pos p' np : Pos} {x : Str}
variable {ca : String → Addr} {E : L2.St → XK} {n : Nat} {te : WX → TE}
theorem def_tryX {Cr : List String} {f : FE} {hd : String → Es → Fl} {Cl : Value} {ts : Addr → Value → Option Addr → TS} {s0 : Stmt} {su : List Stmt} (hs : X.stack = X.env :: X.outer) (hf : X.env.frame = some X.env.locals) (hN : X.N.Nodup) (hi : X.N[i]? = some nm) (hln : X.env.kindOf nm = some .local) (tk : Takes X (fun c d σ H => E σ c d H))
    (hb : ∀ (W : WX) (pn : List (Addr × Obj)) (xe : Value → Shared → Prop), Takes (X.tr pn xe) W → PassesOwn (model X.prog X.w) X.A X.env xe → PSs (X.tr pn xe) [ec] (tDrop (te W)))
    (hc : ∀ W : WX, CE X.K ca (fun σ c d H => W c d σ H) (te W) f) (nx : Names X x Cl)
    (ok : ∀ (a : Addr) (o : Obj) (k : Value) (d : Option Addr) (pn : List (Addr × Obj)), Zc k d o → (∃ vs, o.data = .fields vs) → PSs (X.suite a ((a, o) :: pn)) (s0 :: su) (ts a k d))
    (hL : ∀ c ∈ Cr, exL c = none) (hx : ∀ c ∈ Cr, PySem.W.exmOne X.K (.ref (ca c)) Cl = some true)
    (hsu : ∀ c ∈ Cr, ∀ a : Addr, CSp (fun σ => σ[i]? = some (some (.ref a))) X.K n (ts a (.ref (ca c)) none) (hd c)) (hin : i < n) :
    ∃ t, PS X (.Try [ec] [.ExceptHandler (some (.Name x np)) (some nm) (s0 :: su) p'] [] [] pos) t ∧ CS X.K ca E n t (sTryX i Cr f hd) :=
  ⟨_, ps_tryA hs hf hN hi hln tk hb (.cons nx ok .nil), cs_tryX hin hc hL hx hsu⟩
theorem ey_last {s : Stmt} {g : Es → Fl} {t : TS} (h : PSs X [s] t) (c : CS X.K ca E n t g) : ∃ t, PSs X [s] t ∧ CS X.K ca E n t g := ⟨t, h, c⟩
theorem ey_rest {b : List Stmt} {g : Es → Fl} {t : TS} (h : PSs X b t) (c : CS X.K ca E n t g) : ∃ t, PSs X b t ∧ CS X.K ca E n t g := ⟨t, h, c⟩
theorem ey_cons {s : Stmt} {b : List Stmt} {g1 g2 : Es → Fl} {t : TS} (h : PS X s t) (c : CS X.K ca E n t g1) (r : ∃ t, PSs X b t ∧ CS X.K ca E n t g2) : ∃ t, PSs X (s :: b) t ∧ CS X.K ca E n t (sSeq g1 g2) :=
  let ⟨_, a, d⟩ := r
  ⟨_, pss_cons h a, cs_seq c d⟩
theorem ey_try {s : Stmt} {b : List Stmt} {g1 g2 : Es → Fl} (h : ∃ t, PS X s t ∧ CS X.K ca E n t g1) (r : ∃ t, PSs X b t ∧ CS X.K ca E n t g2) : ∃ t, PSs X (s :: b) t ∧ CS X.K ca E n t (sSeq g1 g2) :=
  let ⟨_, a, d⟩ := r
  let ⟨_, p, q⟩ := h
  ⟨_, pss_cons p a, cs_seq q d⟩
theorem fin_ey {N : List Str} {p k : Nat} {b : List Stmt} {g : Es → Fl} {vs : List V} {H : Hp} {Q : VK} {E : XK} (hN : N.length = p + k) (h : ∃ t, PSs X b t ∧ CS X.K ca (fun _ => E) N.length t g) (sp : spD X.K ca p (runF k g) vs H Q E) :
    ∃ t, PSs X b t ∧ t { nx := fun _ H' => Q .non H', rt := Q } (start N vs) H :=
  let ⟨t, a, c⟩ := h
  ⟨t, a, run_def hN c sp⟩
end
section
variable {K : PySem.W.Frag} {ca : String → Addr} {n : Nat} {P : L2.St → Prop}
def tIsL (K : PySem.W.Frag) (ca : String → Addr) (C a : Addr) (i : Nat) : List String → TA
  | [] => tNil
  | A :: r => tCons (tCB (rIsE K C a) (tCons (tVar i) (tCons (tC (.ref (ca A))) tNil))) (tIsL K ca C a i r)
def isL (c : String) : List String → FA
  | [] => aN
  | A :: r => aC (xC (.bool (subX c A))) (isL c r)
theorem cap_isL {i : Nat} {a : Addr} {c : String} (hP : ∀ σ, P σ → σ[i]? = some (some (.ref a))) : ∀ {l : List String}, (∀ A ∈ l, PySem.W.kitOne K (.ref (ca c)) (.ref (ca A)) = some (subX c A)) → CAp P K (tIsL K ca (ca c) a i l) (isL c l)
  | [], _ => cap_nil
  | A :: r, h => cap_cons (cep_isE hP (h A List.mem_cons_self)) (cap_isL hP fun B hB => h B (List.mem_cons_of_mem _ hB))
def tClX (K : PySem.W.Frag) (T : Addr → Addr → TS) : Addr → Value → Option Addr → TS := fun a k d Dd σ H => ∃ C, k = .ref C ∧ d = none ∧ ExcC K C ∧ T C a Dd σ H
theorem pss_clX {X : Cx} {b : List Stmt} {T : Addr → Addr → TS} {a : Addr} {k : Value} {d : Option Addr} (h : ∀ C, k = .ref C → d = none → ExcC K C → PSs X b (T C a)) : PSs X b (tClX K T a k d) :=
  ⟨fun pins s σ H D I ⟨C, h1, h2, h3, q⟩ => (h C h1 h2 h3).run pins s σ H D I q⟩
theorem csp_clX {T : Addr → Addr → TS} {a : Addr} {c : String} {g : Es → Fl} (hc : ExcC K (ca c)) (h : CSp P K n (T (ca c) a) g) : CSp P K n (tClX K T a (.ref (ca c)) none) g := fun G0 H0 G H σ δ Dd p r q =>
  ⟨ca c, rfl, rfl, hc, h G0 H0 G H σ δ Dd p r q⟩
theorem subX_base (c : String) : subX c "EstimateError" = true := by simp [subX]
theorem keepP {i f : Nat} {a : Addr} (h : f ≠ i) : ∀ (σ : L2.St) (v : Option V), σ[i]? = some (some (.ref a)) → (σ.set f v)[i]? = some (some (.ref a)) := fun σ v e => by rw [List.getElem?_set_ne h]; exact e
end
end HL
end
section
set_option Elab.async false
set_option linter.all false
set_option maxRecDepth 100000
set_option maxHeartbeats 4000000
namespace HL
open PySem PySem.Spec PyProof.Rows L2
/-! ### texts -/
section
variable {K : PySem.W.Frag} {ca : String → Addr} {E : L2.St → XK} {n : Nat}
theorem le_line {m : Nat} (h : m ≤ 100000) : m ≤ sizeLine := Nat.le_trans h (by decide)
def dStrI : List D → R D
  | [.int i] => if i.natAbs.log2 < 1920 then .ok (.str (toString i)) else .bad
  | _ => .bad
theorem bd_strI : BD K ca (fun xs H Q => ∃ i, xs = [.int i] ∧ i.natAbs.log2 < 1920 ∧ Q (.str (toString i)) H) dStrI := fun E vs G H Q ds sg h g => by
  unfold dStrI at g
  split at g
  · obtain ⟨v, rfl, hv⟩ := dps1 h
    cases dp_int hv
    split at g
    · rename_i hl
      exact ⟨_, rfl, hl, g.here (b := V.str _) sg (.str _)⟩
    · exact g.elim
  · exact g.elim
def dFmt : D → R D
  | .str y => if y.length ≤ 100000 then .ok (.str y) else .bad
  | .int i => if i.natAbs.log2 < 1920 then .ok (.str (toString i)) else .bad
  | _ => .bad
theorem ce_fmt {te : TE} {f : FE} (h : CE K ca E te f) : CE K ca E (tFmt te) (x1 dFmt f) := fun σ ρ G H Q sg re gg =>
  h.bind sg re gg fun d v G1 H1 s1 re1 r1 g1 => by
    unfold dFmt at g1
    split at g1
    · cases dp_str r1
      split at g1
      · rename_i hl
        exact .inl ⟨_, rfl, le_line hl, g1.here (b := V.str _) s1.s (.str _)⟩
      · exact g1.elim
    · cases dp_int r1
      split at g1
      · rename_i hl
        exact .inr ⟨_, rfl, hl, g1.here (b := V.str _) s1.s (.str _)⟩
      · exact g1.elim
    · exact g1.elim
def jsF : List FE → Str → FE
  | [], acc => fun _ => .ok (.str acc)
  | f :: fs, acc => fun ρ => (f ρ).bind fun d => match d with
    | .str y => if (acc ++ y).length ≤ 100000 then jsF fs (acc ++ y) ρ else .bad
    | _ => .bad
inductive CJs (K : PySem.W.Frag) (ca : String → Addr) (E : L2.St → XK) : List TE → List FE → Prop
  | nil : CJs K ca E [] []
  | cons {t : TE} {f : FE} {ts : List TE} {fs : List FE} (h : CE K ca E t f) (r : CJs K ca E ts fs) : CJs K ca E (t :: ts) (f :: fs)
theorem ce_js {ts : List TE} {fs : List FE} (h : CJs K ca E ts fs) : ∀ (acc : Str) (σ : L2.St) (ρ : En) (G H : Hp) (Q : VK), Same G H → RelE K G σ ρ → Gd ca (E σ) (rD K) G H Q (jsF fs acc ρ) → tJs ts acc σ H fun out H1 => Q (.str out) H1 := by
  induction h with
  | nil => exact fun acc σ ρ G H Q sg re g => g.here (b := V.str _) sg (.str _)
  | cons h r ih =>
    intro acc σ ρ G H Q sg re g
    refine h.bind sg re g fun d v G1 H1 s1 re1 r1 g1 => ?_
    cases d with
    | str y =>
      cases dp_str r1
      simp only at g1
      split at g1
      · rename_i hl
        exact ⟨_, rfl, le_line hl, ih _ σ ρ G1 H1 Q s1.s re1 g1⟩
      · exact g1.elim
    | _ => exact g1.elim
theorem ce_joined {ts : List TE} {fs : List FE} (h : CJs K ca E ts fs) : CE K ca E (fun σ H Q => tJs ts Str.empty σ H fun out H1 => Q (.str out) H1) (jsF fs Str.empty) := fun σ ρ G H Q sg re gg => ce_js h Str.empty σ ρ G H Q sg re gg
def strsOf : List D → Option (List Str)
  | [] => some []
  | .str y :: r => (strsOf r).map (y :: ·)
  | _ => none
theorem strs_map : ∀ {ds : List D} {ys : List Str}, strsOf ds = some ys → ds = ys.map .str
  | [], ys, h => by cases h; rfl
  | .str y :: r, ys, h => by
    unfold strsOf at h
    rw [Option.map_eq_some_iff] at h
    obtain ⟨zs, hz, e⟩ := h
    rw [← e, strs_map hz]
    rfl
  | .none :: r, ys, h => by cases h
  | .bool _ :: r, ys, h => by cases h
  | .int _ :: r, ys, h => by cases h
  | .list _ :: r, ys, h => by cases h
  | .tuple _ :: r, ys, h => by cases h
  | .dict _ :: r, ys, h => by cases h
theorem strs_vals {H : Hp} : ∀ {ys : List Str} {vs : List V}, DpAll K H vs (ys.map .str) → vs = ys.map V.str
  | [], _, h => by cases h; rfl
  | y :: ys, _, h => by
    cases h with
    | cons h r => rw [dp_str h, strs_vals r]; rfl
def dJoin : D → D → R D
  | .str a, .list ds => match strsOf ds with
    | some ys => if (ys.map (·.length)).sum + ys.length * a.length ≤ 100000 then .ok (.str (Txt.join a ys)) else .bad
    | none => .bad
  | _, _ => .bad
def xJoin (f g : FE) : FE := fun ρ => (f ρ).bind fun d => match d with
  | .str a => (g ρ).bind fun b => dJoin (.str a) b
  | _ => .bad
theorem ce_join {to te : TE} {f g : FE} (ho : CE K ca E to f) (he : CE K ca E te g) : CE K ca E (tM1 (fun x xs H Q => ∃ a p, ∃ ys : List Str, x = .str a ∧ xs = [.ref p] ∧ (SqL K H p (ys.map V.str) ∨ SqT K H p (ys.map V.str)) ∧
      (ys.map (·.length)).sum + ys.length * a.length ≤ 16777216 ∧ Q (.str (Txt.join a ys)) H) to te) (xJoin f g) := fun σ ρ G H Q sg re gg => by
  refine ho.bind sg re gg fun d v G1 H1 s1 re1 r1 g1 => ?_
  cases d with
  | str a =>
    cases dp_str r1
    refine ⟨⟨_, rfl⟩, ?_⟩
    refine he.bind s1.s re1 g1 fun b u G2 H2 s2 re2 r2 g2 => ?_
    cases b with
    | list ds =>
      simp only [dJoin] at g2
      split at g2
      · rename_i ys hy
        split at g2
        · rename_i hl
          obtain ⟨p, xs, rfl, sa, ra⟩ := dp_lst r2
          rw [strs_map hy] at ra
          have e := strs_vals ra
          exact ⟨a, p, ys, rfl, rfl, .inl (by rw [← e]; exact s2.s.seq sa), Nat.le_trans hl (by decide), g2.here (b := V.str _) s2.s (.str _)⟩
        · exact g2.elim
      · exact g2.elim
    | _ => exact g2.elim
  | _ => exact g1.elim
end
end HL
end
section
set_option Elab.async false
set_option linter.all false
set_option maxRecDepth 100000
set_option maxHeartbeats 4000000
namespace PySem.W
open PySem PySem.Spec PySem.Calls PyProof.Rows Builtin
section
variable {prog : Program} {w : World} {A : Around} {E : Value → Shared → Prop} {s : Shared} {K : Frag} {x C f : Addr} {ox : Obj} {od : Option Obj} {b : Value}
theorem ne_obj (hu : A.units < cLine) (X : K.In s.heap) (I : InstAt s.heap x ox C od) (he : findIn K (.ref C) "__eq__" = some (some (.ref f))) (hf : isFn K (.ref f) = true) {Q : Fin → Shared → Prop}
    (hcall : wpAny (model prog w) A (call (.ref f) [.ref x, b]) (fun v s' => ∃ r, v = .bool r ∧ Q (.done (.ret (.bool (!r)))) s') E s) :
    wpAny (model prog w) A (Builtin.«object.__ne__» ⟨[.ref x, b], []⟩) Q E s := by
  unfold Builtin.«object.__ne__»
  repeat (first
    | with_reducible refine wpAny_cRoomFor hu ?_
    | (refine wpAny_bind (m := callSpecialIfBound? (.ref x) (Str.ofString "__eq__") [b])
        (ifBound_K X I he hf (wpAny_mono hcall (fun r s' hr => by
          obtain ⟨b, rfl, hq⟩ := hr
          repeat (first | exact hq | exact wpAny_pure hq | exact wpAny_truthy_bool hq | (refine wpAny_bind (m := truthy (.bool _)) (wpAny_truthy_bool ?_)) | wp_step)) fun _ _ e => e)))
    | wp_step)
theorem ne_try (hu : A.units + 1 < cLine) (X : K.In s.heap) (I : InstAt s.heap x ox C od) (hn : findIn K (.ref C) "__ne__" = some (some (.builtin "object.__ne__"))) (he : findIn K (.ref C) "__eq__" = some (some (.ref f))) (hf : isFn K (.ref f) = true)
    (hm : mroIn K C (.type "object") = some true) {Q : Option Value → Shared → Prop}
    (hcall : wpAny (model prog w) A.in1 (call (.ref f) [.ref x, b]) (fun v s' => ∃ r, v = .bool r ∧ Q (some (.bool (!r))) s') E s) :
    wpAny (model prog w) A (tryCompare (.ref x) "__ne__" b) Q E s := by
  have S := PySem.F.cmp_object.ne
  simp only [tryCompare]
  have go : wpAny (model prog w) A (call (.builtin "object.__ne__") [.ref x, b]) (fun v s' => ∃ r, v = .bool r ∧ Q (some (.bool r)) s') E s :=
    wpAny_call (codeAny_call_builtin S.plain PySem.F.cmpEntry_ne (check_slot (i := "object.__ne__") (owner := "object") (n := "__ne__") PySem.F.cmpKind_ne PySem.F.cmpSplit_ne (I.type.andThen (looks_mroIn X hm)) (PySem.F.cmpArgs_ne _ _)
      (ne_obj (A := A.in1) hu X I he hf (wpAny_mono hcall (fun v s' hv => by
        obtain ⟨r, rfl, hq⟩ := hv
        exact ⟨r, rfl, ⟨_, rfl, hq⟩⟩) fun _ _ e => e))))
  refine wpAny_bind (m := callSpecialIfBound? (.ref x) (Str.ofString "__ne__") [b]) ?_
  simp only [callSpecialIfBound?, bindSpecialIfBound?]
  refine wpAny_holding (wpAny_bind (wpAny_bind (wpAny_bind (I.type.here ((looks_findIn X hn).here ?_)))))
  simp only [S.bind]
  refine wpAny_bind (wpAny_askSetting (wpAny_ite ?_))
  have fin : wpAny (model prog w) A (call (.builtin "object.__ne__") ([.ref x] ++ [b]) >>= fun v => pure (some v)) (fun r s' => ∃ v, r = some (.bool v) ∧ Q (some (.bool v)) s') E s :=
    wpAny_bind (wpAny_mono go (fun v s' h' => by obtain ⟨r, rfl, hq⟩ := h'; exact wpAny_pure ⟨r, rfl, hq⟩) fun _ _ h' => h')
  have fin2 : ∀ {T : Option Value → Sem (Option Value)}, (∀ v, T (some (.bool v)) = pure (some (.bool v))) → wpAny (model prog w) A (call (.builtin "object.__ne__") ([.ref x] ++ [b]) >>= fun v => pure (some v)) (fun r s' => wpAny (model prog w) A (T r) Q E s') E s := fun {T} hT =>
    wpAny_mono fin (fun r s' h' => by obtain ⟨v, rfl, hq⟩ := h'; rw [hT]; exact wpAny_pure hq) fun _ _ h' => h'
  split
  · exact wpAny_bind (wpAny_pure (wpAny_pure (by exact fin2 (T := fun a => match a with | some Value.notImplemented => pure none | none => pure none | some v => pure (some v)) fun _ => rfl)))
  · exact wpAny_tryCatch (wpAny_bind (wpAny_pure (wpAny_pure (by exact fin2 (T := fun a => match a with | some Value.notImplemented => pure none | none => pure none | some v => pure (some v)) fun _ => rfl))))
theorem ne_K (hu : A.units + 1 < cLine) (X : K.In s.heap) (I : InstAt s.heap x ox C od) (hb : Looks (model prog w) s.heap (typeOf b) (.ref C)) (hn : findIn K (.ref C) "__ne__" = some (some (.builtin "object.__ne__"))) (he : findIn K (.ref C) "__eq__" = some (some (.ref f))) (hf : isFn K (.ref f) = true)
    (hm : mroIn K C (.type "object") = some true) {Q : Value → Shared → Prop}
    (hcall : wpAny (model prog w) A.in1 (call (.ref f) [.ref x, b]) (fun v s' => ∃ r, v = .bool r ∧ Q (.bool (!r)) s') E s) :
    wpAny (model prog w) A (richCompare .NotEq (.ref x) b) Q E s := by
  unfold richCompare
  simp only [oneThing_ref]
  refine wpAny_holding (wpAny_bind (wpAny_cRoomFor (Nat.lt_of_succ_lt hu) ?_))
  rw [cmpInfo_NotEq]
  dsimp only
  refine wpAny_bind (I.type.here (wpAny_bind (hb.here ?_)))
  rw [show (Value.ref C != Value.ref C) = false from by simp]
  simp only [Bool.false_eq_true, if_false]
  refine wpAny_bind (wpAny_pure ?_)
  simp only [Bool.false_eq_true, if_false]
  have one : wpAny (model prog w) A (tryCompare (.ref x) "__ne__" b) (fun r s' => ∃ v, r = some (.bool v) ∧ Q (.bool v) s') E s :=
    ne_try hu X I hn he hf hm (wpAny_mono hcall (fun v s' hv => by obtain ⟨r, rfl, hq⟩ := hv; exact ⟨r, rfl, _, rfl, hq⟩) fun _ _ e => e)
  refine wpAny_bind (wpAny_mono one (fun r s' z => ?_) fun _ _ e => e)
  obtain ⟨v, rfl, hq⟩ := z
  exact wpAny_pure hq
end
end PySem.W
end
section
set_option Elab.async false
set_option linter.all false
set_option maxRecDepth 100000
set_option maxHeartbeats 4000000
namespace HL
open PySem PySem.Spec PyProof.Rows L2
/-! ### tuples whose object is known -/
section
variable {X : Cx}
theorem plain_new {h : Heap} {vs : List Value} : (h.push { cls := .type "tuple", data := .seq vs.toArray }).get? h.objs.size = some { cls := .type "tuple", data := .seq vs.toArray } := Heap.get?_push_size _ rfl
def tTupP (t : TA) : TE := fun σ H Q => t σ H fun xs H1 => xs.length ≤ sizeLine ∧ ∀ p o, o.dict = none → H1 p = none → Q (.ref p) (upd H1 p (.frz o (.tup xs)))
theorem pe_tupP {es : List Expr} {t : TA} {x1} {pos : Pos} (h : PA X es t) : PE X (.Tuple es x1 pos) (tTupP t) := by
  refine ⟨fun pins s σ H Q I hq => ?_⟩
  refine wpAny_Tuple_spliced (thn (h.run pos pins s σ H _ I hq) fun us s1 ⟨xs, H1, I1, r, z, q⟩ => ⟨by rw [← r.length]; exact z, ?_⟩)
  have hf : H1 s1.heap.objs.size = none := I1.hok.fresh (Nat.le_refl _)
  refine ⟨.ref s1.heap.objs.size, upd H1 s1.heap.objs.size (.frz { cls := .type "tuple", data := .seq us.toArray } (.tup xs)), I1.laid (t' := s1.toks) (fun b u e => Heap.get?_push_of_some _ e) (Nat.le_refl _) ?_, rfl, q _ _ rfl hf⟩
  exact ⟨Heap.get?_push_size _ rfl, z, us, r, ⟨_, Heap.get?_push_size _ rfl, rfl, _, rfl⟩⟩
def rCatP (K : PySem.W.Frag) : R2 := fun x y H Q => ∃ a b xs ys, x = .ref a ∧ y = .ref b ∧ SqT K H a xs ∧ SqT K H b ys ∧ xs.length + ys.length ≤ sizeLine ∧
  (xs = [] → Q (.ref b) H) ∧ (xs ≠ [] → ys = [] → Q (.ref a) H) ∧ (xs ≠ [] → ys ≠ [] → ∀ p o, o.dict = none → H p = none → Q (.ref p) (upd H p (.frz o (.tup (xs ++ ys)))))
theorem op_catP : OpR X (binaryOp .Add) (rCatP X.K) := by
  intro pins s σ H x y v u Q I rx ry h
  obtain ⟨a, b, xs, ys, rfl, rfl, ha, hb, hz, q0, q1, q2⟩ := h
  cases rx
  cases ry
  obtain ⟨its, r1, p1, _⟩ := I.tuple ha
  obtain ⟨its2, r2, p2, _⟩ := I.tuple hb
  by_cases hx : xs = []
  · subst hx
    cases r1
    exact cat_tup0 p1 p2 ⟨.ref b, H, I, rfl, q0 rfl⟩
  · refine HT.cat_tup p1 p2 (fun z => hx (r1.nil_iff.mp z)) (fun z => ⟨.ref a, H, I, rfl, q1 hx (r2.nil_iff.mp z)⟩) (fun z => ?_) (by rw [← r1.length, ← r2.length]; exact hz)
    refine ⟨.ref s.heap.objs.size, _, I.laid (t' := s.toks) (o := .frz { cls := .type "tuple", data := .seq (its ++ its2).toArray } (.tup (xs ++ ys))) (fun b ob q => Heap.get?_push_of_some _ q) (Nat.le_refl _) ?_, rfl, q2 hx (fun w => z (r2.nil_iff.mpr w)) _ _ rfl (I.hok.fresh (Nat.le_refl _))⟩
    exact ⟨plain_new, by rw [List.length_append]; exact hz, _, r1.append r2, IsTup.new _ _⟩
def rSlP (K : PySem.W.Frag) : V → Option Int → Option Int → Hp → VK → Prop := fun x lo hi H Q => ∃ a xs, x = .ref a ∧ SqT K H a xs ∧
  (HT.sIx xs.length 0 lo = 0 ∧ HT.sIx xs.length xs.length hi = xs.length → Q (.ref a) H) ∧ (¬ (HT.sIx xs.length 0 lo = 0 ∧ HT.sIx xs.length xs.length hi = xs.length) → ∀ p o, o.dict = none → H p = none → Q (.ref p) (upd H p (.frz o (.tup (cutV xs lo hi)))))
theorem sl_tupP : SlR X (rSlP X.K) := by
  intro pins s σ H x v vl vu lo hi sl Q I rx hs pl pu h
  obtain ⟨a, xs, rfl, hx, q1, q2⟩ := h
  cases rx
  obtain ⟨its, r, ht, hz⟩ := I.tuple hx
  have hlen : its.toArray.size = xs.length := by rw [List.size_toArray]; exact r.length.symm
  refine ⟨"tuple", _, PyProof.Rows.slot_tuple_getitem.lookup, ht.typeIs, ?_⟩
  by_cases hw : HT.sIx xs.length 0 lo = 0 ∧ HT.sIx xs.length xs.length hi = xs.length
  · exact getItem_tuple_whole ht hs pl pu (by rw [hlen]; exact hw) ⟨.ref a, H, I, rfl, q1 hw⟩
  · refine HT.getItem_tuple_cut ht hs pl pu (by rw [hlen]; exact hw) ?_ (by rw [hlen]; exact hz)
    rw [hlen]
    refine ⟨.ref s.heap.objs.size, _, I.laid (t' := s.toks) (o := .frz { cls := .type "tuple", data := .seq ((its.toArray.toList.drop (HT.sIx xs.length 0 lo)).take (HT.sIx xs.length xs.length hi - HT.sIx xs.length 0 lo)).toArray } (.tup (cutV xs lo hi))) (fun b ob q => Heap.get?_push_of_some _ q) (Nat.le_refl _) ?_, rfl, q2 hw _ _ rfl (I.hok.fresh (Nat.le_refl _))⟩
    exact ⟨plain_new, Nat.le_trans (cutV_length xs lo hi) hz, _, (r.drop (HT.sIx xs.length 0 lo)).take (HT.sIx xs.length xs.length hi - HT.sIx xs.length 0 lo), IsTup.new _ _⟩
/-! ### t.count(b), t a tuple of truth values -/
theorem bools_of : ∀ {bs : List Bool} {us : List Value}, Vals (bs.map V.bl) us → us = bs.map Value.bool
  | [], _, h => by cases h; rfl
  | b :: bs, _, h => by
    cases h with
    | cons h r =>
      rw [bools_of r, show _ = Value.bool b from h]
      rfl
def cntB (b : Bool) (bs : List Bool) : Nat := bs.countP fun x => x == b
def tCnt (to : TE) (b : Bool) : TE := fun σ H Q => to σ H fun x H1 => ∃ bs, Stp H1 x bs ∧ Q (.int (cntB b bs : Nat)) H1
theorem pe_cntP {o e : Expr} {to : TE} {b : Bool} {apos cpos : Pos} (ho : PE X o to) (he : PE X e (tC (.bl b))) (hbase : attributeBase o "count" X.env (eval o X.env) = eval o X.env := by rfl)
    (hfew : ((backTo cpos (starEach [e] X.env)).all (fun x => !x.1) && (backToKw cpos (keywordEach [] X.env)).all (fun x => x.1.isSome)
      && decide ([e].length + ([] : List Keyword).length + (if ([] : List Keyword).isEmpty then 0 else 1) < 30)) = true := by rfl)
    (hline : (apos.endLine == cpos.line) = true := by rfl) (hs : starEach [e] X.env = (false, eval (e) X.env) :: starEach [] X.env := by rfl) :
    PE X (.Call (.Attribute o "count" apos) [e] [] cpos) (tCnt to b) := by
  refine ⟨fun pins s σ H Q I h => ?_⟩
  refine wpAny_Call_method_late hbase hfew hline rfl (thn (ho.run pins s σ H _ I h) fun v s1 ⟨x, H1, I1, r1, bs, hst, q1⟩ => ?_)
  obtain ⟨t, ob, rfl, hH, hd⟩ := hst
  cases r1
  obtain ⟨hget, _, its, rv, o', ho', hc, n, hdat⟩ := (show ObjOk X.prog X.w H1 s1.heap t (.frz ob (.tup (bs.map V.bl))) from I1.hok t _ hH)
  rw [hget] at ho'
  cases ho'
  refine ⟨"tuple", "tuple.count", PySem.F.plainAttrs_tuple, PySem.F.slot_tuple_count, PySem.F.type_tuple_count, ⟨_, hget, hc⟩, fun a e => by cases e; exact ⟨_, hget, hd⟩, ?_⟩
  have hA := (pa_cons he pa_nil hs).run cpos pins s1 σ H1 (fun xs H2 => xs = [.bl b] ∧ H2 = H1) I1 ⟨rfl, rfl⟩
  rw [hs] at hA ⊢
  refine Calls.callWith_builtin (by rfl) (Calls.evalArgs_plain ?_)
  refine thn hA fun us s2 ⟨vs, H2, I2, r2, e1, e2⟩ => ?_
  subst e1 e2
  obtain ⟨u, rfl, ru⟩ := vals1 r2
  cases ru
  obtain ⟨hget2, _, its2, rv2, o2, ho2, hc2, n2, hdat2⟩ := (show ObjOk X.prog X.w H2 s2.heap t (.frz ob (.tup (bs.map V.bl))) from I2.hok t _ hH)
  rw [hget2] at ho2
  cases ho2
  obtain ⟨cls, dd, data, sl⟩ := ob
  simp only at hc2 hdat2
  subst hc2 hdat2
  have hb := bools_of rv2
  subst hb
  refine call_meets PySem.F.slot_tuple_count ⟨_, hget2, rfl⟩ PySem.F.entry_tuple_count (PySem.F.args_tuple_count_2 _ _)
    (SeqAt.tuple_countAt t _ n2 dd sl (.bool b) (fun y => match y with | .bool c => c == b | _ => false)) ⟨hget2, fun y hy => ?_, ?_⟩
  · have hy' : y ∈ bs.map Value.bool := by simpa using hy
    obtain ⟨c, _, rfl⟩ := List.mem_map.mp hy'
    exact eqAt_V (y := .bl c) (x := .bl b) rfl rfl rfl rfl
  · refine ⟨.int (cntB b bs : Nat), H2, I2.tok _, ⟨s2.toks, ?_⟩, q1⟩
    have : List.countP (fun y => match y with | Value.bool c => c == b | _ => false) (bs.map Value.bool) = cntB b bs := by
      rw [List.countP_map]
      rfl
    simp [this]
end
end HL
end
section
set_option Elab.async false
set_option linter.all false
set_option maxRecDepth 100000
set_option maxHeartbeats 4000000
namespace HL
open PySem PySem.Spec PyProof.Rows L2
/-! ### the class -/
structure CtrF (K : PySem.W.Frag) (mg : Str → Option Value) : Prop where
  g : mg "Counter" = some (.ref (ctrC K))
  cl : L2.Cls K (ctrC K)
  nq : NoAttr K (ctrC K) "quantity"
  ns : NoAttr K (ctrC K) "steps"
  nk : NoAttr K (ctrC K) "kept"
  ha : PySem.W.findIn K (.ref (ctrC K)) "__class__" = some (some (.builtin "object.__class__"))
  hn : PySem.W.specialIn K (.builtin "object.__class__") "__get__" = some (some (.builtin "getset_descriptor.__get__"))
  htk : PySem.W.takesIn K (.builtin "object.__class__") = some true
  hm : PySem.W.mroIn K (ctrC K) (.type "object") = some true
  me : PySem.W.kitOne K (.ref (ctrC K)) (.ref (ctrC K)) = some true
  it : PySem.W.kitOne K (.type "tuple") (.ref (ctrC K)) = some false
  is_ : PySem.W.kitOne K (.type "str") (.ref (ctrC K)) = some false
  ft : PySem.W.notFirst K (ctrC K) (.type "tuple") = true
  fs : PySem.W.notFirst K (ctrC K) (.type "str") = true
  ne : PySem.W.findIn K (.ref (ctrC K)) "__ne__" = some (some (.builtin "object.__ne__"))
/-- a method of the class that only reads -/
def MOk (P : Program) (w : World) (K : PySem.W.Frag) (mg : Str → Option Value) (base : Heap) (m : Str) (ps : List Str) (k : Nat) (sp : Sp) : Prop :=
  ∃ f fd, Meth K (ctrC K) m f ∧ Binds K fd ps [] ∧ FnOk P w K mg base (L2.CX P w) k f fd ps sp
theorem MOk.mono {P : Program} {w : World} {K : PySem.W.Frag} {mg : Str → Option Value} {base : Heap} {m : Str} {ps : List Str} {j k : Nat} {sp : Sp} (h : MOk P w K mg base m ps j sp) (hj : j ≤ k) : MOk P w K mg base m ps k sp :=
  let ⟨f, fd, a, b, c⟩ := h
  ⟨f, fd, a, b, c.mono hj⟩
theorem MOk.imp {P : Program} {w : World} {K : PySem.W.Frag} {mg : Str → Option Value} {base : Heap} {m : Str} {ps : List Str} {k : Nat} {sp sp' : Sp} (h : MOk P w K mg base m ps k sp) (hi : ∀ vs H Q E, sp' vs H Q E → sp vs H Q E) : MOk P w K mg base m ps k sp' :=
  let ⟨f, fd, a, b, c⟩ := h
  ⟨f, fd, a, b, c.imp hi⟩
theorem obFs_no {q s k : V} {m : Str} (h1 : ¬ m = "quantity") (h2 : ¬ m = "steps") (h3 : ¬ m = "kept") : (obFs q s k).lookup m = none := by
  unfold obFs
  rw [List.lookup_cons, List.lookup_cons, List.lookup_cons]
  have e1 : (m == ("quantity" : Str)) = false := by simpa using h1
  have e2 : (m == ("steps" : Str)) = false := by simpa using h2
  have e3 : (m == ("kept" : Str)) = false := by simpa using h3
  rw [e1, e2, e3]
  rfl
theorem obFs_q {q s k : V} : (obFs q s k).lookup ("quantity" : Str) = some q := by
  unfold obFs
  rw [List.lookup_cons, show (("quantity" : Str) == ("quantity" : Str)) = true from by decide +kernel]
theorem obFs_s {q s k : V} : (obFs q s k).lookup ("steps" : Str) = some s := by
  unfold obFs
  rw [List.lookup_cons, List.lookup_cons, show (("steps" : Str) == ("quantity" : Str)) = false from by decide +kernel, show (("steps" : Str) == ("steps" : Str)) = true from by decide +kernel]
theorem obFs_k {q s k : V} : (obFs q s k).lookup ("kept" : Str) = some k := by
  unfold obFs
  rw [List.lookup_cons, List.lookup_cons, List.lookup_cons, show (("kept" : Str) == ("quantity" : Str)) = false from by decide +kernel, show (("kept" : Str) == ("steps" : Str)) = false from by decide +kernel, show (("kept" : Str) == ("kept" : Str)) = true from by decide +kernel]
theorem put0 {q : V} : putF "quantity" q [] = ([("quantity", q)] : List (Str × V)) := rfl
theorem put1 {q s : V} : putF "steps" s ([("quantity", q)] : List (Str × V)) = ([("quantity", q), ("steps", s)] : List (Str × V)) := by
  unfold putF
  rw [if_neg (by decide +kernel)]
  rfl
theorem put2 {q s k : V} : putF "kept" k ([("quantity", q), ("steps", s)] : List (Str × V)) = obFs q s k := by
  unfold putF
  rw [if_neg (by decide +kernel)]
  unfold putF
  rw [if_neg (by decide +kernel)]
  rfl
theorem putS {q s s' k : V} : putF "steps" s' (obFs q s k) = obFs q s' k := by
  unfold obFs putF
  rw [if_neg (by decide +kernel)]
  unfold putF
  rw [if_pos rfl]
theorem putK {q s k k' : V} : putF "kept" k' (obFs q s k) = obFs q s k' := by
  unfold obFs putF
  rw [if_neg (by decide +kernel)]
  unfold putF
  rw [if_neg (by decide +kernel)]
  unfold putF
  rw [if_pos rfl]
/-! ### rules: o.m(), C(e), len(o), str(o), ==, != -/
def tMethD (C : Addr) (m : Str) (sp : Sp) (E : L2.St → XK) (ta : TE) : TE := fun σ H Q => ta σ H fun x H1 => ∃ a dx fs, x = .ref a ∧ H1 a = some (.ins C dx fs) ∧ fs.lookup m = none ∧ sp [x] H1 Q (E σ)
def tMakeD (C : Addr) (sp : Sp) (E : L2.St → XK) (t : TA) : TE := fun σ H Q => t σ H fun vs H1 => ∀ x dx, H1 x = none → H1 dx = none → dx ≠ x →
  sp (.ref x :: vs) (upd (upd H1 dx (.own x)) x (.ins C dx [])) (fun v H2 => v = .non ∧ Q (.ref x) H2) (E σ)
section
variable {X : Cx} {E : L2.St → XK} {m x : Str} {k : Nat} {sp : Sp} {o e : Expr} {es : List Expr} {ta : TE} {t : TA} {p pos apos : Pos} {ps : List Str}
theorem pe_methD {pl : Sem Bool} {P : Program} {w : World} {K : PySem.W.Frag} {mg : Str → Option Value} {base : Heap} {A : Around} (h : MOk P w K mg base m ps k sp) (c : CtrF K mg) (hr : Room k A) (hx : ∀ σ, PassesAt (L2.CX X.prog X.w) X σ (E σ)) (he : PE X o ta)
    (hP : X.prog = P := by rfl) (hw : X.w = w := by rfl) (hK : X.K = K := by rfl) (hmg : X.mg = mg := by rfl) (hbs : X.base = base := by rfl) (hA : X.A = A := by rfl)
    (ht : eval (.Call (.Attribute o m apos) [] [] pos) X.env = (do
      let ov ← eval o X.env
      standAt apos.atName
      let (f, first) ← holding [ov] (getMethod ov m pl)
      callWith pos f first (backTo pos (starEach [] X.env)) (backToKw pos (keywordEach [] X.env))) := by rfl) :
    PE X (.Call (.Attribute o m apos) [] [] pos) (tMethD (ctrC K) m sp E ta) := by
  subst hP hw hK hmg hbs hA
  obtain ⟨f, fd, hm, hb, F⟩ := h
  refine ⟨fun pins s σ H Q I h => ?_⟩
  refine PySem.W.methodCall_KW (pl := pl) (thn (he.run pins s σ H _ I h) fun u s1 ⟨x, H1, I1, rx, a, dx, fs, ex, ea, l, q⟩ => ?_) ht
  subst ex
  obtain rfl : u = Value.ref a := rx
  refine getmeth_ok I1 ea c.cl hm l ?_
  exact PySem.W.callWith_K0 (first := [.ref a]) I1.kIn hm.kp (run_fnSD (us := [.ref a]) (vs := [.ref a]) (dvs := []) (ds := []) (E := E) F hr hb .nil (hx σ) I1 (.cons rfl .nil) q)
theorem run_makeD {pins : List (Addr × Obj)} {σ : L2.St} {H : Hp} {s : Shared} {Q : VK} {us : List Value} {vs : List V} {C f : Addr} {fd : FuncData} {E : XK} (M : Mk X.K C f) (F : FnOk X.prog X.w X.K X.mg X.base (L2.CX X.prog X.w) k f fd ps sp) (hr : Room (k + 1) X.A) (hb : Binds X.K fd ps [])
    (hx : PassesAt (L2.CX X.prog X.w) X σ E) (I : L2.Inv X pins σ H s) (r : Vals vs us)
    (h : ∀ x dx, H x = none → H dx = none → dx ≠ x → sp (.ref x :: vs) (upd (upd H dx (.own x)) x (.ins C dx [])) (fun v H2 => v = .non ∧ Q (.ref x) H2) E) :
    wpAny (model X.prog X.w) X.A (call (.ref C) us) (EP X pins σ Q) X.xe s := by
  have hq := h (s.heap.objs.size + 1) s.heap.objs.size (I.hok.fresh (Nat.le_succ _)) (I.hok.fresh (Nat.le_refl _)) (Nat.ne_of_lt (Nat.lt_succ_self _))
  have I2 := Inv.made (C := C) I
  have r2 : Vals (V.ref (s.heap.objs.size + 1) :: vs) (Value.ref (s.heap.objs.size + 1) :: us) := .cons rfl r
  have hl : (Value.ref (s.heap.objs.size + 1) :: us).length = ps.length := by
    have e := r2.length
    rw [F.len _ _ _ _ hq] at e
    exact e.symm
  have hbb := hb _ (Value.ref (s.heap.objs.size + 1) :: us) I2.kIn (by rw [List.append_nil]; exact hl)
  rw [List.append_nil] at hbb
  refine wpAny_call (make_map (f := f) I.kIn M.makes M.init (beq_iff_eq.mp M.fn) (codeAny_mono (F.run _ X.stack _ _ ⟨Value.ref (s.heap.objs.size + 1) :: us, []⟩ (Value.ref (s.heap.objs.size + 1) :: us) _ _ E (hr.make C us [])
    (I2.env0.make C us []) hbb r2 hq) fun r s' hq' => ?_))
  cases r with
  | error e => exact hx pins _ _ e s' I2 hq'
  | ok fl =>
    cases fl with
    | ret u =>
      obtain ⟨v, H', I3, rv, ev, q3⟩ := I2.after hq'
      subst ev
      exact ⟨rv, ⟨V.ref (s.heap.objs.size + 1), H', I3, rfl, q3⟩⟩
    | next => exact False.elim hq'
    | brk => exact False.elim hq'
    | cont => exact False.elim hq'
theorem pe_makeD {P : Program} {w : World} {K : PySem.W.Frag} {mg : Str → Option Value} {base : Heap} {A : Around} (h : MOk P w K mg base "__init__" ps k sp) (c : CtrF K mg) (mk : PySem.W.makesIn K (ctrC K) = true) (kc : PySem.W.keepIn K (.ref (ctrC K)) = true) (hr : Room (k + 1) A) (hx : ∀ σ, PassesAt (L2.CX X.prog X.w) X σ (E σ)) (hg : Gl X "Counter") (ha : PA X (e :: es) t)
    (hP : X.prog = P := by rfl) (hw : X.w = w := by rfl) (hK : X.K = K := by rfl) (hmg : X.mg = mg := by rfl) (hbs : X.base = base := by rfl) (hA : X.A = A := by rfl)
    (he : starEach (e :: es) X.env = (false, eval e X.env) :: starEach es X.env := by rfl) (hpl : (backTo pos (starEach es X.env)).any (·.1) = false := by rfl) :
    PE X (.Call (.Name "Counter" p) (e :: es) [] pos) (tMakeD (ctrC K) sp E t) := by
  subst hP hw hK hmg hbs hA
  obtain ⟨f, fd, hm, hb, F⟩ := h
  refine ⟨fun pins s σ H Q I h => ?_⟩
  refine wpAny_Call_Name_kw (ld_glob I hg c.g ?_ (by decide))
  refine PySem.W.callWith_K (h₀ := X.base) I.ok.mod.kin kc (thn (ha.run pos pins s σ H _ I h) fun us s1 ⟨vs, H1, I1, r, q⟩ => ⟨I1.kIn, ?_⟩) he hpl
  exact run_makeD ⟨mk, hm.at_, hm.fn, kc⟩ F hr hb (hx σ) I1 r q
/-- the own def runs below the body -/
theorem run_below {pins : List (Addr × Obj)} {σ : L2.St} {H : Hp} {s : Shared} {Q : VK} {us : List Value} {vs : List V} {f : Addr} {fd : FuncData} {A : Around} (F : FnOk X.prog X.w X.K X.mg X.base (L2.CX X.prog X.w) k f fd ps sp) (hr : Room k A) (hA : A.frames = X.A.frames) (hb : Binds X.K fd ps [])
    (I : L2.Inv X pins σ H s) (r : Vals vs us) (h : sp vs H Q (fun _ _ _ => False)) {R : Value → Shared → Prop} (hR : ∀ u s', EP X pins σ Q u s' → R u s') {E : Value → Shared → Prop} : wpAny (model X.prog X.w) A (call (.ref f) us) R E s := by
  have hl : us.length = ps.length := by rw [← r.length]; exact F.len _ _ _ _ h
  have hbb := hb s us I.kIn (by rw [List.append_nil]; exact hl)
  rw [List.append_nil] at hbb
  have e0 : Env0 X.prog X.w X.K X.mg X.base A X.stack s H := by
    have e := I.env0
    exact ⟨by rw [hA]; exact e.frames, e.mod, e.bs, e.bsz, e.funs, e.frf, e.hok, e.bare⟩
  refine wpAny_call (codeAny_mono (F.run A X.stack s H ⟨us, []⟩ us vs Q (fun _ _ _ => False) hr e0 hbb r h) fun r s' hq => ?_)
  cases r with
  | error e =>
    obtain ⟨_, _, _, _, _, _, _, _, _, _, _, _, z⟩ := hq
    exact z.elim
  | ok fl =>
    cases fl with
    | ret u => exact hR u s' (I.after hq)
    | next => exact False.elim hq
    | brk => exact False.elim hq
    | cont => exact False.elim hq
def rLenO (K : PySem.W.Frag) (sp : Sp) : List V → Hp → VK → Prop := fun xs H Q => ∃ a dx fs, xs = [.ref a] ∧ H a = some (.ins (ctrC K) dx fs) ∧ sp [.ref a] H (fun v H' => ∃ n : Int, v = .int n ∧ 0 ≤ n ∧ n < 2 ^ 63 ∧ Q (.int n) H') (fun _ _ _ => False)
theorem call_lenO {P : Program} {w : World} {K : PySem.W.Frag} {mg : Str → Option Value} {base : Heap} {A : Around} (h : MOk P w K mg base "__len__" ps k sp) (hr : Room (k + 1) A)
    (hP : X.prog = P := by rfl) (hw : X.w = w := by rfl) (hK : X.K = K := by rfl) (hmg : X.mg = mg := by rfl) (hbs : X.base = base := by rfl) (hA : X.A = A := by rfl) : CallR X (.builtin "len") (rLenO K sp) := by
  subst hP hw hK hmg hbs hA
  obtain ⟨f, fd, hm, hb, F⟩ := h
  intro pins s σ H xs us Q I r h
  obtain ⟨a, dx, fs, rfl, ha, q⟩ := h
  obtain ⟨u, rfl, ru⟩ := vals1 r
  cases ru
  obtain ⟨mA, J, _⟩ := ins_get I.hok ha
  obtain ⟨od, J, _⟩ := J.look
  obtain ⟨m, hF⟩ := I.fr
  refine PySem.W.len_K hF I.ok.mod.kin J hm.at_ hm.fn (run_below F hr.in1 rfl hb I (show Vals [V.ref a] [Value.ref a] from .cons rfl .nil) q fun u s' z => ?_)
  obtain ⟨v, H', I', rv, n, rfl, h0, h1, q⟩ := z
  obtain ⟨t, rfl⟩ := rv
  exact ⟨⟨h0, h1⟩, .int n, H', I'.tok _, ⟨_, rfl⟩, q⟩
def rStrO (K : PySem.W.Frag) (sp : Sp) : List V → Hp → VK → Prop := fun xs H Q => ∃ a dx fs, xs = [.ref a] ∧ H a = some (.ins (ctrC K) dx fs) ∧ sp [.ref a] H (fun v H' => ∃ z : Str, v = .str z ∧ Q (.str z) H') (fun _ _ _ => False)
theorem call_strO {P : Program} {w : World} {K : PySem.W.Frag} {mg : Str → Option Value} {base : Heap} {A : Around} (h : MOk P w K mg base "__str__" ps k sp) (hr : Room (k + 2) A)
    (hP : X.prog = P := by rfl) (hw : X.w = w := by rfl) (hK : X.K = K := by rfl) (hmg : X.mg = mg := by rfl) (hbs : X.base = base := by rfl) (hA : X.A = A := by rfl) : CallR X (.type "str") (rStrO K sp) := by
  subst hP hw hK hmg hbs hA
  obtain ⟨f, fd, hm, hb, F⟩ := h
  intro pins s σ H xs us Q I r h
  obtain ⟨a, dx, fs, rfl, ha, q⟩ := h
  obtain ⟨u, rfl, ru⟩ := vals1 r
  cases ru
  obtain ⟨mA, J, _⟩ := ins_get I.hok ha
  obtain ⟨od, J, _⟩ := J.look
  refine PySem.W.kso_call hr.in1.in1.units0 I.kIn J hm.at_ hm.fn (run_below F hr.in1.in1 rfl hb I (show Vals [V.ref a] [Value.ref a] from .cons rfl .nil) q fun u s' z => ?_)
  obtain ⟨v, H', I', rv, z, rfl, q⟩ := z
  obtain ⟨t, rfl⟩ := rv
  exact ⟨.str z, H', I', ⟨_, rfl⟩, q⟩
/-- what may stand at the right of == -/
def YT (K : PySem.W.Frag) (H : Hp) (y : V) : Prop := (∃ b dx fs, y = .ref b ∧ H b = some (.ins (ctrC K) dx fs)) ∨ (∃ b xs, y = .ref b ∧ SqT K H b xs) ∨ ∃ z, y = .str z
def rEqO (K : PySem.W.Frag) (sp : Sp) : R2 := fun x y H Q => ∃ a dx fs, x = .ref a ∧ H a = some (.ins (ctrC K) dx fs) ∧ YT K H y ∧ sp [x, y] H (fun v H' => ∃ b : Bool, v = .bl b ∧ Q (.bl b) H') (fun _ _ _ => False)
theorem op_eqO {P : Program} {w : World} {K : PySem.W.Frag} {mg : Str → Option Value} {base : Heap} {A : Around} (h : MOk P w K mg base "__eq__" ps k sp) (c : CtrF K mg) (hr : Room k A)
    (hP : X.prog = P := by rfl) (hw : X.w = w := by rfl) (hK : X.K = K := by rfl) (hmg : X.mg = mg := by rfl) (hbs : X.base = base := by rfl) (hA : X.A = A := by rfl) : OpR X (compareOp .Eq) (rEqO K sp) := by
  subst hP hw hK hmg hbs hA
  obtain ⟨f, fd, hm, hb, F⟩ := h
  intro pins s σ H x y v u Q I rx ry h
  obtain ⟨a, dx, fs, rfl, ha, hy, q⟩ := h
  cases rx
  obtain ⟨mA, J, _⟩ := ins_get I.hok ha
  obtain ⟨od, J, _⟩ := J.look
  obtain ⟨m, hF⟩ := I.fr
  have hl : ∃ tb, PySem.W.Looks (model X.prog X.w) s.heap (typeOf u) tb ∧ PySem.W.notFirst X.K (ctrC X.K) tb = true := by
    rcases hy with ⟨b, dy, gs, rfl, hb'⟩ | ⟨b, xs, rfl, hT⟩ | ⟨z, rfl⟩
    · cases ry
      obtain ⟨mB, J', _⟩ := ins_get I.hok hb'
      obtain ⟨od', J', _⟩ := J'.look
      exact ⟨_, J'.type, by simp [PySem.W.notFirst]⟩
    · cases ry
      obtain ⟨its, _, ⟨o, ho, hc, _⟩, _⟩ := I.tuple hT
      exact ⟨.type "tuple", fun A Q E t kk q => wpAny_typeOf_ref (kk _ _ ho) (by rw [hc]; exact q), c.ft⟩
    · obtain ⟨t, rfl⟩ := ry
      exact ⟨.type "str", PySem.W.Looks.of_pure rfl, c.fs⟩
  obtain ⟨tb, hl, hn⟩ := hl
  show wpAny (model X.prog X.w) X.A (richCompare .Eq (.ref a) u) (EP X pins σ Q) X.xe s
  refine PySem.W.cmp_K (op := .Eq) hr.units0 hF I.ok.mod.kin J hl hn hm.at_ hm.fn (run_below F hr rfl hb I (show Vals [V.ref a, y] [Value.ref a, u] from .cons rfl (.cons ry .nil)) q fun u s' z => ?_)
  obtain ⟨v, H', I', rv, b, rfl, q⟩ := z
  cases rv
  exact ⟨.bl b, H', I', rfl, q⟩
def rNeO (K : PySem.W.Frag) (sp : Sp) : R2 := fun x y H Q => ∃ a dx fs b dy gs, x = .ref a ∧ H a = some (.ins (ctrC K) dx fs) ∧ y = .ref b ∧ H b = some (.ins (ctrC K) dy gs) ∧ sp [x, y] H (fun v H' => ∃ b : Bool, v = .bl b ∧ Q (.bl (!b)) H') (fun _ _ _ => False)
theorem op_neO {P : Program} {w : World} {K : PySem.W.Frag} {mg : Str → Option Value} {base : Heap} {A : Around} (h : MOk P w K mg base "__eq__" ps k sp) (c : CtrF K mg) (hr : Room (k + 1) A)
    (hP : X.prog = P := by rfl) (hw : X.w = w := by rfl) (hK : X.K = K := by rfl) (hmg : X.mg = mg := by rfl) (hbs : X.base = base := by rfl) (hA : X.A = A := by rfl) : OpR X (compareOp .NotEq) (rNeO K sp) := by
  subst hP hw hK hmg hbs hA
  obtain ⟨f, fd, hm, hb, F⟩ := h
  intro pins s σ H x y v u Q I rx ry h
  obtain ⟨a, dx, fs, b, dy, gs, rfl, ha, rfl, hb', q⟩ := h
  cases rx
  cases ry
  obtain ⟨mA, J, _⟩ := ins_get I.hok ha
  obtain ⟨od, J, _⟩ := J.look
  obtain ⟨mB, J', _⟩ := ins_get I.hok hb'
  obtain ⟨od', J', _⟩ := J'.look
  show wpAny (model X.prog X.w) X.A (richCompare .NotEq (.ref a) (.ref b)) (EP X pins σ Q) X.xe s
  refine PySem.W.ne_K (by have := hr.units; omega) I.kIn J J'.type c.ne hm.at_ hm.fn c.hm (run_below F hr.in1 rfl hb I (show Vals [V.ref a, V.ref b] [Value.ref a, Value.ref b] from .cons rfl (.cons rfl .nil)) q fun u s' z => ?_)
  obtain ⟨v, H', I', rv, b, rfl, q⟩ := z
  cases rv
  exact ⟨b, rfl, .bl (!b), H', I', rfl, q⟩
end
end HL
end
section
set_option Elab.async false
set_option linter.all false
set_option maxRecDepth 100000
set_option maxHeartbeats 4000000
namespace HL
open PySem PySem.Spec PyProof.Rows L2
section
variable {K : PySem.W.Frag} {ca : String → Addr} {E : L2.St → XK} {n : Nat} {mg : Str → Option Value}
/-! ### reading an object -/
def dFq (d : D) : R D := match dOb d with
  | some (q, _, _) => .ok q
  | none => .bad
def dFs (d : D) : R D := match dOb d with
  | some (_, bs, _) => .ok (.tuple (bs.map .bool))
  | none => .bad
def dFk (d : D) : R D := match dOb d with
  | some (_, _, k) => .ok (.int k)
  | none => .bad
def dCnt (b : Bool) (d : D) : R D := match dOb d with
  | some (_, bs, _) => .ok (.int (cntB b bs : Nat))
  | none => .bad
theorem ce_fq {ta : TE} {f : FE} (c : CtrF K mg) (h : CE K ca E ta f) : CE K ca E (tFld K ta "quantity") (x1 dFq f) := fun σ ρ G H Q sg re gg =>
  h.bind sg re gg fun d x G1 H1 s1 re1 r1 g1 => by
    unfold dFq at g1
    split at g1
    · rename_i hd
      have hd := dOb_some hd
      subst hd
      obtain ⟨a, dx, vq, vs, rfl, ha, hq, hs⟩ := dp_ob r1
      exact ⟨a, _, dx, _, vq, rfl, s1.s _ _ ha, c.cl, c.nq, obFs_q, g1.here s1.s hq⟩
    · exact g1.elim
theorem ce_fs {ta : TE} {f : FE} (c : CtrF K mg) (h : CE K ca E ta f) : CE K ca E (tFld K ta "steps") (x1 dFs f) := fun σ ρ G H Q sg re gg =>
  h.bind sg re gg fun d x G1 H1 s1 re1 r1 g1 => by
    unfold dFs at g1
    split at g1
    · rename_i hd
      have hd := dOb_some hd
      subst hd
      obtain ⟨a, dx, vq, vs, rfl, ha, hq, hs⟩ := dp_ob r1
      exact ⟨a, _, dx, _, vs, rfl, s1.s _ _ ha, c.cl, c.ns, obFs_s, g1.here s1.s hs.dp⟩
    · exact g1.elim
theorem ce_fk {ta : TE} {f : FE} (c : CtrF K mg) (h : CE K ca E ta f) : CE K ca E (tFld K ta "kept") (x1 dFk f) := fun σ ρ G H Q sg re gg =>
  h.bind sg re gg fun d x G1 H1 s1 re1 r1 g1 => by
    unfold dFk at g1
    split at g1
    · rename_i hd
      have hd := dOb_some hd
      subst hd
      obtain ⟨a, dx, vq, vs, rfl, ha, hq, hs⟩ := dp_ob r1
      exact ⟨a, _, dx, _, .int _, rfl, s1.s _ _ ha, c.cl, c.nk, obFs_k, g1.here s1.s (.int _)⟩
    · exact g1.elim
theorem ce_cnt {ta : TE} {f : FE} {b : Bool} (c : CtrF K mg) (h : CE K ca E ta f) : CE K ca E (tCnt (tFld K ta "steps") b) (x1 (dCnt b) f) := fun σ ρ G H Q sg re gg =>
  h.bind sg re gg fun d x G1 H1 s1 re1 r1 g1 => by
    unfold dCnt at g1
    split at g1
    · rename_i hd
      have hd := dOb_some hd
      subst hd
      obtain ⟨a, dx, vq, vs, rfl, ha, hq, hs⟩ := dp_ob r1
      exact ⟨a, _, dx, _, vs, rfl, s1.s _ _ ha, c.cl, c.ns, obFs_s, _, hs.mono s1.s, g1.here (b := V.int _) s1.s (.int _)⟩
    · exact g1.elim
/-- o.m(), reading only -/
def dMe (F : List D → R D) (d : D) : R D := match dOb d with
  | some _ => F [d]
  | none => .bad
theorem ce_meth {ta : TE} {f : FE} {F : List D → R D} {m : Str} (hm : (¬ m = "quantity") ∧ (¬ m = "steps") ∧ ¬ m = "kept") (h : CE K ca E ta f) : CE K ca E (tMethD (ctrC K) m (spD K ca 1 F) E ta) (x1 (dMe F) f) := fun σ ρ G H Q sg re gg =>
  h.bind sg re gg fun d x G1 H1 s1 re1 r1 g1 => by
    unfold dMe at g1
    split at g1
    · rename_i o hd
      obtain ⟨q, bs, k⟩ := o
      have hd := dOb_some hd
      subst hd
      obtain ⟨a, dx, vq, vs, rfl, ha, hq, hs⟩ := dp_ob r1
      exact ⟨a, dx, _, rfl, s1.s _ _ ha, obFs_no hm.1 hm.2.1 hm.2.2, G1, [_], s1.s, rfl, .cons r1 .nil, g1⟩
    · exact g1.elim
/-- isinstance(x, Counter) -/
def dIsC (d : D) : R D := match dOb d with
  | some _ => .ok (.bool true)
  | none => match d with
    | .tuple _ => .ok (.bool false)
    | .str _ => .ok (.bool false)
    | _ => .bad
theorem ce_isC {ta : TE} {fa : FE} (c : CtrF K mg) (ha : CE K ca E ta fa) : CE K ca E (tCB (rIsi K) (tCons ta (tCons (tC (.ref (ctrC K))) tNil))) (x1 dIsC fa) := fun σ ρ G H Q sg re gg =>
  ha.bind sg re gg fun d x G1 H1 s1 re1 r1 g1 => by
    unfold dIsC at g1
    split at g1
    · rename_i o hd
      obtain ⟨q, bs, k⟩ := o
      have hd := dOb_some hd
      subst hd
      obtain ⟨a, dx, vq, vs, rfl, ha, hq, hs⟩ := dp_ob r1
      exact ⟨_, _, _, _, true, rfl, .own _, .base (.ins (s1.s _ _ ha) c.cl c.ha c.hn c.htk c.hm), c.me, g1.here (b := V.bl _) s1.s (.bl _)⟩
    · split at g1
      · exact ⟨_, _, _, _, false, rfl, .own _, ty_of (dp_mono s1.s r1) (fun _ z => nomatch z), c.it, g1.here (b := V.bl _) s1.s (.bl _)⟩
      · exact ⟨_, _, _, _, false, rfl, .own _, ty_of (dp_mono s1.s r1) (fun _ z => nomatch z), c.is_, g1.here (b := V.bl _) s1.s (.bl _)⟩
      · exact g1.elim
/-- len(o) -/
def dLenO (F : List D → R D) (d : D) : R D := match dOb d with
  | some _ => ((F [d]).nx).bind fun r => match r with
    | .int i => if 0 ≤ i ∧ i < 2 ^ 63 then .ok (.int i) else .bad
    | _ => .bad
  | none => .bad
theorem ce_lenO {ta : TE} {f : FE} {F : List D → R D} (h : CE K ca E ta f) : CE K ca E (tCB (rLenO K (spD K ca 1 F)) (tCons ta tNil)) (x1 (dLenO F) f) := fun σ ρ G H Q sg re gg =>
  h.bind sg re gg fun d x G1 H1 s1 re1 r1 g1 => by
    unfold dLenO at g1
    split at g1
    · rename_i o hd
      obtain ⟨q, bs, k⟩ := o
      have hd := dOb_some hd
      subst hd
      obtain ⟨a, dx, vq, vs, rfl, ha, hq, hs⟩ := dp_ob r1
      refine ⟨a, dx, _, rfl, s1.s _ _ ha, G1, [_], s1.s, rfl, .cons r1 .nil, ?_⟩
      cases hF : F [obD q bs k] with
      | ok r =>
        rw [hF, R.nx_ok', R.bind_ok] at g1
        intro v G2 H2 e2 hv
        split at g1
        · split at g1
          · rename_i hi
            cases dp_int hv
            exact ⟨_, rfl, hi.1, hi.2, (Gd.mono g1 e2).here (b := V.int _) e2.s (.int _)⟩
          · exact g1.elim
        · exact g1.elim
      | exc c => rw [hF] at g1; exact g1.elim
      | bad => rw [hF] at g1; exact g1.elim
    · exact g1.elim
/-- str(o) -/
def dStrO (F : List D → R D) (d : D) : R D := match dOb d with
  | some _ => ((F [d]).nx).bind fun r => match r with
    | .str i => .ok (.str i)
    | _ => .bad
  | none => .bad
theorem ce_strO {ta : TE} {f : FE} {F : List D → R D} (h : CE K ca E ta f) : CE K ca E (tCB (rStrO K (spD K ca 1 F)) (tCons ta tNil)) (x1 (dStrO F) f) := fun σ ρ G H Q sg re gg =>
  h.bind sg re gg fun d x G1 H1 s1 re1 r1 g1 => by
    unfold dStrO at g1
    split at g1
    · rename_i o hd
      obtain ⟨q, bs, k⟩ := o
      have hd := dOb_some hd
      subst hd
      obtain ⟨a, dx, vq, vs, rfl, ha, hq, hs⟩ := dp_ob r1
      refine ⟨a, dx, _, rfl, s1.s _ _ ha, G1, [_], s1.s, rfl, .cons r1 .nil, ?_⟩
      cases hF : F [obD q bs k] with
      | ok r =>
        rw [hF, R.nx_ok', R.bind_ok] at g1
        intro v G2 H2 e2 hv
        split at g1
        · cases dp_str hv
          exact ⟨_, rfl, (Gd.mono g1 e2).here (b := V.str _) e2.s (.str _)⟩
        · exact g1.elim
      | exc c => rw [hF] at g1; exact g1.elim
      | bad => rw [hF] at g1; exact g1.elim
    · exact g1.elim
/-- o == y, o != y -/
def isY (d : D) : Bool := (dOb d).isSome || match d with
  | .tuple _ => true
  | .str _ => true
  | _ => false
def dEqO (F : List D → R D) (d e : D) : R D := match dOb d with
  | some _ => if isY e = true then ((F [d, e]).nx).bind fun r => match r with
      | .bool b => .ok (.bool b)
      | _ => .bad
    else .bad
  | none => .bad
def dNeO (F : List D → R D) (d e : D) : R D := match dOb d with
  | some _ => if (dOb e).isSome = true then ((F [d, e]).nx).bind fun r => match r with
      | .bool b => .ok (.bool (!b))
      | _ => .bad
    else .bad
  | none => .bad
theorem yt_of {H : Hp} {y : V} {e : D} (h : Dp K H y e) (hy : isY e = true) : YT K H y := by
  unfold isY at hy
  cases ho : dOb e with
  | some o =>
    obtain ⟨q, bs, k⟩ := o
    have hd := dOb_some ho
    subst hd
    obtain ⟨a, dx, vq, vs, rfl, ha, _⟩ := dp_ob h
    exact .inl ⟨a, dx, _, rfl, ha⟩
  | none =>
    rw [ho] at hy
    cases e with
    | tuple ds =>
      obtain ⟨a, xs, rfl, sa, _⟩ := dp_tup h
      exact .inr (.inl ⟨a, xs, rfl, sa⟩)
    | str z =>
      cases dp_str h
      exact .inr (.inr ⟨_, rfl⟩)
    | none => cases hy
    | bool b => cases hy
    | int i => cases hy
    | list l => cases hy
    | dict l => cases hy
theorem od_eqO {F : List D → R D} : OD K ca (rEqO K (spD K ca 2 F)) (dEqO F) := fun E x y G H Q dx dy sg hx hy g => by
  unfold dEqO at g
  split at g
  · rename_i o hd
    obtain ⟨q, bs, k⟩ := o
    split at g
    · rename_i hY
      have hd' := dOb_some hd
      subst hd'
      obtain ⟨a, dx, vq, vs, rfl, ha, hq, hs⟩ := dp_ob hx
      refine ⟨a, dx, _, rfl, sg _ _ ha, yt_of (dp_mono sg hy) hY, G, [_, dy], sg, rfl, .cons hx (.cons hy .nil), ?_⟩
      cases hF : F [obD q bs k, dy] with
      | ok r =>
        rw [hF, R.nx_ok', R.bind_ok] at g
        intro v G2 H2 e2 hv
        split at g
        · cases dp_bl hv
          exact ⟨_, rfl, (Gd.mono g e2).here (b := V.bl _) e2.s (.bl _)⟩
        · exact g.elim
      | exc c => rw [hF] at g; exact g.elim
      | bad => rw [hF] at g; exact g.elim
    · exact g.elim
  · exact g.elim
theorem od_neO {F : List D → R D} : OD K ca (rNeO K (spD K ca 2 F)) (dNeO F) := fun E x y G H Q dx dy sg hx hy g => by
  unfold dNeO at g
  split at g
  · rename_i o hd
    obtain ⟨q, bs, k⟩ := o
    split at g
    · rename_i hY
      have hd' := dOb_some hd
      subst hd'
      obtain ⟨o2, ho2⟩ := Option.isSome_iff_exists.mp hY
      obtain ⟨q2, bs2, k2⟩ := o2
      have hd2 := dOb_some ho2
      subst hd2
      obtain ⟨a, dx, vq, vs, rfl, ha, hq, hs⟩ := dp_ob hx
      obtain ⟨b, db, vq2, vs2, rfl, hb, _⟩ := dp_ob hy
      refine ⟨a, dx, _, b, db, _, rfl, sg _ _ ha, rfl, sg _ _ hb, G, [_, _], sg, rfl, .cons hx (.cons hy .nil), ?_⟩
      cases hF : F [obD q bs k, obD q2 bs2 k2] with
      | ok r =>
        rw [hF, R.nx_ok', R.bind_ok] at g
        intro v G2 H2 e2 hv
        split at g
        · cases dp_bl hv
          exact ⟨_, rfl, (Gd.mono g e2).here (b := V.bl _) e2.s (.bl _)⟩
        · exact g.elim
      | exc c => rw [hF] at g; exact g.elim
      | bad => rw [hF] at g; exact g.elim
    · exact g.elim
  · exact g.elim
/-! ### new objects -/
abbrev Ob := D × List Bool × Int
abbrev FOb := En → R Ob
def FrO (K : PySem.W.Frag) (ca : String → Addr) (E : XK) (G H : Hp) (Q : VK) : R Ob → Prop
  | .ok o => ∀ p dx vq vs G' H', Ex4 G H G' H' → H p = none → G' p = none → H' p = some (.ins (ctrC K) dx (obFs vq vs (.int o.2.2))) → Dp K G' vq o.1 → Stp G' vs o.2.1 → Q (.ref p) H'
  | .exc c => ∀ H', Same H H' → EX ca E c H'
  | .bad => False
def CFo (K : PySem.W.Frag) (ca : String → Addr) (E : L2.St → XK) (t : TE) (f : FOb) : Prop :=
  ∀ (σ : L2.St) (ρ : En) (G H : Hp) (Q : VK), Same G H → RelE K G σ ρ → FrO K ca (E σ) G H Q (f ρ) → t σ H Q
def xFo (f : FOb) : FE := fun ρ => (f ρ).bind fun o => .ok (obD o.1 o.2.1 o.2.2)
theorem fr_ce {E : XK} {G H : Hp} {Q : VK} {r : R Ob} (g : Gd ca E (rD K) G H Q (r.bind fun o => .ok (obD o.1 o.2.1 o.2.2))) : FrO K ca E G H Q r := by
  cases r with
  | ok o =>
    intro p dx vq vs G' H' e hp gp hh hq hs
    have sg : Same G' (upd G' p (.ins (ctrC K) dx (obFs vq vs (.int o.2.2)))) := same_upd gp
    refine g (.ref p) (upd G' p (.ins (ctrC K) dx (obFs vq vs (.int o.2.2)))) H' ⟨e.g.trans sg, fun b x hb => ?_, e.h, fun b hb gb => ?_⟩ (dp_obj upd_same (dp_mono sg hq) (hs.mono sg))
    · by_cases hbp : b = p
      · subst hbp; rw [upd_same] at hb; rw [hh]; exact hb
      · rw [upd_ne hbp] at hb; exact e.s b x hb
    · rw [upd_ne (fun z => hb (by rw [z]; exact hp))]
      exact e.n b hb gb
  | exc c => exact g
  | bad => exact g
theorem ce_cfo {t : TE} {f : FOb} (h : CFo K ca E t f) : CE K ca E t (xFo f) := fun σ ρ G H Q sg re gg => h σ ρ G H Q sg re (fr_ce gg)
/-- what __init__ promises -/
def spIni (K : PySem.W.Frag) (ca : String → Addr) (F : List D → R D) : Sp := fun vs H Q E => ∃ x dx vq G dq, vs = [.ref x, vq] ∧ H x = some (.ins (ctrC K) dx []) ∧ Same G H ∧ G x = none ∧ Dp K G vq dq ∧ (match F [dq] with
  | .ok _ => ∀ G' H' vs, Same G G' → Same G' H' → G' x = none → (∀ b o, b ≠ x → H b = some o → H' b = some o) → (∀ b, b ≠ x → H b ≠ none → G b = none → G' b = none) → H' x = some (.ins (ctrC K) dx (obFs vq vs (.int 0))) → Stp G' vs [] → Q .non H'
  | .exc c => ∀ H', Same H H' → EX ca E c H'
  | .bad => False)
def oMk (F : List D → R D) (f : FA) : FOb := fun ρ => (f ρ).bind fun ds => match ds with
  | [q] => (F [q]).bind fun _ => .ok (q, [], 0)
  | _ => .bad
theorem EX.mono {E : XK} {c : String} {H H1 : Hp} (g : ∀ H', Same H H' → EX ca E c H') (s : Same H H1) : ∀ H', Same H1 H' → EX ca E c H' := fun H' s' => g H' (s.trans s')
theorem cfo_make {F : List D → R D} {t : TA} {f : FA} (h : CA K ca E t f) : CFo K ca E (tMakeD (ctrC K) (spIni K ca F) E t) (oMk F f) := fun σ ρ G H Q sg re gg => by
  unfold oMk at gg
  refine h σ ρ G H _ sg re ?_
  cases hf : f ρ with
  | ok ds =>
    rw [hf, R.bind_ok] at gg
    intro vs G1 H1 e1 rv x dx hx hdx hne
    split at gg
    · rename_i q
      obtain ⟨vq, rfl, hvq⟩ := dps1 rv
      have nx : ∀ {b o}, H1 b = some o → b ≠ x := fun z => ne_of_none z hx
      have ndx : ∀ {b o}, H1 b = some o → b ≠ dx := fun z => ne_of_none z hdx
      have s1 : Same H1 (upd (upd H1 dx (.own x)) x (.ins (ctrC K) dx [])) := (same_upd hdx).trans (same_upd (by rw [upd_ne (Ne.symm hne)]; exact hx))
      refine ⟨x, dx, vq, G1, q, rfl, upd_same, e1.s.trans s1, e1.s.free hx, hvq, ?_⟩
      cases hF : F [q] with
      | ok r =>
        rw [hF, R.bind_ok] at gg
        intro G' H' vs eg es gx hk hn hh hst
        refine ⟨rfl, gg x dx vq vs G' H' ⟨e1.g.trans eg, es, ?_, ?_⟩ (e1.h.free hx) gx hh (dp_mono eg hvq) hst⟩
        · intro b o hb
          have hb1 := e1.h b o hb
          exact hk b o (nx hb1) (s1 b o hb1)
        · intro b hb gb
          have hb1 : H1 b ≠ none := fun z => hb (e1.h.free z)
          obtain ⟨o, ho⟩ := Option.ne_none_iff_exists'.mp hb1
          exact hn b (nx ho) (by rw [s1 b o ho]; exact fun z => nomatch z) (e1.n b hb gb)
      | exc c =>
        rw [hF] at gg
        exact fun H' s' => gg H' (e1.h.trans (s1.trans s'))
      | bad => rw [hF] at gg; exact gg.elim
    · exact gg.elim
  | exc c => rw [hf] at gg; exact gg
  | bad => rw [hf] at gg; exact gg
/-- what duplicate promises -/
def spDup (K : PySem.W.Frag) (ca : String → Addr) (F : Ob → R Ob) : Sp := fun vs H Q E => ∃ G x o, vs = [x] ∧ Same G H ∧ Dp K G x (obD o.1 o.2.1 o.2.2) ∧ FrO K ca E G H Q (F o)
def oDup (F : Ob → R Ob) (f : FE) : FOb := fun ρ => (f ρ).bind fun d => match dOb d with
  | some o => F o
  | none => .bad
theorem FrO.mono {E : XK} {G H G' H' : Hp} {Q : VK} {r : R Ob} (g : FrO K ca E G H Q r) (e : Ex4 G H G' H') : FrO K ca E G' H' Q r := by
  cases r with
  | ok o => exact fun p dx vq vs G1 H1 s hp gp hh hq hs => g p dx vq vs G1 H1 (e.trans s) (e.h.free hp) gp hh hq hs
  | exc c => exact fun H1 s => g H1 (e.h.trans s)
  | bad => exact g
theorem cfo_dup {F : Ob → R Ob} {ta : TE} {f : FE} (h : CE K ca E ta f) : CFo K ca E (tMethD (ctrC K) "duplicate" (spDup K ca F) E ta) (oDup F f) := fun σ ρ G H Q sg re gg => by
  unfold oDup at gg
  refine h σ ρ G H _ sg re ?_
  cases hf : f ρ with
  | ok d =>
    rw [hf, R.bind_ok] at gg
    intro x G1 H1 e1 r1
    split at gg
    · rename_i o hd
      obtain ⟨q, bs, k⟩ := o
      have hd := dOb_some hd
      subst hd
      obtain ⟨a, dx, vq, vs, rfl, ha, hq, hs⟩ := dp_ob r1
      exact ⟨a, dx, _, rfl, e1.s _ _ ha, obFs_no (by decide +kernel) (by decide +kernel) (by decide +kernel), G1, _, (q, bs, k), rfl, e1.s, r1, gg.mono e1⟩
    · exact gg.elim
  | exc c => rw [hf] at gg; exact gg
  | bad => rw [hf] at gg; exact gg
end
end HL
end
section
set_option Elab.async false
set_option linter.all false
set_option maxRecDepth 100000
set_option maxHeartbeats 4000000
namespace HL
open PySem PySem.Spec PyProof.Rows L2
section
variable {K : PySem.W.Frag} {ca : String → Addr} {E : L2.St → XK} {n : Nat} {mg : Str → Option Value}
def Ob.sl (o : Ob) : Sl := .ob o.1 o.2.1 o.2.2
def Ob.dat (o : Ob) : D := obD o.1 o.2.1 o.2.2
def obAt (δ : Es) (i : Nat) : Option Ob := match δ[i]? with
  | some (some (.ob q bs k)) => some (q, bs, k)
  | _ => none
theorem obAt_some {δ : Es} {i : Nat} {o : Ob} (h : obAt δ i = some o) : δ[i]? = some (some (Ob.sl o)) := by
  unfold obAt at h
  split at h
  · rename_i q bs k h1; cases h; exact h1
  · cases h
/-! ### assignments of objects -/
def sAsgN (i : Nat) (f : FOb) : Es → Fl := fun δ => fR (f (v0 δ)) fun o => if i < δ.length then .nx (δ.set i (some (Ob.sl o))) else .bad
theorem not_owned {G0 H0 G H : Hp} {σ : L2.St} {δ : Es} (r : RelS K n G0 H0 G H σ δ) {p : Addr} (hp : H p = none) : ¬ Owned σ δ p := fun o => by
  obtain ⟨_, _, ys, q, _⟩ := r.owned o
  rw [hp] at q
  cases q
theorem cs_asgN {te : TE} {f : FOb} {i : Nat} (h : CFo K ca E te f) : CS K ca E n (tAsg te (gName i)) (sAsgN i f) := fun G0 H0 G H σ δ Dd r g => by
  unfold sAsgN at g
  refine h σ (v0 δ) G H _ r.s r.re ?_
  cases hf : f (v0 δ) with
  | ok o =>
    rw [hf, fR_ok] at g
    intro p dx vq vs G' H' e hp gp hh hq hs
    split at g
    · rename_i hi
      exact g _ _ _ ((r.grow e).set_own (s := Ob.sl o) (by rw [← r.ld]; exact hi) (r.e0.h.free hp) gp hh ⟨dx, vq, vs, rfl, hq, hs⟩ (not_owned r hp))
    · exact g.elim
  | exc c => rw [hf] at g; exact fun H1 e => g σ H1 r.ls (r.e0.h.trans e)
  | bad => rw [hf] at g; exact g
theorem stp_hide {G' H' : Hp} {σ : L2.St} {δ : Es} (hG : Same G' H') (ho : ∀ a, Owned σ δ a → ∃ xs, H' a = some xs ∧ NoT xs) {v : V} {bs : List Bool} (h : Stp G' v bs) : Stp (hidG G' σ δ) v bs := by
  obtain ⟨b, o, rfl, h2, h3⟩ := h
  refine ⟨b, o, rfl, ?_, h3⟩
  unfold hidG
  rw [if_neg]
  · exact h2
  · intro q
    obtain ⟨xs, hx, hn⟩ := ho b q
    rw [hG _ _ h2] at hx
    cases hx
    exact hn.2 _ _ rfl
/-- a new object that will not be changed; what it is made of may read what changes -/
def sAsgD (i : Nat) (f : FOb) : Es → Fl := fun δ => fR (f (vw δ)) fun o => if i < δ.length ∧ lf o.1 = true then .nx (δ.set i (some (.im (Ob.dat o)))) else .bad
theorem cs_asgD {te : TE} {f : FOb} {i : Nat} (h : CFo K ca E te f) : CS K ca E n (tAsg te (gName i)) (sAsgD i f) := fun G0 H0 G H σ δ Dd r g => by
  unfold sAsgD at g
  refine h σ (vw δ) (frzG G H σ δ) H _ r.sfh r.rw_ ?_
  cases hf : f (vw δ) with
  | ok o =>
    rw [hf, fR_ok] at g
    intro p dx vq vs G' H' e hp gp hh hq hs
    split at g
    · rename_i hi
      obtain ⟨r2, ho⟩ := r.hide e
      have gp2 : hidG G' σ δ p = none := by
        unfold hidG
        split
        · rfl
        · exact gp
      have r3 := r2.set_own (i := i) (s := Ob.sl o) (by rw [← r.ld]; exact hi.1) (r.e0.h.free hp) gp2 hh ⟨dx, vq, vs, rfl, dp_hide e.s ho hq hi.2, stp_hide e.s ho hs⟩ (not_owned r hp)
      obtain ⟨G4, _, r4⟩ := r3.freezeS (i := i) (s := Ob.sl o) rfl (List.getElem?_set_self hi.1)
      rw [List.set_set] at r4
      exact g _ _ _ r4
    · exact g.elim
  | exc c => rw [hf] at g; exact fun H1 e => g σ H1 r.ls (r.e0.h.trans e)
  | bad => rw [hf] at g; exact g
/-- an object is no longer changed -/
def sFrzB (i : Nat) (g : Es → Fl) : Es → Fl := fun δ => match obAt δ i with
  | some o => g (δ.set i (some (.im (Ob.dat o))))
  | none => .bad
theorem cs_frzB {i : Nat} {t : TS} {g : Es → Fl} (h : CS K ca E n t g) : CS K ca E n t (sFrzB i g) := fun G0 H0 G H σ δ Dd r gg => by
  unfold sFrzB at gg
  split at gg
  · rename_i o ho
    obtain ⟨G', _, r'⟩ := r.freezeS (s := Ob.sl o) rfl (obAt_some ho)
    exact h G0 H0 G' H σ _ Dd r' gg
  · exact gg.elim
/-- two new objects at once -/
def sParN (i j : Nat) (f g : FOb) : Es → Fl := fun δ => fR (f (v0 δ)) fun o => fR (g (v0 δ)) fun o' => if i < δ.length ∧ j < δ.length ∧ i ≠ j then .nx ((δ.set i (some (Ob.sl o))).set j (some (Ob.sl o'))) else .bad
theorem cs_parN {i j : Nat} {t u : TE} {f g : FOb} (h1 : CFo K ca E t f) (h2 : CFo K ca E u g) : CS K ca E n (tPar i j (tCons t (tCons u tNil))) (sParN i j f g) := fun G0 H0 G H σ δ Dd r gg => by
  unfold sParN at gg
  refine h1 σ (v0 δ) G H _ r.s r.re ?_
  cases hf : f (v0 δ) with
  | ok o =>
    rw [hf, fR_ok] at gg
    intro p dx vq vs G1 H1 e hp gp hh hq hs
    have r1 := r.grow e
    refine h2 σ (v0 δ) G1 H1 _ r1.s r1.re ?_
    cases hg : g (v0 δ) with
    | ok o' =>
      rw [hg, fR_ok] at gg
      intro p2 dx2 vq2 vs2 G2 H2 e2 hp2 gp2 hh2 hq2 hs2
      refine ⟨.ref p, .ref p2, rfl, ?_⟩
      split at gg
      · rename_i hi
        have r2 := r1.grow e2
        have hpp : H2 p = _ := e2.h _ _ hh
        have gpp : G2 p = none := e2.n p (by rw [hh]; exact fun z => nomatch z) gp
        have r3 := r2.set_own (i := i) (s := Ob.sl o) (by rw [← r.ld]; exact hi.1) (r.e0.h.free hp) gpp hpp ⟨dx, vq, vs, rfl, dp_mono e2.g hq, hs.mono e2.g⟩ (not_owned r hp)
        refine gg _ _ _ (r3.set_own (i := j) (s := Ob.sl o') (by rw [← r.ld]; exact hi.2.1) (r1.e0.h.free hp2) gp2 hh2 ⟨dx2, vq2, vs2, rfl, hq2, hs2⟩ ?_)
        rintro ⟨k, s, h0, h1', h2'⟩
        by_cases hik : i = k
        · subst hik
          rw [List.getElem?_set_self (by rw [r.ls, ← r.ld]; exact hi.1)] at h2'
          cases h2'
          rw [hh] at hp2
          cases hp2
        · rw [List.getElem?_set_ne hik] at h1' h2'
          exact not_owned r1 hp2 ⟨k, s, h0, h1', h2'⟩
      · exact gg.elim
    | exc c => rw [hg] at gg; exact fun H' e' => gg σ H' r.ls (r1.e0.h.trans e')
    | bad => rw [hg] at gg; exact gg.elim
  | exc c => rw [hf] at gg; exact fun H1 e => gg σ H1 r.ls (r.e0.h.trans e)
  | bad => rw [hf] at gg; exact gg
/-- an object and two data at once -/
def sPar3N (i j l : Nat) (f : FOb) (g h : FE) : Es → Fl := fun δ => fR (f (v0 δ)) fun o => fR (g (v0 δ)) fun x => fR (h (v0 δ)) fun y => if i < δ.length ∧ j < δ.length ∧ l < δ.length then .nx (((δ.set i (some (Ob.sl o))).set j (some (.im x))).set l (some (.im y))) else .bad
theorem cs_par3N {i j l : Nat} {t u w : TE} {f : FOb} {g h : FE} (h1 : CFo K ca E t f) (h2 : CE K ca E u g) (h3 : CE K ca E w h) : CS K ca E n (tPar3 i j l (tCons t (tCons u (tCons w tNil)))) (sPar3N i j l f g h) := fun G0 H0 G H σ δ Dd r gg => by
  unfold sPar3N at gg
  refine h1 σ (v0 δ) G H _ r.s r.re ?_
  cases hf : f (v0 δ) with
  | ok o =>
    rw [hf, fR_ok] at gg
    intro p dx vq vs G1 H1 e hp gp hh hq hs
    have r1 := r.grow e
    refine core0 h2 r1 gg fun x v G2 H2 e2 r2 hx g2 => ?_
    refine core0 h3 r2 g2 fun y v' G3 H3 e3 r3 hy g3 => ?_
    refine ⟨.ref p, v, v', rfl, ?_⟩
    split at g3
    · rename_i hi
      have e23 := e2.trans e3
      have r4 := r3.set_own (i := i) (s := Ob.sl o) (by rw [← r.ld]; exact hi.1) (r.e0.h.free hp) (e23.n p (by rw [hh]; exact fun z => nomatch z) gp) (e23.h _ _ hh) ⟨dx, vq, vs, rfl, dp_mono e23.g hq, hs.mono e23.g⟩ (not_owned r hp)
      exact g3 _ _ _ ((r4.set_im (by rw [← r.ld]; exact hi.2.1) (dp_mono e3.g hx)).set_im (by rw [← r.ld]; exact hi.2.2) hy)
    · exact g3.elim
  | exc c => rw [hf] at gg; exact fun H1 e => gg σ H1 r.ls (r.e0.h.trans e)
  | bad => rw [hf] at gg; exact gg
/-! ### calls that change an object -/
def MutQ (K : PySem.W.Frag) (ca : String → Addr) (E : XK) (G H : Hp) (a : Addr) (Q : VK) : R (D × Option Ob) → Prop
  | .ok (d, none) => ∀ v G' H', Ex4 G H G' H' → Dp K G' v d → Q v H'
  | .ok (d, some o) => ∀ v G' H' x, Same G G' → Same G' H' → (∀ b x, b ≠ a → H b = some x → H' b = some x) → (∀ b, b ≠ a → H b ≠ none → G b = none → G' b = none) → G' a = none → H' a = some x → Cont K G' x (Ob.sl o) → Dp K G' v d → Q v H'
  | .exc c => ∀ H', Same H H' → EX ca E c H'
  | .bad => False
def spMut (K : PySem.W.Frag) (ca : String → Addr) (n : Nat) (F : Ob → List D → R (D × Option Ob)) : Sp := fun vs H Q E => ∃ G a dx vq w o us ds, vs = .ref a :: us ∧ us.length = n ∧ Same G H ∧ G a = none ∧
  H a = some (.ins (ctrC K) dx (obFs vq w (.int o.2.2))) ∧ Dp K G vq o.1 ∧ Stp G w o.2.1 ∧ DpAll K G us ds ∧ MutQ K ca E G H a Q (F o ds)
def GM (K : PySem.W.Frag) (ca : String → Addr) (E : L2.St → XK) (n : Nat) (G0 H0 : Hp) (σ : L2.St) (Q : VK) : R (D × Es) → Prop
  | .ok (d, δ') => ∀ v G' H', RelS K n G0 H0 G' H' σ δ' → Dp K G' v d → Q v H'
  | .exc c => ∀ H', Same H0 H' → EX ca (E σ) c H'
  | .bad => False
def CM (K : PySem.W.Frag) (ca : String → Addr) (E : L2.St → XK) (n : Nat) (t : TE) (f : Es → R (D × Es)) : Prop :=
  ∀ (G0 H0 G H : Hp) (σ : L2.St) (δ : Es) (Q : VK), RelS K n G0 H0 G H σ δ → GM K ca E n G0 H0 σ Q (f δ) → t σ H Q
def upS (δ : Es) (i : Nat) : Option Ob → Es
  | none => δ
  | some o => δ.set i (some (Ob.sl o))
theorem mut_gm {G0 H0 G H : Hp} {σ : L2.St} {δ : Es} (r : RelS K n G0 H0 G H σ δ) {i : Nat} {a : Addr} {o : Ob} (hi : δ[i]? = some (some (Ob.sl o))) (ha : σ[i]? = some (some (.ref a))) {x : R (D × Option Ob)} {Q : VK}
    (g : GM K ca E n G0 H0 σ Q (x.bind fun p => .ok (p.1, upS δ i p.2))) : MutQ K ca (E σ) G H a Q x := by
  cases x with
  | ok p =>
    obtain ⟨d, o'⟩ := p
    cases o' with
    | none => exact fun v G' H' e hv => g v G' H' (r.grow e) hv
    | some o' => exact fun v G' H' x eg es eh en ga ho hc hv => g v G' H' (r.mutG (s := Ob.sl o) rfl hi ha rfl eg es eh en ga ho hc) hv
  | exc c => exact fun H' s => g H' (r.e0.h.trans s)
  | bad => exact g
def mMe (i : Nat) (F : Ob → List D → R (D × Option Ob)) : Es → R (D × Es) := fun δ => match obAt δ i with
  | some o => (F o []).bind fun p => .ok (p.1, upS δ i p.2)
  | none => .bad
theorem cm_meth {i : Nat} {m : Str} {F : Ob → List D → R (D × Option Ob)} (hm : (¬ m = "quantity") ∧ (¬ m = "steps") ∧ ¬ m = "kept") : CM K ca E n (tMethD (ctrC K) m (spMut K ca 0 F) E (tVar i)) (mMe i F) := fun G0 H0 G H σ δ Q r g => by
  unfold mMe at g
  split at g
  · rename_i o ho
    have hi := obAt_some ho
    obtain ⟨a, dx, vq, w, h1, h2, h3, h4, h5, h6⟩ := r.obs i _ _ _ hi
    exact ⟨.ref a, h1, a, dx, _, rfl, h4, obFs_no hm.1 hm.2.1 hm.2.2, G, a, dx, vq, w, o, [], [], rfl, rfl, r.s, h3, h4, h5, h6, .nil, mut_gm r hi h1 g⟩
  · exact g.elim
def mCall (i : Nat) (F : Ob → List D → R (D × Option Ob)) (f : FE) : Es → R (D × Es) := fun δ => match obAt δ i with
  | some o => (f (v0 δ)).bind fun d => (F o [d]).bind fun p => .ok (p.1, upS δ i p.2)
  | none => .bad
theorem cm_call {i : Nat} {F : Ob → List D → R (D × Option Ob)} {te : TE} {f : FE} (h : CE K ca E te f) : CM K ca E n (tCallS (spMut K ca 1 F) E (tCons (tVar i) (tCons te tNil))) (mCall i F f) := fun G0 H0 G H σ δ Q r g => by
  unfold mCall at g
  split at g
  · rename_i o ho
    have hi := obAt_some ho
    obtain ⟨a, _, _, _, h1, _⟩ := r.obs i _ _ _ hi
    refine ⟨.ref a, h1, ?_⟩
    refine h σ (v0 δ) G H _ r.s r.re ?_
    cases hf : f (v0 δ) with
    | ok d =>
      rw [hf, R.bind_ok] at g
      intro v G1 H1 e1 hv
      have r1 := r.grow e1
      obtain ⟨a', dx, vq, w, h1', h2, h3, h4, h5, h6⟩ := r1.obs i _ _ _ hi
      rw [h1] at h1'
      cases h1'
      exact ⟨G1, a, dx, vq, w, o, [v], [d], rfl, rfl, r1.s, h3, h4, h5, h6, .cons hv .nil, mut_gm r1 hi h1 g⟩
    | exc c => rw [hf] at g; exact fun H' s => g H' (r.e0.h.trans s)
    | bad => rw [hf] at g; exact g
  · exact g.elim
def mIf (ft : FT) (fa fb : Es → R (D × Es)) : Es → R (D × Es) := fun δ => (ft (vw δ)).bind fun b => if b = true then fa δ else fb δ
theorem cm_if {tt : TT} {ta tb : TE} {ft : FT} {fa fb : Es → R (D × Es)} (ht : CT K ca E tt ft) (ha : CM K ca E n ta fa) (hb : CM K ca E n tb fb) : CM K ca E n (tIf tt ta tb) (mIf ft fa fb) := fun G0 H0 G H σ δ Q r g => by
  unfold mIf at g
  refine ht σ (vw δ) (frzG G H σ δ) H _ r.sfh r.rw_ ?_
  cases hf : ft (vw δ) with
  | ok b =>
    rw [hf, R.bind_ok] at g
    intro b' G1 H1 e1 hv
    cases hv
    have r1 := r.growH e1.h
    cases b with
    | true => rw [if_pos rfl] at g ⊢; exact ha G0 H0 G H1 σ δ Q r1 g
    | false => rw [if_neg Bool.false_ne_true] at g ⊢; exact hb G0 H0 G H1 σ δ Q r1 g
  | exc c => rw [hf] at g; exact fun H' s => g H' (r.e0.h.trans s)
  | bad => rw [hf] at g; exact g
def mOp (g : D → D → R D) (fa : Es → R (D × Es)) (fb : FE) : Es → R (D × Es) := fun δ => (fa δ).bind fun p => (fb (v0 p.2)).bind fun y => (g p.1 y).bind fun z => .ok (z, p.2)
theorem cm_op {r0 : R2} {g0 : D → D → R D} {ta tb : TE} {fa : Es → R (D × Es)} {fb : FE} (ho : OD K ca r0 g0) (ha : CM K ca E n ta fa) (hb : CE K ca E tb fb) : CM K ca E n (tOp r0 ta tb) (mOp g0 fa fb) := fun G0 H0 G H σ δ Q r g => by
  unfold mOp at g
  refine ha G0 H0 G H σ δ _ r ?_
  cases hf : fa δ with
  | ok p =>
    obtain ⟨x, δ'⟩ := p
    rw [hf, R.bind_ok] at g
    intro v G1 H1 r1 hv
    refine hb σ (v0 δ') G1 H1 _ r1.s r1.re ?_
    cases hg : fb (v0 δ') with
    | ok y =>
      simp only [hg, R.bind_ok] at g
      intro u G2 H2 e2 hu
      have r2 := r1.grow e2
      refine ho (E σ) v u G2 H2 Q x y r2.s (dp_mono e2.g hv) hu ?_
      cases hz : g0 x y with
      | ok z => rw [hz] at g; exact fun w G3 H3 e3 hw => g w G3 H3 (r2.grow e3) hw
      | exc c => rw [hz] at g; exact fun H' s => g H' (r2.e0.h.trans s)
      | bad => rw [hz] at g; exact g
    | exc c => simp only [hg] at g; exact fun H' s => g H' (r1.e0.h.trans s)
    | bad => simp only [hg] at g; exact g
  | exc c => rw [hf] at g; exact g
  | bad => rw [hf] at g; exact g
def fM {α : Type} (r : R α) (k : α → Fl) : Fl := fR r k
def sAsgM (i : Nat) (f : Es → R (D × Es)) : Es → Fl := fun δ => fR (f δ) fun p => if i < p.2.length then .nx (p.2.set i (some (.im p.1))) else .bad
theorem cs_asgM {te : TE} {f : Es → R (D × Es)} {i : Nat} (h : CM K ca E n te f) : CS K ca E n (tAsg te (gName i)) (sAsgM i f) := fun G0 H0 G H σ δ Dd r g => by
  unfold sAsgM at g
  refine h G0 H0 G H σ δ _ r ?_
  cases hf : f δ with
  | ok p =>
    obtain ⟨d, δ'⟩ := p
    rw [hf, fR_ok] at g
    intro v G1 H1 r1 hv
    split at g
    · rename_i hi
      exact g _ _ _ (r1.set_im (by rw [← r1.ld]; exact hi) hv)
    · exact g.elim
  | exc c => rw [hf] at g; exact fun H' s => g σ H' r.ls s
  | bad => rw [hf] at g; exact g
def sExpM (f : Es → R (D × Es)) : Es → Fl := fun δ => fR (f δ) fun p => .nx p.2
theorem cs_expM {te : TE} {f : Es → R (D × Es)} (h : CM K ca E n te f) : CS K ca E n (tDrop te) (sExpM f) := fun G0 H0 G H σ δ Dd r g => by
  unfold sExpM at g
  refine h G0 H0 G H σ δ _ r ?_
  cases hf : f δ with
  | ok p =>
    obtain ⟨d, δ'⟩ := p
    rw [hf, fR_ok] at g
    exact fun v G1 H1 r1 hv => g _ _ _ r1
  | exc c => rw [hf] at g; exact fun H' s => g σ H' r.ls s
  | bad => rw [hf] at g; exact g
def sIfM (f : Es → R (D × Es)) (g1 g2 : Es → Fl) : Es → Fl := fun δ => fR (f δ) fun p => match p.1 with
  | .bool true => g1 p.2
  | .bool false => g2 p.2
  | _ => .bad
theorem cs_ifM {te : TE} {t u : TS} {f : Es → R (D × Es)} {g1 g2 : Es → Fl} (h : CM K ca E n te f) (h1 : CS K ca E n t g1) (h2 : CS K ca E n u g2) : CS K ca E n (tIfS (tTest te) t u) (sIfM f g1 g2) := fun G0 H0 G H σ δ Dd r g => by
  unfold sIfM at g
  refine h G0 H0 G H σ δ _ r ?_
  cases hf : f δ with
  | ok p =>
    obtain ⟨d, δ'⟩ := p
    rw [hf, fR_ok] at g
    intro v G1 H1 r1 hv
    cases d with
    | bool b =>
      cases dp_bl hv
      refine ⟨b, rfl, ?_⟩
      cases b with
      | true => rw [if_pos rfl]; exact h1 G0 H0 G1 H1 σ δ' Dd r1 g
      | false => rw [if_neg Bool.false_ne_true]; exact h2 G0 H0 G1 H1 σ δ' Dd r1 g
    | _ => exact g.elim
  | exc c => rw [hf] at g; exact fun H' s => g σ H' r.ls s
  | bad => rw [hf] at g; exact g
/-! ### the same call where nothing changes -/
def rem (G : Hp) (a : Addr) : Hp := fun b => if b = a then none else G b
theorem rem_ne {G : Hp} {a b : Addr} (h : b ≠ a) : rem G a b = G b := if_neg h
theorem rem_same {G : Hp} {a : Addr} : rem G a a = none := if_pos rfl
mutual
theorem dp_rem {G : Hp} {a : Addr} {x : HO} (ha : G a = some x) (hn : NoT x) : ∀ {v : V} {d : D}, Dp K G v d → lf d = true → Dp K (rem G a) v d
  | _, _, .non, _ => .non
  | _, _, .bl b, _ => .bl b
  | _, _, .int i, _ => .int i
  | _, _, .str x, _ => .str x
  | _, _, .lst h r, e => by simp [lf] at e
  | _, _, .obj h x y z, e => by simp [lf] at e
  | _, _, .tup (a := b) h r, e => by
    refine .tup ?_ (dps_rem ha hn r (by simpa [lf] using e))
    rcases h with (h | ⟨o, h⟩) | h
    · refine .inl (.inl ?_)
      rw [rem_ne]
      · exact h
      · intro z; subst z; rw [ha] at h; cases h; exact hn.1 _ rfl
    · refine .inl (.inr ⟨o, ?_⟩)
      rw [rem_ne]
      · exact h
      · intro z; subst z; rw [ha] at h; cases h; exact hn.2 _ _ rfl
    · exact .inr h
theorem dps_rem {G : Hp} {a : Addr} {x : HO} (ha : G a = some x) (hn : NoT x) : ∀ {vs : List V} {ds : List D}, DpAll K G vs ds → lfs ds = true → DpAll K (rem G a) vs ds
  | _, _, .nil, _ => .nil
  | _, _, .cons h r, e => by
    simp only [lfs, Bool.and_eq_true] at e
    exact .cons (dp_rem ha hn h e.1) (dps_rem ha hn r e.2)
end
def pureM (F : Ob → List D → R (D × Option Ob)) : List D → R D
  | d :: ds => match dOb d with
    | some o => if (lf o.1 && lfs ds) = true then (F o ds).bind fun p => match p.2 with
        | none => .ok p.1
        | some _ => .bad
      else .bad
    | none => .bad
  | [] => .bad
theorem sp_pure {m : Nat} {F : Ob → List D → R (D × Option Ob)} : ∀ vs H Q E, spD K ca (m + 1) (pureM F) vs H Q E → spMut K ca m F vs H Q E := fun vs H Q E h => by
  obtain ⟨G, ds, sg, hl, hd, g⟩ := h
  cases hd with
  | nil => cases hl
  | @cons v us d ds hv hus =>
    unfold pureM at g
    simp only at g
    split at g
    · rename_i o ho
      obtain ⟨q, bs, k⟩ := o
      have hd := dOb_some ho
      subst hd
      split at g
      · rename_i hlf
        rw [Bool.and_eq_true] at hlf
        obtain ⟨a, dx, vq, w, rfl, ha, hq, hs⟩ := dp_ob hv
        have hn : NoT (HO.ins (ctrC K) dx (obFs vq w (.int k))) := ⟨fun _ z => (nomatch z), fun _ _ z => (nomatch z)⟩
        have sr : Same (rem G a) G := fun b x hb => by
          unfold rem at hb
          split at hb
          · cases hb
          · exact hb
        refine ⟨rem G a, a, dx, vq, w, (q, bs, k), us, ds, rfl, by simpa using hl, sr.trans sg, rem_same, sg _ _ ha, dp_rem ha hn hq hlf.1, ?_, dps_rem ha hn hus hlf.2, ?_⟩
        · obtain ⟨b, ob, rfl, hb, hd⟩ := hs
          refine ⟨b, ob, rfl, ?_, hd⟩
          rw [rem_ne]
          · exact hb
          · intro z; subst z; rw [ha] at hb; cases hb
        · cases hF : F (q, bs, k) ds with
          | ok p =>
            obtain ⟨r, o'⟩ := p
            rw [hF, R.bind_ok] at g
            cases o' with
            | some o' => exact g.elim
            | none =>
              intro v G' H' e hv
              have hG'a : G' a = none := e.n a (by rw [sg _ _ ha]; exact fun z => nomatch z) rem_same
              have s2 : Same G' (upd G' a (HO.ins (ctrC K) dx (obFs vq w (.int k)))) := same_upd hG'a
              refine g v (upd G' a (HO.ins (ctrC K) dx (obFs vq w (.int k)))) H' ⟨fun b x hb => ?_, fun b x hb => ?_, e.h, fun b hb gb => ?_⟩ (dp_mono s2 hv)
              · by_cases hba : b = a
                · subst hba; rw [ha] at hb; cases hb; exact upd_same
                · rw [upd_ne hba]; exact e.g b x (by rw [rem_ne hba]; exact hb)
              · by_cases hba : b = a
                · subst hba; rw [upd_same] at hb; cases hb; exact e.h _ _ (sg _ _ ha)
                · rw [upd_ne hba] at hb; exact e.s b x hb
              · have hba : b ≠ a := fun z => by subst z; rw [ha] at gb; cases gb
                rw [upd_ne hba]
                exact e.n b hb (by rw [rem_ne hba]; exact gb)
          | exc c => rw [hF] at g; exact g
          | bad => rw [hF] at g; exact g.elim
      · exact g.elim
    · exact g.elim
end
end HL
end
section
set_option Elab.async false
set_option linter.all false
set_option maxRecDepth 100000
set_option maxHeartbeats 4000000
namespace HL
open PySem PySem.Spec PyProof.Rows L2
section
variable {K : PySem.W.Frag} {ca : String → Addr} {n : Nat} {mg : Str → Option Value}
/-! ### added: outcomes with one more -/
def spAdd (K : PySem.W.Frag) (ca : String → Addr) : Sp := fun vs H Q E => ∃ G v bs b, vs = [v, .bl b] ∧ Same G H ∧ Stp G v bs ∧ bs.length ≤ 100 ∧
  (if bs.length = 6 then ∀ H', Same H H' → EX ca E "TooMany" H' else ∀ u G' H', Ex4 G H G' H' → Stp G' u (bs ++ [b]) → Q u H')
theorem spAdd_len : ∀ vs H Q E, spAdd K ca vs H Q E → vs.length = 2 := fun vs H Q E h => by
  obtain ⟨G, v, bs, b, rfl, _⟩ := h
  rfl
theorem Stp.sq {H : Hp} {v : V} {bs : List Bool} (h : Stp H v bs) : ∃ p, v = .ref p ∧ SqT K H p (bs.map V.bl) := by
  obtain ⟨p, o, rfl, h2, _⟩ := h
  exact ⟨p, rfl, .inl (.inr ⟨o, h2⟩)⟩
theorem Stp.new {H : Hp} {p : Addr} {o : Obj} {bs : List Bool} (hd : o.dict = none) : Stp (upd H p (.frz o (.tup (bs.map V.bl)))) (.ref p) bs := ⟨p, o, rfl, upd_same, hd⟩
theorem cutV_map (bs : List Bool) (lo hi : Option Int) : cutV (bs.map V.bl) lo hi = (cutD bs lo hi).map V.bl := by
  unfold cutV cutD
  rw [List.length_map, List.map_take, List.map_drop]
/-! ### what the methods do -/
def fAdd (b : Bool) : Ob → List D → R (D × Option Ob) := fun o _ => if o.2.1.length = 6 then .exc "TooMany" else if o.2.1.length ≤ 100 then .ok (.int (o.2.1.length + 1 : Nat), some (o.1, o.2.1 ++ [b], o.2.2)) else .bad
def fUndo : Ob → List D → R (D × Option Ob) := fun o _ => if (o.2.1.length : Int) ≤ o.2.2 then .exc "NothingToUndo" else if o.2.1.length ≤ 100 then .ok (.int ((cutD o.2.1 none (some (-1))).length : Nat), some (o.1, cutD o.2.1 none (some (-1)), o.2.2)) else .bad
def fDup (F : List D → R D) : Ob → R Ob := fun o => (F [o.1]).bind fun _ => if o.2.1.length ≤ 100 then .ok (o.1, o.2.1, (o.2.1.length : Nat)) else .bad
theorem spMut_len {m : Nat} {F : Ob → List D → R (D × Option Ob)} : ∀ vs H Q E, spMut K ca m F vs H Q E → vs.length = m + 1 := fun vs H Q E h => by
  obtain ⟨G, a, dx, vq, w, o, us, ds, rfl, h, _⟩ := h
  simpa using h
theorem spDup_len {F : Ob → R Ob} : ∀ vs H Q E, spDup K ca F vs H Q E → vs.length = 1 := fun vs H Q E h => by
  obtain ⟨G, x, o, rfl, _⟩ := h
  rfl
theorem spIni_len {F : List D → R D} : ∀ vs H Q E, spIni K ca F vs H Q E → vs.length = 2 := fun vs H Q E h => by
  obtain ⟨x, dx, vq, G, dq, rfl, _⟩ := h
  rfl
/-- the rest of the heap behind a write at a -/
theorem mut_end {G H G1 H1 Hf : Hp} {a : Addr} {x : HO} (e1 : Ex4 G H G1 H1) (ga : G a = none) (ha : H a = some x) (hf : ∀ b, b ≠ a → Hf b = H1 b) :
    G1 a = none ∧ Same G1 Hf ∧ (∀ b x, b ≠ a → H b = some x → Hf b = some x) ∧ (∀ b, b ≠ a → H b ≠ none → G b = none → G1 b = none) := by
  have g1 : G1 a = none := e1.n a (by rw [ha]; exact fun z => nomatch z) ga
  exact ⟨g1, fun b o hb => by rw [hf b (ne_of_none hb g1)]; exact e1.s b o hb, fun b o hb h => by rw [hf b hb]; exact e1.h b o h, fun b _ h g => e1.n b h g⟩
/-! ### a def that changes its first argument: what its body reads -/
def RdE (K : PySem.W.Frag) (ca : String → Addr) (E : L2.St → XK) (n : Nat) (t : TE) (F : Ob → D → R (D × Option Ob)) : Prop := ∀ G H a dx vq w o v d σ Q, σ.length = n → σ[0]? = some (some (.ref a)) → σ[1]? = some (some v) → Same G H → G a = none →
  H a = some (.ins (ctrC K) dx (obFs vq w (.int o.2.2))) → Dp K G vq o.1 → Stp G w o.2.1 → Dp K G v d → MutQ K ca (E σ) G H a Q (F o d) → t σ H Q
def RdM (K : PySem.W.Frag) (ca : String → Addr) (E : L2.St → XK) (n : Nat) (t : TS) (F : Ob → D → R (D × Option Ob)) : Prop := ∀ G H a dx vq w o v d σ Q, σ.length = n → σ[0]? = some (some (.ref a)) → σ[1]? = some (some v) → Same G H → G a = none →
  H a = some (.ins (ctrC K) dx (obFs vq w (.int o.2.2))) → Dp K G vq o.1 → Stp G w o.2.1 → Dp K G v d → MutQ K ca (E σ) G H a Q (F o d) → t { nx := fun _ H' => Q .non H', rt := Q } σ H
theorem rdE_meth {E : L2.St → XK} {m : Str} {F : Ob → List D → R (D × Option Ob)} (hm : (¬ m = "quantity") ∧ (¬ m = "steps") ∧ ¬ m = "kept") : RdE K ca E n (tMethD (ctrC K) m (spMut K ca 0 F) E (tVar 0)) (fun o _ => F o []) := fun G H a dx vq w o v d σ Q _ h0 _ sg ga ha hq hs hv g =>
  ⟨.ref a, h0, a, dx, _, rfl, ha, obFs_no hm.1 hm.2.1 hm.2.2, G, a, dx, vq, w, o, [], [], rfl, rfl, sg, ga, ha, hq, hs, .nil, g⟩
def pureR (F : List D → R D) (o : Ob) : R (D × Option Ob) := (F [Ob.dat o]).bind fun r => if lf r = true then .ok (r, none) else .bad
theorem rdE_read {E : L2.St → XK} {m : Str} {F : List D → R D} (hm : (¬ m = "quantity") ∧ (¬ m = "steps") ∧ ¬ m = "kept") : RdE K ca E n (tMethD (ctrC K) m (spD K ca 1 F) E (tVar 0)) (fun o _ => pureR F o) := fun G H a dx vq w o v d σ Q _ h0 _ sg ga ha hq hs hv g => by
  have s1 : Same G (upd G a (.ins (ctrC K) dx (obFs vq w (.int o.2.2)))) := same_upd ga
  have s2 : Same (upd G a (.ins (ctrC K) dx (obFs vq w (.int o.2.2)))) H := fun b x hb => by
    by_cases hba : b = a
    · subst hba; rw [upd_same] at hb; rw [ha]; exact hb
    · rw [upd_ne hba] at hb; exact sg b x hb
  refine ⟨.ref a, h0, a, dx, _, rfl, ha, obFs_no hm.1 hm.2.1 hm.2.2, upd G a (.ins (ctrC K) dx (obFs vq w (.int o.2.2))), [Ob.dat o], s2, rfl, .cons (dp_obj upd_same (dp_mono s1 hq) (hs.mono s1)) .nil, ?_⟩
  have g : MutQ K ca (E σ) G H a Q (pureR F o) := g
  unfold pureR at g
  cases hF : F [Ob.dat o] with
  | ok r =>
    rw [hF, R.bind_ok] at g
    intro u G3 H3 e3 hu
    split at g
    · rename_i hl
      have g3a : G3 a = some (.ins (ctrC K) dx (obFs vq w (.int o.2.2))) := e3.g _ _ upd_same
      refine g u (rem G3 a) H3 ⟨fun b x hb => ?_, fun b x hb => ?_, e3.h, fun b hb gb => ?_⟩ (dp_rem g3a ⟨fun _ z => (nomatch z), fun _ _ z => (nomatch z)⟩ hu hl)
      · rw [rem_ne (ne_of_none hb ga)]; exact e3.g b x (s1 b x hb)
      · unfold rem at hb
        split at hb
        · cases hb
        · exact e3.s b x hb
      · by_cases hba : b = a
        · subst hba; exact rem_same
        · rw [rem_ne hba]; exact e3.n b hb (by rw [upd_ne hba]; exact gb)
    · exact g.elim
  | exc c => rw [hF] at g; exact g
  | bad => rw [hF] at g; exact g
theorem eqv_int (m j : Int) : PyData.eqv (.int m) (.int j) = (m == j) := rfl
theorem sh_int (m : Int) : SeqAt.shaped (.int m) = true := by simp [SeqAt.shaped, PyData.canLay0, PyData.depth]
theorem rd_test {G H : Hp} {σ : L2.St} {v : V} {m j : Int} (h1 : σ[1]? = some (some v)) (hv : Dp K G v (.int m)) {Q : Bool → Hp → Prop} (q : Q (m == j) H) : tTest (tOp (rEqD K) (tVar 1) (tC (.int j))) σ H Q := by
  cases dp_int hv
  exact ⟨_, h1, .int m, .int j, .int m, .int j, sh_int m, sh_int j, _, rfl, q⟩
def ifI (j : Int) (F1 F2 : Ob → D → R (D × Option Ob)) : Ob → D → R (D × Option Ob) := fun o d => match d with
  | .int m => if m == j then F1 o d else F2 o d
  | _ => .bad
theorem rdM_if {E : L2.St → XK} {j : Int} {te : TE} {rest : TS} {F1 F2 : Ob → D → R (D × Option Ob)} (h1 : RdE K ca E n te F1) (h2 : RdM K ca E n rest F2) : RdM K ca E n (tSeq (tIfS (tTest (tOp (rEqD K) (tVar 1) (tC (.int j)))) (tRet te) tNext) rest) (ifI j F1 F2) := fun G H a dx vq w o v d σ Q hl h0 h1' sg ga ha hq hs hv g => by
  unfold ifI at g
  split at g
  · rename_i m
    refine rd_test h1' hv ?_
    cases hm : (m == j) with
    | true =>
      rw [hm, if_pos rfl] at g
      rw [if_pos rfl]
      exact h1 G H a dx vq w o v _ σ Q hl h0 h1' sg ga ha hq hs hv g
    | false =>
      rw [hm, if_neg Bool.false_ne_true] at g
      rw [if_neg Bool.false_ne_true]
      exact h2 G H a dx vq w o v _ σ Q hl h0 h1' sg ga ha hq hs hv g
  · exact g.elim
theorem rdM_ret {E : L2.St → XK} {te : TE} {F : Ob → D → R (D × Option Ob)} (h : RdE K ca E n te F) : RdM K ca E n (tRet te) F := fun G H a dx vq w o v d σ Q hl h0 h1' sg ga ha hq hs hv g =>
  h G H a dx vq w o v d σ Q hl h0 h1' sg ga ha hq hs hv g
theorem rdE_if {E : L2.St → XK} {j : Int} {ta tb : TE} {F1 F2 : Ob → D → R (D × Option Ob)} (h1 : RdE K ca E n ta F1) (h2 : RdE K ca E n tb F2) : RdE K ca E n (tIf (tTest (tOp (rEqD K) (tVar 1) (tC (.int j)))) ta tb) (ifI j F1 F2) := fun G H a dx vq w o v d σ Q hl h0 h1' sg ga ha hq hs hv g => by
  unfold ifI at g
  split at g
  · rename_i m
    refine rd_test h1' hv ?_
    cases hm : (m == j) with
    | true =>
      rw [hm, if_pos rfl] at g
      rw [if_pos rfl]
      exact h1 G H a dx vq w o v _ σ Q hl h0 h1' sg ga ha hq hs hv g
    | false =>
      rw [hm, if_neg Bool.false_ne_true] at g
      rw [if_neg Bool.false_ne_true]
      exact h2 G H a dx vq w o v _ σ Q hl h0 h1' sg ga ha hq hs hv g
  · exact g.elim
/-! ### its exceptions are caught -/
def catchM (Cr : List String) (cl : List Clause) (x : R (D × Option Ob)) : R (D × Option Ob) := match x with
  | .exc c => if c ∈ Cr then (match hdl cl c with
    | .rt d => .ok (d, none)
    | _ => .bad) else .bad
  | o => o
theorem hdl_ok {E : L2.St → XK} {Cr Ct : List String} {cl : List Clause} {i : Nat} (xf : XF K ca Cr Ct) (hct : ∀ q ∈ cl, q.c ∈ Ct ∧ q.A ∈ Ct ∧ q.B ∈ Ct) (hi : i < n) {c : String} (hc : c ∈ Cr) {G0 H0 : Hp} (sG : Same G0 H0) {σ' : L2.St} {H' : Hp} (hl : σ'.length = n) (sH : Same H0 H') {Dd : Ends}
    (g2 : GdS K ca E n G0 H0 Dd (hdl cl c)) : wMA K i (fun c d σ H => E σ c d H) Dd (clsOf K ca i cl) (.ref (ca c)) none σ' H' := by
  induction cl with
  | nil =>
    have g3 : EX ca (E σ') c H' := g2 σ' H' hl sH
    rw [EX.plain (xf.l c hc)] at g3
    exact g3
  | cons q r ih =>
    obtain ⟨q1, q2, q3⟩ := hct q List.mem_cons_self
    refine ⟨subX c q.c, xf.e c hc _ q1, fun hy a ha => ⟨ca c, rfl, rfl, xf.c c hc, ?_⟩, fun hn => ih (fun p hp => hct p (List.mem_cons_of_mem _ hp)) ?_⟩
    · have hs : (σ'.set i (some (.ref a)))[i]? = some (some (V.ref a)) := List.getElem?_set_self (by rw [hl]; exact hi)
      have gg : GdS K ca E n G0 H0 Dd (.rt (.str (if (subX c q.A && !subX c q.B) = true then q.x else q.y))) := by
        rw [hdl, if_pos hy] at g2
        exact g2
      have fin : Dd.rt (.str (if (subX c q.A && !subX c q.B) = true then q.x else q.y)) H' := gg (.str _) G0 H' ⟨Same.refl G0, sG.trans sH, sH, fun _ _ z => z⟩ (.str _)
      refine tIsT_ok hs (xf.k c hc _ q2) ?_
      cases hA : subX c q.A with
      | false =>
        rw [hA] at fin
        exact fin
      | true =>
        rw [if_pos rfl]
        refine tIsT_ok hs (xf.k c hc _ q3) ?_
        rw [hA] at fin
        cases hB : subX c q.B with
        | false => rw [hB] at fin; exact fin
        | true => rw [hB] at fin; exact fin
    · rw [hdl, hn, if_neg Bool.false_ne_true] at g2
      exact g2
theorem catch_ok {E : L2.St → XK} {Cr Ct : List String} {cl : List Clause} {i : Nat} (xf : XF K ca Cr Ct) (hct : ∀ q ∈ cl, q.c ∈ Ct ∧ q.A ∈ Ct ∧ q.B ∈ Ct) (hi : i < n) {G H : Hp} {a : Addr} {Q : VK} {σ : L2.St} (hl : σ.length = n) (sG : Same G H) {x : R (D × Option Ob)}
    (g : MutQ K ca (E σ) G H a Q (catchM Cr cl x)) : MutQ K ca (fun c d H' => wMA K i (fun c d σ H => E σ c d H) { nx := fun _ H' => Q .non H', rt := Q } (clsOf K ca i cl) c d σ H') G H a Q x := by
  cases x with
  | ok p =>
    obtain ⟨d, o⟩ := p
    cases o with
    | none => exact g
    | some o => exact g
  | bad => exact g
  | exc c =>
    unfold catchM at g
    simp only at g
    split at g
    · rename_i hc
      intro H' sH
      rw [EX.plain (xf.l c hc)]
      refine hdl_ok xf hct hi hc sG hl sH ?_
      split at g
      · rename_i d hd
        rw [hd]
        exact fun v G1 H1 e hv => g v G1 H1 e hv
      · exact g.elim
    · exact g.elim
end
section
variable {X : Cx} {nm : Str} {i : Nat} {body : List Stmt} {h0 : ExceptHandler} {hds : List ExceptHandler} {pos : Pos} {tb : WX → TS}
variable {ca : String → Addr} {E : L2.St → XK} {n : Nat}
theorem def_tryM {Cr Ct : List String} {cl : List Clause} {F : Ob → D → R (D × Option Ob)} (hs : X.stack = X.env :: X.outer) (hf : X.env.frame = some X.env.locals) (hN : X.N.Nodup) (hi : X.N[i]? = some nm) (hln : X.env.kindOf nm = some .local) (tk : Takes X (fun c d σ H => E σ c d H))
    (hb : ∀ (W : WX) (pn : List (Addr × Obj)) (xe : Value → Shared → Prop), Takes (X.tr pn xe) W → PassesOwn (model X.prog X.w) X.A X.env xe → PSs (X.tr pn xe) body (tb W))
    (hc : ∀ W : WX, RdM X.K ca (fun σ c d H => W c d σ H) n (tb W) F)
    (hh : HdsA X nm (h0 :: hds) (clsOf X.K ca i cl)) (xf : XF X.K ca Cr Ct) (hct : ∀ q ∈ cl, q.c ∈ Ct ∧ q.A ∈ Ct ∧ q.B ∈ Ct) (hin : i < n) :
    ∃ t, PSs X [.Try body (h0 :: hds) [] [] pos] t ∧ RdM X.K ca E n t (fun o d => catchM Cr cl (F o d)) :=
  ⟨_, pss_one (ps_tryA hs hf hN hi hln tk hb hh), fun G H a dx vq w o v d σ Q hl h0 h1 sg ga ha hq hs hv g =>
    hc _ G H a dx vq w o v d σ Q hl h0 h1 sg ga ha hq hs hv (catch_ok xf hct hin hl sg g)⟩
theorem fin_tryM {N : List Str} {b : List Stmt} {F : Ob → D → R (D × Option Ob)} {vs : List V} {H : Hp} {Q : VK} {E : XK} (hN : N.length = 3) (h : ∃ t, PSs X b t ∧ RdM X.K ca (fun _ => E) N.length t F) (sp : spMut X.K ca 1 (fun o ds => match ds with | [d] => F o d | _ => .bad) vs H Q E) :
    ∃ t, PSs X b t ∧ t { nx := fun _ H' => Q .non H', rt := Q } (start N vs) H := by
  obtain ⟨t, a, c⟩ := h
  obtain ⟨G, a', dx, vq, w, o, us, ds, rfl, hl, sg, ga, ha, hq, hs, hus, g⟩ := sp
  cases hus with
  | nil => cases hl
  | @cons v us d ds hv hr =>
    cases hr with
    | nil => exact ⟨t, a, c G H a' dx vq w o v d _ Q (by simp [L2.start, hN]) (by simp [L2.start]) (by simp [L2.start]) sg ga ha hq hs hv g⟩
    | cons _ _ => simp at hl
end
end HL
namespace HL
open PySem PySem.Spec PyProof.Rows L2
/-! ### a def with any promise -/
def OkS (P : Program) (w : World) (K : PySem.W.Frag) (mg : Str → Option Value) (base : Heap) (x : Str) (ps : List Str) (k : Nat) (sp : Sp) : Prop :=
  ∃ f fd, mg x = some (.ref f) ∧ PySem.W.keepIn K (.ref f) = true ∧ Binds K fd ps [] ∧ FnOk P w K mg base (L2.CX P w) k f fd ps sp
theorem OkS.imp {P : Program} {w : World} {K : PySem.W.Frag} {mg : Str → Option Value} {base : Heap} {x : Str} {ps : List Str} {k : Nat} {sp sp' : Sp} (h : OkS P w K mg base x ps k sp) (hi : ∀ vs H Q E, sp' vs H Q E → sp vs H Q E) : OkS P w K mg base x ps k sp' :=
  let ⟨f, fd, a, b, c, d⟩ := h
  ⟨f, fd, a, b, c, d.imp hi⟩
section
variable {X : Cx} {ca : String → Addr} {E : L2.St → XK} {x : Str} {ps : List Str} {k : Nat} {sp : Sp} {e : Expr} {es : List Expr} {t : TA} {p pos : Pos}
theorem pe_callG {P : Program} {w : World} {K : PySem.W.Frag} {mg : Str → Option Value} {base : Heap} {A : Around} (h : OkS P w K mg base x ps k sp) (hr : Room k A) (hg : Gl X x) (hx : ∀ σ, PassesAt (L2.CX X.prog X.w) X σ (E σ)) (ha : PA X (e :: es) t)
    (hP : X.prog = P := by rfl) (hw : X.w = w := by rfl) (hK : X.K = K := by rfl) (hmg : X.mg = mg := by rfl) (hbs : X.base = base := by rfl) (hA : X.A = A := by rfl)
    (hdb : (x == ("__debug__" : Str)) = false := by decide) (he : starEach (e :: es) X.env = (false, eval e X.env) :: starEach es X.env := by rfl) (hpl : (backTo pos (starEach es X.env)).any (·.1) = false := by rfl) :
    PE X (.Call (.Name x p) (e :: es) [] pos) (tCallS sp E t) := by
  subst hP hw hK hmg hbs hA
  obtain ⟨f, fd, hm, hk, hb, hF⟩ := h
  exact pe_callS hF hr hg hm hk hb hx ha hdb he hpl
end
end HL
end
section
set_option Elab.async false
set_option linter.all false
set_option maxRecDepth 100000
set_option maxHeartbeats 4000000
namespace HL
open PySem PySem.Spec PyProof.Rows L2
section
variable {K : PySem.W.Frag} {ca : String → Addr} {E : L2.St → XK} {n : Nat}
def dIntB : List D → R D
  | [.int i] => .ok (.int i)
  | [.bool b] => .ok (.int (if b then 1 else 0))
  | _ => .bad
theorem bd_intB : BD K ca (fun xs H Q => (∃ i, xs = [.int i] ∧ Q (.int i) H) ∨ ∃ k, xs = [.bl k] ∧ Q (.int (if k then 1 else 0)) H) dIntB := fun E vs G H Q ds sg h g => by
  unfold dIntB at g
  split at g
  · obtain ⟨v, rfl, hv⟩ := dps1 h
    cases dp_int hv
    exact .inl ⟨_, rfl, g.here (b := V.int _) sg (.int _)⟩
  · obtain ⟨v, rfl, hv⟩ := dps1 h
    cases dp_bl hv
    exact .inr ⟨_, rfl, g.here (b := V.int _) sg (.int _)⟩
  · exact g.elim
/-! ### try: .. except E as e: return isinstance(e, ValueError) -/
structure VF (K : PySem.W.Frag) (ca : String → Addr) (Cr : List String) : Prop where
  k : ∀ c ∈ Cr, PySem.W.kitOne K (.ref (ca c)) (.type "ValueError") = some true
def tVE (K : PySem.W.Frag) (i : Nat) : Addr → Addr → TS := fun C a => tRet (tCB (rIsE K C a) (tCons (tVar i) (tCons (tC (.ty "ValueError")) tNil)))
def sTryV (Cr : List String) (g : Es → Fl) : Es → Fl := fun δ => match g δ with
  | .exc c => if c ∈ Cr then .rt (.bool true) else .bad
  | o => o
theorem cz_tryV {Cr Ct : List String} {D0 : String} {i : Nat} {tb : WX → TS} {g : Es → Fl} (xf : XF K ca Cr Ct) (hD : D0 ∈ Ct) (hD1 : D0 = "EstimateError") (vf : VF K ca Cr) (hi : i < n)
    (hb : ∀ W : WX, CS K ca (fun σ c d H => W c d σ H) n (tb W) g) : CZ K ca E n (fun D σ H => tb (wMA K i (fun c d σ H => E σ c d H) D [(.ref (ca D0), tClX K (tVE K i))]) D σ H) (sTryV Cr g) := fun G0 H0 G H σ δ Dd sG r gg => by
  refine hb _ G0 H0 G H σ δ Dd r ?_
  unfold sTryV at gg
  cases hg : g δ with
  | nx δ => rw [hg] at gg; exact gg
  | rt d => rw [hg] at gg; exact gg
  | bk δ => rw [hg] at gg; exact gg
  | ct δ => rw [hg] at gg; exact gg
  | bad => rw [hg] at gg; exact gg
  | exc c =>
    rw [hg] at gg
    have g2 : GdS K ca E n G0 H0 Dd (if c ∈ Cr then .rt (.bool true) else .bad) := gg
    clear gg
    by_cases hc : c ∈ Cr
    · rw [if_pos hc] at g2
      intro σ' H' hl sH
      rw [EX.plain (xf.l c hc)]
      refine ⟨true, by rw [xf.e c hc _ hD, hD1, subX_base], fun _ a ha => ⟨ca c, rfl, rfl, xf.c c hc, ?_⟩, fun z => by cases z⟩
      have hs : (σ'.set i (some (.ref a)))[i]? = some (some (V.ref a)) := List.getElem?_set_self (by rw [hl]; exact hi)
      exact ⟨.ref a, hs, .ty "ValueError", .type "ValueError", true, rfl, fun u hu => hu, vf.k c hc, g2 (.bl true) G0 H' ⟨Same.refl G0, sG.trans sH, sH, fun _ _ z => z⟩ (.bl true)⟩
    · rw [if_neg hc] at g2
      exact g2.elim
end
section
variable {X : Cx} {nm : Str} {i : Nat} {body : List Stmt} {pos p' np : Pos} {tb : WX → TS} {x : Str}
variable {ca : String → Addr} {E : L2.St → XK} {n : Nat}
theorem def_tryV {Cr Ct : List String} {D0 : String} {g : Es → Fl} {s0 : Stmt} {su : List Stmt} (hs : X.stack = X.env :: X.outer) (hf : X.env.frame = some X.env.locals) (hN : X.N.Nodup) (hi : X.N[i]? = some nm) (hln : X.env.kindOf nm = some .local) (tk : Takes X (fun c d σ H => E σ c d H))
    (hb : ∀ (W : WX) (pn : List (Addr × Obj)) (xe : Value → Shared → Prop), Takes (X.tr pn xe) W → PassesOwn (model X.prog X.w) X.A X.env xe → PSs (X.tr pn xe) body (tb W))
    (hc : ∀ W : WX, CS X.K ca (fun σ c d H => W c d σ H) n (tb W) g) (nx : Names X x (.ref (ca D0)))
    (ok : ∀ (a : Addr) (o : Obj) (k : Value) (d : Option Addr) (pn : List (Addr × Obj)), Zc k d o → (∃ vs, o.data = .fields vs) → PSs (X.suite a ((a, o) :: pn)) (s0 :: su) (tClX X.K (tVE X.K i) a k d))
    (xf : XF X.K ca Cr Ct) (hD : D0 ∈ Ct) (hD1 : D0 = "EstimateError") (vf : VF X.K ca Cr) (hin : i < n) :
    ∃ t, PS X (.Try body [.ExceptHandler (some (.Name x np)) (some nm) (s0 :: su) p'] [] [] pos) t ∧ CZ X.K ca E n t (sTryV Cr g) :=
  ⟨_, ps_tryA hs hf hN hi hln tk hb (.cons nx ok .nil), cz_tryV xf hD hD1 vf hin hc⟩
end
theorem kit_ve {K : PySem.W.Frag} {C : Addr} (h : PySem.W.subIn K (.ref C) (.type "ValueError") = some true) : PySem.W.kitOne K (.ref C) (.type "ValueError") = some true := by
  unfold PySem.W.kitOne
  rw [if_neg (by simp)]
  show (if PySem.W.kitMeta "ValueError" = true then PySem.W.subIn K (.ref C) (.type "ValueError") else none) = some true
  rw [if_pos (by decide +kernel)]
  exact h
theorem kit_tref {K : PySem.W.Frag} {T : String} {B : Addr} {b : Bool} (hdct : PySem.W.hasDictIn K B = true) (ht : PySem.W.typeIn K (.ref B) = some (.type "type")) (h : PySem.W.subIn K (.type T) (.ref B) = some b) : PySem.W.kitOne K (.type T) (.ref B) = some b := by
  unfold PySem.W.kitOne
  rw [if_neg (by simp)]
  unfold PySem.W.hasDictIn at hdct
  cases hc : PySem.W.clsIn K B with
  | none => rw [hc] at hdct; cases hdct
  | some cd =>
    have e2 : ((PySem.W.clsIn K B).isSome && PySem.W.typeIn K (.ref B) == some (.type "type")) = true := by rw [hc, ht] <;> rfl
    show (if ((PySem.W.clsIn K B).isSome && PySem.W.typeIn K (.ref B) == some (.type "type")) = true then PySem.W.subIn K (.type T) (.ref B) else none) = some b
    rw [if_pos e2]
    exact h
theorem notFirst_of {K : PySem.W.Frag} {T : String} {B : Addr} (h : PySem.W.subIn K (.type T) (.ref B) = some false) : PySem.W.notFirst K B (.type T) = true := by
  unfold PySem.W.notFirst
  rw [h]
  simp
theorem ctrC_of {K : PySem.W.Frag} {C : Addr} (h : PySem.W.nsIn K mainGlobals "Counter" = some (some (.ref C))) : C = ctrC K := by
  unfold ctrC
  rw [h]
end HL
end
section
set_option Elab.async false
set_option linter.all false
set_option maxRecDepth 100000
set_option maxHeartbeats 4000000
namespace PySem.W
open PySem PySem.Spec PySem.Calls PyProof.Rows
section
variable {prog : Program} {w : World} {A : Around} {E : Value → Shared → Prop} {s : Shared} {K : Frag} {x D : Addr} {ox : Obj} {od : Obj}
theorem kin_classD {Q : Option Value → Shared → Prop} (hga : findIn K (.ref D) "__getattribute__" = some (some (.builtin "BaseException.__getattribute__"))) (hgt : findIn K (.ref D) "__getattr__" = some none) (hsub : subIn K (.ref D) (.type "BaseException") = some true)
    (hdct : hasDictIn K D = true) (ha : findIn K (.ref D) "__class__" = some (some (.builtin "object.__class__")))
    (hn : specialIn K (.builtin "object.__class__") "__get__" = some (some (.builtin "getset_descriptor.__get__"))) (htk : takesIn K (.builtin "object.__class__") = some true) (hm : mroIn K D (.type "object") = some true)
    (X : K.In s.heap) (I : InstAt s.heap x ox D (some od)) (h : Q (some (.ref D)) { s with toks := s.toks + 1 }) : wpAny (model prog w) A (getAttr? (.ref x) "__class__") Q E s := by
  have hf : findObj K D (some od) "__class__" = some (.bind (.builtin "getset_descriptor.__get__") (.builtin "object.__class__")) := findObj_data (by obtain ⟨cd, hc, _⟩ := any_some hdct; rw [hc]; rfl) ha hn htk
  obtain ⟨hp, g, d, t, os⟩ := s
  have L0 := I.type (M := model prog w)
  have L1 := looks_findIn (M := model prog w) X hga
  have L2 := looks_findIn (M := model prog w) X hgt
  have L3 := looks_find (M := model prog w) X I hf
  have sub : Looks (model prog w) hp (isInstance (.ref x) (.type "BaseException")) true := L0.andThen (looks_subIn X hsub)
  have hx0 : (false && onTheHeap (Value.builtin "BaseException.__getattribute__")) = false := rfl
  have hx2 : (Value.builtin "BaseException.__getattribute__" == Value.builtin "object.__getattribute__") = false := by decide +kernel
  have hx1 : (onTheHeap (Value.ref D) && Value.builtin "BaseException.__getattribute__" == Value.builtin "object.__getattribute__") = false := by rw [hx2]; rfl
  unfold getAttr? getAttrBy? getAttrBy
  refine wpAny_bind (wpAny_mkText (wpAny_bind (wpAny_attempt (wpAny_holding (wpAny_bind (L0.at (wpAny_bind (L1.at ?_))))))))
  show wpAny _ _ (if (onTheHeap (Value.ref D) && Value.builtin "BaseException.__getattribute__" == Value.builtin "object.__getattribute__") = true then _ else _) _ _ _
  rw [hx1, if_neg Bool.false_ne_true]
  unfold getAttrByItsOwn hookBefore
  refine wpAny_bind ?_
  rw [if_pos (show onTheHeap (Value.ref D) = true from rfl)]
  refine L2.at ?_
  refine wpAny_bind (wpAny_attempt (wpAny_holding ?_))
  unfold callGetattribute
  rw [hx0, if_neg Bool.false_ne_true]
  unfold boundAndCalled
  rw [PySem.F.excAttr_ValueError.ga.bind (.ref x)]
  refine wpAny_bind (wpAny_pure ?_)
  show wpAny _ _ (call (.builtin "BaseException.__getattribute__") [.ref x, .str "__class__" t]) _ _ _
  refine wpAny_call (codeAny_call_builtin PySem.F.excAttr_ValueError.ga.plain PySem.F.entry_bexc_ga ?_)
  refine @check_slot (model prog w) _ _ ⟨hp, g, d, t + 1, os⟩ "BaseException.__getattribute__" "BaseException" "__getattribute__" (.ref x) [.str "__class__" t] [] _ (by decide +kernel) (by decide +kernel) sub (PySem.F.args_bexc_ga (.ref x) (.str "__class__" t)) ?_
  unfold Builtin.«object.__getattribute__»
  refine wpAny_bind (wpAny_of_eq (a := ((Value.ref x : Value), [Value.str "__class__" t])) (by first | rfl | (simp only [slotArgs]; rfl)) ?_)
  refine wpAny_bind (wpAny_pure (wpAny_bind (L0.at (wpAny_bind (L3.at ?_)))))
  show wpAny _ _ (holding [Value.builtin "object.__class__"] (call (.builtin "getset_descriptor.__get__") [.builtin "object.__class__", .ref x, .ref D]) >>= ret) _ _ _
  refine wpAny_bind (wpAny_holding (wpAny_call (class_get (s := ⟨hp, g, d, t + 1, os⟩) (ox := ox) (od := some od) X I hm ?_)))
  refine wpAny_pure ?_
  show wpAny _ _ (handedOut (.ref D)) _ _ _
  rw [handedOut_of (v := .ref D) rfl]
  first
    | exact wpAny_pure (wpAny_pure h)
    | exact wpAny_pure h
    | exact wpAny_pure (wpAny_bind (wpAny_pure (wpAny_pure h)))
theorem kitx_excD (hga : findIn K (.ref D) "__getattribute__" = some (some (.builtin "BaseException.__getattribute__"))) (hgt : findIn K (.ref D) "__getattr__" = some none) (hsub : subIn K (.ref D) (.type "BaseException") = some true) (hdct : hasDictIn K D = true) (ha : findIn K (.ref D) "__class__" = some (some (.builtin "object.__class__")))
    (hn : specialIn K (.builtin "object.__class__") "__get__" = some (some (.builtin "getset_descriptor.__get__"))) (htk : takesIn K (.builtin "object.__class__") = some true) (hm : mroIn K D (.type "object") = some true) :
    KitX K (.ref x) (.ref D) (fun h => InstAt h x ox D (some od)) where
  ty := fun _ _ _ I => I.type
  it := fun _ _ X _ => by
    obtain ⟨cdD, hcD, _⟩ := any_some hdct
    unfold clsIn at hcD
    split at hcD
    · rename_i c' d' cd' sl' ho
      intro A' Q' E' s' k q
      unfold isType loadHead
      exact wpAny_bind (wpAny_loadPart (k _ _ (X _ _ ho)) (wpAny_pure q))
    · cases hcD
  ne := fun h tp dd its n sl X htp => by
    obtain ⟨cdD, hcD, _⟩ := any_some hdct
    refine Bool.eq_false_iff.mpr fun q => ?_
    have e : D = tp := Value.ref.inj (beq_iff_eq.mp q)
    subst e
    unfold clsIn at hcD
    split at hcD
    · rename_i c' d' cd' sl' ho
      have z := (X _ _ ho).symm.trans htp
      cases z
    · cases hcD
  ca := fun X I k => kin_classD hga hgt hsub hdct ha hn htk hm X I k
end
end PySem.W
namespace HL
open PySem PySem.Spec PyProof.Rows L2
/-! ### isinstance(e, c), e an exception with a dict -/
def rIsED (K : PySem.W.Frag) (D a dd : Addr) : List V → Hp → VK → Prop := fun xs H Q => ∃ (c : V) (cv : Value) (b : Bool) (fs : List (Str × V)), xs = [.ref a, c] ∧ (∀ u, RelV c u → u = cv) ∧ PySem.W.kitOne K (.ref D) cv = some b ∧ H dd = some (.xd fs) ∧ Q (.bl b) H
theorem call_isED {X : Cx} {a D dd : Addr} {oe : Obj} {pn : List (Addr × Obj)} (C : ExcC X.K D) (hz : Zc (.ref D) (some dd) oe) (hf : ∃ vs, oe.data = .fields vs) : CallR (X.suite a ((a, oe) :: pn)) (.builtin "isinstance") (rIsED X.K D a dd) := by
  intro pins s σ H xs us Q I r h
  obtain ⟨c, cv, b, fs, rfl, hcv, e, ea, q⟩ := h
  cases r with
  | cons rx rr =>
    cases rr with
    | cons rt rr =>
      cases rr
      cases rx
      have ec := hcv _ rt
      subst ec
      obtain ⟨ha, _⟩ := I.pin (a, oe) (List.mem_append_left _ List.mem_cons_self)
      obtain ⟨vs, hd⟩ := hf
      have hx : ObjOk X.prog X.w H s.heap dd (.xd fs) := I.hok dd _ ea
      obtain ⟨mA, hns, hr⟩ := hx
      obtain ⟨od, ho, hl⟩ := lookIn_ns hns
      have J : PySem.W.InstAt s.heap a oe D (some od) := ⟨ha, hz.1, by unfold PySem.W.notCls; rw [hd] <;> rfl, by rw [hz.2]; exact ho⟩
      exact PySem.W.kia_one (PySem.W.kitx_excD C.hg C.hk C.hs C.hd C.ha C.hn C.ht C.hm) I.kIn J e (fun z => nomatch z) fun tk => ⟨.bl b, H, I.kept (t' := tk) fun _ _ z => z, rfl, q⟩
/-! ### EstimateError.__init__(self, ..): ValueError's -/
structure EiF (K : PySem.W.Frag) (mg : Str → Option Value) (C : Addr) : Prop where
  g : mg "EstimateError" = some (.ref C)
  ga : PySem.W.specialIn K (.ref C) "__getattribute__" = some (some (.builtin "type.__getattribute__"))
  rd : PySem.W.readsIn K C (.type "type") = true
  fi : PySem.W.findCls K (.ref C) (.type "type") "__init__" = some (.val (.builtin "ValueError.__init__"))
theorem pe_einit {X : Cx} {pl : Sem Bool} {C : Addr} {e : Expr} {es : List Expr} {ta : TA} {p1 p2 pos : Pos} (T : EiF X.K X.mg C) (hg : Gl X "EstimateError") (ha : PA X (e :: es) ta)
    (hc : eval (.Call (.Attribute (.Name "EstimateError" p1) "__init__" p2) (e :: es) [] pos) X.env = (do
      let ov ← eval (.Name "EstimateError" p1) X.env
      standAt p2.atName
      let (f, first) ← holding [ov] (getMethod ov "__init__" pl)
      callWith pos f first (backTo pos (starEach (e :: es) X.env)) (backToKw pos (keywordEach [] X.env))) := by rfl)
    (he : starEach (e :: es) X.env = (false, eval e X.env) :: starEach es X.env := by rfl) (hpl : (backTo pos (starEach es X.env)).any (·.1) = false := by rfl) :
    PE X (.Call (.Attribute (.Name "EstimateError" p1) "__init__" p2) (e :: es) [] pos) (tVeI X.K ta) := by
  refine ⟨fun pins s σ H Q I h => ?_⟩
  refine PySem.W.methodCall_KW (ld_glob I hg T.g ?_ (by decide)) hc
  refine PySem.W.method_cls I.kIn T.ga (PySem.W.cls_value I.kIn T.rd T.fi (by decide +kernel) ?_)
  show wpAny _ _ (callWith pos (Value.builtin "ValueError.__init__") [] (backTo pos (starEach (e :: es) X.env)) []) _ _ _
  refine PyProof.Rows.callWith_method1 (thn (ha.run pos pins _ σ H _ (I.tok _) h) fun us s1 ⟨vs, H1, I1, r1, a, C, ws, ev, hl, T, ea, q⟩ => ?_) he hpl
  subst ev
  cases r1 with
  | @cons _ u0 _ ur ra rw' =>
    obtain rfl : u0 = Value.ref a := ra
    have hlen : ur.length ≤ sizeLine := by
      rw [← Paired.length rw', sizeLine_eq]
      omega
    exact oinit_ok T I1 ea hlen fun s' J => ⟨.non, H1, J, rfl, q⟩
/-- what ParseError.__init__ promises -/
def spPI (C : Addr) : Sp := fun vs H Q _ => ∃ a v, vs = [.ref a, v] ∧ H a = some (exo a C none) ∧ ∀ dx, H dx = none → dx ≠ a → Q .non (upd (upd H dx (exd dx [("line", v)])) a (exo a C (some dx)))
theorem spPI_len {C : Addr} : ∀ vs H Q E, spPI C vs H Q E → vs.length = 2 := fun vs H Q E h => by
  obtain ⟨a, v, rfl, _⟩ := h
  rfl
/-- the class ParseError -/
def PiOk (P : Program) (w : World) (K : PySem.W.Frag) (mg : Str → Option Value) (base : Heap) (C : Addr) (k : Nat) : Prop :=
  mg "ParseError" = some (.ref C) ∧ OexC K C ∧ ∃ f fd, PySem.W.findIn K (.ref C) "__init__" = some (some (.ref f)) ∧ PySem.W.typeIn K (.ref f) = some (.type "function") ∧ Binds K fd ["self", "line"] [] ∧ FnOk P w K mg base (L2.CX P w) k f fd ["self", "line"] (spPI C)
theorem passF {X : Cx} : Passes (L2.CX X.prog X.w) X (fun _ _ _ => False) := fun _ _ _ _ _ _ _ h => by
  obtain ⟨_, _, _, _, _, _, _, _, _, _, _, _, z⟩ := h
  exact z.elim
theorem ps_raiseL {X : Cx} {P : Program} {w : World} {K : PySem.W.Frag} {mg : Str → Option Value} {base : Heap} {A : Around} {C : Addr} {k : Nat} {W : WX} {e : Expr} {te : TE} {p pos pos' : Pos} (h : PiOk P w K mg base C k) (hr : Room (k + 1) A) (hc : X.calm = true) (tk : Takes X W) (hg : Gl X "ParseError") (he : PE X e te)
    (hP : X.prog = P := by rfl) (hw : X.w = w := by rfl) (hK : X.K = K := by rfl) (hmg : X.mg = mg := by rfl) (hbs : X.base = base := by rfl) (hA : X.A = A := by rfl)
    (hst : starEach [e] X.env = (false, eval e X.env) :: starEach [] X.env := by rfl) :
    PS X (.Raise (some (.Call (.Name "ParseError" p) [e] [] pos)) none pos') (fun _ σ H => tMkO C (spPI C) [] (tCons te tNil) σ H fun cls d H' => W cls d σ H') := by
  subst hP hw hK hmg hbs hA
  obtain ⟨gC, T, f, fd, iC, tI, hb, F⟩ := h
  exact ps_raise hc tk (pmk_oex T iC tI F hr hb .nil passF hg gC (pa_cons he pa_nil hst) (by decide) hst (by rfl))
section
variable {K : PySem.W.Frag} {ca : String → Addr} {E : L2.St → XK} {n : Nat}
def lineN : D → Option String
  | .none => some "ParseError@None"
  | .int i => if 0 ≤ i ∧ i < 64 then some ("ParseError@" ++ toString i.toNat) else none
  | _ => none
theorem line_ok (i : Nat) (hi : i < 64) : exL ("ParseError@" ++ toString i) = some (.int (i : Int)) := by
  unfold exL
  rw [if_neg (exLi_ok i hi).2, (exLi_ok i hi).1]
  rfl
def sRaiseL (f : FE) : Es → Fl := fun δ => fR (f (vw δ)) fun d => match lineN d with
  | some c => .exc c
  | none => .bad
theorem line_val {H : Hp} {v : V} {d : D} {c : String} (h : Dp K H v d) (e : lineN d = some c) : exL c = some v := by
  unfold lineN at e
  split at e
  · cases e; cases dp_non h; rfl
  · split at e
    · rename_i i hi
      cases e
      cases dp_int h
      rw [line_ok _ (by omega)]
      congr 2
      omega
    · cases e
  · cases e
theorem heap_line {H1 : Hp} {a dx : Addr} {C : Addr} {v : V} (ha : H1 a = none) (hne : dx ≠ a) : upd (del (upd (upd (upd H1 a (exo a C none)) dx (exd dx [("line", v)])) a (exo a C (some dx))) a) dx (.xd [("line", v)]) = upd H1 dx (.xd [("line", v)]) := by
  funext b
  by_cases h1 : b = dx
  · rw [h1, upd_same, upd_same]
  · rw [upd_ne h1, upd_ne h1]
    by_cases h2 : b = a
    · rw [h2, del_same, ha]
    · rw [del_ne h2, upd_ne h2, upd_ne h1, upd_ne h2]
theorem cs_raiseL {C : Addr} {te : TE} {f : FE} (hC : ∀ d c, lineN d = some c → ca c = C) (h : CE K ca E te f) : CS K ca E n (fun _ σ H => tMkO C (spPI C) [] (tCons te tNil) σ H fun cls d H' => E σ cls d H') (sRaiseL f) := fun G0 H0 G H σ δ Dd r g =>
  coreW h r g fun d v G1 H1 e r1 hd g1 => by
    cases hl : lineN d with
    | none => rw [hl] at g1; exact g1.elim
    | some c =>
      rw [hl] at g1
      have hv := line_val hd hl
      have gg : EX ca (E σ) c H1 := g1 σ H1 r1.ls r1.e0.h
      unfold EX at gg
      rw [hv] at gg
      have gg : ∀ d H', Same H1 H' → H' d = none → E σ (.ref (ca c)) (some d) (upd H' d (.xd [("line", v)])) := gg
      rw [hC d c hl] at gg
      refine ⟨by show 1 ≤ 1000; decide, fun a ha => ⟨a, v, rfl, upd_same, fun dx hdx hne => ?_⟩⟩
      have hdx1 : H1 dx = none := by rw [upd_ne hne] at hdx; exact hdx
      refine ⟨rfl, dx, [("line", v)], upd_same, by rw [upd_ne hne, upd_same], hdx1, ?_⟩
      rw [heap_line ha hne]
      exact gg dx H1 (Same.refl H1) hdx1
end
end HL
end
section
set_option Elab.async false
set_option linter.all false
set_option maxRecDepth 100000
set_option maxHeartbeats 4000000
namespace HL
open PySem PySem.Spec PyProof.Rows L2
section
variable {K : PySem.W.Frag} {ca : String → Addr} {E : L2.St → XK} {n : Nat}
theorem units65 {k : Nat} {A : Around} (r : Room k A) : A.units + 65 < cLine := by have := r.un; omega
/-! ### texts: split, one sign in a text, int(text) -/
def dSplit : D → D → R D
  | .str a, .str b => if (b.length == 0) = false ∧ a.length ≤ 1000 then .ok (.list ((Txt.split a b).map .str)) else .bad
  | _, _ => .bad
def xSplit (f g : FE) : FE := fun ρ => (f ρ).bind fun d => match d with
  | .str a => (g ρ).bind fun b => dSplit (.str a) b
  | _ => .bad
theorem dps_strs {H : Hp} : ∀ ys : List Str, DpAll K H (ys.map V.str) (ys.map .str)
  | [] => .nil
  | y :: ys => .cons (.str y) (dps_strs ys)
theorem ce_split {to te : TE} {f g : FE} (ho : CE K ca E to f) (he : CE K ca E te g) : CE K ca E (tM1 (fun x xs H Q => ∃ a b, x = .str a ∧ xs = [.str b] ∧ (b.length == 0) = false ∧ a.length + 2 ≤ sizeLine ∧ rNewStrs (Txt.split a b) H Q) to te) (xSplit f g) := fun σ ρ G H Q sg re gg => by
  refine ho.bind sg re gg fun d v G1 H1 s1 re1 r1 g1 => ?_
  cases d with
  | str a =>
    cases dp_str r1
    refine ⟨⟨_, rfl⟩, ?_⟩
    refine he.bind s1.s re1 g1 fun b u G2 H2 s2 re2 r2 g2 => ?_
    cases b with
    | str b =>
      cases dp_str r2
      simp only [dSplit] at g2
      split at g2
      · rename_i hl
        exact ⟨a, b, rfl, rfl, hl.1, by rw [sizeLine_eq]; omega, g2.newL s2.s (dps_strs _)⟩
      · exact g2.elim
    | _ => exact g2.elim
  | _ => exact g1.elim
def dNis : D → D → R D
  | .str x, .str z => match x.cps.toList with
    | [c] => .ok (.bool (!decide (c ∈ z.cps.toList)))
    | _ => .bad
  | _, _ => .bad
theorem od_nis : OD K ca (fun x y H Q => ∃ (c : Nat) (z : Str), x = .str ⟨#[c]⟩ ∧ y = .str z ∧ Q (.bl (!decide (c ∈ z.cps.toList))) H) dNis := fun E x y G H Q dx dy sg hx hy g => by
  unfold dNis at g
  split at g
  · rename_i a b
    cases dp_str hx; cases dp_str hy
    split at g
    · rename_i c hc
      have ea : a = ⟨#[c]⟩ := TL.ext_tl (by show a.cps.toList = [c]; exact hc)
      exact ⟨c, b, by rw [ea], rfl, g.here (b := V.bl _) sg (.bl _)⟩
    · exact g.elim
  · exact g.elim
def dIntS : List D → R D
  | [.str a] => match PySem.intText? a with
    | some i => if a.length ≤ 640 then .ok (.int i) else .bad
    | none => .bad
  | _ => .bad
theorem bd_intS : BD K ca (fun xs H Q => ∃ a n, xs = [.str a] ∧ PySem.intText? a = some n ∧ a.length ≤ 640 ∧ Q (.int n) H) dIntS := fun E vs G H Q ds sg h g => by
  unfold dIntS at g
  split at g
  · obtain ⟨v, rfl, hv⟩ := dps1 h
    cases dp_str hv
    split at g
    · rename_i i hi
      split at g
      · rename_i hl
        exact ⟨_, _, rfl, hi, hl, g.here (b := V.int _) sg (.int _)⟩
      · exact g.elim
    · exact g.elim
  · exact g.elim
/-! ### x in l, l.index(x) -/
def dIn : D → D → R D
  | d, .list ds => if (SeqAt.shaped d && SeqAt.shaped (.list ds)) = true then .ok (.bool (ds.any fun z => PyData.eqv z d)) else .bad
  | _, _ => .bad
theorem od_in : OD K ca (rInD K) dIn := fun E x y G H Q dx dy sg hx hy g => by
  unfold dIn at g
  split at g
  · rename_i ds
    split at g
    · rename_i h
      rw [Bool.and_eq_true] at h
      exact ⟨dx, ds, dp_kit (dp_mono sg hx) (SeqAt.canLay_of_shaped h.1), dp_kit (dp_mono sg hy) (SeqAt.canLay_of_shaped h.2), h.1, h.2, g.here (b := V.bl _) sg (.bl _)⟩
    · exact g.elim
  · exact g.elim
def dIndex : D → D → R D
  | .list ds, d => if (SeqAt.shaped d && SeqAt.shaped (.list ds)) = true then (match ds.findIdx? (fun z => PyData.eqv z d) with
      | some j => .ok (.int (j : Nat))
      | none => .bad) else .bad
  | _, _ => .bad
def xIndex (f g : FE) : FE := fun ρ => (f ρ).bind fun d => match d with
  | .list ds => (g ρ).bind fun b => dIndex (.list ds) b
  | _ => .bad
theorem ce_index {to te : TE} {f g : FE} (ho : CE K ca E to f) (he : CE K ca E te g) : CE K ca E (tBM K "list" (rIndexD K) to (tCons te tNil)) (xIndex f g) := fun σ ρ G H Q sg re gg =>
  ho.bind sg re gg fun d v G1 H1 s1 re1 r1 g1 => by
    cases d with
    | list ds =>
      obtain ⟨a, xs, rfl, sa, ra⟩ := dp_lst r1
      refine ⟨.inl ⟨rfl, xs, s1.s.seq sa⟩, ?_⟩
      refine he.bind s1.s re1 g1 fun b u G2 H2 s2 re2 r2 g2 => ?_
      simp only [dIndex] at g2
      split at g2
      · rename_i h
        rw [Bool.and_eq_true] at h
        split at g2
        · rename_i j hj
          rw [List.findIdx?_eq_some_iff_getElem] at hj
          obtain ⟨h1, h2, h3⟩ := hj
          refine ⟨a, u, b, ds, j, ds[j], rfl, rfl, dp_kit (dp_mono (s2.g.trans s2.s) (.lst sa ra)) (SeqAt.canLay_of_shaped h.2), dp_kit (dp_mono s2.s r2) (SeqAt.canLay_of_shaped h.1), h.2, h.1, List.getElem?_eq_getElem h1, h2, fun m z hm hz => ?_, g2.here (b := V.int _) s2.s (.int _)⟩
          obtain ⟨hml, rfl⟩ := List.getElem?_eq_some_iff.mp hz
          simpa using h3 m hm
        · exact g2.elim
      · exact g2.elim
    | _ => exact g1.elim
/-! ### try: .. except ParseError as e: return ["line", e.line] if isinstance(e, EstimateError) and not isinstance(e, InvalidEstimate) else ["other"] -/
def lineOf (c : String) : Option D := if c = "ParseError@None" then some .none else (exLi c).map .int
theorem lineOf_dp {c : String} {d : D} (h : lineOf c = some d) : ∃ v, exL c = some v ∧ ∀ (K : PySem.W.Frag) (G : Hp), Dp K G v d := by
  unfold lineOf at h
  unfold exL
  split at h
  · rename_i e
    cases h
    rw [if_pos e]
    exact ⟨_, rfl, fun _ _ => .non⟩
  · rename_i e
    rw [if_neg e]
    rw [Option.map_eq_some_iff] at h
    obtain ⟨i, hi, rfl⟩ := h
    rw [hi]
    exact ⟨_, rfl, fun _ _ => .int i⟩
theorem lineN_of {d : D} {c : String} (h : lineN d = some c) : lineOf c = some d := by
  unfold lineN at h
  split at h
  · cases h; rfl
  · split at h
    · rename_i i hi
      cases h
      have e := exLi_ok i.toNat (by omega)
      unfold lineOf
      rw [if_neg e.2, e.1]
      show some (PyData.int ((i.toNat : Nat) : Int)) = some (.int i)
      congr 2
      omega
    · cases h
  · cases h
structure PeF (K : PySem.W.Frag) (ca : String → Addr) : Prop where
  xc : ExcC K (ca "ParseError")
  xf : XfC K (ca "ParseError")
  nl : PySem.W.findIn K (.ref (ca "ParseError")) "line" = some none
  ex : PySem.W.exmOne K (.ref (ca "ParseError")) (.ref (ca "ParseError")) = some true
  kE : PySem.W.kitOne K (.ref (ca "ParseError")) (.ref (ca "EstimateError")) = some true
  kI : PySem.W.kitOne K (.ref (ca "ParseError")) (.ref (ca "InvalidEstimate")) = some false
  cl : ∀ c d, lineOf c = some d → ca c = ca "ParseError"
def tIsD (K : PySem.W.Frag) (C a dd : Addr) (i : Nat) (B : Addr) : TT := fun σ H Q => tCB (rIsED K C a dd) (tCons (tVar i) (tCons (tC (.ref B)) tNil)) σ H fun x H' => ∃ k, TruV K x H' k ∧ Q k H'
def tPe (K : PySem.W.Frag) (ca : String → Addr) (i : Nat) (C a dd : Addr) : TS := tRet (tIf (tAnd (tIsD K C a dd i (ca "EstimateError")) (tNot (tIsD K C a dd i (ca "InvalidEstimate"))))
  (tLst (tCons (tC (.str "line")) (tCons (tXf a (.ref C) (some dd) C "line" (tVar i)) tNil))) (tLst (tCons (tC (.str "other")) tNil)))
def tsP (K : PySem.W.Frag) (ca : String → Addr) (i : Nat) : Addr → Value → Option Addr → TS := fun a k d Dd σ H => ∃ dd, k = .ref (ca "ParseError") ∧ d = some dd ∧ tPe K ca i (ca "ParseError") a dd Dd σ H
theorem pss_tsP {X : Cx} {b : List Stmt} {i : Nat} {a : Addr} {k : Value} {d : Option Addr} (h : ∀ dd, k = .ref (ca "ParseError") → d = some dd → PSs X b (tPe K ca i (ca "ParseError") a dd)) : PSs X b (tsP K ca i a k d) :=
  ⟨fun pins s σ H D I ⟨dd, h1, h2, q⟩ => (h dd h1 h2).run pins s σ H D I q⟩
def sTryP (g : Es → Fl) : Es → Fl := fun δ => match g δ with
  | .exc c => match lineOf c with
    | some d => .rt (.list [.str "line", d])
    | none => .bad
  | o => o
theorem tIsD_ok {C a dd B : Addr} {i : Nat} {b : Bool} {σ : L2.St} {H : Hp} {fs : List (Str × V)} {Q : Bool → Hp → Prop} (h1 : σ[i]? = some (some (.ref a))) (h2 : PySem.W.kitOne K (.ref C) (.ref B) = some b) (h3 : H dd = some (.xd fs)) (q : Q b H) : tIsD K C a dd i B σ H Q :=
  ⟨.ref a, h1, .ref B, .ref B, b, fs, rfl, fun u hu => hu, h2, h3, b, rfl, q⟩
theorem cz_tryP {i : Nat} {tb : WX → TS} {g : Es → Fl} (pf : PeF K ca) (hi : i < n) (hb : ∀ W : WX, CS K ca (fun σ c d H => W c d σ H) n (tb W) g) :
    CZ K ca E n (fun D σ H => tb (wMA K i (fun c d σ H => E σ c d H) D [(.ref (ca "ParseError"), tsP K ca i)]) D σ H) (sTryP g) := fun G0 H0 G H σ δ Dd sG r gg => by
  refine hb _ G0 H0 G H σ δ Dd r ?_
  unfold sTryP at gg
  cases hg : g δ with
  | nx δ => rw [hg] at gg; exact gg
  | rt d => rw [hg] at gg; exact gg
  | bk δ => rw [hg] at gg; exact gg
  | ct δ => rw [hg] at gg; exact gg
  | bad => rw [hg] at gg; exact gg
  | exc c =>
    rw [hg] at gg
    simp only at gg
    cases hl : lineOf c with
    | none => rw [hl] at gg; exact gg.elim
    | some d =>
      rw [hl] at gg
      obtain ⟨v, hv, hd⟩ := lineOf_dp hl
      intro σ' H' hlen sH
      unfold EX
      rw [hv]
      intro dd H2 s2 hdd
      rw [pf.cl c d hl]
      refine ⟨true, pf.ex, fun _ a ha => ⟨dd, rfl, rfl, ?_⟩, fun z => by cases z⟩
      have hs : (σ'.set i (some (.ref a)))[i]? = some (some (V.ref a)) := List.getElem?_set_self (by rw [hlen]; exact hi)
      refine tIsD_ok hs pf.kE upd_same ?_
      rw [if_pos rfl]
      refine tIsD_ok hs pf.kI upd_same ?_
      show if (!false) = true then _ else _
      rw [if_pos (show (!false) = true from rfl)]
      refine ⟨.ref a, hs, rfl, rfl, dd, [("line", v)], v, rfl, upd_same, by rw [List.lookup_cons, show (("line" : Str) == ("line" : Str)) = true from by decide +kernel], by show 2 ≤ sizeLine; decide, fun p hp => ?_⟩
      have hpd : p ≠ dd := fun z => by rw [z, upd_same] at hp; cases hp
      have hp2 : H2 p = none := by rw [upd_ne hpd] at hp; exact hp
      have s02 : Same H0 H2 := sH.trans s2
      have s03 : Same H0 (upd H2 dd (.xd [("line", v)])) := s02.trans (same_upd hdd)
      have g0p : G0 p = none := (sG.trans s02).free hp2
      refine gg (.ref p) (upd G0 p (.lst [.str "line", v])) (upd (upd H2 dd (.xd [("line", v)])) p (.lst [.str "line", v])) ⟨same_upd g0p, fun b x hb => ?_, s03.trans (same_upd hp), fun b hb gb => ?_⟩ (.lst (SqL.of upd_same) (.cons (.str _) (.cons (hd _ _) .nil)))
      · by_cases hbp : b = p
        · subst hbp; rw [upd_same] at hb ⊢; exact hb
        · rw [upd_ne hbp] at hb ⊢; exact (sG.trans s03) b x hb
      · rw [upd_ne (fun z => hb (by rw [z]; exact s02.free hp2))]
        exact gb
end
section
variable {X : Cx} {nm : Str} {i : Nat} {body : List Stmt} {pos p' np : Pos} {tb : WX → TS}
variable {ca : String → Addr} {E : L2.St → XK} {n : Nat}
theorem def_tryP {g : Es → Fl} {s0 : Stmt} {su : List Stmt} (hs : X.stack = X.env :: X.outer) (hf : X.env.frame = some X.env.locals) (hN : X.N.Nodup) (hi : X.N[i]? = some nm) (hln : X.env.kindOf nm = some .local) (tk : Takes X (fun c d σ H => E σ c d H))
    (hb : ∀ (W : WX) (pn : List (Addr × Obj)) (xe : Value → Shared → Prop), Takes (X.tr pn xe) W → PassesOwn (model X.prog X.w) X.A X.env xe → PSs (X.tr pn xe) body (tb W))
    (hc : ∀ W : WX, CS X.K ca (fun σ c d H => W c d σ H) n (tb W) g) (nx : Names X "ParseError" (.ref (ca "ParseError")))
    (ok : ∀ (a : Addr) (o : Obj) (k : Value) (d : Option Addr) (pn : List (Addr × Obj)), Zc k d o → (∃ vs, o.data = .fields vs) → PSs (X.suite a ((a, o) :: pn)) (s0 :: su) (tsP X.K ca i a k d))
    (pf : PeF X.K ca) (hin : i < n) :
    ∃ t, PS X (.Try body [.ExceptHandler (some (.Name "ParseError" np)) (some nm) (s0 :: su) p'] [] [] pos) t ∧ CZ X.K ca E n t (sTryP g) :=
  ⟨_, ps_tryA hs hf hN hi hln tk hb (.cons nx ok .nil), cz_tryP pf hin hc⟩
end
end HL
end
section
set_option Elab.async false
set_option linter.all false
set_option maxRecDepth 100000
set_option maxHeartbeats 4000000
namespace HL
open PySem PySem.Spec PyProof.Rows L2
/-! ### a try whose body is one call, and whose suite looks at an exception with or without a line -/
def rIsY (K : PySem.W.Frag) (C a : Addr) : Option Addr → List V → Hp → VK → Prop
  | none => rIsE K C a
  | some dd => rIsED K C a dd
theorem call_isY {X : Cx} {a C : Addr} {oe : Obj} {pn : List (Addr × Obj)} : ∀ {d : Option Addr}, ExcC X.K C → Zc (.ref C) d oe → (∃ vs, oe.data = .fields vs) → CallR (X.suite a ((a, oe) :: pn)) (.builtin "isinstance") (rIsY X.K C a d)
  | none, hC, hz, hf => call_isE hC hz hf
  | some _, hC, hz, hf => call_isED hC hz hf
def tLn (a C : Addr) (i : Nat) : Option Addr → TE
  | none => fun _ _ _ => False
  | some dd => tXf a (.ref C) (some dd) C "line" (tVar i)
theorem pe_no {X : Cx} {e : Expr} : PE X e (fun _ _ _ => False) := ⟨fun _ _ _ _ _ _ h => h.elim⟩
theorem pe_ln {X : Cx} {a C : Addr} {oe : Obj} {pn : List (Addr × Obj)} {e : Expr} {i : Nat} {pos : Pos} : ∀ {d : Option Addr}, ExcC X.K C → (∀ dd, d = some dd → PySem.W.findIn X.K (.ref C) "line" = some none) → Zc (.ref C) d oe → (∃ vs, oe.data = .fields vs) → PE (X.suite a ((a, oe) :: pn)) e (tVar i) →
    attributeBase e "line" X.env (eval e X.env) = eval e X.env → PE (X.suite a ((a, oe) :: pn)) (.Attribute e "line" pos) (tLn a C i d)
  | none, _, _, _, _, _, _ => pe_no
  | some dd, hC, hn, hz, hf, he, hb => pe_xf ⟨hC.hg, hC.hk, hC.hs, hC.hd⟩ (hn dd rfl) hz hf he hb
section
variable {K : PySem.W.Frag} {ca : String → Addr} {E : L2.St → XK} {n : Nat} {P : L2.St → Hp → Prop}
def CGq (P : L2.St → Hp → Prop) (K : PySem.W.Frag) {α β : Type} (rel : Hp → β → α → Prop) (t : L2.St → Hp → (β → Hp → Prop) → Prop) (f : En → R α) : Prop :=
  ∀ (σ : L2.St) (ρ : En) (G H : Hp) (Q : β → Hp → Prop), P σ H → Same G H → RelE K G σ ρ → (∃ a, f ρ = .ok a ∧ ∀ b G' H', Ex4 G H G' H' → rel G' b a → Q b H') → t σ H Q
abbrev CEq (P : L2.St → Hp → Prop) (K : PySem.W.Frag) (t : TE) (f : FE) : Prop := CGq P K (rD K) t f
abbrev CAq (P : L2.St → Hp → Prop) (K : PySem.W.Frag) (t : TA) (f : FA) : Prop := CGq P K (rDs K) t f
def Mn (P : L2.St → Hp → Prop) : Prop := ∀ σ H H', Same H H' → P σ H → P σ H'
theorem ceq_of {α β : Type} {rel : Hp → β → α → Prop} {t : L2.St → Hp → (β → Hp → Prop) → Prop} {f : En → R α} (h : CG K ca (fun _ _ _ _ => False) rel t f) : CGq P K rel t f := fun σ ρ G H Q _ sg re ⟨a, e, q⟩ => h σ ρ G H Q sg re (by rw [e]; exact q)
theorem caq_nil : CAq P K tNil aN := fun σ ρ G H Q _ sg re ⟨a, e, q⟩ => by
  cases e
  exact q [] G H (Ex4.refl sg) .nil
theorem caq_cons (mn : Mn P) {te : TE} {t : TA} {f : FE} {g : FA} (h : CEq P K te f) (hr : CAq P K t g) : CAq P K (tCons te t) (aC f g) := fun σ ρ G H Q p sg re ⟨a, e, q⟩ => by
  unfold aC at e
  obtain ⟨x, ex, e⟩ := bind_ok e
  obtain ⟨r, er, e⟩ := bind_ok e
  cases e
  refine h σ ρ G H _ p sg re ⟨x, ex, fun v G1 H1 e1 d1 => ?_⟩
  exact hr σ ρ G1 H1 _ (mn _ _ _ e1.h p) e1.s (re.mono e1.g) ⟨r, er, fun vs G2 H2 e2 d2 => q _ G2 H2 (e1.trans e2) (.cons (dp_mono e2.g d1) d2)⟩
theorem ceq_lst {t : TA} {f : FA} (h : CAq P K t f) : CEq P K (tLst t) (xA dLst f) := fun σ ρ G H Q p sg re ⟨a, e, q⟩ => by
  unfold xA at e
  obtain ⟨ds, ed, e⟩ := bind_ok e
  unfold dLst at e
  split at e
  · rename_i hl
    cases e
    refine h σ ρ G H _ p sg re ⟨ds, ed, fun vs G1 H1 e1 d1 => ⟨by rw [dps_len d1]; exact sz1000 hl, fun pp hp => ?_⟩⟩
    exact q (.ref pp) (upd G1 pp (.lst vs)) (upd H1 pp (.lst vs)) (e1.trans (Ex4.new e1.s hp)) (.lst (SqL.of upd_same) (dps_mono (same_upd (e1.s.free hp)) d1))
  · cases e
theorem ceq_op (mn : Mn P) {r : R2} {g : D → D → R D} {ta tb : TE} {fa fb : FE} (ho : OD K ca r g) (ha : CEq P K ta fa) (hb : CEq P K tb fb) : CEq P K (tOp r ta tb) (x2 g fa fb) := fun σ ρ G H Q p sg re ⟨a, e, q⟩ => by
  unfold x2 at e
  obtain ⟨x, ex, e⟩ := bind_ok e
  obtain ⟨y, ey, e⟩ := bind_ok e
  refine ha σ ρ G H _ p sg re ⟨x, ex, fun v G1 H1 e1 d1 => ?_⟩
  refine hb σ ρ G1 H1 _ (mn _ _ _ e1.h p) e1.s (re.mono e1.g) ⟨y, ey, fun u G2 H2 e2 d2 => ?_⟩
  refine ho (fun _ _ _ => False) v u G2 H2 Q x y e2.s (dp_mono e2.g d1) d2 ?_
  rw [e]
  exact fun b G3 H3 e3 d3 => q b G3 H3 ((e1.trans e2).trans e3) d3
theorem ceq_if (mn : Mn P) {t : TT} {f : FT} {ta tb : TE} {fa fb : FE} (ht : CGq P K rB t f) (ha : CEq P K ta fa) (hb : CEq P K tb fb) : CEq P K (tIf t ta tb) (xIf f fa fb) := fun σ ρ G H Q p sg re ⟨a, e, q⟩ => by
  unfold xIf at e
  obtain ⟨k, ek, e⟩ := bind_ok e
  refine ht σ ρ G H _ p sg re ⟨k, ek, fun b G1 H1 e1 d1 => ?_⟩
  cases d1
  cases k with
  | true =>
    rw [if_pos rfl] at e ⊢
    exact ha σ ρ G1 H1 Q (mn _ _ _ e1.h p) e1.s (re.mono e1.g) ⟨a, e, fun v G2 H2 e2 d2 => q v G2 H2 (e1.trans e2) d2⟩
  | false =>
    rw [if_neg Bool.false_ne_true] at e ⊢
    exact hb σ ρ G1 H1 Q (mn _ _ _ e1.h p) e1.s (re.mono e1.g) ⟨a, e, fun v G2 H2 e2 d2 => q v G2 H2 (e1.trans e2) d2⟩
/-- the exception stands in slot i, and its line in its dict -/
def PY (i : Nat) (a : Addr) (d : Option Addr) (v : V) : L2.St → Hp → Prop := fun σ H => σ[i]? = some (some (.ref a)) ∧ ∀ dd, d = some dd → H dd = some (.xd [("line", v)])
theorem mn_PY {i : Nat} {a : Addr} {d : Option Addr} {v : V} : Mn (PY i a d v) := fun σ H H' s p => ⟨p.1, fun dd e => s _ _ (p.2 dd e)⟩
theorem ceq_isY {i : Nat} {a C : Addr} {d : Option Addr} {v c : V} {cv : Value} {b : Bool} (hc : ∀ u, RelV c u → u = cv) (hk : PySem.W.kitOne K (.ref C) cv = some b) : CEq (PY i a d v) K (tCB (rIsY K C a d) (tCons (tVar i) (tCons (tC c) tNil))) (xC (.bool b)) := fun σ ρ G H Q p sg re ⟨x, e, q⟩ => by
  cases e
  cases d with
  | none => exact ⟨.ref a, p.1, c, cv, b, rfl, hc, hk, q (.bl b) G H (Ex4.refl sg) (.bl b)⟩
  | some dd => exact ⟨.ref a, p.1, c, cv, b, _, rfl, hc, hk, p.2 dd rfl, q (.bl b) G H (Ex4.refl sg) (.bl b)⟩
def tIsY (K : PySem.W.Frag) (ca : String → Addr) (C a : Addr) (d : Option Addr) (i : Nat) : List String → TA
  | [] => tNil
  | A :: r => tCons (tCB (rIsY K C a d) (tCons (tVar i) (tCons (tC (.ref (ca A))) tNil))) (tIsY K ca C a d i r)
theorem caq_isL {i : Nat} {a C : Addr} {d : Option Addr} {v : V} {c : String} : ∀ {l : List String}, (∀ A ∈ l, PySem.W.kitOne K (.ref C) (.ref (ca A)) = some (subX c A)) → CAq (PY i a d v) K (tIsY K ca C a d i l) (isL c l)
  | [], _ => caq_nil
  | A :: r, h => caq_cons mn_PY (ceq_isY (fun u hu => hu) (h A List.mem_cons_self)) (caq_isL fun B hB => h B (List.mem_cons_of_mem _ hB))
/-- what the dict of an exception of this name holds -/
def LnR (K : PySem.W.Frag) (c : String) (d : Option Addr) (v : V) : Prop := (d = none ∧ lineOf c = none) ∨ ∃ dd x, d = some dd ∧ lineOf c = some x ∧ ∀ G, Dp K G v x
def xLn (c : String) : FE := fun _ => match lineOf c with
  | some d => .ok d
  | none => .bad
theorem ceq_ln {i : Nat} {a C : Addr} {d : Option Addr} {v : V} {c : String} (h : LnR K c d v) : CEq (PY i a d v) K (tLn a C i d) (xLn c) := fun σ ρ G H Q p sg re ⟨x, e, q⟩ => by
  unfold xLn at e
  rcases h with ⟨rfl, hl⟩ | ⟨dd, y, rfl, hl, hv⟩
  · rw [hl] at e; cases e
  · rw [hl] at e
    cases e
    exact ⟨.ref a, p.1, rfl, rfl, dd, _, v, rfl, p.2 dd rfl, by rw [List.lookup_cons, show (("line" : Str) == ("line" : Str)) = true from by decide +kernel], q v G H (Ex4.refl sg) (hv G)⟩
def CSq (P : L2.St → Hp → Prop) (K : PySem.W.Frag) (n : Nat) (t : TS) (g : Es → Fl) : Prop :=
  ∀ (G0 H0 G H : Hp) (σ : L2.St) (δ : Es) (Dd : Ends), P σ H → RelS K n G0 H0 G H σ δ → (∃ δ', g δ = .nx δ' ∧ ∀ σ' G' H', P σ' H' → RelS K n G0 H0 G' H' σ' δ' → Dd.nx σ' H') → t Dd σ H
theorem csq_asg {te : TE} {f : FE} {i j : Nat} {a : Addr} {d : Option Addr} {v : V} (hP : i ≠ j) (h : CEq (PY j a d v) K te f) : CSq (PY j a d v) K n (tAsg te (gName i)) (sAsg i f) := fun G0 H0 G H σ δ Dd p r ⟨δ', e, q⟩ => by
  unfold sAsg at e
  cases hf : f (v0 δ) with
  | ok d =>
    rw [hf, fR_ok] at e
    split at e
    · rename_i hi
      cases e
      refine h σ (v0 δ) G H _ p r.s r.re ⟨d, hf, fun v G1 H1 e1 d1 => ?_⟩
      have p1 := mn_PY _ _ _ e1.h p
      exact q _ G1 H1 ⟨by rw [List.getElem?_set_ne hP]; exact p1.1, p1.2⟩ ((r.grow e1).set_im (by rw [← r.ld]; exact hi) d1)
    · cases e
  | exc c => rw [hf] at e; cases e
  | bad => rw [hf] at e; cases e
theorem csq_seq {t u : TS} {g1 g2 : Es → Fl} (h1 : CSq P K n t g1) (h2 : CSq P K n u g2) : CSq P K n (tSeq t u) (sSeq g1 g2) := fun G0 H0 G H σ δ Dd p r ⟨δ', e, q⟩ => by
  unfold sSeq at e
  cases hf : g1 δ with
  | nx δ1 =>
    rw [hf] at e
    exact h1 G0 H0 G H σ δ { Dd with nx := u Dd } p r ⟨δ1, hf, fun σ' G' H' p' r' => h2 G0 H0 G' H' σ' δ1 Dd p' r' ⟨δ', e, q⟩⟩
  | rt d => rw [hf] at e; cases e
  | bk d => rw [hf] at e; cases e
  | ct d => rw [hf] at e; cases e
  | exc d => rw [hf] at e; cases e
  | bad => rw [hf] at e; cases e
/-! the try -/
def bnX (c : String) : String := if (lineOf c).isSome = true then "ParseError" else c
structure YF (K : PySem.W.Frag) (ca : String → Addr) (Cr Ct : List String) : Prop where
  c : ∀ c ∈ Cr, ExcC K (ca c)
  e : ∀ c ∈ Cr, PySem.W.exmOne K (.ref (ca c)) (.ref (ca "EstimateError")) = some true
  k : ∀ c ∈ Cr, ∀ d ∈ Ct, PySem.W.kitOne K (.ref (ca c)) (.ref (ca d)) = some (subX c d)
  v : ∀ c ∈ Cr, PySem.W.kitOne K (.ref (ca c)) (.type "ValueError") = some true
  cl : ∀ c d, lineOf c = some d → ca c = ca "ParseError"
  nl : PySem.W.findIn K (.ref (ca "ParseError")) "line" = some none
theorem YF.bn {Cr Ct : List String} (y : YF K ca Cr Ct) (c : String) : ca c = ca (bnX c) := by
  unfold bnX
  split
  · rename_i h
    obtain ⟨d, hd⟩ := Option.isSome_iff_exists.mp h
    exact y.cl c d hd
  · rfl
theorem lineOf_no {c : String} (h : lineOf c = none) : exL c = none := by
  unfold lineOf at h
  unfold exL
  split at h
  · cases h
  · rename_i e
    rw [if_neg e]
    rw [Option.map_eq_none_iff] at h ⊢
    exact h
def sTryY (i : Nat) (Cr : List String) (f : FE) (hd : String → Es → Fl) : Es → Fl := fun δ => match f (v0 δ) with
  | .ok _ => .nx δ
  | .exc c => if bnX c ∈ Cr then (match hd c (δ.set i none) with | .nx δ' => .nx (δ'.set i none) | _ => .bad) else .bad
  | .bad => .bad
def tClY (K : PySem.W.Frag) (T : Addr → Addr → Option Addr → TS) : Addr → Value → Option Addr → TS := fun a k d Dd σ H => ∃ C, k = .ref C ∧ ExcC K C ∧ (∀ dd, d = some dd → PySem.W.findIn K (.ref C) "line" = some none) ∧ T C a d Dd σ H
theorem pss_clY {X : Cx} {b : List Stmt} {T : Addr → Addr → Option Addr → TS} {a : Addr} {k : Value} {d : Option Addr} (h : ∀ C, k = .ref C → ExcC K C → (∀ dd, d = some dd → PySem.W.findIn K (.ref C) "line" = some none) → PSs X b (T C a d)) : PSs X b (tClY K T a k d) :=
  ⟨fun pins s σ H D I ⟨C, h1, h2, h3, q⟩ => (h C h1 h2 h3).run pins s σ H D I q⟩
theorem cs_tryY {Cr Ct : List String} {i : Nat} {te : WX → TE} {f : FE} {hd : String → Es → Fl} {T : Addr → Addr → Option Addr → TS} (y : YF K ca Cr Ct) (hi : i < n)
    (hb : ∀ W : WX, CE K ca (fun σ c d H => W c d σ H) (te W) f)
    (hs : ∀ c, bnX c ∈ Cr → ∀ a d v, LnR K c d v → CSq (PY i a d v) K n (T (ca (bnX c)) a d) (hd c)) :
    CS K ca E n (fun D σ H => tDrop (te (wMA K i (fun c d σ H => E σ c d H) D [(.ref (ca "EstimateError"), tClY K T)])) D σ H) (sTryY i Cr f hd) := fun G0 H0 G H σ δ Dd r g => by
  refine hb _ σ (v0 δ) G H _ r.s r.re ?_
  unfold sTryY at g
  cases hf : f (v0 δ) with
  | ok d =>
    rw [hf] at g
    exact fun v G1 H1 e1 _ => g σ G1 H1 (r.grow e1)
  | bad => rw [hf] at g; exact g.elim
  | exc c =>
    rw [hf] at g
    simp only at g
    split at g
    · rename_i hc
      have key : ∀ (H1 : Hp) (a : Addr) (d : Option Addr) (v : V), Same H H1 → LnR K c d v → (∀ dd, d = some dd → H1 dd = some (.xd [("line", v)])) → (∀ dd, d = some dd → PySem.W.findIn K (.ref (ca (bnX c))) "line" = some none) →
          tClY K T a (.ref (ca c)) d (offI i Dd) (σ.set i (some (.ref a))) H1 := fun H1 a d v s1 ln hx hnl => by
        refine ⟨ca (bnX c), by rw [← y.bn c], y.c _ hc, hnl, ?_⟩
        have r1 : RelS K n G0 H0 G H1 (σ.set i (some (.ref a))) (δ.set i none) := (r.growH s1).set_any _
        refine hs c hc a d v ln G0 H0 G H1 _ _ _ ⟨List.getElem?_set_self (by rw [r.ls]; exact hi), hx⟩ r1 ?_
        cases hh : hd c (δ.set i none) with
        | nx δ' =>
          rw [hh] at g
          exact ⟨δ', rfl, fun σ' G' H' _ r' => g _ _ _ (r'.set_any none)⟩
        | rt d => rw [hh] at g; exact g.elim
        | bk d => rw [hh] at g; exact g.elim
        | ct d => rw [hh] at g; exact g.elim
        | exc d => rw [hh] at g; exact g.elim
        | bad => rw [hh] at g; exact g.elim
      intro H1 s1
      cases hl : lineOf c with
      | none =>
        rw [EX.plain (lineOf_no hl)]
        refine ⟨true, by rw [y.bn c]; exact y.e _ hc, fun _ a ha => ?_, fun z => by cases z⟩
        exact key H1 a none .non s1 (.inl ⟨rfl, hl⟩) (fun dd z => by cases z) (fun dd z => by cases z)
      | some d =>
        obtain ⟨v, hv, hd'⟩ := lineOf_dp hl
        unfold EX
        rw [hv]
        intro dd H2 s2 hdd
        refine ⟨true, by rw [y.bn c]; exact y.e _ hc, fun _ a ha => ?_, fun z => by cases z⟩
        refine key _ a (some dd) v ((s1.trans s2).trans (same_upd hdd)) (.inr ⟨dd, d, rfl, hl, hd' K⟩) (fun dd' z => by cases z; exact upd_same) fun _ _ => ?_
        rw [show bnX c = "ParseError" from by unfold bnX; rw [hl]; rfl]
        exact y.nl
    · exact g.elim
end
section
variable {X : Cx} {nm : Str} {i : Nat} {ec : Stmt} {pos p' np : Pos} {x : Str}
variable {ca : String → Addr} {E : L2.St → XK} {n : Nat} {te : WX → TE}
theorem def_tryY {Cr Ct : List String} {f : FE} {hd : String → Es → Fl} {T : Addr → Addr → Option Addr → TS} {s0 : Stmt} {su : List Stmt} (hs : X.stack = X.env :: X.outer) (hf : X.env.frame = some X.env.locals) (hN : X.N.Nodup) (hi : X.N[i]? = some nm) (hln : X.env.kindOf nm = some .local) (tk : Takes X (fun c d σ H => E σ c d H))
    (hb : ∀ (W : WX) (pn : List (Addr × Obj)) (xe : Value → Shared → Prop), Takes (X.tr pn xe) W → PassesOwn (model X.prog X.w) X.A X.env xe → PSs (X.tr pn xe) [ec] (tDrop (te W)))
    (hc : ∀ W : WX, CE X.K ca (fun σ c d H => W c d σ H) (te W) f) (nx : Names X x (.ref (ca "EstimateError")))
    (ok : ∀ (a : Addr) (o : Obj) (k : Value) (d : Option Addr) (pn : List (Addr × Obj)), Zc k d o → (∃ vs, o.data = .fields vs) → PSs (X.suite a ((a, o) :: pn)) (s0 :: su) (tClY X.K T a k d))
    (y : YF X.K ca Cr Ct)
    (hsu : ∀ c, bnX c ∈ Cr → ∀ a d v, LnR X.K c d v → CSq (PY i a d v) X.K n (T (ca (bnX c)) a d) (hd c)) (hin : i < n) :
    ∃ t, PS X (.Try [ec] [.ExceptHandler (some (.Name x np)) (some nm) (s0 :: su) p'] [] [] pos) t ∧ CS X.K ca E n t (sTryY i Cr f hd) :=
  ⟨_, ps_tryA hs hf hN hi hln tk hb (.cons nx ok .nil), cs_tryY y hin hc hsu⟩
end
end HL
end
section
set_option Elab.async false
set_option linter.all false
set_option maxRecDepth 100000
set_option maxHeartbeats 4000000
namespace HM
open PySem L2 HL
def g_C_state : Es → Fl :=
  (sRet (xA dTup (aC (x1 dFq (xV 0)) (aC (x1 (dCnt true) (xV 0)) (aC (x1 (dCnt false) (xV 0)) aN)))))
def m_C_state : List D → R D := runF 0 g_C_state
def g_C_eq : Es → Fl :=
  (sSeq (sIf (yNot (yTru (x1 dIsC (xV 1)))) (sRet (xC (.bool false))) sNil)
  (sRet (x2 dEq (x1 (dMe m_C_state) (xV 0)) (x1 (dMe m_C_state) (xV 1)))))
def m_C_eq : List D → R D := runF 0 g_C_eq
def g_C_len : Es → Fl :=
  (sRet (xA dLen (aC (x1 dFs (xV 0)) aN)))
def m_C_len : List D → R D := runF 0 g_C_len
def g_C_str : Es → Fl :=
  (sRet (xJoin (xC (.str (Str.ofString ""))) (xLc (iSeq (x1 dFs (xV 0))) (gN 1) (fun _ => .ok true) (xIf (yTru (xV 1)) (xC (.str (Str.ofString "+"))) (xC (.str (Str.ofString "-")))) [1])))
def m_C_str : List D → R D := runF 1 g_C_str
def g_C_outcomes : Es → Fl :=
  (sRet (x1 dFs (xV 0)))
def m_C_outcomes : List D → R D := runF 0 g_C_outcomes
def g_C_estimate : Es → Fl :=
  (sSeq (sIf (yOr (yBl (x2 dEq (xA dLen (aC (x1 dFs (xV 0)) aN)) (xC (.int 0)))) (yBl (x2 dGt (xA dLen (aC (x1 dFq (xV 0)) aN)) (x2 dAddA (xA dLen (aC (x1 dFs (xV 0)) aN)) (xC (.int 1)))))) (sRaise "NoEstimate") sNil)
  (sRet (x2 dIx (xCall 2 m_honest_of (aC (xA dLen (aC (x1 dFs (xV 0)) aN)) (aC (xCall 1 m_polynomial_of (aC (x1 dFq (xV 0)) aN)) aN))) (x1 (dCnt true) (xV 0)))))
def m_C_estimate : List D → R D := runF 0 g_C_estimate
def fCnt : Ob → List D → R (D × Option Ob) := fun o ds => match ds with
  | [d] => catchM ["TooMany", "NoEstimate", "NothingToUndo"] [⟨"TooMany", "EstimateError", "NoEstimate", (Str.ofString "many"), (Str.ofString "other")⟩, ⟨"NoEstimate", "EstimateError", "TooMany", (Str.ofString "no"), (Str.ofString "other")⟩, ⟨"NothingToUndo", "EstimateError", "NoEstimate", (Str.ofString "nothing"), (Str.ofString "other")⟩] ((ifI 0 (fun o _ => fAdd true o []) (ifI 1 (fun o _ => fAdd false o []) (ifI 2 (fun o _ => pureR m_C_estimate o) (fun o _ => fUndo o [])))) o d)
  | _ => .bad
end HM
end
section
set_option Elab.async false
set_option linter.all false
set_option maxRecDepth 100000
set_option maxHeartbeats 4000000
namespace HM
open PySem L2 HL
def g_parse_integer : Es → Fl :=
  (sSeq (sAsg 1 (xIf (yBl (x2 dEq (xSl (xV 0) oN (oS (xC (.int 1)))) (xC (.str (Str.ofString "-"))))) (xSl (xV 0) (oS (xC (.int 1))) oN) (xV 0)))
  (sSeq (sIf (yOr (yNot (yBl (xCh dLe dLe (xC (.int 1)) (xA dLen (aC (xV 1) aN)) (xC (.int 5))))) (yTru (xLc (fun ρ => ((xV 1) ρ).bind dSigns) (gN 2) (yBl (x2 dNis (xV 2) (xC (.str (Str.ofString "0123456789"))))) (xV 2) [2]))) (sRet (xC .none)) sNil)
  (sRet (xIf (yBl (x2 dEq (xA dStrI (aC (xA dIntS (aC (xV 0) aN)) aN)) (xV 0))) (xA dIntS (aC (xV 0) aN)) (xC .none)))))
def m_parse_integer : List D → R D := runF 2 g_parse_integer
def g_parse_fraction : Es → Fl :=
  (sSeq (sAsg 1 (xSplit (xV 0) (xC (.str (Str.ofString "/")))))
  (sSeq (sAsg 2 (xLc (iSeq (xV 1)) (gN 4) (fun _ => .ok true) (xCall 1 m_parse_integer (aC (xV 4) aN)) [4]))
  (sSeq (sIf (yOr (yBl (x2 dGt (xA dLen (aC (xV 1) aN)) (xC (.int 2)))) (yOr (yBl (x2 dIn (xC .none) (xV 2))) (yAnd (yBl (x2 dEq (xA dLen (aC (xV 1) aN)) (xC (.int 2)))) (yBl (x2 dLt (x2 dIx (xV 2) (xC (.int 1))) (xC (.int 2))))))) (sRet (xC .none)) sNil)
  (sSeq (sAsg 3 (xA dTup (aC (x2 dIx (xV 2) (xC (.int 0))) (aC (xIf (yBl (x2 dEq (xA dLen (aC (xV 1) aN)) (xC (.int 2)))) (x2 dIx (xV 2) (xC (.int 1))) (xC (.int 1))) aN))))
  (sRet (xIf (yTru (xCall 1 m_is_fraction (aC (xV 3) aN))) (xV 3) (xC .none)))))))
def m_parse_fraction : List D → R D := runF 4 g_parse_fraction
def g_parse_estimate : Es → Fl :=
  (sSeq (sIf (yNot (yTru (x1 (dIsi "str") (xV 0)))) (sRaiseL (xC .none)) sNil)
  (sSeq (sAsg 1 (xLc (iSeq (xSplit (xV 0) (xC (.str (Str.ofString " "))))) (gN 2) (fun _ => .ok true) (xCall 1 m_parse_fraction (aC (xV 2) aN)) [2]))
  (sSeq (sIf (yBl (x2 dIn (xC .none) (xV 1))) (sRaiseL (xIndex (xV 1) (xC .none))) sNil)
  (sSeq (sIf (yNot (yBl (xCh dLe dLe (xC (.int 2)) (xA dLen (aC (xV 1) aN)) (xC (.int 7))))) (sRaiseL (xC .none)) sNil)
  (sRet (xA dTup (aC (x2 dSub (xA dLen (aC (xV 1) aN)) (xC (.int 1))) (aC (xA dTupOf (aC (xV 1) aN)) aN))))))))
def m_parse_estimate : List D → R D := runF 2 g_parse_estimate
def g_law_raise : Es → Fl :=
  (sSeq (sIf (yBl (x2 dEq (xV 0) (xC (.int 0)))) (sRet (xCall 2 m_average (aC (xC (.int 0)) (aC (xA dTup aN) aN)))) sNil)
  (sSeq (sIf (yBl (x2 dEq (xV 0) (xC (.int 1)))) (sRet (xCall 2 m_honest (aC (xC (.int 1)) (aC (xA dTup (aC (xC (.int 0)) aN)) aN)))) sNil)
  (sSeq (sIf (yBl (x2 dEq (xV 0) (xC (.int 2)))) (sRet (xCall 2 m_average (aC (xC (.int 1)) (aC (xA dTup (aC (xA dTup (aC (xC (.int 0)) (aC (xC (.int 1)) aN))) aN)) aN)))) sNil)
  (sSeq (sIf (yBl (x2 dEq (xV 0) (xC (.int 3)))) (sRet (xCall 3 m_average_at (aC (xC (.int 1)) (aC (xA dTup (aC (xA dTup (aC (xC (.int 0)) (aC (xC (.int 1)) aN))) (aC (xA dTup (aC (xC (.int 1)) (aC (xC (.int 1)) aN))) aN))) (aC (xA dTup (aC (xC (.int 3)) (aC (xC (.int 2)) aN))) aN))))) sNil)
  (sSeq (sIf (yBl (x2 dEq (xV 0) (xC (.int 4)))) (sRet (xCall 2 m_from_averages (aC (xC (.int 1)) (aC (xA dTup aN) aN)))) sNil)
  (sSeq (sIf (yBl (x2 dEq (xV 0) (xC (.int 5)))) (sRet (xCall 2 m_honest (aC (xC (.int 1)) (aC (xA dTup (aC (xC (.int 0)) (aC (xC (.int 0)) (aC (xC (.int 1)) aN)))) aN)))) sNil)
  (sSeq (sIf (yBl (x2 dEq (xV 0) (xC (.int 6)))) (sRet (xCall 2 m_paper (aC (xC (.int 1)) (aC (xA dTup (aC (xC (.int 0)) (aC (xC (.int 1)) aN))) aN)))) sNil)
  (sSeq (sIf (yBl (x2 dEq (xV 0) (xC (.int 7)))) (sRet (xCall 3 m_failing_chance (aC (xC (.int 1)) (aC (xA dTup (aC (xC (.int 0)) (aC (xC (.int 1)) aN))) (aC (xA dTup (aC (xA dTup (aC (xC (.int 0)) (aC (xC (.int 1)) aN))) (aC (xA dTup (aC (xC (.int 1)) (aC (xC (.int 1)) aN))) aN))) aN))))) sNil)
  (sSeq (sIf (yBl (x2 dEq (xV 0) (xC (.int 8)))) (sRet (xCall 3 m_more_trials (aC (xC (.int 1)) (aC (xA dTup (aC (xA dTup (aC (xC (.int 0)) (aC (xC (.int 1)) aN))) (aC (xA dTup (aC (xC (.int 1)) (aC (xC (.int 1)) aN))) aN))) (aC (xC (.int 7)) aN))))) sNil)
  (sRet (xIf (yBl (x2 dEq (xV 0) (xC (.int 9)))) (xCall 1 m_parse_estimate (aC (xC (.str (Str.ofString "1 x"))) aN)) (x1 (dMe (pureM fUndo)) (xFo (oMk m_check_quantity (aC (xA dTup aN) aN)))))))))))))))
def m_law_raise : List D → R D := runF 0 g_law_raise
def g_law : Es → Fl :=
  (sSeq (sAsg 1 (x2 dMod (xCall 2 m_law_cell (aC (xV 0) (aC (xC (.int 0)) aN))) (xC (.int 11))))
  (sSeq (sAsg 2 (xA dLst aN))
  (sSeq (sAsg 3 (xC (.bool false)))
  (sSeq (sAsg 4 (xC (.str (Str.ofString "none"))))
  (sSeq (sTryY 5 ["InvalidTrials", "InvalidQuantity", "InvalidEstimate", "InvalidNumber", "InvalidPoints", "NoEstimate", "HasEstimate", "IsHonest", "TooMany", "ParseError", "NothingToUndo"] (xCall 1 m_law_raise (aC (xV 1) aN)) (fun c => (sSeq (sAsg 2 (xA dLst (isL (bnX c) ["InvalidTrials", "InvalidQuantity", "InvalidEstimate"]))) (sSeq (sAsg 2 (x2 dAddA (xV 2) (xA dLst (isL (bnX c) ["InvalidNumber", "InvalidPoints", "NoEstimate"])))) (sSeq (sAsg 2 (x2 dAddA (xV 2) (xA dLst (isL (bnX c) ["HasEstimate", "IsHonest", "TooMany"])))) (sSeq (sAsg 2 (x2 dAddA (xV 2) (xA dLst (isL (bnX c) ["ParseError", "NothingToUndo"])))) (sSeq (sAsg 3 (xC (.bool true))) (sAsg 4 (xIf (yBl (x2 dEq (xV 1) (xC (.int 9)))) (xLn c) (xC (.str (Str.ofString "none"))))))))))))
  (sRet (xAnd (xV 3) (xAnd (x2 dEq (xV 4) (xIf (yBl (x2 dEq (xV 1) (xC (.int 9)))) (xC (.int 1)) (xC (.str (Str.ofString "none"))))) (x2 dEq (xV 2) (xLc (iA dR1 (aC (xC (.int 11)) aN)) (gN 6) (fun _ => .ok true) (x2 dEq (xV 6) (xV 1)) [6]))))))))))
def m_law : List D → R D := runF 6 g_law
end HM
end
section
set_option Elab.async false
set_option linter.all false
set_option maxRecDepth 100000
set_option maxHeartbeats 4000000
namespace HN
open PySem L2 HL HM
def rest15 : Es → Fl :=
  (sSeq (sAsg 2 (xA dLst aN))
  (sSeq (sAsg 3 (xC (.bool false)))
  (sSeq (sAsg 4 (xC (.str (Str.ofString "none"))))
  (sSeq (sTryY 5 ["InvalidTrials", "InvalidQuantity", "InvalidEstimate", "InvalidNumber", "InvalidPoints", "NoEstimate", "HasEstimate", "IsHonest", "TooMany", "ParseError", "NothingToUndo"] (xCall 1 m_law_raise (aC (xV 1) aN)) (fun c => (sSeq (sAsg 2 (xA dLst (isL (bnX c) ["InvalidTrials", "InvalidQuantity", "InvalidEstimate"]))) (sSeq (sAsg 2 (x2 dAddA (xV 2) (xA dLst (isL (bnX c) ["InvalidNumber", "InvalidPoints", "NoEstimate"])))) (sSeq (sAsg 2 (x2 dAddA (xV 2) (xA dLst (isL (bnX c) ["HasEstimate", "IsHonest", "TooMany"])))) (sSeq (sAsg 2 (x2 dAddA (xV 2) (xA dLst (isL (bnX c) ["ParseError", "NothingToUndo"])))) (sSeq (sAsg 3 (xC (.bool true))) (sAsg 4 (xIf (yBl (x2 dEq (xV 1) (xC (.int 9)))) (xLn c) (xC (.str (Str.ofString "none"))))))))))))
  (sRet (xAnd (xV 3) (xAnd (x2 dEq (xV 4) (xIf (yBl (x2 dEq (xV 1) (xC (.int 9)))) (xC (.int 1)) (xC (.str (Str.ofString "none"))))) (x2 dEq (xV 2) (xLc (iA dR1 (aC (xC (.int 11)) aN)) (gN 6) (fun _ => .ok true) (x2 dEq (xV 6) (xV 1)) [6])))))))))
theorem g15_eq : g_law = sSeq (sAsg 1 (x2 dMod (xCall 2 m_law_cell (aC (xV 0) (aC (xC (.int 0)) aN))) (xC (.int 11)))) rest15 := (rfl)
theorem c15_0 (s : D) : rest15 [some (.im s), some (.im (.int 0)), none, none, none, none, none] = .rt (.bool true) := by kernel_rfl
theorem c15_1 (s : D) : rest15 [some (.im s), some (.im (.int 1)), none, none, none, none, none] = .rt (.bool true) := by kernel_rfl
theorem c15_2 (s : D) : rest15 [some (.im s), some (.im (.int 2)), none, none, none, none, none] = .rt (.bool true) := by kernel_rfl
theorem c15_3 (s : D) : rest15 [some (.im s), some (.im (.int 3)), none, none, none, none, none] = .rt (.bool true) := by kernel_rfl
theorem c15_4 (s : D) : rest15 [some (.im s), some (.im (.int 4)), none, none, none, none, none] = .rt (.bool true) := by kernel_rfl
theorem c15_5 (s : D) : rest15 [some (.im s), some (.im (.int 5)), none, none, none, none, none] = .rt (.bool true) := by kernel_rfl
theorem c15_6 (s : D) : rest15 [some (.im s), some (.im (.int 6)), none, none, none, none, none] = .rt (.bool true) := by kernel_rfl
theorem c15_7 (s : D) : rest15 [some (.im s), some (.im (.int 7)), none, none, none, none, none] = .rt (.bool true) := by kernel_rfl
theorem c15_8 (s : D) : rest15 [some (.im s), some (.im (.int 8)), none, none, none, none, none] = .rt (.bool true) := by kernel_rfl
theorem c15_9 (s : D) : rest15 [some (.im s), some (.im (.int 9)), none, none, none, none, none] = .rt (.bool true) := by kernel_rfl
theorem c15_10 (s : D) : rest15 [some (.im s), some (.im (.int 10)), none, none, none, none, none] = .rt (.bool true) := by kernel_rfl
theorem all15 {k : Int} (h0 : 0 ≤ k) (h1 : k < 11) (s : D) : rest15 [some (.im s), some (.im (.int k)), none, none, none, none, none] = .rt (.bool true) := by
  have : k = 0 ∨ k = 1 ∨ k = 2 ∨ k = 3 ∨ k = 4 ∨ k = 5 ∨ k = 6 ∨ k = 7 ∨ k = 8 ∨ k = 9 ∨ k = 10 := by omega
  rcases this with e | e | e | e | e | e | e | e | e | e | e
  · rw [e]; exact c15_0 s
  · rw [e]; exact c15_1 s
  · rw [e]; exact c15_2 s
  · rw [e]; exact c15_3 s
  · rw [e]; exact c15_4 s
  · rw [e]; exact c15_5 s
  · rw [e]; exact c15_6 s
  · rw [e]; exact c15_7 s
  · rw [e]; exact c15_8 s
  · rw [e]; exact c15_9 s
  · rw [e]; exact c15_10 s
theorem law_true (ns : List Int) (h : ns.length ≤ 63) : m_law [.list (ns.map .int)] = .ok (.bool true) := by
  have c0 := cell_ok ns (k := 0) (by decide)
  have c0' : m_law_cell [.list (ns.map .int), .int 0] = .ok (.int (cell ns 0)) := c0
  have m11 : dMod (.int (cell ns 0)) (.int 11) = .ok (.int (cell ns 0 % 11)) := dMod_ok (by decide)
  refine runF_rt ?_
  rw [g15_eq]
  show sSeq _ _ [some (.im (.list (ns.map .int))), none, none, none, none, none, none] = _
  refine seqN (δ' := [some (.im (.list (ns.map .int))), some (.im (.int (cell ns 0 % 11))), none, none, none, none, none]) (by simp [c0', m11]) ?_
  exact all15 (Int.emod_nonneg _ (by decide)) (Int.emod_lt_of_pos _ (by decide)) _
end HN
end
section
set_option Elab.async false
set_option linter.all false
set_option maxRecDepth 100000
set_option maxHeartbeats 4000000
namespace HW
open PySem PySem.Spec PyProof.Rows L2 HL HM
def topS (i : Nat) : Stmt := PySem.Challenge.pw_honestestimates_k15_exceptions.main.body.getD i (.Pass ⟨0, 0, 0, 0⟩)
section
variable {P : Program} {w : World} {K : PySem.W.Frag} {mg : Str → Option Value} {base : Heap} {ca : String → Addr}
abbrev s_law_cell : Stmt := topS 66
theorem sc_law_cell : FnScope ["script", "k"] ["script", "k"] (defScope s_law_cell) := ⟨rfl, rfl, rfl, by decide +kernel, rfl, by decide +kernel, by decide +kernel⟩
theorem ok_law_cell {f : Addr} {fd : FuncData} (F : Fun K "_law_cell" "_law_cell" s_law_cell f fd) (b : Binds K fd ["script", "k"] []) (g : mg "_law_cell" = some (.ref f)) (z_len : mg "len" = none) :
    OkD P w K mg base ca "_law_cell" ["script", "k"] 1 m_law_cell := by
  refine ⟨f, fd, g, F.kp, b, F.okX sc_law_cell spD_len (fun cdv A outer s H vs Q E hr h => ?_)⟩
  exact ⟨_, (pss_cons (ps_if (pt_cmpR op_lt (pv 1) (pe_callB call_lenA (by rfl) z_len (by decide +kernel) (pa_cons (pv 0) pa_nil)) (nomark _)) (pss_one (ps_ret (pe_ix ix_A (pv 0) (pv 1) (fun _ _ => rfl)))) pss_nil)
  (pss_one (ps_ret pe_int))),
   run_def (K := K) (ca := ca) (E := E) (p := 2) (k := 0) (g := g_law_cell) rfl (cs_seq (cs_if (ct_test (ce_op od_cmp ce_var (ce_cb bd_len (ca_cons ce_var ca_nil)))) (cs_ret (ce_op od_ix ce_var ce_var)) cs_nil)
  (cs_ret ce_int)) h⟩
abbrev s_in_range : Stmt := topS 16
theorem sc_in_range : FnScope ["value", "low", "high"] ["value", "low", "high"] (defScope s_in_range) := ⟨rfl, rfl, rfl, by decide +kernel, rfl, by decide +kernel, by decide +kernel⟩
theorem ok_in_range {f : Addr} {fd : FuncData} (F : Fun K "in_range" "in_range" s_in_range f fd) (b : Binds K fd ["value", "low", "high"] []) (g : mg "in_range" = some (.ref f)) (z_bool : mg "bool" = none) (z_int : mg "int" = none) (z_isinstance : mg "isinstance" = none) :
    OkD P w K mg base ca "in_range" ["value", "low", "high"] 1 m_in_range := by
  refine ⟨f, fd, g, F.kp, b, F.okX sc_in_range spD_len (fun cdv A outer s H vs Q E hr h => ?_)⟩
  exact ⟨_, (pss_one (ps_ret (pe_andT (pe_callB call_isi (by rfl) z_isinstance (by decide +kernel) (pa_cons (pv 0) (pa_cons (pe_bltn (v := .ty "int") (by rfl) z_int (by decide +kernel) rfl) pa_nil))) (pe_andT (pe_notT (pe_callB call_isi (by rfl) z_isinstance (by decide +kernel) (pa_cons (pv 0) (pa_cons (pe_bltn (v := .ty "bool") (by rfl) z_bool (by decide +kernel) rfl) pa_nil)))) (pe_one (pe_chain op_le op_le (pv 1) (pv 0) (pv 2))))))),
   run_def (K := K) (ca := ca) (E := E) (p := 3) (k := 0) (g := g_in_range) rfl (cs_ret (ce_and (ce_isi ce_var) (ce_and (ce_not (ce_isi ce_var)) (ce_chain od_cmp od_cmp ce_var ce_var ce_var)))) h⟩
abbrev s_is_quantity : Stmt := topS 38
theorem sc_is_quantity : FnScope ["value", "one"] ["value"] (defScope s_is_quantity) := ⟨rfl, rfl, rfl, by decide +kernel, rfl, by decide +kernel, by decide +kernel⟩
theorem ok_is_quantity {f : Addr} {fd : FuncData} (F : Fun K "is_quantity" "is_quantity" s_is_quantity f fd) (b : Binds K fd ["value"] []) (g : mg "is_quantity" = some (.ref f)) (z_isinstance : mg "isinstance" = none) (z_len : mg "len" = none) (z_tuple : mg "tuple" = none) {t_MAX_DEGREE : Tok} (k_MAX_DEGREE : mg "MAX_DEGREE" = some (.int 8 t_MAX_DEGREE)) (c_in_range : OkD P w K mg base ca "in_range" ["value", "low", "high"] 1 m_in_range) :
    OkD P w K mg base ca "is_quantity" ["value"] 2 m_is_quantity := by
  refine ⟨f, fd, g, F.kp, b, F.okX sc_is_quantity spD_len (fun cdv A outer s H vs Q E hr h => ?_)⟩
  exact ⟨_, (pss_cons (ps_if (PW.pt (pw_or (pt_not (pt_truth (pe_callB call_isi (by rfl) z_isinstance (by decide +kernel) (pa_cons (pv 0) (pa_cons (pe_bltn (v := .ty "tuple") (by rfl) z_tuple (by decide +kernel) rfl) pa_nil))) (by intro _; rfl))) (pw_or1 (pt_cmpR op_gt (pe_callB call_lenA (by rfl) z_len (by decide +kernel) (pa_cons (pv 0) pa_nil)) (pe_op op_addA (pe_glob (v := .int 8) (by rfl) k_MAX_DEGREE ⟨_, rfl⟩) pe_int) (nomark _))))) (pss_one (ps_ret pe_bl)) pss_nil)
  (pss_cons (ps_if (pt_truth (pe_lc (own := [("one", 1)]) (by rfl) sc_is_quantity.nd (pi_seqA (pv 0)) (blkOk_by (own := [("one", 1)]) (N := ["value", "one"]) (sc := defScope s_is_quantity) (by decide +kernel)) (fun _ _ _ _ _ => by exact (pg_name (i := 1) sc_is_quantity.nd rfl (Or.inl rfl))) (fun _ _ _ _ _ => by exact (pts_one (pt_not (pt_truth (pe_callD (E := E0') c_in_range (hr.mono (by decide)) (by rfl) passN (pa_cons (pv 1) (pa_cons (pe_un un_neg pe_int) (pa_cons pe_int pa_nil)))) (by intro _; rfl))))) (fun _ _ _ _ _ => by exact (pv 1))) (by intro _; rfl)) (pss_one (ps_ret pe_bl)) pss_nil)
  (pss_one (ps_ret (pe_orT (pe_cmpR (op_eqD hr.units) (pv 0) (pe_tup pa_nil) (nomark _)) (pe_one (pe_cmpR (op_neD hr.units) (pe_ix ix_A (pv 0) (pe_un un_neg pe_int) (fun _ _ => rfl)) pe_int (nomark _)))))))),
   run_def (K := K) (ca := ca) (E := E) (p := 1) (k := 1) (g := g_is_quantity) rfl (cs_seq (cs_if (ct_or (ct_not (ct_truth (ce_isi ce_var))) (ct_test (ce_op od_cmp (ce_cb bd_len (ca_cons ce_var ca_nil)) (ce_op od_add ce_int ce_int)))) (cs_ret ce_bl) cs_nil)
  (cs_seq (cs_if (ct_truth (ce_lc (ci_seq ce_var) tg_name (by decide) (ct_not (ct_truth (ce_call (ca_cons ce_var (ca_cons (ce_un ud_neg ce_int) (ca_cons ce_int ca_nil)))))) ce_var)) (cs_ret ce_bl) cs_nil)
  (cs_ret (ce_or (ce_op od_eq ce_var (ce_tup ca_nil)) (ce_op od_ne (ce_op od_ix ce_var (ce_un ud_neg ce_int)) ce_int))))) h⟩
abbrev s_check_quantity : Stmt := topS 39
theorem sc_check_quantity : FnScope ["quantity"] ["quantity"] (defScope s_check_quantity) := ⟨rfl, rfl, rfl, by decide +kernel, rfl, by decide +kernel, by decide +kernel⟩
theorem ok_check_quantity {f : Addr} {fd : FuncData} (F : Fun K "check_quantity" "check_quantity" s_check_quantity f fd) (b : Binds K fd ["quantity"] []) (g : mg "check_quantity" = some (.ref f)) (x_InvalidQuantity : ExF K mg ca "InvalidQuantity") (c_is_quantity : OkD P w K mg base ca "is_quantity" ["value"] 2 m_is_quantity) :
    OkD P w K mg base ca "check_quantity" ["quantity"] 3 m_check_quantity := by
  refine ⟨f, fd, g, F.kp, b, F.okX sc_check_quantity spD_len (fun cdv A outer s H vs Q E hr h => ?_)⟩
  exact ⟨_, (pss_one (ps_if (pt_not (pt_truth (pe_callD (E := fun _ => E) c_is_quantity (hr.mono (by decide)) (by rfl) (fun σ => passAt (takes_of rfl rfl rfl rfl) σ) (pa_cons (pv 0) pa_nil)) (by intro _; rfl))) (pss_one (ps_raise rfl (takes_of rfl rfl rfl rfl) (pmk_own PySem.F.excBase_ValueError x_InvalidQuantity.x x_InvalidQuantity.g x_InvalidQuantity.k (raises_own x_InvalidQuantity.b x_InvalidQuantity.t) (by rfl)))) pss_nil)),
   run_def (K := K) (ca := ca) (E := E) (p := 1) (k := 0) (g := g_check_quantity) rfl (cs_if (ct_not (ct_truth (ce_call (ca_cons ce_var ca_nil)))) (cs_raise (c := "InvalidQuantity") rfl) cs_nil) h⟩
abbrev s_C_init : Stmt := inClass (topS 55) 0
theorem sc_C_init : FnScope ["self", "quantity"] ["self", "quantity"] (defScope s_C_init) := ⟨rfl, rfl, rfl, by decide +kernel, rfl, by decide +kernel, by decide +kernel⟩

theorem ok_C_init {f : Addr} {fd : FuncData} (F : Fun K "__init__" "Counter.__init__" s_C_init f fd) (b : Binds K fd ["self", "quantity"] []) (m : Meth K (ctrC K) "__init__" f) (c : CtrF K mg) (c_check_quantity : OkD P w K mg base ca "check_quantity" ["quantity"] 3 m_check_quantity) :
    MOk P w K mg base "__init__" ["self", "quantity"] 4 (spIni K ca m_check_quantity) := by
  refine ⟨f, fd, m, b, F.okX sc_C_init spIni_len (fun cdv A outer s H vs Q E hr h => ?_)⟩
  obtain ⟨x, dx, vq, G, dq, rfl, hx, sg, gx, hq, h⟩ := h
  refine ⟨_, pss_cons (ps_expr (pe_callD (E := fun _ => E) c_check_quantity (hr.mono (by decide)) (by rfl) (fun σ => passAt (takes_of rfl rfl rfl rfl) σ) (pa_cons (pv 1) pa_nil)))
    (pss_cons (ps_fld (pv 0) (pv 1) rfl) (pss_cons (ps_fld (pv 0) (pe_tupP pa_nil) rfl) (pss_one (ps_fld (pv 0) pe_int rfl)))), ?_⟩
  refine ⟨vq, rfl, G, [dq], sg, rfl, .cons hq .nil, ?_⟩
  cases hF : m_check_quantity [dq] with
  | ok r =>
    rw [hF] at h
    intro v G1 H1 e1 hv
    refine ⟨vq, rfl, .ref x, rfl, x, _, dx, [], rfl, e1.h _ _ hx, c.cl, c.nq, (by show 0 < 1000; decide), ?_⟩
    rw [put0]
    refine ⟨Nat.zero_le _, fun p o ho hp => ?_⟩
    have hpx : x ≠ p := fun z => by rw [← z, upd_same] at hp; cases hp
    have hp1 : H1 p = none := by rw [upd_ne (Ne.symm hpx)] at hp; exact hp
    refine ⟨.ref x, rfl, x, _, dx, _, rfl, by rw [upd_ne hpx]; exact upd_same, c.cl, c.ns, (by show 1 < 1000; decide), ?_⟩
    rw [put1]
    refine ⟨.ref x, rfl, x, _, dx, _, rfl, upd_same, c.cl, c.nk, (by show 2 < 1000; decide), ?_⟩
    rw [put2]
    have e2 : Ex4 G1 H1 (upd G1 p (.frz o (.tup []))) (upd H1 p (.frz o (.tup []))) := Ex4.new e1.s hp1
    obtain ⟨q1, q2, q3, q4⟩ := mut_end (a := x) (Hf := upd (upd (upd (upd H1 x (.ins (ctrC K) dx [("quantity", vq)])) p (.frz o (.tup []))) x (.ins (ctrC K) dx [("quantity", vq), ("steps", .ref p)])) x (.ins (ctrC K) dx (obFs vq (.ref p) (.int 0)))) (e1.trans e2) gx hx (fun b hb => by
      rw [upd_ne hb, upd_ne hb]
      by_cases hbp : b = p
      · subst hbp; rw [upd_same, upd_same]
      · rw [upd_ne hbp, upd_ne hbp, upd_ne hb])
    exact h _ _ (.ref p) (e1.g.trans e2.g) q2 q1 q3 q4 upd_same (Stp.new (bs := []) ho)
  | exc c' => rw [hF] at h; exact h
  | bad => rw [hF] at h; exact h.elim
abbrev s_C_undo : Stmt := inClass (topS 55) 9
theorem sc_C_undo : FnScope ["self"] ["self"] (defScope s_C_undo) := ⟨rfl, rfl, rfl, by decide +kernel, rfl, by decide +kernel, by decide +kernel⟩

theorem ok_C_undo {f : Addr} {fd : FuncData} (F : Fun K "undo" "Counter.undo" s_C_undo f fd) (b : Binds K fd ["self"] []) (m : Meth K (ctrC K) "undo" f) (c : CtrF K mg) (z_len : mg "len" = none) (x_NothingToUndo : ExF K mg ca "NothingToUndo") :
    MOk P w K mg base "undo" ["self"] 1 (spMut K ca 0 fUndo) := by
  refine ⟨f, fd, m, b, F.okX sc_C_undo spMut_len (fun cdv A outer s H vs Q E hr h => ?_)⟩
  obtain ⟨G, a, dx, vq, w, o, us, ds, rfl, hl, sg, ga, ha, hq, hs, hus, g⟩ := h
  have hus0 : us = [] := List.eq_nil_of_length_eq_zero hl
  subst hus0
  cases hus
  refine ⟨_, pss_cons (ps_if (pt_cmpR op_le (pe_callB call_lenA (by rfl) z_len (by decide +kernel) (pa_cons (pe_fld (pv 0) rfl) pa_nil)) (pe_fld (pv 0) rfl) (nomark _)) (pss_one (ps_raise rfl (takes_of rfl rfl rfl rfl) (pmk_own PySem.F.excBase_ValueError x_NothingToUndo.x x_NothingToUndo.g x_NothingToUndo.k (raises_own x_NothingToUndo.b x_NothingToUndo.t) (by rfl)))) pss_nil)
    (pss_cons (ps_fld (pv 0) (pe_slice sl_tupP (pe_fld (pv 0) rfl) po_none (po_some (pe_un un_neg pe_int))) rfl)
    (pss_one (ps_ret (pe_callB call_lenA (by rfl) z_len (by decide +kernel) (pa_cons (pe_fld (pv 0) rfl) pa_nil))))), ?_⟩
  obtain ⟨p, rfl, hsq⟩ := hs.sq (K := K)
  have hsqH := sqT_mono sg hsq
  refine ⟨.ref a, rfl, a, _, dx, _, .ref p, rfl, ha, c.cl, c.ns, obFs_s, .inl ⟨p, _, rfl, .inr hsqH, .ref a, rfl, a, _, dx, _, .int o.2.2, rfl, ha, c.cl, c.nk, obFs_k, _, _, rfl, rfl, _, rfl, ?_⟩⟩
  unfold fUndo at g
  rw [List.length_map]
  by_cases h6 : (o.2.1.length : Int) ≤ o.2.2
  · rw [if_pos h6] at g
    rw [if_pos (decide_eq_true h6)]
    have := g H (Same.refl H)
    rwa [EX.plain (by decide +kernel)] at this
  · rw [if_neg h6] at g
    rw [if_neg (by simpa using h6)]
    split at g
    · rename_i hlen
      have fin : ∀ (p2 : Addr) (G' H' : Hp), Ex4 G H G' H' → Stp G' (.ref p2) (cutD o.2.1 none (some (-1))) → sFld K (tVar 0) (fun σ H Q => Q (.ref p2) H) "steps" { nx := fun σ H => tRet (tCB (rLenA K) (tCons (tFld K (tVar 0) "steps") tNil)) { nx := fun _ H' => Q .non H', rt := Q } σ H, rt := Q } (start ["self"] [.ref a]) H' := fun p2 G' H' e hst => by
        refine ⟨.ref a, rfl, a, _, dx, _, rfl, e.h _ _ ha, c.cl, c.ns, (by show 3 < 1000; decide), ?_⟩
        rw [putS]
        obtain ⟨p3, z, hsq3⟩ := hst.sq (K := K)
        cases z
        obtain ⟨q1, q2, q3, q4⟩ := mut_end (Hf := upd H' a (.ins (ctrC K) dx (obFs vq (.ref p2) (.int o.2.2)))) e ga ha (fun b hb => upd_ne hb)
        refine ⟨.ref a, rfl, a, _, dx, _, .ref p2, rfl, upd_same, c.cl, c.ns, obFs_s, .inl ⟨p2, _, rfl, .inr (sqT_mono q2 hsq3), ?_⟩⟩
        rw [List.length_map]
        exact g (.int _) G' _ _ e.g q2 q3 q4 q1 upd_same ⟨dx, vq, .ref p2, rfl, dp_mono e.g hq, hst⟩ (.int _)
      refine ⟨.ref a, rfl, a, _, dx, _, .ref p, rfl, ha, c.cl, c.ns, obFs_s, 1, rfl, (-1 : Int), rfl, p, _, rfl, hsqH, fun e => ?_, fun _ p2 o2 ho2 hp2 => ?_⟩
      · refine fin p G H (Ex4.refl sg) ?_
        rw [List.length_map] at e
        rw [cut_whole e.1 e.2]
        exact hs
      · refine fin p2 _ _ (Ex4.new (o := HO.frz o2 (.tup (cutV (o.2.1.map V.bl) none (some (-1))))) sg hp2) ?_
        rw [cutV_map]
        exact Stp.new ho2
    · exact g.elim
abbrev s_choices : Stmt := topS 32
theorem sc_choices : FnScope ["n", "k", "result", "step"] ["n", "k"] (defScope s_choices) := ⟨rfl, rfl, rfl, by decide +kernel, rfl, by decide +kernel, by decide +kernel⟩
theorem ok_choices {f : Addr} {fd : FuncData} (F : Fun K "choices" "choices" s_choices f fd) (b : Binds K fd ["n", "k"] []) (g : mg "choices" = some (.ref f)) (z_range : mg "range" = none) :
    OkD P w K mg base ca "choices" ["n", "k"] 1 m_choices := by
  refine ⟨f, fd, g, F.kp, b, F.okX sc_choices spD_len (fun cdv A outer s H vs Q E hr h => ?_)⟩
  exact ⟨_, (pss_cons (ps_set (i := 2) sc_choices.nd rfl (Or.inl rfl) pe_int)
  (pss_cons (ps_for (passes_of rfl) rfl (pi_range1 (by rfl) z_range (pa_cons (pv 1) pa_nil)) (pg_name (i := 3) sc_choices.nd rfl (Or.inl rfl)) (pss_one (ps_set (i := 2) sc_choices.nd rfl (Or.inl rfl) (pe_op op_fdivW (pe_op op_mulA (pv 2) (pe_op op_sub (pv 0) (pv 3))) (pe_op op_addA (pv 3) pe_int)))))
  (pss_one (ps_ret (pv 2))))),
   run_def (K := K) (ca := ca) (E := E) (p := 2) (k := 2) (g := g_choices) rfl (cs_seq (cs_asg (i := 2) ce_int)
  (cs_seq (cs_for (ci_rng1 (ca_cons ce_var ca_nil)) (tgs_name (i := 3)) (cs_asg (i := 2) (ce_op od_fdiv (ce_op od_mul ce_var (ce_op od_sub ce_var ce_var)) (ce_op od_add ce_var ce_int))))
  (cs_ret ce_var))) h⟩
abbrev s_greatest_divisor : Stmt := topS 17
theorem sc_greatest_divisor : FnScope ["one", "other"] ["one", "other"] (defScope s_greatest_divisor) := ⟨rfl, rfl, rfl, by decide +kernel, rfl, by decide +kernel, by decide +kernel⟩
theorem ok_greatest_divisor {f : Addr} {fd : FuncData} (F : Fun K "greatest_divisor" "greatest_divisor" s_greatest_divisor f fd) (b : Binds K fd ["one", "other"] []) (g : mg "greatest_divisor" = some (.ref f)) :
    OkD P w K mg base ca "greatest_divisor" ["one", "other"] 1 m_greatest_divisor := by
  refine ⟨f, fd, g, F.kp, b, F.okX sc_greatest_divisor spD_len (fun cdv A outer s H vs Q E hr h => ?_)⟩
  exact ⟨_, (pss_cons (ps_while (passes_of rfl) (pt_truth (pv 1) (by intro _; rfl)) (pss_one (ps_par (i := 0) (j := 1) (by rfl) sc_greatest_divisor.nd rfl rfl (by decide) rfl rfl (pa_cons (pv 1) (pa_cons (pe_op op_mod (pv 0) (pv 1)) pa_nil)) (by rfl))))
  (pss_one (ps_ret (pv 0)))),
   run_def (K := K) (ca := ca) (E := E) (p := 2) (k := 0) (g := g_greatest_divisor) rfl (cs_seq (cs_while 20000 (ct_truth ce_var) (cs_par (i := 0) (j := 1) (ca_cons ce_var (ca_cons (ce_op od_mod ce_var ce_var) ca_nil))))
  (cs_ret ce_var)) h⟩
abbrev s_reduced : Stmt := topS 18
theorem sc_reduced : FnScope ["above", "below", "divisor"] ["above", "below"] (defScope s_reduced) := ⟨rfl, rfl, rfl, by decide +kernel, rfl, by decide +kernel, by decide +kernel⟩
theorem ok_reduced {f : Addr} {fd : FuncData} (F : Fun K "reduced" "reduced" s_reduced f fd) (b : Binds K fd ["above", "below"] []) (g : mg "reduced" = some (.ref f)) (z_abs : mg "abs" = none) (c_greatest_divisor : OkD P w K mg base ca "greatest_divisor" ["one", "other"] 1 m_greatest_divisor) :
    OkD P w K mg base ca "reduced" ["above", "below"] 2 m_reduced := by
  refine ⟨f, fd, g, F.kp, b, F.okX sc_reduced spD_len (fun cdv A outer s H vs Q E hr h => ?_)⟩
  exact ⟨_, (pss_cons (ps_set (i := 2) sc_reduced.nd rfl (Or.inl rfl) (pe_callD (E := fun _ => E) c_greatest_divisor (hr.mono (by decide)) (by rfl) (fun σ => passAt (takes_of rfl rfl rfl rfl) σ) (pa_cons (pe_callB call_abs (by rfl) z_abs (by decide +kernel) (pa_cons (pv 0) pa_nil)) (pa_cons (pv 1) pa_nil))))
  (pss_one (ps_ret (pe_tup (pa_cons (pe_op op_fdivW (pv 0) (pv 2)) (pa_cons (pe_op op_fdivW (pv 1) (pv 2)) pa_nil)))))),
   run_def (K := K) (ca := ca) (E := E) (p := 2) (k := 1) (g := g_reduced) rfl (cs_seq (cs_asg (i := 2) (ce_call (ca_cons (ce_cb bd_abs (ca_cons ce_var ca_nil)) (ca_cons ce_var ca_nil))))
  (cs_ret (ce_tup (ca_cons (ce_op od_fdiv ce_var ce_var) (ca_cons (ce_op od_fdiv ce_var ce_var) ca_nil))))) h⟩
abbrev s_times : Stmt := topS 21
theorem sc_times : FnScope ["one", "other"] ["one", "other"] (defScope s_times) := ⟨rfl, rfl, rfl, by decide +kernel, rfl, by decide +kernel, by decide +kernel⟩
theorem ok_times {f : Addr} {fd : FuncData} (F : Fun K "times" "times" s_times f fd) (b : Binds K fd ["one", "other"] []) (g : mg "times" = some (.ref f)) (c_reduced : OkD P w K mg base ca "reduced" ["above", "below"] 2 m_reduced) :
    OkD P w K mg base ca "times" ["one", "other"] 3 m_times := by
  refine ⟨f, fd, g, F.kp, b, F.okX sc_times spD_len (fun cdv A outer s H vs Q E hr h => ?_)⟩
  exact ⟨_, (pss_one (ps_ret (pe_callD (E := fun _ => E) c_reduced (hr.mono (by decide)) (by rfl) (fun σ => passAt (takes_of rfl rfl rfl rfl) σ) (pa_cons (pe_op op_mulA (pe_ix ix_A (pv 0) pe_int (fun _ _ => rfl)) (pe_ix ix_A (pv 1) pe_int (fun _ _ => rfl))) (pa_cons (pe_op op_mulA (pe_ix ix_A (pv 0) pe_int (fun _ _ => rfl)) (pe_ix ix_A (pv 1) pe_int (fun _ _ => rfl))) pa_nil))))),
   run_def (K := K) (ca := ca) (E := E) (p := 2) (k := 0) (g := g_times) rfl (cs_ret (ce_call (ca_cons (ce_op od_mul (ce_op od_ix ce_var ce_int) (ce_op od_ix ce_var ce_int)) (ca_cons (ce_op od_mul (ce_op od_ix ce_var ce_int) (ce_op od_ix ce_var ce_int)) ca_nil)))) h⟩
abbrev s_trimmed : Stmt := topS 26
theorem sc_trimmed : FnScope ["row", "result"] ["row"] (defScope s_trimmed) := ⟨rfl, rfl, rfl, by decide +kernel, rfl, by decide +kernel, by decide +kernel⟩
theorem ok_trimmed {f : Addr} {fd : FuncData} (F : Fun K "trimmed" "trimmed" s_trimmed f fd) (b : Binds K fd ["row"] []) (g : mg "trimmed" = some (.ref f)) (z_list : mg "list" = none) (z_tuple : mg "tuple" = none) :
    OkD P w K mg base ca "trimmed" ["row"] 1 m_trimmed := by
  refine ⟨f, fd, g, F.kp, b, F.okX sc_trimmed spD_len (fun cdv A outer s H vs Q E hr h => ?_)⟩
  exact ⟨_, (pss_cons (ps_set (i := 1) sc_trimmed.nd rfl (Or.inl rfl) (pe_callTy call_list_of (by rfl) z_list (by decide +kernel) (pa_cons (pv 0) pa_nil)))
  (pss_cons (ps_while (passes_of rfl) (PW.pt (pw_and (pt_truth (pv 1) (by intro _; rfl)) (pw_and1 (pt_cmpR (op_eqD hr.units) (pe_ix ix_A (pe_ix ix_A (pv 1) (pe_un un_neg pe_int) (fun _ _ => rfl)) pe_int (fun _ _ => rfl)) pe_int (nomark _))))) (pss_one (ps_expr (pe_bm0 PySem.F.plainAttrs_list PySem.F.slot_list_pop PySem.F.type_list_pop mt_pop (pv 1)))))
  (pss_one (ps_ret (pe_callTy call_tuple_of (by rfl) z_tuple (by decide +kernel) (pa_cons (pv 1) pa_nil)))))),
   run_def (K := K) (ca := ca) (E := E) (p := 1) (k := 1) (g := g_trimmed) rfl (cs_seq (cs_asgO (i := 1) (cf_list (ca_cons ce_var ca_nil)))
  (cs_seq (cs_while 1200 (ct_and (ct_truth ce_var) (ct_test (ce_op od_eq (ce_op od_ix (ce_op od_ix ce_var (ce_un ud_neg ce_int)) ce_int) ce_int))) (cs_pop (i := 1)))
  (cs_ret (ce_cb bd_tup (ca_cons ce_var ca_nil))))) h⟩
abbrev s_multiple_of : Stmt := topS 28
theorem sc_multiple_of : FnScope ["factor", "row", "entry"] ["factor", "row"] (defScope s_multiple_of) := ⟨rfl, rfl, rfl, by decide +kernel, rfl, by decide +kernel, by decide +kernel⟩
theorem ok_multiple_of {f : Addr} {fd : FuncData} (F : Fun K "multiple_of" "multiple_of" s_multiple_of f fd) (b : Binds K fd ["factor", "row"] []) (g : mg "multiple_of" = some (.ref f)) (c_times : OkD P w K mg base ca "times" ["one", "other"] 3 m_times) (c_trimmed : OkD P w K mg base ca "trimmed" ["row"] 1 m_trimmed) :
    OkD P w K mg base ca "multiple_of" ["factor", "row"] 4 m_multiple_of := by
  refine ⟨f, fd, g, F.kp, b, F.okX sc_multiple_of spD_len (fun cdv A outer s H vs Q E hr h => ?_)⟩
  exact ⟨_, (pss_one (ps_ret (pe_callD (E := fun _ => E) c_trimmed (hr.mono (by decide)) (by rfl) (fun σ => passAt (takes_of rfl rfl rfl rfl) σ) (pa_cons (pe_lc (own := [("entry", 2)]) (by rfl) sc_multiple_of.nd (pi_seqA (pv 1)) (blkOk_by (own := [("entry", 2)]) (N := ["factor", "row", "entry"]) (sc := defScope s_multiple_of) (by decide +kernel)) (fun _ _ _ _ _ => by exact (pg_name (i := 2) sc_multiple_of.nd rfl (Or.inl rfl))) (fun _ _ _ _ _ => by exact pts_nil) (fun _ _ _ _ _ => by exact (pe_callD (E := E0') c_times (hr.mono (by decide)) (by rfl) passN (pa_cons (pv 0) (pa_cons (pv 2) pa_nil))))) pa_nil)))),
   run_def (K := K) (ca := ca) (E := E) (p := 2) (k := 1) (g := g_multiple_of) rfl (cs_ret (ce_call (ca_cons (ce_lc (ci_seq ce_var) tg_name (by decide) ct_yes (ce_call (ca_cons ce_var (ca_cons ce_var ca_nil)))) ca_nil))) h⟩
abbrev s_plus : Stmt := topS 20
theorem sc_plus : FnScope ["one", "other"] ["one", "other"] (defScope s_plus) := ⟨rfl, rfl, rfl, by decide +kernel, rfl, by decide +kernel, by decide +kernel⟩
theorem ok_plus {f : Addr} {fd : FuncData} (F : Fun K "plus" "plus" s_plus f fd) (b : Binds K fd ["one", "other"] []) (g : mg "plus" = some (.ref f)) (c_reduced : OkD P w K mg base ca "reduced" ["above", "below"] 2 m_reduced) :
    OkD P w K mg base ca "plus" ["one", "other"] 3 m_plus := by
  refine ⟨f, fd, g, F.kp, b, F.okX sc_plus spD_len (fun cdv A outer s H vs Q E hr h => ?_)⟩
  exact ⟨_, (pss_one (ps_ret (pe_callD (E := fun _ => E) c_reduced (hr.mono (by decide)) (by rfl) (fun σ => passAt (takes_of rfl rfl rfl rfl) σ) (pa_cons (pe_op op_addA (pe_op op_mulA (pe_ix ix_A (pv 0) pe_int (fun _ _ => rfl)) (pe_ix ix_A (pv 1) pe_int (fun _ _ => rfl))) (pe_op op_mulA (pe_ix ix_A (pv 1) pe_int (fun _ _ => rfl)) (pe_ix ix_A (pv 0) pe_int (fun _ _ => rfl)))) (pa_cons (pe_op op_mulA (pe_ix ix_A (pv 0) pe_int (fun _ _ => rfl)) (pe_ix ix_A (pv 1) pe_int (fun _ _ => rfl))) pa_nil))))),
   run_def (K := K) (ca := ca) (E := E) (p := 2) (k := 0) (g := g_plus) rfl (cs_ret (ce_call (ca_cons (ce_op od_add (ce_op od_mul (ce_op od_ix ce_var ce_int) (ce_op od_ix ce_var ce_int)) (ce_op od_mul (ce_op od_ix ce_var ce_int) (ce_op od_ix ce_var ce_int))) (ca_cons (ce_op od_mul (ce_op od_ix ce_var ce_int) (ce_op od_ix ce_var ce_int)) ca_nil)))) h⟩
abbrev s_product_of : Stmt := topS 29
theorem sc_product_of : FnScope ["one", "other", "result", "place", "first", "more", "second"] ["one", "other"] (defScope s_product_of) := ⟨rfl, rfl, rfl, by decide +kernel, rfl, by decide +kernel, by decide +kernel⟩
theorem ok_product_of {f : Addr} {fd : FuncData} (F : Fun K "product_of" "product_of" s_product_of f fd) (b : Binds K fd ["one", "other"] []) (g : mg "product_of" = some (.ref f)) (z_enumerate : mg "enumerate" = none) (z_len : mg "len" = none) (c_plus : OkD P w K mg base ca "plus" ["one", "other"] 3 m_plus) (c_times : OkD P w K mg base ca "times" ["one", "other"] 3 m_times) (c_trimmed : OkD P w K mg base ca "trimmed" ["row"] 1 m_trimmed) :
    OkD P w K mg base ca "product_of" ["one", "other"] 4 m_product_of := by
  refine ⟨f, fd, g, F.kp, b, F.okX sc_product_of spD_len (fun cdv A outer s H vs Q E hr h => ?_)⟩
  exact ⟨_, (pss_cons (ps_set (i := 2) sc_product_of.nd rfl (Or.inl rfl) (pe_op op_rep (pe_lst (pa_cons (pe_tup (pa_cons pe_int (pa_cons pe_int pa_nil))) pa_nil)) (pe_op op_addA (pe_callB call_lenA (by rfl) z_len (by decide +kernel) (pa_cons (pv 0) pa_nil)) (pe_callB call_lenA (by rfl) z_len (by decide +kernel) (pa_cons (pv 1) pa_nil)))))
  (pss_cons (ps_for (passes_of rfl) rfl (pi_enumA (by rfl) z_enumerate (pa_cons (pv 0) pa_nil)) (pg_tup rfl (pgs_cons (pg_name (i := 3) sc_product_of.nd rfl (Or.inl rfl)) (pgs_cons (pg_name (i := 4) sc_product_of.nd rfl (Or.inl rfl)) pgs_nil))) (pss_one (ps_for (passes_of rfl) rfl (pi_enumA (by rfl) z_enumerate (pa_cons (pv 1) pa_nil)) (pg_tup rfl (pgs_cons (pg_name (i := 5) sc_product_of.nd rfl (Or.inl rfl)) (pgs_cons (pg_name (i := 6) sc_product_of.nd rfl (Or.inl rfl)) pgs_nil))) (pss_one (ps_asg (pe_callD (E := fun _ => E) c_plus (hr.mono (by decide)) (by rfl) (fun σ => passAt (takes_of rfl rfl rfl rfl) σ) (pa_cons (pe_ix ix_A (pv 2) (pe_op op_addA (pv 3) (pv 5)) (fun _ _ => rfl)) (pa_cons (pe_callD (E := fun _ => E) c_times (hr.mono (by decide)) (by rfl) (fun σ => passAt (takes_of rfl rfl rfl rfl) σ) (pa_cons (pv 4) (pa_cons (pv 6) pa_nil))) pa_nil))) (pg_sub (pv 2) (pe_op op_addA (pv 3) (pv 5)) set_list))))))
  (pss_one (ps_ret (pe_callD (E := fun _ => E) c_trimmed (hr.mono (by decide)) (by rfl) (fun σ => passAt (takes_of rfl rfl rfl rfl) σ) (pa_cons (pv 2) pa_nil)))))),
   run_def (K := K) (ca := ca) (E := E) (p := 2) (k := 5) (g := g_product_of) rfl (cs_seq (cs_asgO (i := 2) (cf_rep (cf_lst (ca_cons (ce_tup (ca_cons ce_int (ca_cons ce_int ca_nil))) ca_nil)) (ce_op od_add (ce_cb bd_len (ca_cons ce_var ca_nil)) (ce_cb bd_len (ca_cons ce_var ca_nil)))))
  (cs_seq (cs_for (ci_enum (ca_cons ce_var ca_nil)) (tgs_pair (i := 3) (j := 4)) (cs_for (ci_enum (ca_cons ce_var ca_nil)) (tgs_pair (i := 5) (j := 6)) (cs_set (i := 2) (ce_op od_add ce_var ce_var) (ce_call (ca_cons (ce_op od_ix ce_var (ce_op od_add ce_var ce_var)) (ca_cons (ce_call (ca_cons ce_var (ca_cons ce_var ca_nil))) ca_nil))))))
  (cs_ret (ce_call (ca_cons ce_var ca_nil))))) h⟩
abbrev s_power_of : Stmt := topS 31
theorem sc_power_of : FnScope ["row", "exponent", "result", "time"] ["row", "exponent"] (defScope s_power_of) := ⟨rfl, rfl, rfl, by decide +kernel, rfl, by decide +kernel, by decide +kernel⟩
theorem ok_power_of {f : Addr} {fd : FuncData} (F : Fun K "power_of" "power_of" s_power_of f fd) (b : Binds K fd ["row", "exponent"] []) (g : mg "power_of" = some (.ref f)) (z_range : mg "range" = none) (c_product_of : OkD P w K mg base ca "product_of" ["one", "other"] 4 m_product_of) :
    OkD P w K mg base ca "power_of" ["row", "exponent"] 5 m_power_of := by
  refine ⟨f, fd, g, F.kp, b, F.okX sc_power_of spD_len (fun cdv A outer s H vs Q E hr h => ?_)⟩
  exact ⟨_, (pss_cons (ps_set (i := 2) sc_power_of.nd rfl (Or.inl rfl) (pe_tup (pa_cons (pe_tup (pa_cons pe_int (pa_cons pe_int pa_nil))) pa_nil)))
  (pss_cons (ps_for (passes_of rfl) rfl (pi_range1 (by rfl) z_range (pa_cons (pv 1) pa_nil)) (pg_name (i := 3) sc_power_of.nd rfl (Or.inl rfl)) (pss_one (ps_set (i := 2) sc_power_of.nd rfl (Or.inl rfl) (pe_callD (E := fun _ => E) c_product_of (hr.mono (by decide)) (by rfl) (fun σ => passAt (takes_of rfl rfl rfl rfl) σ) (pa_cons (pv 2) (pa_cons (pv 0) pa_nil))))))
  (pss_one (ps_ret (pv 2))))),
   run_def (K := K) (ca := ca) (E := E) (p := 2) (k := 2) (g := g_power_of) rfl (cs_seq (cs_asg (i := 2) (ce_tup (ca_cons (ce_tup (ca_cons ce_int (ca_cons ce_int ca_nil))) ca_nil)))
  (cs_seq (cs_for (ci_rng1 (ca_cons ce_var ca_nil)) (tgs_name (i := 3)) (cs_asg (i := 2) (ce_call (ca_cons ce_var (ca_cons ce_var ca_nil)))))
  (cs_ret ce_var))) h⟩
abbrev s_chance_of : Stmt := topS 33
theorem sc_chance_of : FnScope ["trials", "successes", "hits", "misses"] ["trials", "successes"] (defScope s_chance_of) := ⟨rfl, rfl, rfl, by decide +kernel, rfl, by decide +kernel, by decide +kernel⟩
theorem ok_chance_of {f : Addr} {fd : FuncData} (F : Fun K "chance_of" "chance_of" s_chance_of f fd) (b : Binds K fd ["trials", "successes"] []) (g : mg "chance_of" = some (.ref f)) (c_choices : OkD P w K mg base ca "choices" ["n", "k"] 1 m_choices) (c_multiple_of : OkD P w K mg base ca "multiple_of" ["factor", "row"] 4 m_multiple_of) (c_power_of : OkD P w K mg base ca "power_of" ["row", "exponent"] 5 m_power_of) (c_product_of : OkD P w K mg base ca "product_of" ["one", "other"] 4 m_product_of) :
    OkD P w K mg base ca "chance_of" ["trials", "successes"] 6 m_chance_of := by
  refine ⟨f, fd, g, F.kp, b, F.okX sc_chance_of spD_len (fun cdv A outer s H vs Q E hr h => ?_)⟩
  exact ⟨_, (pss_cons (ps_set (i := 2) sc_chance_of.nd rfl (Or.inl rfl) (pe_callD (E := fun _ => E) c_power_of (hr.mono (by decide)) (by rfl) (fun σ => passAt (takes_of rfl rfl rfl rfl) σ) (pa_cons (pe_tup (pa_cons (pe_tup (pa_cons pe_int (pa_cons pe_int pa_nil))) (pa_cons (pe_tup (pa_cons pe_int (pa_cons pe_int pa_nil))) pa_nil))) (pa_cons (pv 1) pa_nil))))
  (pss_cons (ps_set (i := 3) sc_chance_of.nd rfl (Or.inl rfl) (pe_callD (E := fun _ => E) c_power_of (hr.mono (by decide)) (by rfl) (fun σ => passAt (takes_of rfl rfl rfl rfl) σ) (pa_cons (pe_tup (pa_cons (pe_tup (pa_cons pe_int (pa_cons pe_int pa_nil))) (pa_cons (pe_tup (pa_cons (pe_un un_neg pe_int) (pa_cons pe_int pa_nil))) pa_nil))) (pa_cons (pe_op op_sub (pv 0) (pv 1)) pa_nil))))
  (pss_one (ps_ret (pe_callD (E := fun _ => E) c_multiple_of (hr.mono (by decide)) (by rfl) (fun σ => passAt (takes_of rfl rfl rfl rfl) σ) (pa_cons (pe_tup (pa_cons (pe_callD (E := fun _ => E) c_choices (hr.mono (by decide)) (by rfl) (fun σ => passAt (takes_of rfl rfl rfl rfl) σ) (pa_cons (pv 0) (pa_cons (pv 1) pa_nil))) (pa_cons pe_int pa_nil))) (pa_cons (pe_callD (E := fun _ => E) c_product_of (hr.mono (by decide)) (by rfl) (fun σ => passAt (takes_of rfl rfl rfl rfl) σ) (pa_cons (pv 2) (pa_cons (pv 3) pa_nil))) pa_nil))))))),
   run_def (K := K) (ca := ca) (E := E) (p := 2) (k := 2) (g := g_chance_of) rfl (cs_seq (cs_asg (i := 2) (ce_call (ca_cons (ce_tup (ca_cons (ce_tup (ca_cons ce_int (ca_cons ce_int ca_nil))) (ca_cons (ce_tup (ca_cons ce_int (ca_cons ce_int ca_nil))) ca_nil))) (ca_cons ce_var ca_nil))))
  (cs_seq (cs_asg (i := 3) (ce_call (ca_cons (ce_tup (ca_cons (ce_tup (ca_cons ce_int (ca_cons ce_int ca_nil))) (ca_cons (ce_tup (ca_cons (ce_un ud_neg ce_int) (ca_cons ce_int ca_nil))) ca_nil))) (ca_cons (ce_op od_sub ce_var ce_var) ca_nil))))
  (cs_ret (ce_call (ca_cons (ce_tup (ca_cons (ce_call (ca_cons ce_var (ca_cons ce_var ca_nil))) (ca_cons ce_int ca_nil))) (ca_cons (ce_call (ca_cons ce_var (ca_cons ce_var ca_nil))) ca_nil)))))) h⟩
abbrev s_sum_of : Stmt := topS 27
theorem sc_sum_of : FnScope ["one", "other", "result", "place", "first", "second"] ["one", "other"] (defScope s_sum_of) := ⟨rfl, rfl, rfl, by decide +kernel, rfl, by decide +kernel, by decide +kernel⟩
theorem ok_sum_of {f : Addr} {fd : FuncData} (F : Fun K "sum_of" "sum_of" s_sum_of f fd) (b : Binds K fd ["one", "other"] []) (g : mg "sum_of" = some (.ref f)) (z_len : mg "len" = none) (z_max : mg "max" = none) (z_range : mg "range" = none) (c_plus : OkD P w K mg base ca "plus" ["one", "other"] 3 m_plus) (c_trimmed : OkD P w K mg base ca "trimmed" ["row"] 1 m_trimmed) :
    OkD P w K mg base ca "sum_of" ["one", "other"] 4 m_sum_of := by
  refine ⟨f, fd, g, F.kp, b, F.okX sc_sum_of spD_len (fun cdv A outer s H vs Q E hr h => ?_)⟩
  exact ⟨_, (pss_cons (ps_set (i := 2) sc_sum_of.nd rfl (Or.inl rfl) (pe_lst pa_nil))
  (pss_cons (ps_for (passes_of rfl) rfl (pi_range1 (by rfl) z_range (pa_cons (pe_callB (call_max2 rfl) (by rfl) z_max (by decide +kernel) (pa_cons (pe_callB call_lenA (by rfl) z_len (by decide +kernel) (pa_cons (pv 0) pa_nil)) (pa_cons (pe_callB call_lenA (by rfl) z_len (by decide +kernel) (pa_cons (pv 1) pa_nil)) pa_nil))) pa_nil)) (pg_name (i := 3) sc_sum_of.nd rfl (Or.inl rfl)) (pss_cons (ps_set (i := 4) sc_sum_of.nd rfl (Or.inl rfl) (pe_ifExp (pt_cmpR op_lt (pv 3) (pe_callB call_lenA (by rfl) z_len (by decide +kernel) (pa_cons (pv 0) pa_nil)) (nomark _)) (pe_ix ix_A (pv 0) (pv 3) (fun _ _ => rfl)) (pe_tup (pa_cons pe_int (pa_cons pe_int pa_nil)))))
  (pss_cons (ps_set (i := 5) sc_sum_of.nd rfl (Or.inl rfl) (pe_ifExp (pt_cmpR op_lt (pv 3) (pe_callB call_lenA (by rfl) z_len (by decide +kernel) (pa_cons (pv 1) pa_nil)) (nomark _)) (pe_ix ix_A (pv 1) (pv 3) (fun _ _ => rfl)) (pe_tup (pa_cons pe_int (pa_cons pe_int pa_nil)))))
  (pss_one (ps_expr (pe_bm PySem.F.plainAttrs_list PySem.F.slot_list_append PySem.F.type_list_append mt_append (pv 2) (pa_cons (pe_callD (E := fun _ => E) c_plus (hr.mono (by decide)) (by rfl) (fun σ => passAt (takes_of rfl rfl rfl rfl) σ) (pa_cons (pv 4) (pa_cons (pv 5) pa_nil))) pa_nil)))))))
  (pss_one (ps_ret (pe_callD (E := fun _ => E) c_trimmed (hr.mono (by decide)) (by rfl) (fun σ => passAt (takes_of rfl rfl rfl rfl) σ) (pa_cons (pv 2) pa_nil)))))),
   run_def (K := K) (ca := ca) (E := E) (p := 2) (k := 4) (g := g_sum_of) rfl (cs_seq (cs_asgO (i := 2) (cf_lst ca_nil))
  (cs_seq (cs_for (ci_rng1 (ca_cons (ce_cb bd_max (ca_cons (ce_cb bd_len (ca_cons ce_var ca_nil)) (ca_cons (ce_cb bd_len (ca_cons ce_var ca_nil)) ca_nil))) ca_nil)) (tgs_name (i := 3)) (cs_seq (cs_asg (i := 4) (ce_if (ct_test (ce_op od_cmp ce_var (ce_cb bd_len (ca_cons ce_var ca_nil)))) (ce_op od_ix ce_var ce_var) (ce_tup (ca_cons ce_int (ca_cons ce_int ca_nil)))))
  (cs_seq (cs_asg (i := 5) (ce_if (ct_test (ce_op od_cmp ce_var (ce_cb bd_len (ca_cons ce_var ca_nil)))) (ce_op od_ix ce_var ce_var) (ce_tup (ca_cons ce_int (ca_cons ce_int ca_nil)))))
  (cs_app (i := 2) (ce_call (ca_cons ce_var (ca_cons ce_var ca_nil)))))))
  (cs_ret (ce_call (ca_cons ce_var ca_nil))))) h⟩
abbrev s_average_of : Stmt := topS 43
theorem sc_average_of : FnScope ["trials", "estimate", "result", "successes", "one"] ["trials", "estimate"] (defScope s_average_of) := ⟨rfl, rfl, rfl, by decide +kernel, rfl, by decide +kernel, by decide +kernel⟩
theorem ok_average_of {f : Addr} {fd : FuncData} (F : Fun K "average_of" "average_of" s_average_of f fd) (b : Binds K fd ["trials", "estimate"] []) (g : mg "average_of" = some (.ref f)) (z_enumerate : mg "enumerate" = none) (c_chance_of : OkD P w K mg base ca "chance_of" ["trials", "successes"] 6 m_chance_of) (c_multiple_of : OkD P w K mg base ca "multiple_of" ["factor", "row"] 4 m_multiple_of) (c_sum_of : OkD P w K mg base ca "sum_of" ["one", "other"] 4 m_sum_of) :
    OkD P w K mg base ca "average_of" ["trials", "estimate"] 7 m_average_of := by
  refine ⟨f, fd, g, F.kp, b, F.okX sc_average_of spD_len (fun cdv A outer s H vs Q E hr h => ?_)⟩
  exact ⟨_, (pss_cons (ps_set (i := 2) sc_average_of.nd rfl (Or.inl rfl) (pe_tup pa_nil))
  (pss_cons (ps_for (passes_of rfl) rfl (pi_enumA (by rfl) z_enumerate (pa_cons (pv 1) pa_nil)) (pg_tup rfl (pgs_cons (pg_name (i := 3) sc_average_of.nd rfl (Or.inl rfl)) (pgs_cons (pg_name (i := 4) sc_average_of.nd rfl (Or.inl rfl)) pgs_nil))) (pss_one (ps_set (i := 2) sc_average_of.nd rfl (Or.inl rfl) (pe_callD (E := fun _ => E) c_sum_of (hr.mono (by decide)) (by rfl) (fun σ => passAt (takes_of rfl rfl rfl rfl) σ) (pa_cons (pv 2) (pa_cons (pe_callD (E := fun _ => E) c_multiple_of (hr.mono (by decide)) (by rfl) (fun σ => passAt (takes_of rfl rfl rfl rfl) σ) (pa_cons (pv 4) (pa_cons (pe_callD (E := fun _ => E) c_chance_of (hr.mono (by decide)) (by rfl) (fun σ => passAt (takes_of rfl rfl rfl rfl) σ) (pa_cons (pv 0) (pa_cons (pv 3) pa_nil))) pa_nil))) pa_nil))))))
  (pss_one (ps_ret (pv 2))))),
   run_def (K := K) (ca := ca) (E := E) (p := 2) (k := 3) (g := g_average_of) rfl (cs_seq (cs_asg (i := 2) (ce_tup ca_nil))
  (cs_seq (cs_for (ci_enum (ca_cons ce_var ca_nil)) (tgs_pair (i := 3) (j := 4)) (cs_asg (i := 2) (ce_call (ca_cons ce_var (ca_cons (ce_call (ca_cons ce_var (ca_cons (ce_call (ca_cons ce_var (ca_cons ce_var ca_nil))) ca_nil))) ca_nil)))))
  (cs_ret ce_var))) h⟩
abbrev s_is_fraction : Stmt := topS 19
theorem sc_is_fraction : FnScope ["value"] ["value"] (defScope s_is_fraction) := ⟨rfl, rfl, rfl, by decide +kernel, rfl, by decide +kernel, by decide +kernel⟩
theorem ok_is_fraction {f : Addr} {fd : FuncData} (F : Fun K "is_fraction" "is_fraction" s_is_fraction f fd) (b : Binds K fd ["value"] []) (g : mg "is_fraction" = some (.ref f)) (z_abs : mg "abs" = none) (z_isinstance : mg "isinstance" = none) (z_len : mg "len" = none) (z_tuple : mg "tuple" = none) {t_MAX_PART : Tok} (k_MAX_PART : mg "MAX_PART" = some (.int 99999 t_MAX_PART)) (c_greatest_divisor : OkD P w K mg base ca "greatest_divisor" ["one", "other"] 1 m_greatest_divisor) (c_in_range : OkD P w K mg base ca "in_range" ["value", "low", "high"] 1 m_in_range) :
    OkD P w K mg base ca "is_fraction" ["value"] 2 m_is_fraction := by
  refine ⟨f, fd, g, F.kp, b, F.okX sc_is_fraction spD_len (fun cdv A outer s H vs Q E hr h => ?_)⟩
  exact ⟨_, (pss_cons (ps_if (PW.pt (pw_or (pt_not (pt_truth (pe_callB call_isi (by rfl) z_isinstance (by decide +kernel) (pa_cons (pv 0) (pa_cons (pe_bltn (v := .ty "tuple") (by rfl) z_tuple (by decide +kernel) rfl) pa_nil))) (by intro _; rfl))) (pw_or (pt_cmpR (op_neD hr.units) (pe_callB call_lenA (by rfl) z_len (by decide +kernel) (pa_cons (pv 0) pa_nil)) pe_int (nomark _)) (pw_or1 (pt_not (pt_truth (pe_callD (E := fun _ => E) c_in_range (hr.mono (by decide)) (by rfl) (fun σ => passAt (takes_of rfl rfl rfl rfl) σ) (pa_cons (pe_ix ix_A (pv 0) pe_int (fun _ _ => rfl)) (pa_cons (pe_un un_neg (pe_glob (v := .int 99999) (by rfl) k_MAX_PART ⟨_, rfl⟩)) (pa_cons (pe_glob (v := .int 99999) (by rfl) k_MAX_PART ⟨_, rfl⟩) pa_nil)))) (by intro _; rfl))))))) (pss_one (ps_ret pe_bl)) pss_nil)
  (pss_one (ps_ret (pe_andT (pe_callD (E := fun _ => E) c_in_range (hr.mono (by decide)) (by rfl) (fun σ => passAt (takes_of rfl rfl rfl rfl) σ) (pa_cons (pe_ix ix_A (pv 0) pe_int (fun _ _ => rfl)) (pa_cons pe_int (pa_cons (pe_glob (v := .int 99999) (by rfl) k_MAX_PART ⟨_, rfl⟩) pa_nil)))) (pe_one (pe_cmpR (op_eqD hr.units) (pe_callD (E := fun _ => E) c_greatest_divisor (hr.mono (by decide)) (by rfl) (fun σ => passAt (takes_of rfl rfl rfl rfl) σ) (pa_cons (pe_callB call_abs (by rfl) z_abs (by decide +kernel) (pa_cons (pe_ix ix_A (pv 0) pe_int (fun _ _ => rfl)) pa_nil)) (pa_cons (pe_ix ix_A (pv 0) pe_int (fun _ _ => rfl)) pa_nil))) pe_int (nomark _))))))),
   run_def (K := K) (ca := ca) (E := E) (p := 1) (k := 0) (g := g_is_fraction) rfl (cs_seq (cs_if (ct_or (ct_not (ct_truth (ce_isi ce_var))) (ct_or (ct_test (ce_op od_ne (ce_cb bd_len (ca_cons ce_var ca_nil)) ce_int)) (ct_not (ct_truth (ce_call (ca_cons (ce_op od_ix ce_var ce_int) (ca_cons (ce_un ud_neg ce_int) (ca_cons ce_int ca_nil)))))))) (cs_ret ce_bl) cs_nil)
  (cs_ret (ce_and (ce_call (ca_cons (ce_op od_ix ce_var ce_int) (ca_cons ce_int (ca_cons ce_int ca_nil)))) (ce_op od_eq (ce_call (ca_cons (ce_cb bd_abs (ca_cons (ce_op od_ix ce_var ce_int) ca_nil)) (ca_cons (ce_op od_ix ce_var ce_int) ca_nil))) ce_int)))) h⟩
abbrev s_are_values : Stmt := topS 40
theorem sc_are_values : FnScope ["value", "count", "one"] ["value", "count"] (defScope s_are_values) := ⟨rfl, rfl, rfl, by decide +kernel, rfl, by decide +kernel, by decide +kernel⟩
theorem ok_are_values {f : Addr} {fd : FuncData} (F : Fun K "are_values" "are_values" s_are_values f fd) (b : Binds K fd ["value", "count"] []) (g : mg "are_values" = some (.ref f)) (z_isinstance : mg "isinstance" = none) (z_len : mg "len" = none) (z_tuple : mg "tuple" = none) (c_is_fraction : OkD P w K mg base ca "is_fraction" ["value"] 2 m_is_fraction) :
    OkD P w K mg base ca "are_values" ["value", "count"] 3 m_are_values := by
  refine ⟨f, fd, g, F.kp, b, F.okX sc_are_values spD_len (fun cdv A outer s H vs Q E hr h => ?_)⟩
  exact ⟨_, (pss_one (ps_ret (pe_andT (pe_callB call_isi (by rfl) z_isinstance (by decide +kernel) (pa_cons (pv 0) (pa_cons (pe_bltn (v := .ty "tuple") (by rfl) z_tuple (by decide +kernel) rfl) pa_nil))) (pe_andT (pe_cmpR (op_eqD hr.units) (pe_callB call_lenA (by rfl) z_len (by decide +kernel) (pa_cons (pv 0) pa_nil)) (pv 1) (nomark _)) (pe_one (pe_notT (pe_lc (own := [("one", 2)]) (by rfl) sc_are_values.nd (pi_seqA (pv 0)) (blkOk_by (own := [("one", 2)]) (N := ["value", "count", "one"]) (sc := defScope s_are_values) (by decide +kernel)) (fun _ _ _ _ _ => by exact (pg_name (i := 2) sc_are_values.nd rfl (Or.inl rfl))) (fun _ _ _ _ _ => by exact (pts_one (pt_not (pt_truth (pe_callD (E := E0') c_is_fraction (hr.mono (by decide)) (by rfl) passN (pa_cons (pv 2) pa_nil)) (by intro _; rfl))))) (fun _ _ _ _ _ => by exact (pv 2))))))))),
   run_def (K := K) (ca := ca) (E := E) (p := 2) (k := 1) (g := g_are_values) rfl (cs_ret (ce_and (ce_isi ce_var) (ce_and (ce_op od_eq (ce_cb bd_len (ca_cons ce_var ca_nil)) ce_var) (ce_not (ce_lc (ci_seq ce_var) tg_name (by decide) (ct_not (ct_truth (ce_call (ca_cons ce_var ca_nil)))) ce_var))))) h⟩
abbrev s_check_trials : Stmt := topS 37
theorem sc_check_trials : FnScope ["trials"] ["trials"] (defScope s_check_trials) := ⟨rfl, rfl, rfl, by decide +kernel, rfl, by decide +kernel, by decide +kernel⟩
theorem ok_check_trials {f : Addr} {fd : FuncData} (F : Fun K "check_trials" "check_trials" s_check_trials f fd) (b : Binds K fd ["trials"] []) (g : mg "check_trials" = some (.ref f)) {t_MAX_TRIALS : Tok} (k_MAX_TRIALS : mg "MAX_TRIALS" = some (.int 6 t_MAX_TRIALS)) (x_InvalidTrials : ExF K mg ca "InvalidTrials") (c_in_range : OkD P w K mg base ca "in_range" ["value", "low", "high"] 1 m_in_range) :
    OkD P w K mg base ca "check_trials" ["trials"] 2 m_check_trials := by
  refine ⟨f, fd, g, F.kp, b, F.okX sc_check_trials spD_len (fun cdv A outer s H vs Q E hr h => ?_)⟩
  exact ⟨_, (pss_one (ps_if (pt_not (pt_truth (pe_callD (E := fun _ => E) c_in_range (hr.mono (by decide)) (by rfl) (fun σ => passAt (takes_of rfl rfl rfl rfl) σ) (pa_cons (pv 0) (pa_cons pe_int (pa_cons (pe_glob (v := .int 6) (by rfl) k_MAX_TRIALS ⟨_, rfl⟩) pa_nil)))) (by intro _; rfl))) (pss_one (ps_raise rfl (takes_of rfl rfl rfl rfl) (pmk_own PySem.F.excBase_ValueError x_InvalidTrials.x x_InvalidTrials.g x_InvalidTrials.k (raises_own x_InvalidTrials.b x_InvalidTrials.t) (by rfl)))) pss_nil)),
   run_def (K := K) (ca := ca) (E := E) (p := 1) (k := 0) (g := g_check_trials) rfl (cs_if (ct_not (ct_truth (ce_call (ca_cons ce_var (ca_cons ce_int (ca_cons ce_int ca_nil)))))) (cs_raise (c := "InvalidTrials") rfl) cs_nil) h⟩
abbrev s_check_estimate : Stmt := topS 41
theorem sc_check_estimate : FnScope ["trials", "estimate"] ["trials", "estimate"] (defScope s_check_estimate) := ⟨rfl, rfl, rfl, by decide +kernel, rfl, by decide +kernel, by decide +kernel⟩
theorem ok_check_estimate {f : Addr} {fd : FuncData} (F : Fun K "check_estimate" "check_estimate" s_check_estimate f fd) (b : Binds K fd ["trials", "estimate"] []) (g : mg "check_estimate" = some (.ref f)) (x_InvalidEstimate : ExF K mg ca "InvalidEstimate") (c_are_values : OkD P w K mg base ca "are_values" ["value", "count"] 3 m_are_values) (c_check_trials : OkD P w K mg base ca "check_trials" ["trials"] 2 m_check_trials) :
    OkD P w K mg base ca "check_estimate" ["trials", "estimate"] 4 m_check_estimate := by
  refine ⟨f, fd, g, F.kp, b, F.okX sc_check_estimate spD_len (fun cdv A outer s H vs Q E hr h => ?_)⟩
  exact ⟨_, (pss_cons (ps_expr (pe_callD (E := fun _ => E) c_check_trials (hr.mono (by decide)) (by rfl) (fun σ => passAt (takes_of rfl rfl rfl rfl) σ) (pa_cons (pv 0) pa_nil)))
  (pss_one (ps_if (pt_not (pt_truth (pe_callD (E := fun _ => E) c_are_values (hr.mono (by decide)) (by rfl) (fun σ => passAt (takes_of rfl rfl rfl rfl) σ) (pa_cons (pv 1) (pa_cons (pe_op op_addA (pv 0) pe_int) pa_nil))) (by intro _; rfl))) (pss_one (ps_raise rfl (takes_of rfl rfl rfl rfl) (pmk_own PySem.F.excBase_ValueError x_InvalidEstimate.x x_InvalidEstimate.g x_InvalidEstimate.k (raises_own x_InvalidEstimate.b x_InvalidEstimate.t) (by rfl)))) pss_nil))),
   run_def (K := K) (ca := ca) (E := E) (p := 2) (k := 0) (g := g_check_estimate) rfl (cs_seq (cs_exp (ce_call (ca_cons ce_var ca_nil)))
  (cs_if (ct_not (ct_truth (ce_call (ca_cons ce_var (ca_cons (ce_op od_add ce_var ce_int) ca_nil))))) (cs_raise (c := "InvalidEstimate") rfl) cs_nil)) h⟩
abbrev s_average : Stmt := topS 44
theorem sc_average : FnScope ["trials", "estimate"] ["trials", "estimate"] (defScope s_average) := ⟨rfl, rfl, rfl, by decide +kernel, rfl, by decide +kernel, by decide +kernel⟩
theorem ok_average {f : Addr} {fd : FuncData} (F : Fun K "average" "average" s_average f fd) (b : Binds K fd ["trials", "estimate"] []) (g : mg "average" = some (.ref f)) (c_average_of : OkD P w K mg base ca "average_of" ["trials", "estimate"] 7 m_average_of) (c_check_estimate : OkD P w K mg base ca "check_estimate" ["trials", "estimate"] 4 m_check_estimate) :
    OkD P w K mg base ca "average" ["trials", "estimate"] 8 m_average := by
  refine ⟨f, fd, g, F.kp, b, F.okX sc_average spD_len (fun cdv A outer s H vs Q E hr h => ?_)⟩
  exact ⟨_, (pss_cons (ps_expr (pe_callD (E := fun _ => E) c_check_estimate (hr.mono (by decide)) (by rfl) (fun σ => passAt (takes_of rfl rfl rfl rfl) σ) (pa_cons (pv 0) (pa_cons (pv 1) pa_nil))))
  (pss_one (ps_ret (pe_callD (E := fun _ => E) c_average_of (hr.mono (by decide)) (by rfl) (fun σ => passAt (takes_of rfl rfl rfl rfl) σ) (pa_cons (pv 0) (pa_cons (pv 1) pa_nil)))))),
   run_def (K := K) (ca := ca) (E := E) (p := 2) (k := 0) (g := g_average) rfl (cs_seq (cs_exp (ce_call (ca_cons ce_var (ca_cons ce_var ca_nil))))
  (cs_ret (ce_call (ca_cons ce_var (ca_cons ce_var ca_nil))))) h⟩
abbrev s_is_chance : Stmt := topS 50
theorem sc_is_chance : FnScope ["value"] ["value"] (defScope s_is_chance) := ⟨rfl, rfl, rfl, by decide +kernel, rfl, by decide +kernel, by decide +kernel⟩
theorem ok_is_chance {f : Addr} {fd : FuncData} (F : Fun K "is_chance" "is_chance" s_is_chance f fd) (b : Binds K fd ["value"] []) (g : mg "is_chance" = some (.ref f)) (c_is_fraction : OkD P w K mg base ca "is_fraction" ["value"] 2 m_is_fraction) :
    OkD P w K mg base ca "is_chance" ["value"] 3 m_is_chance := by
  refine ⟨f, fd, g, F.kp, b, F.okX sc_is_chance spD_len (fun cdv A outer s H vs Q E hr h => ?_)⟩
  exact ⟨_, (pss_one (ps_ret (pe_andT (pe_callD (E := fun _ => E) c_is_fraction (hr.mono (by decide)) (by rfl) (fun σ => passAt (takes_of rfl rfl rfl rfl) σ) (pa_cons (pv 0) pa_nil)) (pe_one (pe_chain op_le op_le pe_int (pe_ix ix_A (pv 0) pe_int (fun _ _ => rfl)) (pe_ix ix_A (pv 0) pe_int (fun _ _ => rfl))))))),
   run_def (K := K) (ca := ca) (E := E) (p := 1) (k := 0) (g := g_is_chance) rfl (cs_ret (ce_and (ce_call (ca_cons ce_var ca_nil)) (ce_chain od_cmp od_cmp ce_int (ce_op od_ix ce_var ce_int) (ce_op od_ix ce_var ce_int)))) h⟩
abbrev s_check_chance : Stmt := topS 52
theorem sc_check_chance : FnScope ["chance"] ["chance"] (defScope s_check_chance) := ⟨rfl, rfl, rfl, by decide +kernel, rfl, by decide +kernel, by decide +kernel⟩
theorem ok_check_chance {f : Addr} {fd : FuncData} (F : Fun K "check_chance" "check_chance" s_check_chance f fd) (b : Binds K fd ["chance"] []) (g : mg "check_chance" = some (.ref f)) (x_InvalidNumber : ExF K mg ca "InvalidNumber") (c_is_chance : OkD P w K mg base ca "is_chance" ["value"] 3 m_is_chance) :
    OkD P w K mg base ca "check_chance" ["chance"] 4 m_check_chance := by
  refine ⟨f, fd, g, F.kp, b, F.okX sc_check_chance spD_len (fun cdv A outer s H vs Q E hr h => ?_)⟩
  exact ⟨_, (pss_one (ps_if (pt_not (pt_truth (pe_callD (E := fun _ => E) c_is_chance (hr.mono (by decide)) (by rfl) (fun σ => passAt (takes_of rfl rfl rfl rfl) σ) (pa_cons (pv 0) pa_nil)) (by intro _; rfl))) (pss_one (ps_raise rfl (takes_of rfl rfl rfl rfl) (pmk_own PySem.F.excBase_ValueError x_InvalidNumber.x x_InvalidNumber.g x_InvalidNumber.k (raises_own x_InvalidNumber.b x_InvalidNumber.t) (by rfl)))) pss_nil)),
   run_def (K := K) (ca := ca) (E := E) (p := 1) (k := 0) (g := g_check_chance) rfl (cs_if (ct_not (ct_truth (ce_call (ca_cons ce_var ca_nil)))) (cs_raise (c := "InvalidNumber") rfl) cs_nil) h⟩
abbrev s_value_at : Stmt := topS 30
theorem sc_value_at : FnScope ["row", "point", "result", "entry"] ["row", "point"] (defScope s_value_at) := ⟨rfl, rfl, rfl, by decide +kernel, rfl, by decide +kernel, by decide +kernel⟩
theorem ok_value_at {f : Addr} {fd : FuncData} (F : Fun K "value_at" "value_at" s_value_at f fd) (b : Binds K fd ["row", "point"] []) (g : mg "value_at" = some (.ref f)) (c_plus : OkD P w K mg base ca "plus" ["one", "other"] 3 m_plus) (c_times : OkD P w K mg base ca "times" ["one", "other"] 3 m_times) :
    OkD P w K mg base ca "value_at" ["row", "point"] 4 m_value_at := by
  refine ⟨f, fd, g, F.kp, b, F.okX sc_value_at spD_len (fun cdv A outer s H vs Q E hr h => ?_)⟩
  exact ⟨_, (pss_cons (ps_set (i := 2) sc_value_at.nd rfl (Or.inl rfl) (pe_tup (pa_cons pe_int (pa_cons pe_int pa_nil))))
  (pss_cons (ps_for (passes_of rfl) rfl (pi_seqA (pe_revA (pv 0))) (pg_name (i := 3) sc_value_at.nd rfl (Or.inl rfl)) (pss_one (ps_set (i := 2) sc_value_at.nd rfl (Or.inl rfl) (pe_callD (E := fun _ => E) c_plus (hr.mono (by decide)) (by rfl) (fun σ => passAt (takes_of rfl rfl rfl rfl) σ) (pa_cons (pe_callD (E := fun _ => E) c_times (hr.mono (by decide)) (by rfl) (fun σ => passAt (takes_of rfl rfl rfl rfl) σ) (pa_cons (pv 2) (pa_cons (pv 1) pa_nil))) (pa_cons (pv 3) pa_nil))))))
  (pss_one (ps_ret (pv 2))))),
   run_def (K := K) (ca := ca) (E := E) (p := 2) (k := 2) (g := g_value_at) rfl (cs_seq (cs_asg (i := 2) (ce_tup (ca_cons ce_int (ca_cons ce_int ca_nil))))
  (cs_seq (cs_for (ci_seq (ce_rev ce_var)) (tgs_name (i := 3)) (cs_asg (i := 2) (ce_call (ca_cons (ce_call (ca_cons ce_var (ca_cons ce_var ca_nil))) (ca_cons ce_var ca_nil)))))
  (cs_ret ce_var))) h⟩
abbrev s_average_at : Stmt := topS 53
theorem sc_average_at : FnScope ["trials", "estimate", "chance"] ["trials", "estimate", "chance"] (defScope s_average_at) := ⟨rfl, rfl, rfl, by decide +kernel, rfl, by decide +kernel, by decide +kernel⟩
theorem ok_average_at {f : Addr} {fd : FuncData} (F : Fun K "average_at" "average_at" s_average_at f fd) (b : Binds K fd ["trials", "estimate", "chance"] []) (g : mg "average_at" = some (.ref f)) (c_average_of : OkD P w K mg base ca "average_of" ["trials", "estimate"] 7 m_average_of) (c_check_chance : OkD P w K mg base ca "check_chance" ["chance"] 4 m_check_chance) (c_check_estimate : OkD P w K mg base ca "check_estimate" ["trials", "estimate"] 4 m_check_estimate) (c_value_at : OkD P w K mg base ca "value_at" ["row", "point"] 4 m_value_at) :
    OkD P w K mg base ca "average_at" ["trials", "estimate", "chance"] 8 m_average_at := by
  refine ⟨f, fd, g, F.kp, b, F.okX sc_average_at spD_len (fun cdv A outer s H vs Q E hr h => ?_)⟩
  exact ⟨_, (pss_cons (ps_expr (pe_callD (E := fun _ => E) c_check_estimate (hr.mono (by decide)) (by rfl) (fun σ => passAt (takes_of rfl rfl rfl rfl) σ) (pa_cons (pv 0) (pa_cons (pv 1) pa_nil))))
  (pss_cons (ps_expr (pe_callD (E := fun _ => E) c_check_chance (hr.mono (by decide)) (by rfl) (fun σ => passAt (takes_of rfl rfl rfl rfl) σ) (pa_cons (pv 2) pa_nil)))
  (pss_one (ps_ret (pe_callD (E := fun _ => E) c_value_at (hr.mono (by decide)) (by rfl) (fun σ => passAt (takes_of rfl rfl rfl rfl) σ) (pa_cons (pe_callD (E := fun _ => E) c_average_of (hr.mono (by decide)) (by rfl) (fun σ => passAt (takes_of rfl rfl rfl rfl) σ) (pa_cons (pv 0) (pa_cons (pv 1) pa_nil))) (pa_cons (pv 2) pa_nil))))))),
   run_def (K := K) (ca := ca) (E := E) (p := 3) (k := 0) (g := g_average_at) rfl (cs_seq (cs_exp (ce_call (ca_cons ce_var (ca_cons ce_var ca_nil))))
  (cs_seq (cs_exp (ce_call (ca_cons ce_var ca_nil)))
  (cs_ret (ce_call (ca_cons (ce_call (ca_cons ce_var (ca_cons ce_var ca_nil))) (ca_cons ce_var ca_nil)))))) h⟩
abbrev s_polynomial_of : Stmt := topS 42
theorem sc_polynomial_of : FnScope ["quantity", "one"] ["quantity"] (defScope s_polynomial_of) := ⟨rfl, rfl, rfl, by decide +kernel, rfl, by decide +kernel, by decide +kernel⟩
theorem ok_polynomial_of {f : Addr} {fd : FuncData} (F : Fun K "polynomial_of" "polynomial_of" s_polynomial_of f fd) (b : Binds K fd ["quantity"] []) (g : mg "polynomial_of" = some (.ref f)) (z_tuple : mg "tuple" = none) :
    OkD P w K mg base ca "polynomial_of" ["quantity"] 1 m_polynomial_of := by
  refine ⟨f, fd, g, F.kp, b, F.okX sc_polynomial_of spD_len (fun cdv A outer s H vs Q E hr h => ?_)⟩
  exact ⟨_, (pss_one (ps_ret (pe_callTy call_tuple_of (by rfl) z_tuple (by decide +kernel) (pa_cons (pe_lc (own := [("one", 1)]) (by rfl) sc_polynomial_of.nd (pi_seqA (pv 0)) (blkOk_by (own := [("one", 1)]) (N := ["quantity", "one"]) (sc := defScope s_polynomial_of) (by decide +kernel)) (fun _ _ _ _ _ => by exact (pg_name (i := 1) sc_polynomial_of.nd rfl (Or.inl rfl))) (fun _ _ _ _ _ => by exact pts_nil) (fun _ _ _ _ _ => by exact (pe_tup (pa_cons (pv 1) (pa_cons pe_int pa_nil))))) pa_nil)))),
   run_def (K := K) (ca := ca) (E := E) (p := 1) (k := 1) (g := g_polynomial_of) rfl (cs_ret (ce_cb bd_tup (ca_cons (ce_lc (ci_seq ce_var) tg_name (by decide) ct_yes (ce_tup (ca_cons ce_var (ca_cons ce_int ca_nil)))) ca_nil))) h⟩
abbrev s_failing_chance : Stmt := topS 51
theorem sc_failing_chance : FnScope ["trials", "quantity", "estimate", "row", "count"] ["trials", "quantity", "estimate"] (defScope s_failing_chance) := ⟨rfl, rfl, rfl, by decide +kernel, rfl, by decide +kernel, by decide +kernel⟩
theorem ok_failing_chance {f : Addr} {fd : FuncData} (F : Fun K "failing_chance" "failing_chance" s_failing_chance f fd) (b : Binds K fd ["trials", "quantity", "estimate"] []) (g : mg "failing_chance" = some (.ref f)) (x_InvalidEstimate : ExF K mg ca "InvalidEstimate") (x_IsHonest : ExF K mg ca "IsHonest") (c_are_values : OkD P w K mg base ca "are_values" ["value", "count"] 3 m_are_values) (c_average_of : OkD P w K mg base ca "average_of" ["trials", "estimate"] 7 m_average_of) (c_check_quantity : OkD P w K mg base ca "check_quantity" ["quantity"] 3 m_check_quantity) (c_check_trials : OkD P w K mg base ca "check_trials" ["trials"] 2 m_check_trials) (c_multiple_of : OkD P w K mg base ca "multiple_of" ["factor", "row"] 4 m_multiple_of) (c_polynomial_of : OkD P w K mg base ca "polynomial_of" ["quantity"] 1 m_polynomial_of) (c_reduced : OkD P w K mg base ca "reduced" ["above", "below"] 2 m_reduced) (c_sum_of : OkD P w K mg base ca "sum_of" ["one", "other"] 4 m_sum_of) (c_value_at : OkD P w K mg base ca "value_at" ["row", "point"] 4 m_value_at) :
    OkD P w K mg base ca "failing_chance" ["trials", "quantity", "estimate"] 8 m_failing_chance := by
  refine ⟨f, fd, g, F.kp, b, F.okX sc_failing_chance spD_len (fun cdv A outer s H vs Q E hr h => ?_)⟩
  exact ⟨_, (pss_cons (ps_expr (pe_callD (E := fun _ => E) c_check_trials (hr.mono (by decide)) (by rfl) (fun σ => passAt (takes_of rfl rfl rfl rfl) σ) (pa_cons (pv 0) pa_nil)))
  (pss_cons (ps_expr (pe_callD (E := fun _ => E) c_check_quantity (hr.mono (by decide)) (by rfl) (fun σ => passAt (takes_of rfl rfl rfl rfl) σ) (pa_cons (pv 1) pa_nil)))
  (pss_cons (ps_if (pt_not (pt_truth (pe_callD (E := fun _ => E) c_are_values (hr.mono (by decide)) (by rfl) (fun σ => passAt (takes_of rfl rfl rfl rfl) σ) (pa_cons (pv 2) (pa_cons (pe_op op_addA (pv 0) pe_int) pa_nil))) (by intro _; rfl))) (pss_one (ps_raise rfl (takes_of rfl rfl rfl rfl) (pmk_own PySem.F.excBase_ValueError x_InvalidEstimate.x x_InvalidEstimate.g x_InvalidEstimate.k (raises_own x_InvalidEstimate.b x_InvalidEstimate.t) (by rfl)))) pss_nil)
  (pss_cons (ps_set (i := 3) sc_failing_chance.nd rfl (Or.inl rfl) (pe_callD (E := fun _ => E) c_sum_of (hr.mono (by decide)) (by rfl) (fun σ => passAt (takes_of rfl rfl rfl rfl) σ) (pa_cons (pe_callD (E := fun _ => E) c_average_of (hr.mono (by decide)) (by rfl) (fun σ => passAt (takes_of rfl rfl rfl rfl) σ) (pa_cons (pv 0) (pa_cons (pv 2) pa_nil))) (pa_cons (pe_callD (E := fun _ => E) c_multiple_of (hr.mono (by decide)) (by rfl) (fun σ => passAt (takes_of rfl rfl rfl rfl) σ) (pa_cons (pe_tup (pa_cons (pe_un un_neg pe_int) (pa_cons pe_int pa_nil))) (pa_cons (pe_callD (E := fun _ => E) c_polynomial_of (hr.mono (by decide)) (by rfl) (fun σ => passAt (takes_of rfl rfl rfl rfl) σ) (pa_cons (pv 1) pa_nil)) pa_nil))) pa_nil))))
  (pss_cons (ps_if (pt_cmpR (op_eqD hr.units) (pv 3) (pe_tup pa_nil) (nomark _)) (pss_one (ps_raise rfl (takes_of rfl rfl rfl rfl) (pmk_own PySem.F.excBase_ValueError x_IsHonest.x x_IsHonest.g x_IsHonest.k (raises_own x_IsHonest.b x_IsHonest.t) (by rfl)))) pss_nil)
  (pss_cons (ps_set (i := 4) sc_failing_chance.nd rfl (Or.inl rfl) pe_int)
  (pss_cons (ps_while (passes_of rfl) (pt_cmpR (op_eqD hr.units) (pe_ix ix_A (pe_callD (E := fun _ => E) c_value_at (hr.mono (by decide)) (by rfl) (fun σ => passAt (takes_of rfl rfl rfl rfl) σ) (pa_cons (pv 3) (pa_cons (pe_callD (E := fun _ => E) c_reduced (hr.mono (by decide)) (by rfl) (fun σ => passAt (takes_of rfl rfl rfl rfl) σ) (pa_cons (pv 4) (pa_cons pe_int pa_nil))) pa_nil))) pe_int (fun _ _ => rfl)) pe_int (nomark _)) (pss_one (ps_aug (i := 4) sc_failing_chance.nd rfl (Or.inl rfl) pe_int iop_add)))
  (pss_one (ps_ret (pe_callD (E := fun _ => E) c_reduced (hr.mono (by decide)) (by rfl) (fun σ => passAt (takes_of rfl rfl rfl rfl) σ) (pa_cons (pv 4) (pa_cons pe_int pa_nil)))))))))))),
   run_def (K := K) (ca := ca) (E := E) (p := 3) (k := 2) (g := g_failing_chance) rfl (cs_seq (cs_exp (ce_call (ca_cons ce_var ca_nil)))
  (cs_seq (cs_exp (ce_call (ca_cons ce_var ca_nil)))
  (cs_seq (cs_if (ct_not (ct_truth (ce_call (ca_cons ce_var (ca_cons (ce_op od_add ce_var ce_int) ca_nil))))) (cs_raise (c := "InvalidEstimate") rfl) cs_nil)
  (cs_seq (cs_asg (i := 3) (ce_call (ca_cons (ce_call (ca_cons ce_var (ca_cons ce_var ca_nil))) (ca_cons (ce_call (ca_cons (ce_tup (ca_cons (ce_un ud_neg ce_int) (ca_cons ce_int ca_nil))) (ca_cons (ce_call (ca_cons ce_var ca_nil)) ca_nil))) ca_nil))))
  (cs_seq (cs_if (ct_test (ce_op od_eq ce_var (ce_tup ca_nil))) (cs_raise (c := "IsHonest") rfl) cs_nil)
  (cs_seq (cs_asg (i := 4) ce_int)
  (cs_seq (cs_while 1200 (ct_test (ce_op od_eq (ce_op od_ix (ce_call (ca_cons ce_var (ca_cons (ce_call (ca_cons ce_var (ca_cons ce_int ca_nil))) ca_nil))) ce_int) ce_int)) (cs_aug (i := 4) ce_int od_addI))
  (cs_ret (ce_call (ca_cons ce_var (ca_cons ce_int ca_nil))))))))))) h⟩
abbrev s_check_points : Stmt := topS 63
theorem sc_check_points : FnScope ["trials", "points", "point", "one", "other"] ["trials", "points"] (defScope s_check_points) := ⟨rfl, rfl, rfl, by decide +kernel, rfl, by decide +kernel, by decide +kernel⟩
theorem ok_check_points {f : Addr} {fd : FuncData} (F : Fun K "check_points" "check_points" s_check_points f fd) (b : Binds K fd ["trials", "points"] []) (g : mg "check_points" = some (.ref f)) (z_isinstance : mg "isinstance" = none) (z_len : mg "len" = none) (z_tuple : mg "tuple" = none) (z_zip : mg "zip" = none) (x_InvalidPoints : ExF K mg ca "InvalidPoints") (c_check_trials : OkD P w K mg base ca "check_trials" ["trials"] 2 m_check_trials) (c_is_chance : OkD P w K mg base ca "is_chance" ["value"] 3 m_is_chance) (c_is_fraction : OkD P w K mg base ca "is_fraction" ["value"] 2 m_is_fraction) :
    OkD P w K mg base ca "check_points" ["trials", "points"] 4 m_check_points := by
  refine ⟨f, fd, g, F.kp, b, F.okX sc_check_points spD_len (fun cdv A outer s H vs Q E hr h => ?_)⟩
  exact ⟨_, (pss_cons (ps_expr (pe_callD (E := fun _ => E) c_check_trials (hr.mono (by decide)) (by rfl) (fun σ => passAt (takes_of rfl rfl rfl rfl) σ) (pa_cons (pv 0) pa_nil)))
  (pss_cons (ps_if (PW.pt (pw_or (pt_not (pt_truth (pe_callB call_isi (by rfl) z_isinstance (by decide +kernel) (pa_cons (pv 1) (pa_cons (pe_bltn (v := .ty "tuple") (by rfl) z_tuple (by decide +kernel) rfl) pa_nil))) (by intro _; rfl))) (pw_or1 (pt_cmpR (op_neD hr.units) (pe_callB call_lenA (by rfl) z_len (by decide +kernel) (pa_cons (pv 1) pa_nil)) (pe_op op_addA (pv 0) pe_int) (nomark _))))) (pss_one (ps_raise rfl (takes_of rfl rfl rfl rfl) (pmk_own PySem.F.excBase_ValueError x_InvalidPoints.x x_InvalidPoints.g x_InvalidPoints.k (raises_own x_InvalidPoints.b x_InvalidPoints.t) (by rfl)))) pss_nil)
  (pss_cons (ps_for (passes_of rfl) rfl (pi_seqA (pv 1)) (pg_name (i := 2) sc_check_points.nd rfl (Or.inl rfl)) (pss_one (ps_if (PW.pt (pw_or (pt_not (pt_truth (pe_callB call_isi (by rfl) z_isinstance (by decide +kernel) (pa_cons (pv 2) (pa_cons (pe_bltn (v := .ty "tuple") (by rfl) z_tuple (by decide +kernel) rfl) pa_nil))) (by intro _; rfl))) (pw_or (pt_cmpR (op_neD hr.units) (pe_callB call_lenA (by rfl) z_len (by decide +kernel) (pa_cons (pv 2) pa_nil)) pe_int (nomark _)) (pw_or (pt_not (pt_truth (pe_callD (E := fun _ => E) c_is_chance (hr.mono (by decide)) (by rfl) (fun σ => passAt (takes_of rfl rfl rfl rfl) σ) (pa_cons (pe_ix ix_A (pv 2) pe_int (fun _ _ => rfl)) pa_nil)) (by intro _; rfl))) (pw_or1 (pt_not (pt_truth (pe_callD (E := fun _ => E) c_is_fraction (hr.mono (by decide)) (by rfl) (fun σ => passAt (takes_of rfl rfl rfl rfl) σ) (pa_cons (pe_ix ix_A (pv 2) pe_int (fun _ _ => rfl)) pa_nil)) (by intro _; rfl)))))))) (pss_one (ps_raise rfl (takes_of rfl rfl rfl rfl) (pmk_own PySem.F.excBase_ValueError x_InvalidPoints.x x_InvalidPoints.g x_InvalidPoints.k (raises_own x_InvalidPoints.b x_InvalidPoints.t) (by rfl)))) pss_nil)))
  (pss_one (ps_for (passes_of rfl) rfl (RZ.pi_zipA (by rfl) z_zip (pa_cons (pv 1) (pa_cons (pe_slice sl_W (pv 1) (po_some pe_int) po_none) pa_nil))) (pg_tup rfl (pgs_cons (pg_name (i := 3) sc_check_points.nd rfl (Or.inl rfl)) (pgs_cons (pg_name (i := 4) sc_check_points.nd rfl (Or.inl rfl)) pgs_nil))) (pss_one (ps_if (pt_cmpR op_ge (pe_op op_mulA (pe_ix ix_A (pe_ix ix_A (pv 3) pe_int (fun _ _ => rfl)) pe_int (fun _ _ => rfl)) (pe_ix ix_A (pe_ix ix_A (pv 4) pe_int (fun _ _ => rfl)) pe_int (fun _ _ => rfl))) (pe_op op_mulA (pe_ix ix_A (pe_ix ix_A (pv 4) pe_int (fun _ _ => rfl)) pe_int (fun _ _ => rfl)) (pe_ix ix_A (pe_ix ix_A (pv 3) pe_int (fun _ _ => rfl)) pe_int (fun _ _ => rfl))) (nomark _)) (pss_one (ps_raise rfl (takes_of rfl rfl rfl rfl) (pmk_own PySem.F.excBase_ValueError x_InvalidPoints.x x_InvalidPoints.g x_InvalidPoints.k (raises_own x_InvalidPoints.b x_InvalidPoints.t) (by rfl)))) pss_nil))))))),
   run_def (K := K) (ca := ca) (E := E) (p := 2) (k := 3) (g := g_check_points) rfl (cs_seq (cs_exp (ce_call (ca_cons ce_var ca_nil)))
  (cs_seq (cs_if (ct_or (ct_not (ct_truth (ce_isi ce_var))) (ct_test (ce_op od_ne (ce_cb bd_len (ca_cons ce_var ca_nil)) (ce_op od_add ce_var ce_int)))) (cs_raise (c := "InvalidPoints") rfl) cs_nil)
  (cs_seq (cs_for (ci_seq ce_var) (tgs_name (i := 2)) (cs_if (ct_or (ct_not (ct_truth (ce_isi ce_var))) (ct_or (ct_test (ce_op od_ne (ce_cb bd_len (ca_cons ce_var ca_nil)) ce_int)) (ct_or (ct_not (ct_truth (ce_call (ca_cons (ce_op od_ix ce_var ce_int) ca_nil)))) (ct_not (ct_truth (ce_call (ca_cons (ce_op od_ix ce_var ce_int) ca_nil))))))) (cs_raise (c := "InvalidPoints") rfl) cs_nil))
  (cs_for (ci_zip (ca_cons ce_var (ca_cons (ce_slice ce_var (co_some ce_int) co_none) ca_nil))) (tgs_pair (i := 3) (j := 4)) (cs_if (ct_test (ce_op od_cmp (ce_op od_mul (ce_op od_ix (ce_op od_ix ce_var ce_int) ce_int) (ce_op od_ix (ce_op od_ix ce_var ce_int) ce_int)) (ce_op od_mul (ce_op od_ix (ce_op od_ix ce_var ce_int) ce_int) (ce_op od_ix (ce_op od_ix ce_var ce_int) ce_int)))) (cs_raise (c := "InvalidPoints") rfl) cs_nil))))) h⟩
abbrev s_divided : Stmt := topS 23
theorem sc_divided : FnScope ["one", "other"] ["one", "other"] (defScope s_divided) := ⟨rfl, rfl, rfl, by decide +kernel, rfl, by decide +kernel, by decide +kernel⟩
theorem ok_divided {f : Addr} {fd : FuncData} (F : Fun K "divided" "divided" s_divided f fd) (b : Binds K fd ["one", "other"] []) (g : mg "divided" = some (.ref f)) (c_reduced : OkD P w K mg base ca "reduced" ["above", "below"] 2 m_reduced) :
    OkD P w K mg base ca "divided" ["one", "other"] 3 m_divided := by
  refine ⟨f, fd, g, F.kp, b, F.okX sc_divided spD_len (fun cdv A outer s H vs Q E hr h => ?_)⟩
  exact ⟨_, (pss_cons (ps_if (pt_cmpR op_lt (pe_ix ix_A (pv 1) pe_int (fun _ _ => rfl)) pe_int (nomark _)) (pss_one (ps_ret (pe_callD (E := fun _ => E) c_reduced (hr.mono (by decide)) (by rfl) (fun σ => passAt (takes_of rfl rfl rfl rfl) σ) (pa_cons (pe_op op_mulA (pe_un un_neg (pe_ix ix_A (pv 0) pe_int (fun _ _ => rfl))) (pe_ix ix_A (pv 1) pe_int (fun _ _ => rfl))) (pa_cons (pe_op op_mulA (pe_un un_neg (pe_ix ix_A (pv 0) pe_int (fun _ _ => rfl))) (pe_ix ix_A (pv 1) pe_int (fun _ _ => rfl))) pa_nil))))) pss_nil)
  (pss_one (ps_ret (pe_callD (E := fun _ => E) c_reduced (hr.mono (by decide)) (by rfl) (fun σ => passAt (takes_of rfl rfl rfl rfl) σ) (pa_cons (pe_op op_mulA (pe_ix ix_A (pv 0) pe_int (fun _ _ => rfl)) (pe_ix ix_A (pv 1) pe_int (fun _ _ => rfl))) (pa_cons (pe_op op_mulA (pe_ix ix_A (pv 0) pe_int (fun _ _ => rfl)) (pe_ix ix_A (pv 1) pe_int (fun _ _ => rfl))) pa_nil)))))),
   run_def (K := K) (ca := ca) (E := E) (p := 2) (k := 0) (g := g_divided) rfl (cs_seq (cs_if (ct_test (ce_op od_cmp (ce_op od_ix ce_var ce_int) ce_int)) (cs_ret (ce_call (ca_cons (ce_op od_mul (ce_un ud_neg (ce_op od_ix ce_var ce_int)) (ce_op od_ix ce_var ce_int)) (ca_cons (ce_op od_mul (ce_un ud_neg (ce_op od_ix ce_var ce_int)) (ce_op od_ix ce_var ce_int)) ca_nil)))) cs_nil)
  (cs_ret (ce_call (ca_cons (ce_op od_mul (ce_op od_ix ce_var ce_int) (ce_op od_ix ce_var ce_int)) (ca_cons (ce_op od_mul (ce_op od_ix ce_var ce_int) (ce_op od_ix ce_var ce_int)) ca_nil))))) h⟩
abbrev s_falling : Stmt := topS 45
theorem sc_falling : FnScope ["number", "steps", "result", "step"] ["number", "steps"] (defScope s_falling) := ⟨rfl, rfl, rfl, by decide +kernel, rfl, by decide +kernel, by decide +kernel⟩
theorem ok_falling {f : Addr} {fd : FuncData} (F : Fun K "falling" "falling" s_falling f fd) (b : Binds K fd ["number", "steps"] []) (g : mg "falling" = some (.ref f)) (z_range : mg "range" = none) :
    OkD P w K mg base ca "falling" ["number", "steps"] 1 m_falling := by
  refine ⟨f, fd, g, F.kp, b, F.okX sc_falling spD_len (fun cdv A outer s H vs Q E hr h => ?_)⟩
  exact ⟨_, (pss_cons (ps_set (i := 2) sc_falling.nd rfl (Or.inl rfl) pe_int)
  (pss_cons (ps_for (passes_of rfl) rfl (pi_range1 (by rfl) z_range (pa_cons (pv 1) pa_nil)) (pg_name (i := 3) sc_falling.nd rfl (Or.inl rfl)) (pss_one (ps_aug (i := 2) sc_falling.nd rfl (Or.inl rfl) (pe_op op_sub (pv 0) (pv 3)) iop_mulA)))
  (pss_one (ps_ret (pv 2))))),
   run_def (K := K) (ca := ca) (E := E) (p := 2) (k := 2) (g := g_falling) rfl (cs_seq (cs_asg (i := 2) ce_int)
  (cs_seq (cs_for (ci_rng1 (ca_cons ce_var ca_nil)) (tgs_name (i := 3)) (cs_aug (i := 2) (ce_op od_sub ce_var ce_var) od_mul))
  (cs_ret ce_var))) h⟩
abbrev s_total : Stmt := topS 24
theorem sc_total : FnScope ["some", "result", "one"] ["some"] (defScope s_total) := ⟨rfl, rfl, rfl, by decide +kernel, rfl, by decide +kernel, by decide +kernel⟩
theorem ok_total {f : Addr} {fd : FuncData} (F : Fun K "total" "total" s_total f fd) (b : Binds K fd ["some"] []) (g : mg "total" = some (.ref f)) (c_plus : OkD P w K mg base ca "plus" ["one", "other"] 3 m_plus) :
    OkD P w K mg base ca "total" ["some"] 4 m_total := by
  refine ⟨f, fd, g, F.kp, b, F.okX sc_total spD_len (fun cdv A outer s H vs Q E hr h => ?_)⟩
  exact ⟨_, (pss_cons (ps_set (i := 1) sc_total.nd rfl (Or.inl rfl) (pe_tup (pa_cons pe_int (pa_cons pe_int pa_nil))))
  (pss_cons (ps_for (passes_of rfl) rfl (pi_seqA (pv 0)) (pg_name (i := 2) sc_total.nd rfl (Or.inl rfl)) (pss_one (ps_set (i := 1) sc_total.nd rfl (Or.inl rfl) (pe_callD (E := fun _ => E) c_plus (hr.mono (by decide)) (by rfl) (fun σ => passAt (takes_of rfl rfl rfl rfl) σ) (pa_cons (pv 1) (pa_cons (pv 2) pa_nil))))))
  (pss_one (ps_ret (pv 1))))),
   run_def (K := K) (ca := ca) (E := E) (p := 1) (k := 2) (g := g_total) rfl (cs_seq (cs_asg (i := 1) (ce_tup (ca_cons ce_int (ca_cons ce_int ca_nil))))
  (cs_seq (cs_for (ci_seq ce_var) (tgs_name (i := 2)) (cs_asg (i := 1) (ce_call (ca_cons ce_var (ca_cons ce_var ca_nil)))))
  (cs_ret ce_var))) h⟩
abbrev s_honest_of : Stmt := topS 46
theorem sc_honest_of : FnScope ["trials", "row", "result", "successes", "parts", "exponent", "entry"] ["trials", "row"] (defScope s_honest_of) := ⟨rfl, rfl, rfl, by decide +kernel, rfl, by decide +kernel, by decide +kernel⟩
theorem ok_honest_of {f : Addr} {fd : FuncData} (F : Fun K "honest_of" "honest_of" s_honest_of f fd) (b : Binds K fd ["trials", "row"] []) (g : mg "honest_of" = some (.ref f)) (z_enumerate : mg "enumerate" = none) (z_range : mg "range" = none) (z_tuple : mg "tuple" = none) (c_falling : OkD P w K mg base ca "falling" ["number", "steps"] 1 m_falling) (c_reduced : OkD P w K mg base ca "reduced" ["above", "below"] 2 m_reduced) (c_times : OkD P w K mg base ca "times" ["one", "other"] 3 m_times) (c_total : OkD P w K mg base ca "total" ["some"] 4 m_total) :
    OkD P w K mg base ca "honest_of" ["trials", "row"] 5 m_honest_of := by
  refine ⟨f, fd, g, F.kp, b, F.okX sc_honest_of spD_len (fun cdv A outer s H vs Q E hr h => ?_)⟩
  exact ⟨_, (pss_cons (ps_set (i := 2) sc_honest_of.nd rfl (Or.inl rfl) (pe_lst pa_nil))
  (pss_cons (ps_for (passes_of rfl) rfl (pi_range1 (by rfl) z_range (pa_cons (pe_op op_addA (pv 0) pe_int) pa_nil)) (pg_name (i := 3) sc_honest_of.nd rfl (Or.inl rfl)) (pss_cons (ps_set (i := 4) sc_honest_of.nd rfl (Or.inl rfl) (pe_lst pa_nil))
  (pss_cons (ps_for (passes_of rfl) rfl (pi_enumA (by rfl) z_enumerate (pa_cons (pv 1) pa_nil)) (pg_tup rfl (pgs_cons (pg_name (i := 5) sc_honest_of.nd rfl (Or.inl rfl)) (pgs_cons (pg_name (i := 6) sc_honest_of.nd rfl (Or.inl rfl)) pgs_nil))) (pss_one (ps_expr (pe_bm PySem.F.plainAttrs_list PySem.F.slot_list_append PySem.F.type_list_append mt_append (pv 4) (pa_cons (pe_callD (E := fun _ => E) c_times (hr.mono (by decide)) (by rfl) (fun σ => passAt (takes_of rfl rfl rfl rfl) σ) (pa_cons (pv 6) (pa_cons (pe_callD (E := fun _ => E) c_reduced (hr.mono (by decide)) (by rfl) (fun σ => passAt (takes_of rfl rfl rfl rfl) σ) (pa_cons (pe_callD (E := fun _ => E) c_falling (hr.mono (by decide)) (by rfl) (fun σ => passAt (takes_of rfl rfl rfl rfl) σ) (pa_cons (pv 3) (pa_cons (pv 5) pa_nil))) (pa_cons (pe_callD (E := fun _ => E) c_falling (hr.mono (by decide)) (by rfl) (fun σ => passAt (takes_of rfl rfl rfl rfl) σ) (pa_cons (pv 0) (pa_cons (pv 5) pa_nil))) pa_nil))) pa_nil))) pa_nil)))))
  (pss_one (ps_expr (pe_bm PySem.F.plainAttrs_list PySem.F.slot_list_append PySem.F.type_list_append mt_append (pv 2) (pa_cons (pe_callD (E := fun _ => E) c_total (hr.mono (by decide)) (by rfl) (fun σ => passAt (takes_of rfl rfl rfl rfl) σ) (pa_cons (pv 4) pa_nil)) pa_nil)))))))
  (pss_one (ps_ret (pe_callTy call_tuple_of (by rfl) z_tuple (by decide +kernel) (pa_cons (pv 2) pa_nil)))))),
   run_def (K := K) (ca := ca) (E := E) (p := 2) (k := 5) (g := g_honest_of) rfl (cs_seq (cs_asgO (i := 2) (cf_lst ca_nil))
  (cs_seq (cs_for (ci_rng1 (ca_cons (ce_op od_add ce_var ce_int) ca_nil)) (tgs_name (i := 3)) (cs_seq (cs_asgO (i := 4) (cf_lst ca_nil))
  (cs_seq (cs_for (ci_enum (ca_cons ce_var ca_nil)) (tgs_pair (i := 5) (j := 6)) (cs_app (i := 4) (ce_call (ca_cons ce_var (ca_cons (ce_call (ca_cons (ce_call (ca_cons ce_var (ca_cons ce_var ca_nil))) (ca_cons (ce_call (ca_cons ce_var (ca_cons ce_var ca_nil))) ca_nil))) ca_nil)))))
  (cs_appR (i := 2) (ce_call (ca_cons ce_var ca_nil))))))
  (cs_ret (ce_cb bd_tup (ca_cons ce_var ca_nil))))) h⟩
abbrev s_minus : Stmt := topS 22
theorem sc_minus : FnScope ["one", "other"] ["one", "other"] (defScope s_minus) := ⟨rfl, rfl, rfl, by decide +kernel, rfl, by decide +kernel, by decide +kernel⟩
theorem ok_minus {f : Addr} {fd : FuncData} (F : Fun K "minus" "minus" s_minus f fd) (b : Binds K fd ["one", "other"] []) (g : mg "minus" = some (.ref f)) (c_plus : OkD P w K mg base ca "plus" ["one", "other"] 3 m_plus) :
    OkD P w K mg base ca "minus" ["one", "other"] 4 m_minus := by
  refine ⟨f, fd, g, F.kp, b, F.okX sc_minus spD_len (fun cdv A outer s H vs Q E hr h => ?_)⟩
  exact ⟨_, (pss_one (ps_ret (pe_callD (E := fun _ => E) c_plus (hr.mono (by decide)) (by rfl) (fun σ => passAt (takes_of rfl rfl rfl rfl) σ) (pa_cons (pv 0) (pa_cons (pe_tup (pa_cons (pe_un un_neg (pe_ix ix_A (pv 1) pe_int (fun _ _ => rfl))) (pa_cons (pe_ix ix_A (pv 1) pe_int (fun _ _ => rfl)) pa_nil))) pa_nil))))),
   run_def (K := K) (ca := ca) (E := E) (p := 2) (k := 0) (g := g_minus) rfl (cs_ret (ce_call (ca_cons ce_var (ca_cons (ce_tup (ca_cons (ce_un ud_neg (ce_op od_ix ce_var ce_int)) (ca_cons (ce_op od_ix ce_var ce_int) ca_nil))) ca_nil)))) h⟩
abbrev s_from_averages : Stmt := topS 64
theorem sc_from_averages : FnScope ["trials", "points", "row", "chance", "mean", "part", "other", "entry", "factor"] ["trials", "points"] (defScope s_from_averages) := ⟨rfl, rfl, rfl, by decide +kernel, rfl, by decide +kernel, by decide +kernel⟩
theorem ok_from_averages {f : Addr} {fd : FuncData} (F : Fun K "from_averages" "from_averages" s_from_averages f fd) (b : Binds K fd ["trials", "points"] []) (g : mg "from_averages" = some (.ref f)) (c_check_points : OkD P w K mg base ca "check_points" ["trials", "points"] 4 m_check_points) (c_divided : OkD P w K mg base ca "divided" ["one", "other"] 3 m_divided) (c_honest_of : OkD P w K mg base ca "honest_of" ["trials", "row"] 5 m_honest_of) (c_minus : OkD P w K mg base ca "minus" ["one", "other"] 4 m_minus) (c_multiple_of : OkD P w K mg base ca "multiple_of" ["factor", "row"] 4 m_multiple_of) (c_product_of : OkD P w K mg base ca "product_of" ["one", "other"] 4 m_product_of) (c_sum_of : OkD P w K mg base ca "sum_of" ["one", "other"] 4 m_sum_of) :
    OkD P w K mg base ca "from_averages" ["trials", "points"] 6 m_from_averages := by
  refine ⟨f, fd, g, F.kp, b, F.okX sc_from_averages spD_len (fun cdv A outer s H vs Q E hr h => ?_)⟩
  exact ⟨_, (pss_cons (ps_expr (pe_callD (E := fun _ => E) c_check_points (hr.mono (by decide)) (by rfl) (fun σ => passAt (takes_of rfl rfl rfl rfl) σ) (pa_cons (pv 0) (pa_cons (pv 1) pa_nil))))
  (pss_cons (ps_set (i := 2) sc_from_averages.nd rfl (Or.inl rfl) (pe_tup pa_nil))
  (pss_cons (ps_for (passes_of rfl) rfl (pi_seqA (pv 1)) (pg_tup rfl (pgs_cons (pg_name (i := 3) sc_from_averages.nd rfl (Or.inl rfl)) (pgs_cons (pg_name (i := 4) sc_from_averages.nd rfl (Or.inl rfl)) pgs_nil))) (pss_cons (ps_set (i := 5) sc_from_averages.nd rfl (Or.inl rfl) (pe_tup (pa_cons (pv 4) pa_nil)))
  (pss_cons (ps_for (passes_of rfl) rfl (pi_seqA (pv 1)) (pg_tup rfl (pgs_cons (pg_name (i := 6) sc_from_averages.nd rfl (Or.inl rfl)) (pgs_cons (pg_name (i := 7) sc_from_averages.nd rfl (Or.inl rfl)) pgs_nil))) (pss_one (ps_if (pt_cmpR (op_neD hr.units) (pv 6) (pv 3) (nomark _)) (pss_cons (ps_set (i := 8) sc_from_averages.nd rfl (Or.inl rfl) (pe_callD (E := fun _ => E) c_multiple_of (hr.mono (by decide)) (by rfl) (fun σ => passAt (takes_of rfl rfl rfl rfl) σ) (pa_cons (pe_callD (E := fun _ => E) c_divided (hr.mono (by decide)) (by rfl) (fun σ => passAt (takes_of rfl rfl rfl rfl) σ) (pa_cons (pe_tup (pa_cons pe_int (pa_cons pe_int pa_nil))) (pa_cons (pe_callD (E := fun _ => E) c_minus (hr.mono (by decide)) (by rfl) (fun σ => passAt (takes_of rfl rfl rfl rfl) σ) (pa_cons (pv 3) (pa_cons (pv 6) pa_nil))) pa_nil))) (pa_cons (pe_tup (pa_cons (pe_callD (E := fun _ => E) c_minus (hr.mono (by decide)) (by rfl) (fun σ => passAt (takes_of rfl rfl rfl rfl) σ) (pa_cons (pe_tup (pa_cons pe_int (pa_cons pe_int pa_nil))) (pa_cons (pv 6) pa_nil))) (pa_cons (pe_tup (pa_cons pe_int (pa_cons pe_int pa_nil))) pa_nil))) pa_nil))))
  (pss_one (ps_set (i := 5) sc_from_averages.nd rfl (Or.inl rfl) (pe_callD (E := fun _ => E) c_product_of (hr.mono (by decide)) (by rfl) (fun σ => passAt (takes_of rfl rfl rfl rfl) σ) (pa_cons (pv 5) (pa_cons (pv 8) pa_nil)))))) pss_nil)))
  (pss_one (ps_set (i := 2) sc_from_averages.nd rfl (Or.inl rfl) (pe_callD (E := fun _ => E) c_sum_of (hr.mono (by decide)) (by rfl) (fun σ => passAt (takes_of rfl rfl rfl rfl) σ) (pa_cons (pv 2) (pa_cons (pv 5) pa_nil))))))))
  (pss_one (ps_ret (pe_callD (E := fun _ => E) c_honest_of (hr.mono (by decide)) (by rfl) (fun σ => passAt (takes_of rfl rfl rfl rfl) σ) (pa_cons (pv 0) (pa_cons (pv 2) pa_nil)))))))),
   run_def (K := K) (ca := ca) (E := E) (p := 2) (k := 7) (g := g_from_averages) rfl (cs_seq (cs_exp (ce_call (ca_cons ce_var (ca_cons ce_var ca_nil))))
  (cs_seq (cs_asg (i := 2) (ce_tup ca_nil))
  (cs_seq (cs_for (ci_seq ce_var) (tgs_pair (i := 3) (j := 4)) (cs_seq (cs_asg (i := 5) (ce_tup (ca_cons ce_var ca_nil)))
  (cs_seq (cs_for (ci_seq ce_var) (tgs_pair (i := 6) (j := 7)) (cs_if (ct_test (ce_op od_ne ce_var ce_var)) (cs_seq (cs_asg (i := 8) (ce_call (ca_cons (ce_call (ca_cons (ce_tup (ca_cons ce_int (ca_cons ce_int ca_nil))) (ca_cons (ce_call (ca_cons ce_var (ca_cons ce_var ca_nil))) ca_nil))) (ca_cons (ce_tup (ca_cons (ce_call (ca_cons (ce_tup (ca_cons ce_int (ca_cons ce_int ca_nil))) (ca_cons ce_var ca_nil))) (ca_cons (ce_tup (ca_cons ce_int (ca_cons ce_int ca_nil))) ca_nil))) ca_nil))))
  (cs_asg (i := 5) (ce_call (ca_cons ce_var (ca_cons ce_var ca_nil))))) cs_nil))
  (cs_asg (i := 2) (ce_call (ca_cons ce_var (ca_cons ce_var ca_nil)))))))
  (cs_ret (ce_call (ca_cons ce_var (ca_cons ce_var ca_nil))))))) h⟩
abbrev s_honest : Stmt := topS 47
theorem sc_honest : FnScope ["trials", "quantity"] ["trials", "quantity"] (defScope s_honest) := ⟨rfl, rfl, rfl, by decide +kernel, rfl, by decide +kernel, by decide +kernel⟩
theorem ok_honest {f : Addr} {fd : FuncData} (F : Fun K "honest" "honest" s_honest f fd) (b : Binds K fd ["trials", "quantity"] []) (g : mg "honest" = some (.ref f)) (z_len : mg "len" = none) (x_NoEstimate : ExF K mg ca "NoEstimate") (c_check_quantity : OkD P w K mg base ca "check_quantity" ["quantity"] 3 m_check_quantity) (c_check_trials : OkD P w K mg base ca "check_trials" ["trials"] 2 m_check_trials) (c_honest_of : OkD P w K mg base ca "honest_of" ["trials", "row"] 5 m_honest_of) (c_polynomial_of : OkD P w K mg base ca "polynomial_of" ["quantity"] 1 m_polynomial_of) :
    OkD P w K mg base ca "honest" ["trials", "quantity"] 6 m_honest := by
  refine ⟨f, fd, g, F.kp, b, F.okX sc_honest spD_len (fun cdv A outer s H vs Q E hr h => ?_)⟩
  exact ⟨_, (pss_cons (ps_expr (pe_callD (E := fun _ => E) c_check_trials (hr.mono (by decide)) (by rfl) (fun σ => passAt (takes_of rfl rfl rfl rfl) σ) (pa_cons (pv 0) pa_nil)))
  (pss_cons (ps_expr (pe_callD (E := fun _ => E) c_check_quantity (hr.mono (by decide)) (by rfl) (fun σ => passAt (takes_of rfl rfl rfl rfl) σ) (pa_cons (pv 1) pa_nil)))
  (pss_cons (ps_if (pt_cmpR op_gt (pe_callB call_lenA (by rfl) z_len (by decide +kernel) (pa_cons (pv 1) pa_nil)) (pe_op op_addA (pv 0) pe_int) (nomark _)) (pss_one (ps_raise rfl (takes_of rfl rfl rfl rfl) (pmk_own PySem.F.excBase_ValueError x_NoEstimate.x x_NoEstimate.g x_NoEstimate.k (raises_own x_NoEstimate.b x_NoEstimate.t) (by rfl)))) pss_nil)
  (pss_one (ps_ret (pe_callD (E := fun _ => E) c_honest_of (hr.mono (by decide)) (by rfl) (fun σ => passAt (takes_of rfl rfl rfl rfl) σ) (pa_cons (pv 0) (pa_cons (pe_callD (E := fun _ => E) c_polynomial_of (hr.mono (by decide)) (by rfl) (fun σ => passAt (takes_of rfl rfl rfl rfl) σ) (pa_cons (pv 1) pa_nil)) pa_nil)))))))),
   run_def (K := K) (ca := ca) (E := E) (p := 2) (k := 0) (g := g_honest) rfl (cs_seq (cs_exp (ce_call (ca_cons ce_var ca_nil)))
  (cs_seq (cs_exp (ce_call (ca_cons ce_var ca_nil)))
  (cs_seq (cs_if (ct_test (ce_op od_cmp (ce_cb bd_len (ca_cons ce_var ca_nil)) (ce_op od_add ce_var ce_int))) (cs_raise (c := "NoEstimate") rfl) cs_nil)
  (cs_ret (ce_call (ca_cons ce_var (ca_cons (ce_call (ca_cons ce_var ca_nil)) ca_nil))))))) h⟩
abbrev s_more_trials : Stmt := topS 62
theorem sc_more_trials : FnScope ["trials", "estimate", "many", "result", "successes", "parts", "inside", "one", "ways"] ["trials", "estimate", "many"] (defScope s_more_trials) := ⟨rfl, rfl, rfl, by decide +kernel, rfl, by decide +kernel, by decide +kernel⟩
theorem ok_more_trials {f : Addr} {fd : FuncData} (F : Fun K "more_trials" "more_trials" s_more_trials f fd) (b : Binds K fd ["trials", "estimate", "many"] []) (g : mg "more_trials" = some (.ref f)) (z_enumerate : mg "enumerate" = none) (z_range : mg "range" = none) (z_tuple : mg "tuple" = none) (x_TooMany : ExF K mg ca "TooMany") (c_check_estimate : OkD P w K mg base ca "check_estimate" ["trials", "estimate"] 4 m_check_estimate) (c_choices : OkD P w K mg base ca "choices" ["n", "k"] 1 m_choices) (c_in_range : OkD P w K mg base ca "in_range" ["value", "low", "high"] 1 m_in_range) (c_reduced : OkD P w K mg base ca "reduced" ["above", "below"] 2 m_reduced) (c_times : OkD P w K mg base ca "times" ["one", "other"] 3 m_times) (c_total : OkD P w K mg base ca "total" ["some"] 4 m_total) :
    OkD P w K mg base ca "more_trials" ["trials", "estimate", "many"] 5 m_more_trials := by
  refine ⟨f, fd, g, F.kp, b, F.okX sc_more_trials spD_len (fun cdv A outer s H vs Q E hr h => ?_)⟩
  exact ⟨_, (pss_cons (ps_expr (pe_callD (E := fun _ => E) c_check_estimate (hr.mono (by decide)) (by rfl) (fun σ => passAt (takes_of rfl rfl rfl rfl) σ) (pa_cons (pv 0) (pa_cons (pv 1) pa_nil))))
  (pss_cons (ps_if (pt_not (pt_truth (pe_callD (E := fun _ => E) c_in_range (hr.mono (by decide)) (by rfl) (fun σ => passAt (takes_of rfl rfl rfl rfl) σ) (pa_cons (pv 2) (pa_cons (pv 0) (pa_cons pe_int pa_nil)))) (by intro _; rfl))) (pss_one (ps_raise rfl (takes_of rfl rfl rfl rfl) (pmk_own PySem.F.excBase_ValueError x_TooMany.x x_TooMany.g x_TooMany.k (raises_own x_TooMany.b x_TooMany.t) (by rfl)))) pss_nil)
  (pss_cons (ps_set (i := 3) sc_more_trials.nd rfl (Or.inl rfl) (pe_lst pa_nil))
  (pss_cons (ps_for (passes_of rfl) rfl (pi_range1 (by rfl) z_range (pa_cons (pe_op op_addA (pv 2) pe_int) pa_nil)) (pg_name (i := 4) sc_more_trials.nd rfl (Or.inl rfl)) (pss_cons (ps_set (i := 5) sc_more_trials.nd rfl (Or.inl rfl) (pe_lst pa_nil))
  (pss_cons (ps_for (passes_of rfl) rfl (pi_enumA (by rfl) z_enumerate (pa_cons (pv 1) pa_nil)) (pg_tup rfl (pgs_cons (pg_name (i := 6) sc_more_trials.nd rfl (Or.inl rfl)) (pgs_cons (pg_name (i := 7) sc_more_trials.nd rfl (Or.inl rfl)) pgs_nil))) (pss_one (ps_if (PW.pt (pw_and (pt_cmpR op_le (pv 6) (pv 4) (nomark _)) (pw_and1 (pt_cmpR op_le (pe_op op_sub (pv 0) (pv 6)) (pe_op op_sub (pv 2) (pv 4)) (nomark _))))) (pss_cons (ps_set (i := 8) sc_more_trials.nd rfl (Or.inl rfl) (pe_op op_mulA (pe_callD (E := fun _ => E) c_choices (hr.mono (by decide)) (by rfl) (fun σ => passAt (takes_of rfl rfl rfl rfl) σ) (pa_cons (pv 4) (pa_cons (pv 6) pa_nil))) (pe_callD (E := fun _ => E) c_choices (hr.mono (by decide)) (by rfl) (fun σ => passAt (takes_of rfl rfl rfl rfl) σ) (pa_cons (pe_op op_sub (pv 2) (pv 4)) (pa_cons (pe_op op_sub (pv 0) (pv 6)) pa_nil)))))
  (pss_one (ps_expr (pe_bm PySem.F.plainAttrs_list PySem.F.slot_list_append PySem.F.type_list_append mt_append (pv 5) (pa_cons (pe_callD (E := fun _ => E) c_times (hr.mono (by decide)) (by rfl) (fun σ => passAt (takes_of rfl rfl rfl rfl) σ) (pa_cons (pe_callD (E := fun _ => E) c_reduced (hr.mono (by decide)) (by rfl) (fun σ => passAt (takes_of rfl rfl rfl rfl) σ) (pa_cons (pv 8) (pa_cons (pe_callD (E := fun _ => E) c_choices (hr.mono (by decide)) (by rfl) (fun σ => passAt (takes_of rfl rfl rfl rfl) σ) (pa_cons (pv 2) (pa_cons (pv 0) pa_nil))) pa_nil))) (pa_cons (pv 7) pa_nil))) pa_nil))))) pss_nil)))
  (pss_one (ps_expr (pe_bm PySem.F.plainAttrs_list PySem.F.slot_list_append PySem.F.type_list_append mt_append (pv 3) (pa_cons (pe_callD (E := fun _ => E) c_total (hr.mono (by decide)) (by rfl) (fun σ => passAt (takes_of rfl rfl rfl rfl) σ) (pa_cons (pv 5) pa_nil)) pa_nil)))))))
  (pss_one (ps_ret (pe_callTy call_tuple_of (by rfl) z_tuple (by decide +kernel) (pa_cons (pv 3) pa_nil)))))))),
   run_def (K := K) (ca := ca) (E := E) (p := 3) (k := 6) (g := g_more_trials) rfl (cs_seq (cs_exp (ce_call (ca_cons ce_var (ca_cons ce_var ca_nil))))
  (cs_seq (cs_if (ct_not (ct_truth (ce_call (ca_cons ce_var (ca_cons ce_var (ca_cons ce_int ca_nil)))))) (cs_raise (c := "TooMany") rfl) cs_nil)
  (cs_seq (cs_asgO (i := 3) (cf_lst ca_nil))
  (cs_seq (cs_for (ci_rng1 (ca_cons (ce_op od_add ce_var ce_int) ca_nil)) (tgs_name (i := 4)) (cs_seq (cs_asgO (i := 5) (cf_lst ca_nil))
  (cs_seq (cs_for (ci_enum (ca_cons ce_var ca_nil)) (tgs_pair (i := 6) (j := 7)) (cs_if (ct_and (ct_test (ce_op od_cmp ce_var ce_var)) (ct_test (ce_op od_cmp (ce_op od_sub ce_var ce_var) (ce_op od_sub ce_var ce_var)))) (cs_seq (cs_asg (i := 8) (ce_op od_mul (ce_call (ca_cons ce_var (ca_cons ce_var ca_nil))) (ce_call (ca_cons (ce_op od_sub ce_var ce_var) (ca_cons (ce_op od_sub ce_var ce_var) ca_nil)))))
  (cs_app (i := 5) (ce_call (ca_cons (ce_call (ca_cons ce_var (ca_cons (ce_call (ca_cons ce_var (ca_cons ce_var ca_nil))) ca_nil))) (ca_cons ce_var ca_nil))))) cs_nil))
  (cs_appR (i := 3) (ce_call (ca_cons ce_var ca_nil))))))
  (cs_ret (ce_cb bd_tup (ca_cons ce_var ca_nil))))))) h⟩
abbrev s_paper_of : Stmt := topS 48
theorem sc_paper_of : FnScope ["trials", "row", "first", "result", "step", "weight", "point"] ["trials", "row"] (defScope s_paper_of) := ⟨rfl, rfl, rfl, by decide +kernel, rfl, by decide +kernel, by decide +kernel⟩
theorem ok_paper_of {f : Addr} {fd : FuncData} (F : Fun K "paper_of" "paper_of" s_paper_of f fd) (b : Binds K fd ["trials", "row"] []) (g : mg "paper_of" = some (.ref f)) (z_len : mg "len" = none) (z_range : mg "range" = none) (z_tuple : mg "tuple" = none) (c_choices : OkD P w K mg base ca "choices" ["n", "k"] 1 m_choices) (c_reduced : OkD P w K mg base ca "reduced" ["above", "below"] 2 m_reduced) (c_times : OkD P w K mg base ca "times" ["one", "other"] 3 m_times) (c_total : OkD P w K mg base ca "total" ["some"] 4 m_total) (c_value_at : OkD P w K mg base ca "value_at" ["row", "point"] 4 m_value_at) :
    OkD P w K mg base ca "paper_of" ["trials", "row"] 5 m_paper_of := by
  refine ⟨f, fd, g, F.kp, b, F.okX sc_paper_of spD_len (fun cdv A outer s H vs Q E hr h => ?_)⟩
  exact ⟨_, (pss_cons (ps_for (passes_of rfl) rfl (pi_range1 (by rfl) z_range (pa_cons (pe_callB call_lenA (by rfl) z_len (by decide +kernel) (pa_cons (pv 1) pa_nil)) pa_nil)) (pg_name (i := 2) sc_paper_of.nd rfl (Or.inl rfl)) (pss_cons (ps_set (i := 3) sc_paper_of.nd rfl (Or.inl rfl) (pe_lst pa_nil))
  (pss_cons (ps_for (passes_of rfl) rfl (pi_range1 (by rfl) z_range (pa_cons (pe_op op_addA (pv 0) pe_int) pa_nil)) (pg_name (i := 4) sc_paper_of.nd rfl (Or.inl rfl)) (pss_cons (ps_set (i := 5) sc_paper_of.nd rfl (Or.inl rfl) (pe_op op_mulA (pe_callD (E := fun _ => E) c_choices (hr.mono (by decide)) (by rfl) (fun σ => passAt (takes_of rfl rfl rfl rfl) σ) (pa_cons (pe_op op_addA (pv 0) pe_int) (pa_cons (pv 4) pa_nil))) (pe_ifExp (pt_cmpR (op_eqD hr.units) (pe_op op_mod (pv 4) pe_int) pe_int (nomark _)) pe_int (pe_un un_neg pe_int))))
  (pss_one (ps_expr (pe_bm PySem.F.plainAttrs_list PySem.F.slot_list_append PySem.F.type_list_append mt_append (pv 3) (pa_cons (pe_tup (pa_cons (pe_callD (E := fun _ => E) c_reduced (hr.mono (by decide)) (by rfl) (fun σ => passAt (takes_of rfl rfl rfl rfl) σ) (pa_cons (pe_op op_addA (pv 2) (pv 4)) (pa_cons (pe_op op_addA (pe_op op_addA (pe_callB call_lenA (by rfl) z_len (by decide +kernel) (pa_cons (pv 1) pa_nil)) (pv 0)) pe_int) pa_nil))) (pa_cons (pv 5) pa_nil))) pa_nil))))))
  (pss_one (ps_if (pt_cmpR (op_neD hr.units) (pe_ix ix_A (pe_callD (E := fun _ => E) c_total (hr.mono (by decide)) (by rfl) (fun σ => passAt (takes_of rfl rfl rfl rfl) σ) (pa_cons (pe_lc (own := [("point", 6), ("weight", 5)]) (by rfl) sc_paper_of.nd (pi_seqA (pv 3)) (blkOk_by (own := [("point", 6), ("weight", 5)]) (N := ["trials", "row", "first", "result", "step", "weight", "point"]) (sc := defScope s_paper_of) (by decide +kernel)) (fun _ _ _ _ _ => by exact (pg_tup rfl (pgs_cons (pg_name (i := 6) sc_paper_of.nd rfl (Or.inl rfl)) (pgs_cons (pg_name (i := 5) sc_paper_of.nd rfl (Or.inl rfl)) pgs_nil)))) (fun _ _ _ _ _ => by exact pts_nil) (fun _ _ _ _ _ => by exact (pe_callD (E := E0') c_times (hr.mono (by decide)) (by rfl) passN (pa_cons (pe_tup (pa_cons (pv 5) (pa_cons pe_int pa_nil))) (pa_cons (pe_callD (E := E0') c_value_at (hr.mono (by decide)) (by rfl) passN (pa_cons (pv 1) (pa_cons (pv 6) pa_nil))) pa_nil))))) pa_nil)) pe_int (fun _ _ => rfl)) pe_int (nomark _)) (pss_one (ps_ret (pe_callTy call_tuple_of (by rfl) z_tuple (by decide +kernel) (pa_cons (pv 3) pa_nil)))) pss_nil)))))
  (pss_one (ps_ret pe_non))),
   run_def (K := K) (ca := ca) (E := E) (p := 2) (k := 5) (g := g_paper_of) rfl (cs_seq (cs_for (ci_rng1 (ca_cons (ce_cb bd_len (ca_cons ce_var ca_nil)) ca_nil)) (tgs_name (i := 2)) (cs_seq (cs_asgO (i := 3) (cf_lst ca_nil))
  (cs_seq (cs_for (ci_rng1 (ca_cons (ce_op od_add ce_var ce_int) ca_nil)) (tgs_name (i := 4)) (cs_seq (cs_asg (i := 5) (ce_op od_mul (ce_call (ca_cons (ce_op od_add ce_var ce_int) (ca_cons ce_var ca_nil))) (ce_if (ct_test (ce_op od_eq (ce_op od_mod ce_var ce_int) ce_int)) ce_int (ce_un ud_neg ce_int))))
  (cs_app (i := 3) (ce_tup (ca_cons (ce_call (ca_cons (ce_op od_add ce_var ce_var) (ca_cons (ce_op od_add (ce_op od_add (ce_cb bd_len (ca_cons ce_var ca_nil)) ce_var) ce_int) ca_nil))) (ca_cons ce_var ca_nil))))))
  (cs_if (ct_test (ce_op od_ne (ce_op od_ix (ce_call (ca_cons (ce_lc (ci_seq ce_var) tg_pair (by decide) ct_yes (ce_call (ca_cons (ce_tup (ca_cons ce_var (ca_cons ce_int ca_nil))) (ca_cons (ce_call (ca_cons ce_var (ca_cons ce_var ca_nil))) ca_nil)))) ca_nil)) ce_int) ce_int)) (cs_ret (ce_cb bd_tup (ca_cons ce_var ca_nil))) cs_nil))))
  (cs_ret ce_non)) h⟩
abbrev s_paper : Stmt := topS 49
theorem sc_paper : FnScope ["trials", "quantity"] ["trials", "quantity"] (defScope s_paper) := ⟨rfl, rfl, rfl, by decide +kernel, rfl, by decide +kernel, by decide +kernel⟩
theorem ok_paper {f : Addr} {fd : FuncData} (F : Fun K "paper" "paper" s_paper f fd) (b : Binds K fd ["trials", "quantity"] []) (g : mg "paper" = some (.ref f)) (z_len : mg "len" = none) (x_HasEstimate : ExF K mg ca "HasEstimate") (c_check_quantity : OkD P w K mg base ca "check_quantity" ["quantity"] 3 m_check_quantity) (c_check_trials : OkD P w K mg base ca "check_trials" ["trials"] 2 m_check_trials) (c_paper_of : OkD P w K mg base ca "paper_of" ["trials", "row"] 5 m_paper_of) (c_polynomial_of : OkD P w K mg base ca "polynomial_of" ["quantity"] 1 m_polynomial_of) :
    OkD P w K mg base ca "paper" ["trials", "quantity"] 6 m_paper := by
  refine ⟨f, fd, g, F.kp, b, F.okX sc_paper spD_len (fun cdv A outer s H vs Q E hr h => ?_)⟩
  exact ⟨_, (pss_cons (ps_expr (pe_callD (E := fun _ => E) c_check_trials (hr.mono (by decide)) (by rfl) (fun σ => passAt (takes_of rfl rfl rfl rfl) σ) (pa_cons (pv 0) pa_nil)))
  (pss_cons (ps_expr (pe_callD (E := fun _ => E) c_check_quantity (hr.mono (by decide)) (by rfl) (fun σ => passAt (takes_of rfl rfl rfl rfl) σ) (pa_cons (pv 1) pa_nil)))
  (pss_cons (ps_if (pt_cmpR op_le (pe_callB call_lenA (by rfl) z_len (by decide +kernel) (pa_cons (pv 1) pa_nil)) (pe_op op_addA (pv 0) pe_int) (nomark _)) (pss_one (ps_raise rfl (takes_of rfl rfl rfl rfl) (pmk_own PySem.F.excBase_ValueError x_HasEstimate.x x_HasEstimate.g x_HasEstimate.k (raises_own x_HasEstimate.b x_HasEstimate.t) (by rfl)))) pss_nil)
  (pss_one (ps_ret (pe_callD (E := fun _ => E) c_paper_of (hr.mono (by decide)) (by rfl) (fun σ => passAt (takes_of rfl rfl rfl rfl) σ) (pa_cons (pv 0) (pa_cons (pe_callD (E := fun _ => E) c_polynomial_of (hr.mono (by decide)) (by rfl) (fun σ => passAt (takes_of rfl rfl rfl rfl) σ) (pa_cons (pv 1) pa_nil)) pa_nil)))))))),
   run_def (K := K) (ca := ca) (E := E) (p := 2) (k := 0) (g := g_paper) rfl (cs_seq (cs_exp (ce_call (ca_cons ce_var ca_nil)))
  (cs_seq (cs_exp (ce_call (ca_cons ce_var ca_nil)))
  (cs_seq (cs_if (ct_test (ce_op od_cmp (ce_cb bd_len (ca_cons ce_var ca_nil)) (ce_op od_add ce_var ce_int))) (cs_raise (c := "HasEstimate") rfl) cs_nil)
  (cs_ret (ce_call (ca_cons ce_var (ca_cons (ce_call (ca_cons ce_var ca_nil)) ca_nil))))))) h⟩
abbrev s_PI : Stmt := inClass (topS 3) 0
theorem sc_PI : FnScope ["self", "line"] ["self", "line"] (defScope s_PI) := ⟨rfl, rfl, rfl, by decide +kernel, rfl, by decide +kernel, by decide +kernel⟩

theorem ok_PI {f : Addr} {fd : FuncData} (F : Fun K "__init__" "ParseError.__init__" s_PI f fd) (b : Binds K fd ["self", "line"] []) (gP : mg "ParseError" = some (.ref (ca "ParseError"))) (T : OexC K (ca "ParseError")) (iC : PySem.W.findIn K (.ref (ca "ParseError")) "__init__" = some (some (.ref f))) (tI : PySem.W.typeIn K (.ref f) = some (.type "function")) (ei : EiF K mg (ca "EstimateError")) (nl : PySem.W.findIn K (.ref (ca "ParseError")) "line" = some none) :
    PiOk P w K mg base (ca "ParseError") 1 := by
  refine ⟨gP, T, f, fd, iC, tI, b, F.okX sc_PI spPI_len (fun cdv A outer s H vs Q E hr h => ?_)⟩
  obtain ⟨a, v, rfl, ha, h⟩ := h
  refine ⟨_, pss_cons (ps_expr (pe_einit ei (by rfl) (pa_cons (pv 0) (pa_cons pe_str pa_nil)))) (pss_one (ps_ost (pv 0) (pv 1))), ?_⟩
  refine ⟨.ref a, rfl, a, _, [.str _], rfl, by show 1 ≤ 1000; decide, T, ha, ?_⟩
  exact ⟨v, rfl, .ref a, rfl, a, _, rfl, T, nl, .inl ⟨ha, fun dx hdx hne => h dx hdx hne⟩⟩
abbrev s_parse_integer : Stmt := topS 58
theorem sc_parse_integer : FnScope ["token", "digits", "sign"] ["token"] (defScope s_parse_integer) := ⟨rfl, rfl, rfl, by decide +kernel, rfl, by decide +kernel, by decide +kernel⟩
theorem ok_parse_integer {f : Addr} {fd : FuncData} (F : Fun K "parse_integer" "parse_integer" s_parse_integer f fd) (b : Binds K fd ["token"] []) (g : mg "parse_integer" = some (.ref f)) (z_int : mg "int" = none) (z_len : mg "len" = none) (z_str : mg "str" = none) {t_DIGITS : Tok} (k_DIGITS : mg "DIGITS" = some (.str (Str.ofString "0123456789") t_DIGITS)) :
    OkD P w K mg base ca "parse_integer" ["token"] 1 m_parse_integer := by
  refine ⟨f, fd, g, F.kp, b, F.okX sc_parse_integer spD_len (fun cdv A outer s H vs Q E hr h => ?_)⟩
  exact ⟨_, (pss_cons (ps_set (i := 1) sc_parse_integer.nd rfl (Or.inl rfl) (pe_ifExp (pt_cmpR (op_eqD hr.units) (pe_slice sl_W (pv 0) po_none (po_some pe_int)) pe_str (nomark _)) (pe_slice sl_W (pv 0) (po_some pe_int) po_none) (pv 0)))
  (pss_cons (ps_if (PW.pt (pw_or (pt_not (pt_chain op_le op_le pe_int (pe_callB call_lenA (by rfl) z_len (by decide +kernel) (pa_cons (pv 1) pa_nil)) pe_int)) (pw_or1 (pt_truth (pe_lc (own := [("sign", 2)]) (by rfl) sc_parse_integer.nd (pi_str (pv 1)) (blkOk_by (own := [("sign", 2)]) (N := ["token", "digits", "sign"]) (sc := defScope s_parse_integer) (by decide +kernel)) (fun _ _ _ _ _ => by exact (pg_name (i := 2) sc_parse_integer.nd rfl (Or.inl rfl))) (fun _ _ _ _ _ => by exact (pts_one (pt_cmpR op_notIn_sign (pv 2) (pe_glob (v := .str (Str.ofString "0123456789")) (by rfl) k_DIGITS ⟨_, rfl⟩) (by rfl)))) (fun _ _ _ _ _ => by exact (pv 2))) (by intro _; rfl))))) (pss_one (ps_ret pe_non)) pss_nil)
  (pss_one (ps_ret (pe_ifExp (pt_cmpR (op_eqD hr.units) (pe_callTy call_str_int (by rfl) z_str (by decide +kernel) (pa_cons (pe_callTy call_int_str (by rfl) z_int (by decide +kernel) (pa_cons (pv 0) pa_nil)) pa_nil)) (pv 0) (nomark _)) (pe_callTy call_int_str (by rfl) z_int (by decide +kernel) (pa_cons (pv 0) pa_nil)) pe_non))))),
   run_def (K := K) (ca := ca) (E := E) (p := 1) (k := 2) (g := g_parse_integer) rfl (cs_seq (cs_asg (i := 1) (ce_if (ct_test (ce_op od_eq (ce_slice ce_var co_none (co_some ce_int)) ce_str)) (ce_slice ce_var (co_some ce_int) co_none) ce_var))
  (cs_seq (cs_if (ct_or (ct_not (ct_test (ce_chain od_cmp od_cmp ce_int (ce_cb bd_len (ca_cons ce_var ca_nil)) ce_int))) (ct_truth (ce_lc (ci_str ce_var) tg_name (by decide) (ct_test (ce_op od_nis ce_var ce_str)) ce_var))) (cs_ret ce_non) cs_nil)
  (cs_ret (ce_if (ct_test (ce_op od_eq (ce_cb bd_strI (ca_cons (ce_cb bd_intS (ca_cons ce_var ca_nil)) ca_nil)) ce_var)) (ce_cb bd_intS (ca_cons ce_var ca_nil)) ce_non)))) h⟩
abbrev s_parse_fraction : Stmt := topS 59
theorem sc_parse_fraction : FnScope ["token", "parts", "numbers", "value", "one"] ["token"] (defScope s_parse_fraction) := ⟨rfl, rfl, rfl, by decide +kernel, rfl, by decide +kernel, by decide +kernel⟩
theorem ok_parse_fraction {f : Addr} {fd : FuncData} (F : Fun K "parse_fraction" "parse_fraction" s_parse_fraction f fd) (b : Binds K fd ["token"] []) (g : mg "parse_fraction" = some (.ref f)) (z_len : mg "len" = none) (c_is_fraction : OkD P w K mg base ca "is_fraction" ["value"] 2 m_is_fraction) (c_parse_integer : OkD P w K mg base ca "parse_integer" ["token"] 1 m_parse_integer) :
    OkD P w K mg base ca "parse_fraction" ["token"] 3 m_parse_fraction := by
  refine ⟨f, fd, g, F.kp, b, F.okX sc_parse_fraction spD_len (fun cdv A outer s H vs Q E hr h => ?_)⟩
  exact ⟨_, (pss_cons (ps_set (i := 1) sc_parse_fraction.nd rfl (Or.inl rfl) (pe_split (pv 0) pe_str))
  (pss_cons (ps_setLc (i := 2) (own := [("one", 4)]) (by rfl) sc_parse_fraction.nd rfl rfl (sw_true rfl rfl rfl (by decide +kernel)) (pi_seqA (pv 1)) (blkOk_by (own := [("one", 4)]) (N := ["token", "parts", "numbers", "value", "one"]) (sc := defScope s_parse_fraction) (by decide +kernel)) (fun _ _ _ _ _ => by exact (pg_name (i := 4) sc_parse_fraction.nd rfl (Or.inl rfl))) (fun _ _ _ _ _ => by exact pts_nil) (fun _ _ _ _ _ => by exact (pe_callD (E := E0') c_parse_integer (hr.mono (by decide)) (by rfl) passN (pa_cons (pv 4) pa_nil))))
  (pss_cons (ps_if (PW.pt (pw_or (pt_cmpR op_gt (pe_callB call_lenA (by rfl) z_len (by decide +kernel) (pa_cons (pv 1) pa_nil)) pe_int (nomark _)) (pw_or (pt_cmpR (op_inD (units65 hr)) pe_non (pv 2) (by rfl)) (pw_or1 (PW.pt (pw_and (pt_cmpR (op_eqD hr.units) (pe_callB call_lenA (by rfl) z_len (by decide +kernel) (pa_cons (pv 1) pa_nil)) pe_int (nomark _)) (pw_and1 (pt_cmpR op_lt (pe_ix ix_A (pv 2) pe_int (fun _ _ => rfl)) pe_int (nomark _))))))))) (pss_one (ps_ret pe_non)) pss_nil)
  (pss_cons (ps_set (i := 3) sc_parse_fraction.nd rfl (Or.inl rfl) (pe_tup (pa_cons (pe_ix ix_A (pv 2) pe_int (fun _ _ => rfl)) (pa_cons (pe_ifExp (pt_cmpR (op_eqD hr.units) (pe_callB call_lenA (by rfl) z_len (by decide +kernel) (pa_cons (pv 1) pa_nil)) pe_int (nomark _)) (pe_ix ix_A (pv 2) pe_int (fun _ _ => rfl)) pe_int) pa_nil))))
  (pss_one (ps_ret (pe_ifExp (pt_truth (pe_callD (E := fun _ => E) c_is_fraction (hr.mono (by decide)) (by rfl) (fun σ => passAt (takes_of rfl rfl rfl rfl) σ) (pa_cons (pv 3) pa_nil)) (by intro _; rfl)) (pv 3) pe_non))))))),
   run_def (K := K) (ca := ca) (E := E) (p := 1) (k := 4) (g := g_parse_fraction) rfl (cs_seq (cs_asg (i := 1) (ce_split ce_var ce_str))
  (cs_seq (cs_asg (i := 2) (ce_lc (ci_seq ce_var) tg_name (by decide) ct_yes (ce_call (ca_cons ce_var ca_nil))))
  (cs_seq (cs_if (ct_or (ct_test (ce_op od_cmp (ce_cb bd_len (ca_cons ce_var ca_nil)) ce_int)) (ct_or (ct_test (ce_op od_in ce_non ce_var)) (ct_and (ct_test (ce_op od_eq (ce_cb bd_len (ca_cons ce_var ca_nil)) ce_int)) (ct_test (ce_op od_cmp (ce_op od_ix ce_var ce_int) ce_int))))) (cs_ret ce_non) cs_nil)
  (cs_seq (cs_asg (i := 3) (ce_tup (ca_cons (ce_op od_ix ce_var ce_int) (ca_cons (ce_if (ct_test (ce_op od_eq (ce_cb bd_len (ca_cons ce_var ca_nil)) ce_int)) (ce_op od_ix ce_var ce_int) ce_int) ca_nil))))
  (cs_ret (ce_if (ct_truth (ce_call (ca_cons ce_var ca_nil))) ce_var ce_non)))))) h⟩
abbrev s_parse_estimate : Stmt := topS 60
theorem sc_parse_estimate : FnScope ["text", "found", "token"] ["text"] (defScope s_parse_estimate) := ⟨rfl, rfl, rfl, by decide +kernel, rfl, by decide +kernel, by decide +kernel⟩
theorem ok_parse_estimate {f : Addr} {fd : FuncData} (F : Fun K "parse_estimate" "parse_estimate" s_parse_estimate f fd) (b : Binds K fd ["text"] []) (g : mg "parse_estimate" = some (.ref f)) (z_isinstance : mg "isinstance" = none) (z_len : mg "len" = none) (z_str : mg "str" = none) (z_tuple : mg "tuple" = none) (hPE : ∀ d c, lineN d = some c → ca c = ca "ParseError") (c_PI : PiOk P w K mg base (ca "ParseError") 1) (c_parse_fraction : OkD P w K mg base ca "parse_fraction" ["token"] 3 m_parse_fraction) :
    OkD P w K mg base ca "parse_estimate" ["text"] 4 m_parse_estimate := by
  refine ⟨f, fd, g, F.kp, b, F.okX sc_parse_estimate spD_len (fun cdv A outer s H vs Q E hr h => ?_)⟩
  exact ⟨_, (pss_cons (ps_if (pt_not (pt_truth (pe_callB call_isi (by rfl) z_isinstance (by decide +kernel) (pa_cons (pv 0) (pa_cons (pe_bltn (v := .ty "str") (by rfl) z_str (by decide +kernel) rfl) pa_nil))) (by intro _; rfl))) (pss_one (ps_raiseL c_PI (hr.mono (by decide)) rfl (takes_of rfl rfl rfl rfl) (by rfl) pe_non)) pss_nil)
  (pss_cons (ps_setLc (i := 1) (own := [("token", 2)]) (by rfl) sc_parse_estimate.nd rfl rfl (sw_true rfl rfl rfl (by decide +kernel)) (pi_seqA (pe_split (pv 0) pe_str)) (blkOk_by (own := [("token", 2)]) (N := ["text", "found", "token"]) (sc := defScope s_parse_estimate) (by decide +kernel)) (fun _ _ _ _ _ => by exact (pg_name (i := 2) sc_parse_estimate.nd rfl (Or.inl rfl))) (fun _ _ _ _ _ => by exact pts_nil) (fun _ _ _ _ _ => by exact (pe_callD (E := E0') c_parse_fraction (hr.mono (by decide)) (by rfl) passN (pa_cons (pv 2) pa_nil))))
  (pss_cons (ps_if (pt_cmpR (op_inD (units65 hr)) pe_non (pv 1) (by rfl)) (pss_one (ps_raiseL c_PI (hr.mono (by decide)) rfl (takes_of rfl rfl rfl rfl) (by rfl) (pe_bm PySem.F.plainAttrs_list PySem.F.slot_list_index PySem.F.type_list_index (mt_indexD (units65 hr)) (pv 1) (pa_cons pe_non pa_nil)))) pss_nil)
  (pss_cons (ps_if (pt_not (pt_chain op_le op_le pe_int (pe_callB call_lenA (by rfl) z_len (by decide +kernel) (pa_cons (pv 1) pa_nil)) pe_int)) (pss_one (ps_raiseL c_PI (hr.mono (by decide)) rfl (takes_of rfl rfl rfl rfl) (by rfl) pe_non)) pss_nil)
  (pss_one (ps_ret (pe_tup (pa_cons (pe_op op_sub (pe_callB call_lenA (by rfl) z_len (by decide +kernel) (pa_cons (pv 1) pa_nil)) pe_int) (pa_cons (pe_callTy call_tuple_of (by rfl) z_tuple (by decide +kernel) (pa_cons (pv 1) pa_nil)) pa_nil))))))))),
   run_def (K := K) (ca := ca) (E := E) (p := 1) (k := 2) (g := g_parse_estimate) rfl (cs_seq (cs_if (ct_not (ct_truth (ce_isi ce_var))) (cs_raiseL hPE ce_non) cs_nil)
  (cs_seq (cs_asg (i := 1) (ce_lc (ci_seq (ce_split ce_var ce_str)) tg_name (by decide) ct_yes (ce_call (ca_cons ce_var ca_nil))))
  (cs_seq (cs_if (ct_test (ce_op od_in ce_non ce_var)) (cs_raiseL hPE (ce_index ce_var ce_non)) cs_nil)
  (cs_seq (cs_if (ct_not (ct_test (ce_chain od_cmp od_cmp ce_int (ce_cb bd_len (ca_cons ce_var ca_nil)) ce_int))) (cs_raiseL hPE ce_non) cs_nil)
  (cs_ret (ce_tup (ca_cons (ce_op od_sub (ce_cb bd_len (ca_cons ce_var ca_nil)) ce_int) (ca_cons (ce_cb bd_tup (ca_cons ce_var ca_nil)) ca_nil)))))))) h⟩
abbrev s_law_raise : Stmt := topS 67
theorem sc_law_raise : FnScope ["mode"] ["mode"] (defScope s_law_raise) := ⟨rfl, rfl, rfl, by decide +kernel, rfl, by decide +kernel, by decide +kernel⟩
theorem ok_law_raise {f : Addr} {fd : FuncData} (F : Fun K "_law_raise" "_law_raise" s_law_raise f fd) (b : Binds K fd ["mode"] []) (g : mg "_law_raise" = some (.ref f)) (c : CtrF K mg) (mk : PySem.W.makesIn K (ctrC K) = true) (kc : PySem.W.keepIn K (.ref (ctrC K)) = true) (h_C_init : MOk P w K mg base "__init__" ["self", "quantity"] 4 (spIni K ca m_check_quantity)) (h_C_undo : MOk P w K mg base "undo" ["self"] 1 (spMut K ca 0 fUndo)) (c_average : OkD P w K mg base ca "average" ["trials", "estimate"] 8 m_average) (c_average_at : OkD P w K mg base ca "average_at" ["trials", "estimate", "chance"] 8 m_average_at) (c_failing_chance : OkD P w K mg base ca "failing_chance" ["trials", "quantity", "estimate"] 8 m_failing_chance) (c_from_averages : OkD P w K mg base ca "from_averages" ["trials", "points"] 6 m_from_averages) (c_honest : OkD P w K mg base ca "honest" ["trials", "quantity"] 6 m_honest) (c_more_trials : OkD P w K mg base ca "more_trials" ["trials", "estimate", "many"] 5 m_more_trials) (c_paper : OkD P w K mg base ca "paper" ["trials", "quantity"] 6 m_paper) (c_parse_estimate : OkD P w K mg base ca "parse_estimate" ["text"] 4 m_parse_estimate) :
    OkD P w K mg base ca "_law_raise" ["mode"] 9 m_law_raise := by
  refine ⟨f, fd, g, F.kp, b, F.okX sc_law_raise spD_len (fun cdv A outer s H vs Q E hr h => ?_)⟩
  exact ⟨_, (pss_cons (ps_if (pt_cmpR (op_eqD hr.units) (pv 0) pe_int (nomark _)) (pss_one (ps_ret (pe_callD (E := fun _ => E) c_average (hr.mono (by decide)) (by rfl) (fun σ => passAt (takes_of rfl rfl rfl rfl) σ) (pa_cons pe_int (pa_cons (pe_tup pa_nil) pa_nil))))) pss_nil)
  (pss_cons (ps_if (pt_cmpR (op_eqD hr.units) (pv 0) pe_int (nomark _)) (pss_one (ps_ret (pe_callD (E := fun _ => E) c_honest (hr.mono (by decide)) (by rfl) (fun σ => passAt (takes_of rfl rfl rfl rfl) σ) (pa_cons pe_int (pa_cons (pe_tup (pa_cons pe_int pa_nil)) pa_nil))))) pss_nil)
  (pss_cons (ps_if (pt_cmpR (op_eqD hr.units) (pv 0) pe_int (nomark _)) (pss_one (ps_ret (pe_callD (E := fun _ => E) c_average (hr.mono (by decide)) (by rfl) (fun σ => passAt (takes_of rfl rfl rfl rfl) σ) (pa_cons pe_int (pa_cons (pe_tup (pa_cons (pe_tup (pa_cons pe_int (pa_cons pe_int pa_nil))) pa_nil)) pa_nil))))) pss_nil)
  (pss_cons (ps_if (pt_cmpR (op_eqD hr.units) (pv 0) pe_int (nomark _)) (pss_one (ps_ret (pe_callD (E := fun _ => E) c_average_at (hr.mono (by decide)) (by rfl) (fun σ => passAt (takes_of rfl rfl rfl rfl) σ) (pa_cons pe_int (pa_cons (pe_tup (pa_cons (pe_tup (pa_cons pe_int (pa_cons pe_int pa_nil))) (pa_cons (pe_tup (pa_cons pe_int (pa_cons pe_int pa_nil))) pa_nil))) (pa_cons (pe_tup (pa_cons pe_int (pa_cons pe_int pa_nil))) pa_nil)))))) pss_nil)
  (pss_cons (ps_if (pt_cmpR (op_eqD hr.units) (pv 0) pe_int (nomark _)) (pss_one (ps_ret (pe_callD (E := fun _ => E) c_from_averages (hr.mono (by decide)) (by rfl) (fun σ => passAt (takes_of rfl rfl rfl rfl) σ) (pa_cons pe_int (pa_cons (pe_tup pa_nil) pa_nil))))) pss_nil)
  (pss_cons (ps_if (pt_cmpR (op_eqD hr.units) (pv 0) pe_int (nomark _)) (pss_one (ps_ret (pe_callD (E := fun _ => E) c_honest (hr.mono (by decide)) (by rfl) (fun σ => passAt (takes_of rfl rfl rfl rfl) σ) (pa_cons pe_int (pa_cons (pe_tup (pa_cons pe_int (pa_cons pe_int (pa_cons pe_int pa_nil)))) pa_nil))))) pss_nil)
  (pss_cons (ps_if (pt_cmpR (op_eqD hr.units) (pv 0) pe_int (nomark _)) (pss_one (ps_ret (pe_callD (E := fun _ => E) c_paper (hr.mono (by decide)) (by rfl) (fun σ => passAt (takes_of rfl rfl rfl rfl) σ) (pa_cons pe_int (pa_cons (pe_tup (pa_cons pe_int (pa_cons pe_int pa_nil))) pa_nil))))) pss_nil)
  (pss_cons (ps_if (pt_cmpR (op_eqD hr.units) (pv 0) pe_int (nomark _)) (pss_one (ps_ret (pe_callD (E := fun _ => E) c_failing_chance (hr.mono (by decide)) (by rfl) (fun σ => passAt (takes_of rfl rfl rfl rfl) σ) (pa_cons pe_int (pa_cons (pe_tup (pa_cons pe_int (pa_cons pe_int pa_nil))) (pa_cons (pe_tup (pa_cons (pe_tup (pa_cons pe_int (pa_cons pe_int pa_nil))) (pa_cons (pe_tup (pa_cons pe_int (pa_cons pe_int pa_nil))) pa_nil))) pa_nil)))))) pss_nil)
  (pss_cons (ps_if (pt_cmpR (op_eqD hr.units) (pv 0) pe_int (nomark _)) (pss_one (ps_ret (pe_callD (E := fun _ => E) c_more_trials (hr.mono (by decide)) (by rfl) (fun σ => passAt (takes_of rfl rfl rfl rfl) σ) (pa_cons pe_int (pa_cons (pe_tup (pa_cons (pe_tup (pa_cons pe_int (pa_cons pe_int pa_nil))) (pa_cons (pe_tup (pa_cons pe_int (pa_cons pe_int pa_nil))) pa_nil))) (pa_cons pe_int pa_nil)))))) pss_nil)
  (pss_one (ps_ret (pe_ifExp (pt_cmpR (op_eqD hr.units) (pv 0) pe_int (nomark _)) (pe_callD (E := fun _ => E) c_parse_estimate (hr.mono (by decide)) (by rfl) (fun σ => passAt (takes_of rfl rfl rfl rfl) σ) (pa_cons pe_str pa_nil)) (pe_methD (E := fun _ => E) (h_C_undo.imp sp_pure) c (hr.mono (by decide)) (fun σ => passAt (takes_of rfl rfl rfl rfl) σ) (pe_makeD (E := fun _ => E) h_C_init c mk kc (hr.mono (by decide)) (fun σ => passAt (takes_of rfl rfl rfl rfl) σ) (by rfl) (pa_cons (pe_tup pa_nil) pa_nil))))))))))))))),
   run_def (K := K) (ca := ca) (E := E) (p := 1) (k := 0) (g := g_law_raise) rfl (cs_seq (cs_if (ct_test (ce_op od_eq ce_var ce_int)) (cs_ret (ce_call (ca_cons ce_int (ca_cons (ce_tup ca_nil) ca_nil)))) cs_nil)
  (cs_seq (cs_if (ct_test (ce_op od_eq ce_var ce_int)) (cs_ret (ce_call (ca_cons ce_int (ca_cons (ce_tup (ca_cons ce_int ca_nil)) ca_nil)))) cs_nil)
  (cs_seq (cs_if (ct_test (ce_op od_eq ce_var ce_int)) (cs_ret (ce_call (ca_cons ce_int (ca_cons (ce_tup (ca_cons (ce_tup (ca_cons ce_int (ca_cons ce_int ca_nil))) ca_nil)) ca_nil)))) cs_nil)
  (cs_seq (cs_if (ct_test (ce_op od_eq ce_var ce_int)) (cs_ret (ce_call (ca_cons ce_int (ca_cons (ce_tup (ca_cons (ce_tup (ca_cons ce_int (ca_cons ce_int ca_nil))) (ca_cons (ce_tup (ca_cons ce_int (ca_cons ce_int ca_nil))) ca_nil))) (ca_cons (ce_tup (ca_cons ce_int (ca_cons ce_int ca_nil))) ca_nil))))) cs_nil)
  (cs_seq (cs_if (ct_test (ce_op od_eq ce_var ce_int)) (cs_ret (ce_call (ca_cons ce_int (ca_cons (ce_tup ca_nil) ca_nil)))) cs_nil)
  (cs_seq (cs_if (ct_test (ce_op od_eq ce_var ce_int)) (cs_ret (ce_call (ca_cons ce_int (ca_cons (ce_tup (ca_cons ce_int (ca_cons ce_int (ca_cons ce_int ca_nil)))) ca_nil)))) cs_nil)
  (cs_seq (cs_if (ct_test (ce_op od_eq ce_var ce_int)) (cs_ret (ce_call (ca_cons ce_int (ca_cons (ce_tup (ca_cons ce_int (ca_cons ce_int ca_nil))) ca_nil)))) cs_nil)
  (cs_seq (cs_if (ct_test (ce_op od_eq ce_var ce_int)) (cs_ret (ce_call (ca_cons ce_int (ca_cons (ce_tup (ca_cons ce_int (ca_cons ce_int ca_nil))) (ca_cons (ce_tup (ca_cons (ce_tup (ca_cons ce_int (ca_cons ce_int ca_nil))) (ca_cons (ce_tup (ca_cons ce_int (ca_cons ce_int ca_nil))) ca_nil))) ca_nil))))) cs_nil)
  (cs_seq (cs_if (ct_test (ce_op od_eq ce_var ce_int)) (cs_ret (ce_call (ca_cons ce_int (ca_cons (ce_tup (ca_cons (ce_tup (ca_cons ce_int (ca_cons ce_int ca_nil))) (ca_cons (ce_tup (ca_cons ce_int (ca_cons ce_int ca_nil))) ca_nil))) (ca_cons ce_int ca_nil))))) cs_nil)
  (cs_ret (ce_if (ct_test (ce_op od_eq ce_var ce_int)) (ce_call (ca_cons ce_str ca_nil)) (ce_meth (by decide +kernel) (ce_cfo (cfo_make (ca_cons (ce_tup ca_nil) ca_nil))))))))))))))) h⟩
abbrev s_law : Stmt := topS 68
theorem sc_law : FnScope ["script", "mode", "found", "is_under", "line_here", "e", "at"] ["script"] (defScope s_law) := ⟨rfl, rfl, rfl, by decide +kernel, rfl, by decide +kernel, by decide +kernel⟩
theorem ok_law {f : Addr} {fd : FuncData} (F : Fun K "law" "law" s_law f fd) (b : Binds K fd ["script"] []) (g : mg "law" = some (.ref f)) (z_ValueError : mg "ValueError" = none) (z_isinstance : mg "isinstance" = none) (z_range : mg "range" = none) (x_EstimateError : ExF K mg ca "EstimateError") (x_HasEstimate : ExF K mg ca "HasEstimate") (x_InvalidEstimate : ExF K mg ca "InvalidEstimate") (x_InvalidNumber : ExF K mg ca "InvalidNumber") (x_InvalidPoints : ExF K mg ca "InvalidPoints") (x_InvalidQuantity : ExF K mg ca "InvalidQuantity") (x_InvalidTrials : ExF K mg ca "InvalidTrials") (x_IsHonest : ExF K mg ca "IsHonest") (x_NoEstimate : ExF K mg ca "NoEstimate") (x_NothingToUndo : ExF K mg ca "NothingToUndo") (x_TooMany : ExF K mg ca "TooMany") (yy : YF K ca ["InvalidTrials", "InvalidQuantity", "InvalidEstimate", "InvalidNumber", "InvalidPoints", "NoEstimate", "HasEstimate", "IsHonest", "TooMany", "ParseError", "NothingToUndo"] ["EstimateError", "InvalidTrials", "InvalidQuantity", "InvalidEstimate", "InvalidNumber", "InvalidPoints", "NoEstimate", "HasEstimate", "IsHonest", "TooMany", "ParseError", "NothingToUndo"]) (gP : mg "ParseError" = some (.ref (ca "ParseError"))) (c_law_cell : OkD P w K mg base ca "_law_cell" ["script", "k"] 1 m_law_cell) (c_law_raise : OkD P w K mg base ca "_law_raise" ["mode"] 9 m_law_raise) :
    FnOk P w K mg base (L2.CX P w) 10 f fd ["script"] (spD K ca 1 m_law) := by
  refine F.okX sc_law spD_len (fun cdv A outer s H vs Q E hr h => ?_)
  exact fin_ey (ca := ca) (E := E) (p := 1) (k := 6) (g := g_law) rfl (ey_cons (ps_set (i := 1) sc_law.nd rfl (Or.inr rfl) (pe_op op_mod (pe_callD (E := fun _ => E) c_law_cell (hr.mono (by decide)) (by rfl) (fun σ => passAt (takes_of rfl rfl rfl rfl) σ) (pa_cons (pv 0) (pa_cons pe_int pa_nil))) pe_int)) (cs_asg (i := 1) (ce_op od_mod (ce_call (ca_cons ce_var (ca_cons ce_int ca_nil))) ce_int))
  (ey_cons (ps_set (i := 2) sc_law.nd rfl (Or.inl rfl) (pe_lst pa_nil)) (cs_asg (i := 2) (ce_lst ca_nil))
  (ey_cons (ps_set (i := 3) sc_law.nd rfl (Or.inl rfl) pe_bl) (cs_asg (i := 3) ce_bl)
  (ey_cons (ps_set (i := 4) sc_law.nd rfl (Or.inl rfl) pe_str) (cs_asg (i := 4) ce_str)
  (ey_try (def_tryY (E := fun _ => E) (i := 5) (Cr := ["InvalidTrials", "InvalidQuantity", "InvalidEstimate", "InvalidNumber", "InvalidPoints", "NoEstimate", "HasEstimate", "IsHonest", "TooMany", "ParseError", "NothingToUndo"]) (Ct := ["EstimateError", "InvalidTrials", "InvalidQuantity", "InvalidEstimate", "InvalidNumber", "InvalidPoints", "NoEstimate", "HasEstimate", "IsHonest", "TooMany", "ParseError", "NothingToUndo"]) (hd := (fun c => (sSeq (sAsg 2 (xA dLst (isL (bnX c) ["InvalidTrials", "InvalidQuantity", "InvalidEstimate"]))) (sSeq (sAsg 2 (x2 dAddA (xV 2) (xA dLst (isL (bnX c) ["InvalidNumber", "InvalidPoints", "NoEstimate"])))) (sSeq (sAsg 2 (x2 dAddA (xV 2) (xA dLst (isL (bnX c) ["HasEstimate", "IsHonest", "TooMany"])))) (sSeq (sAsg 2 (x2 dAddA (xV 2) (xA dLst (isL (bnX c) ["ParseError", "NothingToUndo"])))) (sSeq (sAsg 3 (xC (.bool true))) (sAsg 4 (xIf (yBl (x2 dEq (xV 1) (xC (.int 9)))) (xLn c) (xC (.str (Str.ofString "none")))))))))))) (T := (fun C a d => (tSeq (tAsg (tLst (tIsY K ca C a d 5 ["InvalidTrials", "InvalidQuantity", "InvalidEstimate"])) (gName 2)) (tSeq (tAsg (tOp (rAddA K) (tVar 2) (tLst (tIsY K ca C a d 5 ["InvalidNumber", "InvalidPoints", "NoEstimate"]))) (gName 2)) (tSeq (tAsg (tOp (rAddA K) (tVar 2) (tLst (tIsY K ca C a d 5 ["HasEstimate", "IsHonest", "TooMany"]))) (gName 2)) (tSeq (tAsg (tOp (rAddA K) (tVar 2) (tLst (tIsY K ca C a d 5 ["ParseError", "NothingToUndo"]))) (gName 2)) (tSeq (tAsg (tCB (rIsY K C a d) (tCons (tVar 5) (tCons (tC (.ty "ValueError")) tNil))) (gName 3)) (tAsg (tIf (tTest (tOp (rEqD K) (tVar 1) (tC (.int 9)))) (tLn a C 5 d) (tC (.str (Str.ofString "none")))) (gName 4))))))))) rfl rfl sc_law.nd rfl rfl (takes_of rfl rfl rfl rfl) (fun W pn xe tk po => (pss_one (ps_expr (pe_callD (E := fun σ c d H => W c d σ H) c_law_raise (hr.mono (by decide)) (by rfl) (fun σ => passAt tk σ) (pa_cons (pv 1) pa_nil)))))
    (fun W => (ce_call (ca_cons ce_var ca_nil))) ⟨by rfl, by decide, Or.inl x_EstimateError.g⟩
    (fun a o k d pn hz hf => pss_clY (K := K) fun C hk hC hN => by
      subst hk
      exact (pss_cons (ps_set (i := 2) sc_law.nd rfl (Or.inl rfl) (pe_lst (pa_cons (pe_callB (call_isY hC hz hf) (by rfl) z_isinstance (by decide +kernel) (pa_cons (pv 5) (pa_cons (pe_glob (v := .ref (ca "InvalidTrials")) (by rfl) x_InvalidTrials.g rfl) pa_nil))) (pa_cons (pe_callB (call_isY hC hz hf) (by rfl) z_isinstance (by decide +kernel) (pa_cons (pv 5) (pa_cons (pe_glob (v := .ref (ca "InvalidQuantity")) (by rfl) x_InvalidQuantity.g rfl) pa_nil))) (pa_cons (pe_callB (call_isY hC hz hf) (by rfl) z_isinstance (by decide +kernel) (pa_cons (pv 5) (pa_cons (pe_glob (v := .ref (ca "InvalidEstimate")) (by rfl) x_InvalidEstimate.g rfl) pa_nil))) pa_nil))))) (pss_cons (ps_set (i := 2) sc_law.nd rfl (Or.inl rfl) (pe_op op_addA (pv 2) (pe_lst (pa_cons (pe_callB (call_isY hC hz hf) (by rfl) z_isinstance (by decide +kernel) (pa_cons (pv 5) (pa_cons (pe_glob (v := .ref (ca "InvalidNumber")) (by rfl) x_InvalidNumber.g rfl) pa_nil))) (pa_cons (pe_callB (call_isY hC hz hf) (by rfl) z_isinstance (by decide +kernel) (pa_cons (pv 5) (pa_cons (pe_glob (v := .ref (ca "InvalidPoints")) (by rfl) x_InvalidPoints.g rfl) pa_nil))) (pa_cons (pe_callB (call_isY hC hz hf) (by rfl) z_isinstance (by decide +kernel) (pa_cons (pv 5) (pa_cons (pe_glob (v := .ref (ca "NoEstimate")) (by rfl) x_NoEstimate.g rfl) pa_nil))) pa_nil)))))) (pss_cons (ps_set (i := 2) sc_law.nd rfl (Or.inl rfl) (pe_op op_addA (pv 2) (pe_lst (pa_cons (pe_callB (call_isY hC hz hf) (by rfl) z_isinstance (by decide +kernel) (pa_cons (pv 5) (pa_cons (pe_glob (v := .ref (ca "HasEstimate")) (by rfl) x_HasEstimate.g rfl) pa_nil))) (pa_cons (pe_callB (call_isY hC hz hf) (by rfl) z_isinstance (by decide +kernel) (pa_cons (pv 5) (pa_cons (pe_glob (v := .ref (ca "IsHonest")) (by rfl) x_IsHonest.g rfl) pa_nil))) (pa_cons (pe_callB (call_isY hC hz hf) (by rfl) z_isinstance (by decide +kernel) (pa_cons (pv 5) (pa_cons (pe_glob (v := .ref (ca "TooMany")) (by rfl) x_TooMany.g rfl) pa_nil))) pa_nil)))))) (pss_cons (ps_set (i := 2) sc_law.nd rfl (Or.inl rfl) (pe_op op_addA (pv 2) (pe_lst (pa_cons (pe_callB (call_isY hC hz hf) (by rfl) z_isinstance (by decide +kernel) (pa_cons (pv 5) (pa_cons (pe_glob (v := .ref (ca "ParseError")) (by rfl) gP rfl) pa_nil))) (pa_cons (pe_callB (call_isY hC hz hf) (by rfl) z_isinstance (by decide +kernel) (pa_cons (pv 5) (pa_cons (pe_glob (v := .ref (ca "NothingToUndo")) (by rfl) x_NothingToUndo.g rfl) pa_nil))) pa_nil))))) (pss_cons (ps_set (i := 3) sc_law.nd rfl (Or.inl rfl) (pe_callB (call_isY hC hz hf) (by rfl) z_isinstance (by decide +kernel) (pa_cons (pv 5) (pa_cons (pe_bltn (v := .ty "ValueError") (by rfl) z_ValueError (by decide +kernel) rfl) pa_nil)))) (pss_one (ps_set (i := 4) sc_law.nd rfl (Or.inl rfl) (pe_ifExp (pt_cmpR (show OpR _ _ (rEqD K) from op_eqD hr.units) (pv 1) pe_int (nomark _)) (pe_ln hC hN hz hf (pv 5) rfl) pe_str)))))))))
    yy
    (fun c hc a d v ln => (csq_seq (csq_asg (by decide) (ceq_lst (caq_isL (fun A hA => yy.k _ hc A ((by decide : ∀ A ∈ (["InvalidTrials", "InvalidQuantity", "InvalidEstimate"] : List String), A ∈ (["EstimateError", "InvalidTrials", "InvalidQuantity", "InvalidEstimate", "InvalidNumber", "InvalidPoints", "NoEstimate", "HasEstimate", "IsHonest", "TooMany", "ParseError", "NothingToUndo"] : List String)) A hA))))) (csq_seq (csq_asg (by decide) (ceq_op mn_PY (ca := ca) od_add (ceq_of (ca := ca) ce_var) (ceq_lst (caq_isL (fun A hA => yy.k _ hc A ((by decide : ∀ A ∈ (["InvalidNumber", "InvalidPoints", "NoEstimate"] : List String), A ∈ (["EstimateError", "InvalidTrials", "InvalidQuantity", "InvalidEstimate", "InvalidNumber", "InvalidPoints", "NoEstimate", "HasEstimate", "IsHonest", "TooMany", "ParseError", "NothingToUndo"] : List String)) A hA)))))) (csq_seq (csq_asg (by decide) (ceq_op mn_PY (ca := ca) od_add (ceq_of (ca := ca) ce_var) (ceq_lst (caq_isL (fun A hA => yy.k _ hc A ((by decide : ∀ A ∈ (["HasEstimate", "IsHonest", "TooMany"] : List String), A ∈ (["EstimateError", "InvalidTrials", "InvalidQuantity", "InvalidEstimate", "InvalidNumber", "InvalidPoints", "NoEstimate", "HasEstimate", "IsHonest", "TooMany", "ParseError", "NothingToUndo"] : List String)) A hA)))))) (csq_seq (csq_asg (by decide) (ceq_op mn_PY (ca := ca) od_add (ceq_of (ca := ca) ce_var) (ceq_lst (caq_isL (fun A hA => yy.k _ hc A ((by decide : ∀ A ∈ (["ParseError", "NothingToUndo"] : List String), A ∈ (["EstimateError", "InvalidTrials", "InvalidQuantity", "InvalidEstimate", "InvalidNumber", "InvalidPoints", "NoEstimate", "HasEstimate", "IsHonest", "TooMany", "ParseError", "NothingToUndo"] : List String)) A hA)))))) (csq_seq (csq_asg (by decide) (ceq_isY (fun u hu => hu) (yy.v _ hc))) (csq_asg (by decide) (ceq_if mn_PY (ceq_of (ca := ca) (ct_test (ce_op od_eq ce_var ce_int))) (ceq_ln ln) (ceq_of (ca := ca) ce_str))))))))) (by decide))
  (ey_rest (pss_one (ps_ret (pe_andT (pv 3) (pe_andT (pe_cmpR (op_eqD hr.units) (pv 4) (pe_ifExp (pt_cmpR (op_eqD hr.units) (pv 1) pe_int (nomark _)) pe_int pe_str) (nomark _)) (pe_one (pe_cmpR (op_eqD hr.units) (pv 2) (pe_lc (own := [("at", 6)]) (by rfl) sc_law.nd (pi_range1 (by rfl) z_range (pa_cons pe_int pa_nil)) (blkOk_by (own := [("at", 6)]) (N := ["script", "mode", "found", "is_under", "line_here", "e", "at"]) (sc := defScope s_law) (by decide +kernel)) (fun _ _ _ _ _ => by exact (pg_name (i := 6) sc_law.nd rfl (Or.inl rfl))) (fun _ _ _ _ _ => by exact pts_nil) (fun _ _ _ _ _ => by exact (pe_cmpR (op_eqD hr.units) (pv 6) (pv 1) (nomark _)))) (nomark _))))))) (cs_ret (ce_and ce_var (ce_and (ce_op od_eq ce_var (ce_if (ct_test (ce_op od_eq ce_var ce_int)) ce_int ce_str)) (ce_op od_eq ce_var (ce_lc (ci_rng1 (ca_cons ce_int ca_nil)) tg_name (by decide) ct_yes (ce_op od_eq ce_var ce_var)))))))))))) h
end
end HW
end
set_option Elab.async false
set_option linter.all false
set_option maxRecDepth 100000
set_option maxHeartbeats 4000000
namespace HW
open PySem PySem.Spec PyProof.Rows L2 HL HM
def spLaw (K : PySem.W.Frag) : Sp := fun vs H Q _ => ∃ (a : Addr) (ns : List Int), vs = [.ref a] ∧ SqL K H a (ns.map V.int) ∧ ns.length ≤ 63 ∧ ∀ H', Q (.bl true) H'
theorem dps_ints (K : PySem.W.Frag) (H : Hp) : ∀ ns : List Int, HL.DpAll K H (ns.map V.int) (ns.map PyData.int)
  | [] => .nil
  | n :: r => .cons (.int n) (dps_ints K H r)
theorem law_sp {K : PySem.W.Frag} {ca : String → Addr} : ∀ vs H Q E, spLaw K vs H Q E → spD K ca 1 m_law vs H Q E := fun vs H Q E h => by
  obtain ⟨a, ns, rfl, hS, hl, q⟩ := h
  refine ⟨H, [.list (ns.map .int)], Same.refl H, rfl, .cons (.lst hS (dps_ints K H ns)) .nil, ?_⟩
  rw [HN.law_true ns hl]
  intro v G' H' _ hv
  cases dp_bl hv
  exact q H'
theorem no_exc {P : Program} {w : World} {H : Hp} {s : Shared} {e : Value} {s' : Shared} (h : L2.CX P w [] H s (fun _ _ _ => False) e s') : False := by
  obtain ⟨_, _, _, _, _, _, _, _, _, _, _, _, z⟩ := h
  exact z
theorem all_mk {l : PySem.W.OpenLaw} {w : World} {K : PySem.W.Frag} {h : Heap} {mg : Str → Option Value} {fa : Addr} (X : K.In h) (G : h.Ns mainGlobals mg) (hfa : mg "law" = some (.ref fa))
    {C0 : Addr} (aC : PySem.W.nsIn K mainGlobals "Counter" = some (some (.ref C0)))
    (pg : PySem.W.plainGet K C0 Str.empty = true)
    (hd : PySem.W.hasDictIn K C0 = true)
    (po : PySem.W.plainOver K C0 = true)
    (sa : PySem.W.findIn K (.ref C0) "__setattr__" = some (some (.builtin "object.__setattr__")))
    (nq : PySem.W.findIn K (.ref C0) "quantity" = some none)
    (ns : PySem.W.findIn K (.ref C0) "steps" = some none)
    (nk : PySem.W.findIn K (.ref C0) "kept" = some none)
    (cha : PySem.W.findIn K (.ref C0) "__class__" = some (some (.builtin "object.__class__")))
    (chn : PySem.W.specialIn K (.builtin "object.__class__") "__get__" = some (some (.builtin "getset_descriptor.__get__")))
    (cht : PySem.W.takesIn K (.builtin "object.__class__") = some true)
    (chm : PySem.W.mroIn K C0 (.type "object") = some true)
    (cty : PySem.W.typeIn K (.ref C0) = some (.type "type"))
    (css : PySem.W.subIn K (.ref C0) (.ref C0) = some true)
    (cst : PySem.W.subIn K (.type "tuple") (.ref C0) = some false)
    (csr : PySem.W.subIn K (.type "str") (.ref C0) = some false)
    (cne : PySem.W.findIn K (.ref C0) "__ne__" = some (some (.builtin "object.__ne__")))
    (mk : PySem.W.makesIn K C0 = true)
    (kc : PySem.W.keepIn K (.ref C0) = true)
    {f0 : Addr} {od0 an0 : Option Addr} {sl0 : Array (Option Value)} {oc0 kV0 dc0 pm0 cd0 ct0 : Value}
    (a0 : PySem.W.nsIn K mainGlobals "_law_cell" = some (some (.ref f0)))
    (l0 : K.lookup f0 = some ⟨oc0, od0, .func (PySem.W.fnOf "_law_cell" "_law_cell" (defArgs s_law_cell) (defBody s_law_cell) (defScope s_law_cell) .none kV0 dc0 pm0 an0 cd0 ct0), sl0⟩) (c0 : PySem.W.codeIn K cd0 "_law_cell" = true) (k0 : PySem.W.keepIn K (.ref f0) = true)
    {f1 : Addr} {od1 an1 : Option Addr} {sl1 : Array (Option Value)} {oc1 kV1 dc1 pm1 cd1 ct1 : Value}
    (a1 : PySem.W.nsIn K mainGlobals "in_range" = some (some (.ref f1)))
    (l1 : K.lookup f1 = some ⟨oc1, od1, .func (PySem.W.fnOf "in_range" "in_range" (defArgs s_in_range) (defBody s_in_range) (defScope s_in_range) .none kV1 dc1 pm1 an1 cd1 ct1), sl1⟩) (c1 : PySem.W.codeIn K cd1 "in_range" = true) (k1 : PySem.W.keepIn K (.ref f1) = true)
    {f2 : Addr} {od2 an2 : Option Addr} {sl2 : Array (Option Value)} {oc2 kV2 dc2 pm2 cd2 ct2 : Value}
    (a2 : PySem.W.nsIn K mainGlobals "is_quantity" = some (some (.ref f2)))
    (l2 : K.lookup f2 = some ⟨oc2, od2, .func (PySem.W.fnOf "is_quantity" "is_quantity" (defArgs s_is_quantity) (defBody s_is_quantity) (defScope s_is_quantity) .none kV2 dc2 pm2 an2 cd2 ct2), sl2⟩) (c2 : PySem.W.codeIn K cd2 "is_quantity" = true) (k2 : PySem.W.keepIn K (.ref f2) = true)
    {f3 : Addr} {od3 an3 : Option Addr} {sl3 : Array (Option Value)} {oc3 kV3 dc3 pm3 cd3 ct3 : Value}
    (a3 : PySem.W.nsIn K mainGlobals "check_quantity" = some (some (.ref f3)))
    (l3 : K.lookup f3 = some ⟨oc3, od3, .func (PySem.W.fnOf "check_quantity" "check_quantity" (defArgs s_check_quantity) (defBody s_check_quantity) (defScope s_check_quantity) .none kV3 dc3 pm3 an3 cd3 ct3), sl3⟩) (c3 : PySem.W.codeIn K cd3 "check_quantity" = true) (k3 : PySem.W.keepIn K (.ref f3) = true)
    {f4 : Addr} {od4 an4 : Option Addr} {sl4 : Array (Option Value)} {oc4 kV4 dc4 pm4 cd4 ct4 : Value}
    (a4 : PySem.W.findIn K (.ref C0) "__init__" = some (some (.ref f4))) (i4 : PySem.W.isFn K (.ref f4) = true)
    (l4 : K.lookup f4 = some ⟨oc4, od4, .func (PySem.W.fnOf "__init__" "Counter.__init__" (defArgs s_C_init) (defBody s_C_init) (defScope s_C_init) .none kV4 dc4 pm4 an4 cd4 ct4), sl4⟩) (c4 : PySem.W.codeIn K cd4 "Counter.__init__" = true) (k4 : PySem.W.keepIn K (.ref f4) = true)
    {f5 : Addr} {od5 an5 : Option Addr} {sl5 : Array (Option Value)} {oc5 kV5 dc5 pm5 cd5 ct5 : Value}
    (a5 : PySem.W.findIn K (.ref C0) "undo" = some (some (.ref f5))) (i5 : PySem.W.isFn K (.ref f5) = true)
    (l5 : K.lookup f5 = some ⟨oc5, od5, .func (PySem.W.fnOf "undo" "Counter.undo" (defArgs s_C_undo) (defBody s_C_undo) (defScope s_C_undo) .none kV5 dc5 pm5 an5 cd5 ct5), sl5⟩) (c5 : PySem.W.codeIn K cd5 "Counter.undo" = true) (k5 : PySem.W.keepIn K (.ref f5) = true)
    {f6 : Addr} {od6 an6 : Option Addr} {sl6 : Array (Option Value)} {oc6 kV6 dc6 pm6 cd6 ct6 : Value}
    (a6 : PySem.W.nsIn K mainGlobals "choices" = some (some (.ref f6)))
    (l6 : K.lookup f6 = some ⟨oc6, od6, .func (PySem.W.fnOf "choices" "choices" (defArgs s_choices) (defBody s_choices) (defScope s_choices) .none kV6 dc6 pm6 an6 cd6 ct6), sl6⟩) (c6 : PySem.W.codeIn K cd6 "choices" = true) (k6 : PySem.W.keepIn K (.ref f6) = true)
    {f7 : Addr} {od7 an7 : Option Addr} {sl7 : Array (Option Value)} {oc7 kV7 dc7 pm7 cd7 ct7 : Value}
    (a7 : PySem.W.nsIn K mainGlobals "greatest_divisor" = some (some (.ref f7)))
    (l7 : K.lookup f7 = some ⟨oc7, od7, .func (PySem.W.fnOf "greatest_divisor" "greatest_divisor" (defArgs s_greatest_divisor) (defBody s_greatest_divisor) (defScope s_greatest_divisor) .none kV7 dc7 pm7 an7 cd7 ct7), sl7⟩) (c7 : PySem.W.codeIn K cd7 "greatest_divisor" = true) (k7 : PySem.W.keepIn K (.ref f7) = true)
    {f8 : Addr} {od8 an8 : Option Addr} {sl8 : Array (Option Value)} {oc8 kV8 dc8 pm8 cd8 ct8 : Value}
    (a8 : PySem.W.nsIn K mainGlobals "reduced" = some (some (.ref f8)))
    (l8 : K.lookup f8 = some ⟨oc8, od8, .func (PySem.W.fnOf "reduced" "reduced" (defArgs s_reduced) (defBody s_reduced) (defScope s_reduced) .none kV8 dc8 pm8 an8 cd8 ct8), sl8⟩) (c8 : PySem.W.codeIn K cd8 "reduced" = true) (k8 : PySem.W.keepIn K (.ref f8) = true)
    {f9 : Addr} {od9 an9 : Option Addr} {sl9 : Array (Option Value)} {oc9 kV9 dc9 pm9 cd9 ct9 : Value}
    (a9 : PySem.W.nsIn K mainGlobals "times" = some (some (.ref f9)))
    (l9 : K.lookup f9 = some ⟨oc9, od9, .func (PySem.W.fnOf "times" "times" (defArgs s_times) (defBody s_times) (defScope s_times) .none kV9 dc9 pm9 an9 cd9 ct9), sl9⟩) (c9 : PySem.W.codeIn K cd9 "times" = true) (k9 : PySem.W.keepIn K (.ref f9) = true)
    {f10 : Addr} {od10 an10 : Option Addr} {sl10 : Array (Option Value)} {oc10 kV10 dc10 pm10 cd10 ct10 : Value}
    (a10 : PySem.W.nsIn K mainGlobals "trimmed" = some (some (.ref f10)))
    (l10 : K.lookup f10 = some ⟨oc10, od10, .func (PySem.W.fnOf "trimmed" "trimmed" (defArgs s_trimmed) (defBody s_trimmed) (defScope s_trimmed) .none kV10 dc10 pm10 an10 cd10 ct10), sl10⟩) (c10 : PySem.W.codeIn K cd10 "trimmed" = true) (k10 : PySem.W.keepIn K (.ref f10) = true)
    {f11 : Addr} {od11 an11 : Option Addr} {sl11 : Array (Option Value)} {oc11 kV11 dc11 pm11 cd11 ct11 : Value}
    (a11 : PySem.W.nsIn K mainGlobals "multiple_of" = some (some (.ref f11)))
    (l11 : K.lookup f11 = some ⟨oc11, od11, .func (PySem.W.fnOf "multiple_of" "multiple_of" (defArgs s_multiple_of) (defBody s_multiple_of) (defScope s_multiple_of) .none kV11 dc11 pm11 an11 cd11 ct11), sl11⟩) (c11 : PySem.W.codeIn K cd11 "multiple_of" = true) (k11 : PySem.W.keepIn K (.ref f11) = true)
    {f12 : Addr} {od12 an12 : Option Addr} {sl12 : Array (Option Value)} {oc12 kV12 dc12 pm12 cd12 ct12 : Value}
    (a12 : PySem.W.nsIn K mainGlobals "plus" = some (some (.ref f12)))
    (l12 : K.lookup f12 = some ⟨oc12, od12, .func (PySem.W.fnOf "plus" "plus" (defArgs s_plus) (defBody s_plus) (defScope s_plus) .none kV12 dc12 pm12 an12 cd12 ct12), sl12⟩) (c12 : PySem.W.codeIn K cd12 "plus" = true) (k12 : PySem.W.keepIn K (.ref f12) = true)
    {f13 : Addr} {od13 an13 : Option Addr} {sl13 : Array (Option Value)} {oc13 kV13 dc13 pm13 cd13 ct13 : Value}
    (a13 : PySem.W.nsIn K mainGlobals "product_of" = some (some (.ref f13)))
    (l13 : K.lookup f13 = some ⟨oc13, od13, .func (PySem.W.fnOf "product_of" "product_of" (defArgs s_product_of) (defBody s_product_of) (defScope s_product_of) .none kV13 dc13 pm13 an13 cd13 ct13), sl13⟩) (c13 : PySem.W.codeIn K cd13 "product_of" = true) (k13 : PySem.W.keepIn K (.ref f13) = true)
    {f14 : Addr} {od14 an14 : Option Addr} {sl14 : Array (Option Value)} {oc14 kV14 dc14 pm14 cd14 ct14 : Value}
    (a14 : PySem.W.nsIn K mainGlobals "power_of" = some (some (.ref f14)))
    (l14 : K.lookup f14 = some ⟨oc14, od14, .func (PySem.W.fnOf "power_of" "power_of" (defArgs s_power_of) (defBody s_power_of) (defScope s_power_of) .none kV14 dc14 pm14 an14 cd14 ct14), sl14⟩) (c14 : PySem.W.codeIn K cd14 "power_of" = true) (k14 : PySem.W.keepIn K (.ref f14) = true)
    {f15 : Addr} {od15 an15 : Option Addr} {sl15 : Array (Option Value)} {oc15 kV15 dc15 pm15 cd15 ct15 : Value}
    (a15 : PySem.W.nsIn K mainGlobals "chance_of" = some (some (.ref f15)))
    (l15 : K.lookup f15 = some ⟨oc15, od15, .func (PySem.W.fnOf "chance_of" "chance_of" (defArgs s_chance_of) (defBody s_chance_of) (defScope s_chance_of) .none kV15 dc15 pm15 an15 cd15 ct15), sl15⟩) (c15 : PySem.W.codeIn K cd15 "chance_of" = true) (k15 : PySem.W.keepIn K (.ref f15) = true)
    {f16 : Addr} {od16 an16 : Option Addr} {sl16 : Array (Option Value)} {oc16 kV16 dc16 pm16 cd16 ct16 : Value}
    (a16 : PySem.W.nsIn K mainGlobals "sum_of" = some (some (.ref f16)))
    (l16 : K.lookup f16 = some ⟨oc16, od16, .func (PySem.W.fnOf "sum_of" "sum_of" (defArgs s_sum_of) (defBody s_sum_of) (defScope s_sum_of) .none kV16 dc16 pm16 an16 cd16 ct16), sl16⟩) (c16 : PySem.W.codeIn K cd16 "sum_of" = true) (k16 : PySem.W.keepIn K (.ref f16) = true)
    {f17 : Addr} {od17 an17 : Option Addr} {sl17 : Array (Option Value)} {oc17 kV17 dc17 pm17 cd17 ct17 : Value}
    (a17 : PySem.W.nsIn K mainGlobals "average_of" = some (some (.ref f17)))
    (l17 : K.lookup f17 = some ⟨oc17, od17, .func (PySem.W.fnOf "average_of" "average_of" (defArgs s_average_of) (defBody s_average_of) (defScope s_average_of) .none kV17 dc17 pm17 an17 cd17 ct17), sl17⟩) (c17 : PySem.W.codeIn K cd17 "average_of" = true) (k17 : PySem.W.keepIn K (.ref f17) = true)
    {f18 : Addr} {od18 an18 : Option Addr} {sl18 : Array (Option Value)} {oc18 kV18 dc18 pm18 cd18 ct18 : Value}
    (a18 : PySem.W.nsIn K mainGlobals "is_fraction" = some (some (.ref f18)))
    (l18 : K.lookup f18 = some ⟨oc18, od18, .func (PySem.W.fnOf "is_fraction" "is_fraction" (defArgs s_is_fraction) (defBody s_is_fraction) (defScope s_is_fraction) .none kV18 dc18 pm18 an18 cd18 ct18), sl18⟩) (c18 : PySem.W.codeIn K cd18 "is_fraction" = true) (k18 : PySem.W.keepIn K (.ref f18) = true)
    {f19 : Addr} {od19 an19 : Option Addr} {sl19 : Array (Option Value)} {oc19 kV19 dc19 pm19 cd19 ct19 : Value}
    (a19 : PySem.W.nsIn K mainGlobals "are_values" = some (some (.ref f19)))
    (l19 : K.lookup f19 = some ⟨oc19, od19, .func (PySem.W.fnOf "are_values" "are_values" (defArgs s_are_values) (defBody s_are_values) (defScope s_are_values) .none kV19 dc19 pm19 an19 cd19 ct19), sl19⟩) (c19 : PySem.W.codeIn K cd19 "are_values" = true) (k19 : PySem.W.keepIn K (.ref f19) = true)
    {f20 : Addr} {od20 an20 : Option Addr} {sl20 : Array (Option Value)} {oc20 kV20 dc20 pm20 cd20 ct20 : Value}
    (a20 : PySem.W.nsIn K mainGlobals "check_trials" = some (some (.ref f20)))
    (l20 : K.lookup f20 = some ⟨oc20, od20, .func (PySem.W.fnOf "check_trials" "check_trials" (defArgs s_check_trials) (defBody s_check_trials) (defScope s_check_trials) .none kV20 dc20 pm20 an20 cd20 ct20), sl20⟩) (c20 : PySem.W.codeIn K cd20 "check_trials" = true) (k20 : PySem.W.keepIn K (.ref f20) = true)
    {f21 : Addr} {od21 an21 : Option Addr} {sl21 : Array (Option Value)} {oc21 kV21 dc21 pm21 cd21 ct21 : Value}
    (a21 : PySem.W.nsIn K mainGlobals "check_estimate" = some (some (.ref f21)))
    (l21 : K.lookup f21 = some ⟨oc21, od21, .func (PySem.W.fnOf "check_estimate" "check_estimate" (defArgs s_check_estimate) (defBody s_check_estimate) (defScope s_check_estimate) .none kV21 dc21 pm21 an21 cd21 ct21), sl21⟩) (c21 : PySem.W.codeIn K cd21 "check_estimate" = true) (k21 : PySem.W.keepIn K (.ref f21) = true)
    {f22 : Addr} {od22 an22 : Option Addr} {sl22 : Array (Option Value)} {oc22 kV22 dc22 pm22 cd22 ct22 : Value}
    (a22 : PySem.W.nsIn K mainGlobals "average" = some (some (.ref f22)))
    (l22 : K.lookup f22 = some ⟨oc22, od22, .func (PySem.W.fnOf "average" "average" (defArgs s_average) (defBody s_average) (defScope s_average) .none kV22 dc22 pm22 an22 cd22 ct22), sl22⟩) (c22 : PySem.W.codeIn K cd22 "average" = true) (k22 : PySem.W.keepIn K (.ref f22) = true)
    {f23 : Addr} {od23 an23 : Option Addr} {sl23 : Array (Option Value)} {oc23 kV23 dc23 pm23 cd23 ct23 : Value}
    (a23 : PySem.W.nsIn K mainGlobals "is_chance" = some (some (.ref f23)))
    (l23 : K.lookup f23 = some ⟨oc23, od23, .func (PySem.W.fnOf "is_chance" "is_chance" (defArgs s_is_chance) (defBody s_is_chance) (defScope s_is_chance) .none kV23 dc23 pm23 an23 cd23 ct23), sl23⟩) (c23 : PySem.W.codeIn K cd23 "is_chance" = true) (k23 : PySem.W.keepIn K (.ref f23) = true)
    {f24 : Addr} {od24 an24 : Option Addr} {sl24 : Array (Option Value)} {oc24 kV24 dc24 pm24 cd24 ct24 : Value}
    (a24 : PySem.W.nsIn K mainGlobals "check_chance" = some (some (.ref f24)))
    (l24 : K.lookup f24 = some ⟨oc24, od24, .func (PySem.W.fnOf "check_chance" "check_chance" (defArgs s_check_chance) (defBody s_check_chance) (defScope s_check_chance) .none kV24 dc24 pm24 an24 cd24 ct24), sl24⟩) (c24 : PySem.W.codeIn K cd24 "check_chance" = true) (k24 : PySem.W.keepIn K (.ref f24) = true)
    {f25 : Addr} {od25 an25 : Option Addr} {sl25 : Array (Option Value)} {oc25 kV25 dc25 pm25 cd25 ct25 : Value}
    (a25 : PySem.W.nsIn K mainGlobals "value_at" = some (some (.ref f25)))
    (l25 : K.lookup f25 = some ⟨oc25, od25, .func (PySem.W.fnOf "value_at" "value_at" (defArgs s_value_at) (defBody s_value_at) (defScope s_value_at) .none kV25 dc25 pm25 an25 cd25 ct25), sl25⟩) (c25 : PySem.W.codeIn K cd25 "value_at" = true) (k25 : PySem.W.keepIn K (.ref f25) = true)
    {f26 : Addr} {od26 an26 : Option Addr} {sl26 : Array (Option Value)} {oc26 kV26 dc26 pm26 cd26 ct26 : Value}
    (a26 : PySem.W.nsIn K mainGlobals "average_at" = some (some (.ref f26)))
    (l26 : K.lookup f26 = some ⟨oc26, od26, .func (PySem.W.fnOf "average_at" "average_at" (defArgs s_average_at) (defBody s_average_at) (defScope s_average_at) .none kV26 dc26 pm26 an26 cd26 ct26), sl26⟩) (c26 : PySem.W.codeIn K cd26 "average_at" = true) (k26 : PySem.W.keepIn K (.ref f26) = true)
    {f27 : Addr} {od27 an27 : Option Addr} {sl27 : Array (Option Value)} {oc27 kV27 dc27 pm27 cd27 ct27 : Value}
    (a27 : PySem.W.nsIn K mainGlobals "polynomial_of" = some (some (.ref f27)))
    (l27 : K.lookup f27 = some ⟨oc27, od27, .func (PySem.W.fnOf "polynomial_of" "polynomial_of" (defArgs s_polynomial_of) (defBody s_polynomial_of) (defScope s_polynomial_of) .none kV27 dc27 pm27 an27 cd27 ct27), sl27⟩) (c27 : PySem.W.codeIn K cd27 "polynomial_of" = true) (k27 : PySem.W.keepIn K (.ref f27) = true)
    {f28 : Addr} {od28 an28 : Option Addr} {sl28 : Array (Option Value)} {oc28 kV28 dc28 pm28 cd28 ct28 : Value}
    (a28 : PySem.W.nsIn K mainGlobals "failing_chance" = some (some (.ref f28)))
    (l28 : K.lookup f28 = some ⟨oc28, od28, .func (PySem.W.fnOf "failing_chance" "failing_chance" (defArgs s_failing_chance) (defBody s_failing_chance) (defScope s_failing_chance) .none kV28 dc28 pm28 an28 cd28 ct28), sl28⟩) (c28 : PySem.W.codeIn K cd28 "failing_chance" = true) (k28 : PySem.W.keepIn K (.ref f28) = true)
    {f29 : Addr} {od29 an29 : Option Addr} {sl29 : Array (Option Value)} {oc29 kV29 dc29 pm29 cd29 ct29 : Value}
    (a29 : PySem.W.nsIn K mainGlobals "check_points" = some (some (.ref f29)))
    (l29 : K.lookup f29 = some ⟨oc29, od29, .func (PySem.W.fnOf "check_points" "check_points" (defArgs s_check_points) (defBody s_check_points) (defScope s_check_points) .none kV29 dc29 pm29 an29 cd29 ct29), sl29⟩) (c29 : PySem.W.codeIn K cd29 "check_points" = true) (k29 : PySem.W.keepIn K (.ref f29) = true)
    {f30 : Addr} {od30 an30 : Option Addr} {sl30 : Array (Option Value)} {oc30 kV30 dc30 pm30 cd30 ct30 : Value}
    (a30 : PySem.W.nsIn K mainGlobals "divided" = some (some (.ref f30)))
    (l30 : K.lookup f30 = some ⟨oc30, od30, .func (PySem.W.fnOf "divided" "divided" (defArgs s_divided) (defBody s_divided) (defScope s_divided) .none kV30 dc30 pm30 an30 cd30 ct30), sl30⟩) (c30 : PySem.W.codeIn K cd30 "divided" = true) (k30 : PySem.W.keepIn K (.ref f30) = true)
    {f31 : Addr} {od31 an31 : Option Addr} {sl31 : Array (Option Value)} {oc31 kV31 dc31 pm31 cd31 ct31 : Value}
    (a31 : PySem.W.nsIn K mainGlobals "falling" = some (some (.ref f31)))
    (l31 : K.lookup f31 = some ⟨oc31, od31, .func (PySem.W.fnOf "falling" "falling" (defArgs s_falling) (defBody s_falling) (defScope s_falling) .none kV31 dc31 pm31 an31 cd31 ct31), sl31⟩) (c31 : PySem.W.codeIn K cd31 "falling" = true) (k31 : PySem.W.keepIn K (.ref f31) = true)
    {f32 : Addr} {od32 an32 : Option Addr} {sl32 : Array (Option Value)} {oc32 kV32 dc32 pm32 cd32 ct32 : Value}
    (a32 : PySem.W.nsIn K mainGlobals "total" = some (some (.ref f32)))
    (l32 : K.lookup f32 = some ⟨oc32, od32, .func (PySem.W.fnOf "total" "total" (defArgs s_total) (defBody s_total) (defScope s_total) .none kV32 dc32 pm32 an32 cd32 ct32), sl32⟩) (c32 : PySem.W.codeIn K cd32 "total" = true) (k32 : PySem.W.keepIn K (.ref f32) = true)
    {f33 : Addr} {od33 an33 : Option Addr} {sl33 : Array (Option Value)} {oc33 kV33 dc33 pm33 cd33 ct33 : Value}
    (a33 : PySem.W.nsIn K mainGlobals "honest_of" = some (some (.ref f33)))
    (l33 : K.lookup f33 = some ⟨oc33, od33, .func (PySem.W.fnOf "honest_of" "honest_of" (defArgs s_honest_of) (defBody s_honest_of) (defScope s_honest_of) .none kV33 dc33 pm33 an33 cd33 ct33), sl33⟩) (c33 : PySem.W.codeIn K cd33 "honest_of" = true) (k33 : PySem.W.keepIn K (.ref f33) = true)
    {f34 : Addr} {od34 an34 : Option Addr} {sl34 : Array (Option Value)} {oc34 kV34 dc34 pm34 cd34 ct34 : Value}
    (a34 : PySem.W.nsIn K mainGlobals "minus" = some (some (.ref f34)))
    (l34 : K.lookup f34 = some ⟨oc34, od34, .func (PySem.W.fnOf "minus" "minus" (defArgs s_minus) (defBody s_minus) (defScope s_minus) .none kV34 dc34 pm34 an34 cd34 ct34), sl34⟩) (c34 : PySem.W.codeIn K cd34 "minus" = true) (k34 : PySem.W.keepIn K (.ref f34) = true)
    {f35 : Addr} {od35 an35 : Option Addr} {sl35 : Array (Option Value)} {oc35 kV35 dc35 pm35 cd35 ct35 : Value}
    (a35 : PySem.W.nsIn K mainGlobals "from_averages" = some (some (.ref f35)))
    (l35 : K.lookup f35 = some ⟨oc35, od35, .func (PySem.W.fnOf "from_averages" "from_averages" (defArgs s_from_averages) (defBody s_from_averages) (defScope s_from_averages) .none kV35 dc35 pm35 an35 cd35 ct35), sl35⟩) (c35 : PySem.W.codeIn K cd35 "from_averages" = true) (k35 : PySem.W.keepIn K (.ref f35) = true)
    {f36 : Addr} {od36 an36 : Option Addr} {sl36 : Array (Option Value)} {oc36 kV36 dc36 pm36 cd36 ct36 : Value}
    (a36 : PySem.W.nsIn K mainGlobals "honest" = some (some (.ref f36)))
    (l36 : K.lookup f36 = some ⟨oc36, od36, .func (PySem.W.fnOf "honest" "honest" (defArgs s_honest) (defBody s_honest) (defScope s_honest) .none kV36 dc36 pm36 an36 cd36 ct36), sl36⟩) (c36 : PySem.W.codeIn K cd36 "honest" = true) (k36 : PySem.W.keepIn K (.ref f36) = true)
    {f37 : Addr} {od37 an37 : Option Addr} {sl37 : Array (Option Value)} {oc37 kV37 dc37 pm37 cd37 ct37 : Value}
    (a37 : PySem.W.nsIn K mainGlobals "more_trials" = some (some (.ref f37)))
    (l37 : K.lookup f37 = some ⟨oc37, od37, .func (PySem.W.fnOf "more_trials" "more_trials" (defArgs s_more_trials) (defBody s_more_trials) (defScope s_more_trials) .none kV37 dc37 pm37 an37 cd37 ct37), sl37⟩) (c37 : PySem.W.codeIn K cd37 "more_trials" = true) (k37 : PySem.W.keepIn K (.ref f37) = true)
    {f38 : Addr} {od38 an38 : Option Addr} {sl38 : Array (Option Value)} {oc38 kV38 dc38 pm38 cd38 ct38 : Value}
    (a38 : PySem.W.nsIn K mainGlobals "paper_of" = some (some (.ref f38)))
    (l38 : K.lookup f38 = some ⟨oc38, od38, .func (PySem.W.fnOf "paper_of" "paper_of" (defArgs s_paper_of) (defBody s_paper_of) (defScope s_paper_of) .none kV38 dc38 pm38 an38 cd38 ct38), sl38⟩) (c38 : PySem.W.codeIn K cd38 "paper_of" = true) (k38 : PySem.W.keepIn K (.ref f38) = true)
    {f39 : Addr} {od39 an39 : Option Addr} {sl39 : Array (Option Value)} {oc39 kV39 dc39 pm39 cd39 ct39 : Value}
    (a39 : PySem.W.nsIn K mainGlobals "paper" = some (some (.ref f39)))
    (l39 : K.lookup f39 = some ⟨oc39, od39, .func (PySem.W.fnOf "paper" "paper" (defArgs s_paper) (defBody s_paper) (defScope s_paper) .none kV39 dc39 pm39 an39 cd39 ct39), sl39⟩) (c39 : PySem.W.codeIn K cd39 "paper" = true) (k39 : PySem.W.keepIn K (.ref f39) = true)
    {f40 : Addr} {od40 an40 : Option Addr} {sl40 : Array (Option Value)} {oc40 kV40 dc40 pm40 cd40 ct40 : Value}
    {C_ParseError : Addr} (a40 : PySem.W.findIn K (.ref C_ParseError) "__init__" = some (some (.ref f40))) (i40 : PySem.W.typeIn K (.ref f40) = some (.type "function"))
    (l40 : K.lookup f40 = some ⟨oc40, od40, .func (PySem.W.fnOf "__init__" "ParseError.__init__" (defArgs s_PI) (defBody s_PI) (defScope s_PI) .none kV40 dc40 pm40 an40 cd40 ct40), sl40⟩) (c40 : PySem.W.codeIn K cd40 "ParseError.__init__" = true) (k40 : PySem.W.keepIn K (.ref f40) = true)
    {f41 : Addr} {od41 an41 : Option Addr} {sl41 : Array (Option Value)} {oc41 kV41 dc41 pm41 cd41 ct41 : Value}
    (a41 : PySem.W.nsIn K mainGlobals "parse_integer" = some (some (.ref f41)))
    (l41 : K.lookup f41 = some ⟨oc41, od41, .func (PySem.W.fnOf "parse_integer" "parse_integer" (defArgs s_parse_integer) (defBody s_parse_integer) (defScope s_parse_integer) .none kV41 dc41 pm41 an41 cd41 ct41), sl41⟩) (c41 : PySem.W.codeIn K cd41 "parse_integer" = true) (k41 : PySem.W.keepIn K (.ref f41) = true)
    {f42 : Addr} {od42 an42 : Option Addr} {sl42 : Array (Option Value)} {oc42 kV42 dc42 pm42 cd42 ct42 : Value}
    (a42 : PySem.W.nsIn K mainGlobals "parse_fraction" = some (some (.ref f42)))
    (l42 : K.lookup f42 = some ⟨oc42, od42, .func (PySem.W.fnOf "parse_fraction" "parse_fraction" (defArgs s_parse_fraction) (defBody s_parse_fraction) (defScope s_parse_fraction) .none kV42 dc42 pm42 an42 cd42 ct42), sl42⟩) (c42 : PySem.W.codeIn K cd42 "parse_fraction" = true) (k42 : PySem.W.keepIn K (.ref f42) = true)
    {f43 : Addr} {od43 an43 : Option Addr} {sl43 : Array (Option Value)} {oc43 kV43 dc43 pm43 cd43 ct43 : Value}
    (a43 : PySem.W.nsIn K mainGlobals "parse_estimate" = some (some (.ref f43)))
    (l43 : K.lookup f43 = some ⟨oc43, od43, .func (PySem.W.fnOf "parse_estimate" "parse_estimate" (defArgs s_parse_estimate) (defBody s_parse_estimate) (defScope s_parse_estimate) .none kV43 dc43 pm43 an43 cd43 ct43), sl43⟩) (c43 : PySem.W.codeIn K cd43 "parse_estimate" = true) (k43 : PySem.W.keepIn K (.ref f43) = true)
    {f44 : Addr} {od44 an44 : Option Addr} {sl44 : Array (Option Value)} {oc44 kV44 dc44 pm44 cd44 ct44 : Value}
    (a44 : PySem.W.nsIn K mainGlobals "_law_raise" = some (some (.ref f44)))
    (l44 : K.lookup f44 = some ⟨oc44, od44, .func (PySem.W.fnOf "_law_raise" "_law_raise" (defArgs s_law_raise) (defBody s_law_raise) (defScope s_law_raise) .none kV44 dc44 pm44 an44 cd44 ct44), sl44⟩) (c44 : PySem.W.codeIn K cd44 "_law_raise" = true) (k44 : PySem.W.keepIn K (.ref f44) = true)
    {f45 : Addr} {od45 an45 : Option Addr} {sl45 : Array (Option Value)} {oc45 kV45 dc45 pm45 cd45 ct45 : Value}
    (a45 : PySem.W.nsIn K mainGlobals "law" = some (some (.ref f45)))
    (l45 : K.lookup f45 = some ⟨oc45, od45, .func (PySem.W.fnOf "law" "law" (defArgs s_law) (defBody s_law) (defScope s_law) .none kV45 dc45 pm45 an45 cd45 ct45), sl45⟩) (c45 : PySem.W.codeIn K cd45 "law" = true) (k45 : PySem.W.keepIn K (.ref f45) = true)
    (z_ValueError : PySem.W.nsIn K mainGlobals "ValueError" = some none)
    (z_abs : PySem.W.nsIn K mainGlobals "abs" = some none)
    (z_bool : PySem.W.nsIn K mainGlobals "bool" = some none)
    (z_enumerate : PySem.W.nsIn K mainGlobals "enumerate" = some none)
    (z_int : PySem.W.nsIn K mainGlobals "int" = some none)
    (z_isinstance : PySem.W.nsIn K mainGlobals "isinstance" = some none)
    (z_len : PySem.W.nsIn K mainGlobals "len" = some none)
    (z_list : PySem.W.nsIn K mainGlobals "list" = some none)
    (z_max : PySem.W.nsIn K mainGlobals "max" = some none)
    (z_range : PySem.W.nsIn K mainGlobals "range" = some none)
    (z_str : PySem.W.nsIn K mainGlobals "str" = some none)
    (z_tuple : PySem.W.nsIn K mainGlobals "tuple" = some none)
    (z_zip : PySem.W.nsIn K mainGlobals "zip" = some none)
    {t_DIGITS : Tok} (k_DIGITS : PySem.W.nsIn K mainGlobals "DIGITS" = some (some (.str (Str.ofString "0123456789") t_DIGITS)))
    {t_MAX_DEGREE : Tok} (k_MAX_DEGREE : PySem.W.nsIn K mainGlobals "MAX_DEGREE" = some (some (.int 8 t_MAX_DEGREE)))
    {t_MAX_PART : Tok} (k_MAX_PART : PySem.W.nsIn K mainGlobals "MAX_PART" = some (some (.int 99999 t_MAX_PART)))
    {t_MAX_TRIALS : Tok} (k_MAX_TRIALS : PySem.W.nsIn K mainGlobals "MAX_TRIALS" = some (some (.int 6 t_MAX_TRIALS)))
    {C_EstimateError : Addr} (eg_EstimateError : PySem.W.nsIn K mainGlobals "EstimateError" = some (some (.ref C_EstimateError))) (ex_EstimateError : PySem.W.excIn K C_EstimateError [.type "ValueError", .type "Exception", .type "BaseException", .type "object"] "ValueError.__new__" = true) (ek_EstimateError : PySem.W.keepIn K (.ref C_EstimateError) = true) (eb_EstimateError : PySem.W.subIn K (.ref C_EstimateError) (.type "BaseException") = some true) (et_EstimateError : PySem.W.typeIn K (.ref C_EstimateError) = some (.type "type"))
    {C_HasEstimate : Addr} (eg_HasEstimate : PySem.W.nsIn K mainGlobals "HasEstimate" = some (some (.ref C_HasEstimate))) (ex_HasEstimate : PySem.W.excIn K C_HasEstimate [.type "ValueError", .type "Exception", .type "BaseException", .type "object"] "ValueError.__new__" = true) (ek_HasEstimate : PySem.W.keepIn K (.ref C_HasEstimate) = true) (eb_HasEstimate : PySem.W.subIn K (.ref C_HasEstimate) (.type "BaseException") = some true) (et_HasEstimate : PySem.W.typeIn K (.ref C_HasEstimate) = some (.type "type"))
    {C_InvalidEstimate : Addr} (eg_InvalidEstimate : PySem.W.nsIn K mainGlobals "InvalidEstimate" = some (some (.ref C_InvalidEstimate))) (ex_InvalidEstimate : PySem.W.excIn K C_InvalidEstimate [.type "ValueError", .type "Exception", .type "BaseException", .type "object"] "ValueError.__new__" = true) (ek_InvalidEstimate : PySem.W.keepIn K (.ref C_InvalidEstimate) = true) (eb_InvalidEstimate : PySem.W.subIn K (.ref C_InvalidEstimate) (.type "BaseException") = some true) (et_InvalidEstimate : PySem.W.typeIn K (.ref C_InvalidEstimate) = some (.type "type"))
    {C_InvalidNumber : Addr} (eg_InvalidNumber : PySem.W.nsIn K mainGlobals "InvalidNumber" = some (some (.ref C_InvalidNumber))) (ex_InvalidNumber : PySem.W.excIn K C_InvalidNumber [.type "ValueError", .type "Exception", .type "BaseException", .type "object"] "ValueError.__new__" = true) (ek_InvalidNumber : PySem.W.keepIn K (.ref C_InvalidNumber) = true) (eb_InvalidNumber : PySem.W.subIn K (.ref C_InvalidNumber) (.type "BaseException") = some true) (et_InvalidNumber : PySem.W.typeIn K (.ref C_InvalidNumber) = some (.type "type"))
    {C_InvalidPoints : Addr} (eg_InvalidPoints : PySem.W.nsIn K mainGlobals "InvalidPoints" = some (some (.ref C_InvalidPoints))) (ex_InvalidPoints : PySem.W.excIn K C_InvalidPoints [.type "ValueError", .type "Exception", .type "BaseException", .type "object"] "ValueError.__new__" = true) (ek_InvalidPoints : PySem.W.keepIn K (.ref C_InvalidPoints) = true) (eb_InvalidPoints : PySem.W.subIn K (.ref C_InvalidPoints) (.type "BaseException") = some true) (et_InvalidPoints : PySem.W.typeIn K (.ref C_InvalidPoints) = some (.type "type"))
    {C_InvalidQuantity : Addr} (eg_InvalidQuantity : PySem.W.nsIn K mainGlobals "InvalidQuantity" = some (some (.ref C_InvalidQuantity))) (ex_InvalidQuantity : PySem.W.excIn K C_InvalidQuantity [.type "ValueError", .type "Exception", .type "BaseException", .type "object"] "ValueError.__new__" = true) (ek_InvalidQuantity : PySem.W.keepIn K (.ref C_InvalidQuantity) = true) (eb_InvalidQuantity : PySem.W.subIn K (.ref C_InvalidQuantity) (.type "BaseException") = some true) (et_InvalidQuantity : PySem.W.typeIn K (.ref C_InvalidQuantity) = some (.type "type"))
    {C_InvalidTrials : Addr} (eg_InvalidTrials : PySem.W.nsIn K mainGlobals "InvalidTrials" = some (some (.ref C_InvalidTrials))) (ex_InvalidTrials : PySem.W.excIn K C_InvalidTrials [.type "ValueError", .type "Exception", .type "BaseException", .type "object"] "ValueError.__new__" = true) (ek_InvalidTrials : PySem.W.keepIn K (.ref C_InvalidTrials) = true) (eb_InvalidTrials : PySem.W.subIn K (.ref C_InvalidTrials) (.type "BaseException") = some true) (et_InvalidTrials : PySem.W.typeIn K (.ref C_InvalidTrials) = some (.type "type"))
    {C_IsHonest : Addr} (eg_IsHonest : PySem.W.nsIn K mainGlobals "IsHonest" = some (some (.ref C_IsHonest))) (ex_IsHonest : PySem.W.excIn K C_IsHonest [.type "ValueError", .type "Exception", .type "BaseException", .type "object"] "ValueError.__new__" = true) (ek_IsHonest : PySem.W.keepIn K (.ref C_IsHonest) = true) (eb_IsHonest : PySem.W.subIn K (.ref C_IsHonest) (.type "BaseException") = some true) (et_IsHonest : PySem.W.typeIn K (.ref C_IsHonest) = some (.type "type"))
    {C_NoEstimate : Addr} (eg_NoEstimate : PySem.W.nsIn K mainGlobals "NoEstimate" = some (some (.ref C_NoEstimate))) (ex_NoEstimate : PySem.W.excIn K C_NoEstimate [.type "ValueError", .type "Exception", .type "BaseException", .type "object"] "ValueError.__new__" = true) (ek_NoEstimate : PySem.W.keepIn K (.ref C_NoEstimate) = true) (eb_NoEstimate : PySem.W.subIn K (.ref C_NoEstimate) (.type "BaseException") = some true) (et_NoEstimate : PySem.W.typeIn K (.ref C_NoEstimate) = some (.type "type"))
    {C_NothingToUndo : Addr} (eg_NothingToUndo : PySem.W.nsIn K mainGlobals "NothingToUndo" = some (some (.ref C_NothingToUndo))) (ex_NothingToUndo : PySem.W.excIn K C_NothingToUndo [.type "ValueError", .type "Exception", .type "BaseException", .type "object"] "ValueError.__new__" = true) (ek_NothingToUndo : PySem.W.keepIn K (.ref C_NothingToUndo) = true) (eb_NothingToUndo : PySem.W.subIn K (.ref C_NothingToUndo) (.type "BaseException") = some true) (et_NothingToUndo : PySem.W.typeIn K (.ref C_NothingToUndo) = some (.type "type"))
    {C_TooMany : Addr} (eg_TooMany : PySem.W.nsIn K mainGlobals "TooMany" = some (some (.ref C_TooMany))) (ex_TooMany : PySem.W.excIn K C_TooMany [.type "ValueError", .type "Exception", .type "BaseException", .type "object"] "ValueError.__new__" = true) (ek_TooMany : PySem.W.keepIn K (.ref C_TooMany) = true) (eb_TooMany : PySem.W.subIn K (.ref C_TooMany) (.type "BaseException") = some true) (et_TooMany : PySem.W.typeIn K (.ref C_TooMany) = some (.type "type"))
    {pnm pq : Str} {pN : Addr} {pbs pbm : List Value} {psn : List Str} {psub : List Value} {pab : Bool} {pcol : Option Bool} {pdd : Option Addr} {pk0 pk1 pk2 pk3 pk5 : Option Value}
    (pgP : PySem.W.nsIn K mainGlobals "ParseError" = some (some (.ref C_ParseError)))
    (pL : K.lookup C_ParseError = some (excClassObj pnm pq C_ParseError pN pbs pbm true psn psub pab pcol pdd pk0 pk1 pk2 pk3 pk5 "ValueError.__new__"))
    (pV : PySem.HandSPX.refsVE pbm = true)
    (pSa : PySem.W.findIn K (.ref C_ParseError) "__setattr__" = some (some (.builtin "object.__setattr__")))
    (pB : PySem.W.subIn K (.ref C_ParseError) (.type "BaseException") = some true)
    (pT : PySem.W.typeIn K (.ref C_ParseError) = some (.type "type"))
    (pK : PySem.W.keepIn K (.ref C_ParseError) = true)
    (pNl : PySem.W.findIn K (.ref C_ParseError) "line" = some none)
    (pEga : PySem.W.specialIn K (.ref C_EstimateError) "__getattribute__" = some (some (.builtin "type.__getattribute__")))
    (pErd : PySem.W.readsIn K C_EstimateError (.type "type") = true)
    (pEfi : PySem.W.findCls K (.ref C_EstimateError) (.type "type") "__init__" = some (.val (.builtin "ValueError.__init__")))
    (ec_InvalidTrials : ExcC K C_InvalidTrials)
    (ec_InvalidQuantity : ExcC K C_InvalidQuantity)
    (ec_InvalidEstimate : ExcC K C_InvalidEstimate)
    (ec_InvalidNumber : ExcC K C_InvalidNumber)
    (ec_InvalidPoints : ExcC K C_InvalidPoints)
    (ec_NoEstimate : ExcC K C_NoEstimate)
    (ec_HasEstimate : ExcC K C_HasEstimate)
    (ec_IsHonest : ExcC K C_IsHonest)
    (ec_TooMany : ExcC K C_TooMany)
    (ec_ParseError : ExcC K C_ParseError)
    (ec_NothingToUndo : ExcC K C_NothingToUndo)
    (ev_InvalidTrials : PySem.W.subIn K (.ref C_InvalidTrials) (.type "ValueError") = some true)
    (ev_InvalidQuantity : PySem.W.subIn K (.ref C_InvalidQuantity) (.type "ValueError") = some true)
    (ev_InvalidEstimate : PySem.W.subIn K (.ref C_InvalidEstimate) (.type "ValueError") = some true)
    (ev_InvalidNumber : PySem.W.subIn K (.ref C_InvalidNumber) (.type "ValueError") = some true)
    (ev_InvalidPoints : PySem.W.subIn K (.ref C_InvalidPoints) (.type "ValueError") = some true)
    (ev_NoEstimate : PySem.W.subIn K (.ref C_NoEstimate) (.type "ValueError") = some true)
    (ev_HasEstimate : PySem.W.subIn K (.ref C_HasEstimate) (.type "ValueError") = some true)
    (ev_IsHonest : PySem.W.subIn K (.ref C_IsHonest) (.type "ValueError") = some true)
    (ev_TooMany : PySem.W.subIn K (.ref C_TooMany) (.type "ValueError") = some true)
    (ev_ParseError : PySem.W.subIn K (.ref C_ParseError) (.type "ValueError") = some true)
    (ev_NothingToUndo : PySem.W.subIn K (.ref C_NothingToUndo) (.type "ValueError") = some true)
    (ys_InvalidTrials_EstimateError : PySem.W.subIn K (.ref C_InvalidTrials) (.ref C_EstimateError) = some true)
    (ys_InvalidTrials_InvalidTrials : PySem.W.subIn K (.ref C_InvalidTrials) (.ref C_InvalidTrials) = some true)
    (ys_InvalidTrials_InvalidQuantity : PySem.W.subIn K (.ref C_InvalidTrials) (.ref C_InvalidQuantity) = some false)
    (ys_InvalidTrials_InvalidEstimate : PySem.W.subIn K (.ref C_InvalidTrials) (.ref C_InvalidEstimate) = some false)
    (ys_InvalidTrials_InvalidNumber : PySem.W.subIn K (.ref C_InvalidTrials) (.ref C_InvalidNumber) = some false)
    (ys_InvalidTrials_InvalidPoints : PySem.W.subIn K (.ref C_InvalidTrials) (.ref C_InvalidPoints) = some false)
    (ys_InvalidTrials_NoEstimate : PySem.W.subIn K (.ref C_InvalidTrials) (.ref C_NoEstimate) = some false)
    (ys_InvalidTrials_HasEstimate : PySem.W.subIn K (.ref C_InvalidTrials) (.ref C_HasEstimate) = some false)
    (ys_InvalidTrials_IsHonest : PySem.W.subIn K (.ref C_InvalidTrials) (.ref C_IsHonest) = some false)
    (ys_InvalidTrials_TooMany : PySem.W.subIn K (.ref C_InvalidTrials) (.ref C_TooMany) = some false)
    (ys_InvalidTrials_ParseError : PySem.W.subIn K (.ref C_InvalidTrials) (.ref C_ParseError) = some false)
    (ys_InvalidTrials_NothingToUndo : PySem.W.subIn K (.ref C_InvalidTrials) (.ref C_NothingToUndo) = some false)
    (ys_InvalidQuantity_EstimateError : PySem.W.subIn K (.ref C_InvalidQuantity) (.ref C_EstimateError) = some true)
    (ys_InvalidQuantity_InvalidTrials : PySem.W.subIn K (.ref C_InvalidQuantity) (.ref C_InvalidTrials) = some false)
    (ys_InvalidQuantity_InvalidQuantity : PySem.W.subIn K (.ref C_InvalidQuantity) (.ref C_InvalidQuantity) = some true)
    (ys_InvalidQuantity_InvalidEstimate : PySem.W.subIn K (.ref C_InvalidQuantity) (.ref C_InvalidEstimate) = some false)
    (ys_InvalidQuantity_InvalidNumber : PySem.W.subIn K (.ref C_InvalidQuantity) (.ref C_InvalidNumber) = some false)
    (ys_InvalidQuantity_InvalidPoints : PySem.W.subIn K (.ref C_InvalidQuantity) (.ref C_InvalidPoints) = some false)
    (ys_InvalidQuantity_NoEstimate : PySem.W.subIn K (.ref C_InvalidQuantity) (.ref C_NoEstimate) = some false)
    (ys_InvalidQuantity_HasEstimate : PySem.W.subIn K (.ref C_InvalidQuantity) (.ref C_HasEstimate) = some false)
    (ys_InvalidQuantity_IsHonest : PySem.W.subIn K (.ref C_InvalidQuantity) (.ref C_IsHonest) = some false)
    (ys_InvalidQuantity_TooMany : PySem.W.subIn K (.ref C_InvalidQuantity) (.ref C_TooMany) = some false)
    (ys_InvalidQuantity_ParseError : PySem.W.subIn K (.ref C_InvalidQuantity) (.ref C_ParseError) = some false)
    (ys_InvalidQuantity_NothingToUndo : PySem.W.subIn K (.ref C_InvalidQuantity) (.ref C_NothingToUndo) = some false)
    (ys_InvalidEstimate_EstimateError : PySem.W.subIn K (.ref C_InvalidEstimate) (.ref C_EstimateError) = some true)
    (ys_InvalidEstimate_InvalidTrials : PySem.W.subIn K (.ref C_InvalidEstimate) (.ref C_InvalidTrials) = some false)
    (ys_InvalidEstimate_InvalidQuantity : PySem.W.subIn K (.ref C_InvalidEstimate) (.ref C_InvalidQuantity) = some false)
    (ys_InvalidEstimate_InvalidEstimate : PySem.W.subIn K (.ref C_InvalidEstimate) (.ref C_InvalidEstimate) = some true)
    (ys_InvalidEstimate_InvalidNumber : PySem.W.subIn K (.ref C_InvalidEstimate) (.ref C_InvalidNumber) = some false)
    (ys_InvalidEstimate_InvalidPoints : PySem.W.subIn K (.ref C_InvalidEstimate) (.ref C_InvalidPoints) = some false)
    (ys_InvalidEstimate_NoEstimate : PySem.W.subIn K (.ref C_InvalidEstimate) (.ref C_NoEstimate) = some false)
    (ys_InvalidEstimate_HasEstimate : PySem.W.subIn K (.ref C_InvalidEstimate) (.ref C_HasEstimate) = some false)
    (ys_InvalidEstimate_IsHonest : PySem.W.subIn K (.ref C_InvalidEstimate) (.ref C_IsHonest) = some false)
    (ys_InvalidEstimate_TooMany : PySem.W.subIn K (.ref C_InvalidEstimate) (.ref C_TooMany) = some false)
    (ys_InvalidEstimate_ParseError : PySem.W.subIn K (.ref C_InvalidEstimate) (.ref C_ParseError) = some false)
    (ys_InvalidEstimate_NothingToUndo : PySem.W.subIn K (.ref C_InvalidEstimate) (.ref C_NothingToUndo) = some false)
    (ys_InvalidNumber_EstimateError : PySem.W.subIn K (.ref C_InvalidNumber) (.ref C_EstimateError) = some true)
    (ys_InvalidNumber_InvalidTrials : PySem.W.subIn K (.ref C_InvalidNumber) (.ref C_InvalidTrials) = some false)
    (ys_InvalidNumber_InvalidQuantity : PySem.W.subIn K (.ref C_InvalidNumber) (.ref C_InvalidQuantity) = some false)
    (ys_InvalidNumber_InvalidEstimate : PySem.W.subIn K (.ref C_InvalidNumber) (.ref C_InvalidEstimate) = some false)
    (ys_InvalidNumber_InvalidNumber : PySem.W.subIn K (.ref C_InvalidNumber) (.ref C_InvalidNumber) = some true)
    (ys_InvalidNumber_InvalidPoints : PySem.W.subIn K (.ref C_InvalidNumber) (.ref C_InvalidPoints) = some false)
    (ys_InvalidNumber_NoEstimate : PySem.W.subIn K (.ref C_InvalidNumber) (.ref C_NoEstimate) = some false)
    (ys_InvalidNumber_HasEstimate : PySem.W.subIn K (.ref C_InvalidNumber) (.ref C_HasEstimate) = some false)
    (ys_InvalidNumber_IsHonest : PySem.W.subIn K (.ref C_InvalidNumber) (.ref C_IsHonest) = some false)
    (ys_InvalidNumber_TooMany : PySem.W.subIn K (.ref C_InvalidNumber) (.ref C_TooMany) = some false)
    (ys_InvalidNumber_ParseError : PySem.W.subIn K (.ref C_InvalidNumber) (.ref C_ParseError) = some false)
    (ys_InvalidNumber_NothingToUndo : PySem.W.subIn K (.ref C_InvalidNumber) (.ref C_NothingToUndo) = some false)
    (ys_InvalidPoints_EstimateError : PySem.W.subIn K (.ref C_InvalidPoints) (.ref C_EstimateError) = some true)
    (ys_InvalidPoints_InvalidTrials : PySem.W.subIn K (.ref C_InvalidPoints) (.ref C_InvalidTrials) = some false)
    (ys_InvalidPoints_InvalidQuantity : PySem.W.subIn K (.ref C_InvalidPoints) (.ref C_InvalidQuantity) = some false)
    (ys_InvalidPoints_InvalidEstimate : PySem.W.subIn K (.ref C_InvalidPoints) (.ref C_InvalidEstimate) = some false)
    (ys_InvalidPoints_InvalidNumber : PySem.W.subIn K (.ref C_InvalidPoints) (.ref C_InvalidNumber) = some false)
    (ys_InvalidPoints_InvalidPoints : PySem.W.subIn K (.ref C_InvalidPoints) (.ref C_InvalidPoints) = some true)
    (ys_InvalidPoints_NoEstimate : PySem.W.subIn K (.ref C_InvalidPoints) (.ref C_NoEstimate) = some false)
    (ys_InvalidPoints_HasEstimate : PySem.W.subIn K (.ref C_InvalidPoints) (.ref C_HasEstimate) = some false)
    (ys_InvalidPoints_IsHonest : PySem.W.subIn K (.ref C_InvalidPoints) (.ref C_IsHonest) = some false)
    (ys_InvalidPoints_TooMany : PySem.W.subIn K (.ref C_InvalidPoints) (.ref C_TooMany) = some false)
    (ys_InvalidPoints_ParseError : PySem.W.subIn K (.ref C_InvalidPoints) (.ref C_ParseError) = some false)
    (ys_InvalidPoints_NothingToUndo : PySem.W.subIn K (.ref C_InvalidPoints) (.ref C_NothingToUndo) = some false)
    (ys_NoEstimate_EstimateError : PySem.W.subIn K (.ref C_NoEstimate) (.ref C_EstimateError) = some true)
    (ys_NoEstimate_InvalidTrials : PySem.W.subIn K (.ref C_NoEstimate) (.ref C_InvalidTrials) = some false)
    (ys_NoEstimate_InvalidQuantity : PySem.W.subIn K (.ref C_NoEstimate) (.ref C_InvalidQuantity) = some false)
    (ys_NoEstimate_InvalidEstimate : PySem.W.subIn K (.ref C_NoEstimate) (.ref C_InvalidEstimate) = some false)
    (ys_NoEstimate_InvalidNumber : PySem.W.subIn K (.ref C_NoEstimate) (.ref C_InvalidNumber) = some false)
    (ys_NoEstimate_InvalidPoints : PySem.W.subIn K (.ref C_NoEstimate) (.ref C_InvalidPoints) = some false)
    (ys_NoEstimate_NoEstimate : PySem.W.subIn K (.ref C_NoEstimate) (.ref C_NoEstimate) = some true)
    (ys_NoEstimate_HasEstimate : PySem.W.subIn K (.ref C_NoEstimate) (.ref C_HasEstimate) = some false)
    (ys_NoEstimate_IsHonest : PySem.W.subIn K (.ref C_NoEstimate) (.ref C_IsHonest) = some false)
    (ys_NoEstimate_TooMany : PySem.W.subIn K (.ref C_NoEstimate) (.ref C_TooMany) = some false)
    (ys_NoEstimate_ParseError : PySem.W.subIn K (.ref C_NoEstimate) (.ref C_ParseError) = some false)
    (ys_NoEstimate_NothingToUndo : PySem.W.subIn K (.ref C_NoEstimate) (.ref C_NothingToUndo) = some false)
    (ys_HasEstimate_EstimateError : PySem.W.subIn K (.ref C_HasEstimate) (.ref C_EstimateError) = some true)
    (ys_HasEstimate_InvalidTrials : PySem.W.subIn K (.ref C_HasEstimate) (.ref C_InvalidTrials) = some false)
    (ys_HasEstimate_InvalidQuantity : PySem.W.subIn K (.ref C_HasEstimate) (.ref C_InvalidQuantity) = some false)
    (ys_HasEstimate_InvalidEstimate : PySem.W.subIn K (.ref C_HasEstimate) (.ref C_InvalidEstimate) = some false)
    (ys_HasEstimate_InvalidNumber : PySem.W.subIn K (.ref C_HasEstimate) (.ref C_InvalidNumber) = some false)
    (ys_HasEstimate_InvalidPoints : PySem.W.subIn K (.ref C_HasEstimate) (.ref C_InvalidPoints) = some false)
    (ys_HasEstimate_NoEstimate : PySem.W.subIn K (.ref C_HasEstimate) (.ref C_NoEstimate) = some false)
    (ys_HasEstimate_HasEstimate : PySem.W.subIn K (.ref C_HasEstimate) (.ref C_HasEstimate) = some true)
    (ys_HasEstimate_IsHonest : PySem.W.subIn K (.ref C_HasEstimate) (.ref C_IsHonest) = some false)
    (ys_HasEstimate_TooMany : PySem.W.subIn K (.ref C_HasEstimate) (.ref C_TooMany) = some false)
    (ys_HasEstimate_ParseError : PySem.W.subIn K (.ref C_HasEstimate) (.ref C_ParseError) = some false)
    (ys_HasEstimate_NothingToUndo : PySem.W.subIn K (.ref C_HasEstimate) (.ref C_NothingToUndo) = some false)
    (ys_IsHonest_EstimateError : PySem.W.subIn K (.ref C_IsHonest) (.ref C_EstimateError) = some true)
    (ys_IsHonest_InvalidTrials : PySem.W.subIn K (.ref C_IsHonest) (.ref C_InvalidTrials) = some false)
    (ys_IsHonest_InvalidQuantity : PySem.W.subIn K (.ref C_IsHonest) (.ref C_InvalidQuantity) = some false)
    (ys_IsHonest_InvalidEstimate : PySem.W.subIn K (.ref C_IsHonest) (.ref C_InvalidEstimate) = some false)
    (ys_IsHonest_InvalidNumber : PySem.W.subIn K (.ref C_IsHonest) (.ref C_InvalidNumber) = some false)
    (ys_IsHonest_InvalidPoints : PySem.W.subIn K (.ref C_IsHonest) (.ref C_InvalidPoints) = some false)
    (ys_IsHonest_NoEstimate : PySem.W.subIn K (.ref C_IsHonest) (.ref C_NoEstimate) = some false)
    (ys_IsHonest_HasEstimate : PySem.W.subIn K (.ref C_IsHonest) (.ref C_HasEstimate) = some false)
    (ys_IsHonest_IsHonest : PySem.W.subIn K (.ref C_IsHonest) (.ref C_IsHonest) = some true)
    (ys_IsHonest_TooMany : PySem.W.subIn K (.ref C_IsHonest) (.ref C_TooMany) = some false)
    (ys_IsHonest_ParseError : PySem.W.subIn K (.ref C_IsHonest) (.ref C_ParseError) = some false)
    (ys_IsHonest_NothingToUndo : PySem.W.subIn K (.ref C_IsHonest) (.ref C_NothingToUndo) = some false)
    (ys_TooMany_EstimateError : PySem.W.subIn K (.ref C_TooMany) (.ref C_EstimateError) = some true)
    (ys_TooMany_InvalidTrials : PySem.W.subIn K (.ref C_TooMany) (.ref C_InvalidTrials) = some false)
    (ys_TooMany_InvalidQuantity : PySem.W.subIn K (.ref C_TooMany) (.ref C_InvalidQuantity) = some false)
    (ys_TooMany_InvalidEstimate : PySem.W.subIn K (.ref C_TooMany) (.ref C_InvalidEstimate) = some false)
    (ys_TooMany_InvalidNumber : PySem.W.subIn K (.ref C_TooMany) (.ref C_InvalidNumber) = some false)
    (ys_TooMany_InvalidPoints : PySem.W.subIn K (.ref C_TooMany) (.ref C_InvalidPoints) = some false)
    (ys_TooMany_NoEstimate : PySem.W.subIn K (.ref C_TooMany) (.ref C_NoEstimate) = some false)
    (ys_TooMany_HasEstimate : PySem.W.subIn K (.ref C_TooMany) (.ref C_HasEstimate) = some false)
    (ys_TooMany_IsHonest : PySem.W.subIn K (.ref C_TooMany) (.ref C_IsHonest) = some false)
    (ys_TooMany_TooMany : PySem.W.subIn K (.ref C_TooMany) (.ref C_TooMany) = some true)
    (ys_TooMany_ParseError : PySem.W.subIn K (.ref C_TooMany) (.ref C_ParseError) = some false)
    (ys_TooMany_NothingToUndo : PySem.W.subIn K (.ref C_TooMany) (.ref C_NothingToUndo) = some false)
    (ys_ParseError_EstimateError : PySem.W.subIn K (.ref C_ParseError) (.ref C_EstimateError) = some true)
    (ys_ParseError_InvalidTrials : PySem.W.subIn K (.ref C_ParseError) (.ref C_InvalidTrials) = some false)
    (ys_ParseError_InvalidQuantity : PySem.W.subIn K (.ref C_ParseError) (.ref C_InvalidQuantity) = some false)
    (ys_ParseError_InvalidEstimate : PySem.W.subIn K (.ref C_ParseError) (.ref C_InvalidEstimate) = some false)
    (ys_ParseError_InvalidNumber : PySem.W.subIn K (.ref C_ParseError) (.ref C_InvalidNumber) = some false)
    (ys_ParseError_InvalidPoints : PySem.W.subIn K (.ref C_ParseError) (.ref C_InvalidPoints) = some false)
    (ys_ParseError_NoEstimate : PySem.W.subIn K (.ref C_ParseError) (.ref C_NoEstimate) = some false)
    (ys_ParseError_HasEstimate : PySem.W.subIn K (.ref C_ParseError) (.ref C_HasEstimate) = some false)
    (ys_ParseError_IsHonest : PySem.W.subIn K (.ref C_ParseError) (.ref C_IsHonest) = some false)
    (ys_ParseError_TooMany : PySem.W.subIn K (.ref C_ParseError) (.ref C_TooMany) = some false)
    (ys_ParseError_ParseError : PySem.W.subIn K (.ref C_ParseError) (.ref C_ParseError) = some true)
    (ys_ParseError_NothingToUndo : PySem.W.subIn K (.ref C_ParseError) (.ref C_NothingToUndo) = some false)
    (ys_NothingToUndo_EstimateError : PySem.W.subIn K (.ref C_NothingToUndo) (.ref C_EstimateError) = some true)
    (ys_NothingToUndo_InvalidTrials : PySem.W.subIn K (.ref C_NothingToUndo) (.ref C_InvalidTrials) = some false)
    (ys_NothingToUndo_InvalidQuantity : PySem.W.subIn K (.ref C_NothingToUndo) (.ref C_InvalidQuantity) = some false)
    (ys_NothingToUndo_InvalidEstimate : PySem.W.subIn K (.ref C_NothingToUndo) (.ref C_InvalidEstimate) = some false)
    (ys_NothingToUndo_InvalidNumber : PySem.W.subIn K (.ref C_NothingToUndo) (.ref C_InvalidNumber) = some false)
    (ys_NothingToUndo_InvalidPoints : PySem.W.subIn K (.ref C_NothingToUndo) (.ref C_InvalidPoints) = some false)
    (ys_NothingToUndo_NoEstimate : PySem.W.subIn K (.ref C_NothingToUndo) (.ref C_NoEstimate) = some false)
    (ys_NothingToUndo_HasEstimate : PySem.W.subIn K (.ref C_NothingToUndo) (.ref C_HasEstimate) = some false)
    (ys_NothingToUndo_IsHonest : PySem.W.subIn K (.ref C_NothingToUndo) (.ref C_IsHonest) = some false)
    (ys_NothingToUndo_TooMany : PySem.W.subIn K (.ref C_NothingToUndo) (.ref C_TooMany) = some false)
    (ys_NothingToUndo_ParseError : PySem.W.subIn K (.ref C_NothingToUndo) (.ref C_ParseError) = some false)
    (ys_NothingToUndo_NothingToUndo : PySem.W.subIn K (.ref C_NothingToUndo) (.ref C_NothingToUndo) = some true)
    (hd_EstimateError : PySem.W.hasDictIn K C_EstimateError = true)
    (hd_HasEstimate : PySem.W.hasDictIn K C_HasEstimate = true)
    (hd_InvalidEstimate : PySem.W.hasDictIn K C_InvalidEstimate = true)
    (hd_InvalidNumber : PySem.W.hasDictIn K C_InvalidNumber = true)
    (hd_InvalidPoints : PySem.W.hasDictIn K C_InvalidPoints = true)
    (hd_InvalidQuantity : PySem.W.hasDictIn K C_InvalidQuantity = true)
    (hd_InvalidTrials : PySem.W.hasDictIn K C_InvalidTrials = true)
    (hd_IsHonest : PySem.W.hasDictIn K C_IsHonest = true)
    (hd_NoEstimate : PySem.W.hasDictIn K C_NoEstimate = true)
    (hd_NothingToUndo : PySem.W.hasDictIn K C_NothingToUndo = true)
    (hd_ParseError : PySem.W.hasDictIn K C_ParseError = true)
    (hd_TooMany : PySem.W.hasDictIn K C_TooMany = true)
    : ∃ fd : FuncData, (∀ (s : Shared) (v : Value), BindsTo s fd ⟨[v], []⟩ [("script", v)]) ∧ ∀ base : Heap, K.In base → base.Ns mainGlobals mg → FnOk l.prog w K mg base (L2.CX l.prog w) 10 fa fd ["script"] (spLaw K) := by
  have e := hfa.symm.trans (PySem.W.mg_of X G a45)
  cases e
  have aC' := aC
  have e0 := ctrC_of aC
  subst e0
  have cF : CtrF K mg := ⟨PySem.W.mg_of X G aC, ⟨pg, hd, po, sa⟩, nq, ns, nk, cha, chn, cht, chm, kit_refs css hd cty css, kit_tref hd cty cst, kit_tref hd cty csr, notFirst_of cst, notFirst_of csr, cne⟩
  obtain ⟨ca, h_EstimateError, h_HasEstimate, h_InvalidEstimate, h_InvalidNumber, h_InvalidPoints, h_InvalidQuantity, h_InvalidTrials, h_IsHonest, h_NoEstimate, h_NothingToUndo, h_TooMany, h_PE, hLn⟩ : ∃ ca : String → Addr, ca "EstimateError" = C_EstimateError ∧ ca "HasEstimate" = C_HasEstimate ∧ ca "InvalidEstimate" = C_InvalidEstimate ∧ ca "InvalidNumber" = C_InvalidNumber ∧ ca "InvalidPoints" = C_InvalidPoints ∧ ca "InvalidQuantity" = C_InvalidQuantity ∧ ca "InvalidTrials" = C_InvalidTrials ∧ ca "IsHonest" = C_IsHonest ∧ ca "NoEstimate" = C_NoEstimate ∧ ca "NothingToUndo" = C_NothingToUndo ∧ ca "TooMany" = C_TooMany ∧ ca "ParseError" = C_ParseError ∧ (∀ c d, lineOf c = some d → ca c = C_ParseError) := by
    refine ⟨fun c => if (lineOf c).isSome = true then C_ParseError else if c = "ParseError" then C_ParseError else if c = "EstimateError" then C_EstimateError else if c = "HasEstimate" then C_HasEstimate else if c = "InvalidEstimate" then C_InvalidEstimate else if c = "InvalidNumber" then C_InvalidNumber else if c = "InvalidPoints" then C_InvalidPoints else if c = "InvalidQuantity" then C_InvalidQuantity else if c = "InvalidTrials" then C_InvalidTrials else if c = "IsHonest" then C_IsHonest else if c = "NoEstimate" then C_NoEstimate else if c = "NothingToUndo" then C_NothingToUndo else if c = "TooMany" then C_TooMany else 0, ?_, ?_, ?_, ?_, ?_, ?_, ?_, ?_, ?_, ?_, ?_, ?_, fun c d h => ?_⟩
    · simp [show (lineOf "EstimateError").isSome = false from by decide +kernel]
    · simp [show (lineOf "HasEstimate").isSome = false from by decide +kernel]
    · simp [show (lineOf "InvalidEstimate").isSome = false from by decide +kernel]
    · simp [show (lineOf "InvalidNumber").isSome = false from by decide +kernel]
    · simp [show (lineOf "InvalidPoints").isSome = false from by decide +kernel]
    · simp [show (lineOf "InvalidQuantity").isSome = false from by decide +kernel]
    · simp [show (lineOf "InvalidTrials").isSome = false from by decide +kernel]
    · simp [show (lineOf "IsHonest").isSome = false from by decide +kernel]
    · simp [show (lineOf "NoEstimate").isSome = false from by decide +kernel]
    · simp [show (lineOf "NothingToUndo").isSome = false from by decide +kernel]
    · simp [show (lineOf "TooMany").isSome = false from by decide +kernel]
    · simp
    · simp [h]
  subst h_EstimateError h_HasEstimate h_InvalidEstimate h_InvalidNumber h_InvalidPoints h_InvalidQuantity h_InvalidTrials h_IsHonest h_NoEstimate h_NothingToUndo h_TooMany h_PE
  have gP : mg "ParseError" = some (.ref (ca "ParseError")) := PySem.W.mg_of X G pgP
  have oT : OexC K (ca "ParseError") := ⟨⟨_, _, _, _, _, _, _, _, _, _, _, _, _, _, _, pL, pV⟩, pSa, pB, pT, pK⟩
  have ei : EiF K mg (ca "EstimateError") := ⟨PySem.W.mg_of X G eg_EstimateError, pEga, pErd, pEfi⟩
  have hPE : ∀ d c, lineN d = some c → ca c = ca "ParseError" := fun d c h => hLn c d (lineN_of h)
  have x_EstimateError : ExF K mg ca "EstimateError" := ⟨PySem.W.mg_of X G eg_EstimateError, ex_EstimateError, ek_EstimateError, eb_EstimateError, et_EstimateError⟩
  have x_HasEstimate : ExF K mg ca "HasEstimate" := ⟨PySem.W.mg_of X G eg_HasEstimate, ex_HasEstimate, ek_HasEstimate, eb_HasEstimate, et_HasEstimate⟩
  have x_InvalidEstimate : ExF K mg ca "InvalidEstimate" := ⟨PySem.W.mg_of X G eg_InvalidEstimate, ex_InvalidEstimate, ek_InvalidEstimate, eb_InvalidEstimate, et_InvalidEstimate⟩
  have x_InvalidNumber : ExF K mg ca "InvalidNumber" := ⟨PySem.W.mg_of X G eg_InvalidNumber, ex_InvalidNumber, ek_InvalidNumber, eb_InvalidNumber, et_InvalidNumber⟩
  have x_InvalidPoints : ExF K mg ca "InvalidPoints" := ⟨PySem.W.mg_of X G eg_InvalidPoints, ex_InvalidPoints, ek_InvalidPoints, eb_InvalidPoints, et_InvalidPoints⟩
  have x_InvalidQuantity : ExF K mg ca "InvalidQuantity" := ⟨PySem.W.mg_of X G eg_InvalidQuantity, ex_InvalidQuantity, ek_InvalidQuantity, eb_InvalidQuantity, et_InvalidQuantity⟩
  have x_InvalidTrials : ExF K mg ca "InvalidTrials" := ⟨PySem.W.mg_of X G eg_InvalidTrials, ex_InvalidTrials, ek_InvalidTrials, eb_InvalidTrials, et_InvalidTrials⟩
  have x_IsHonest : ExF K mg ca "IsHonest" := ⟨PySem.W.mg_of X G eg_IsHonest, ex_IsHonest, ek_IsHonest, eb_IsHonest, et_IsHonest⟩
  have x_NoEstimate : ExF K mg ca "NoEstimate" := ⟨PySem.W.mg_of X G eg_NoEstimate, ex_NoEstimate, ek_NoEstimate, eb_NoEstimate, et_NoEstimate⟩
  have x_NothingToUndo : ExF K mg ca "NothingToUndo" := ⟨PySem.W.mg_of X G eg_NothingToUndo, ex_NothingToUndo, ek_NothingToUndo, eb_NothingToUndo, et_NothingToUndo⟩
  have x_TooMany : ExF K mg ca "TooMany" := ⟨PySem.W.mg_of X G eg_TooMany, ex_TooMany, ek_TooMany, eb_TooMany, et_TooMany⟩
  have et_ParseError := pT
  have yy : YF K ca ["InvalidTrials", "InvalidQuantity", "InvalidEstimate", "InvalidNumber", "InvalidPoints", "NoEstimate", "HasEstimate", "IsHonest", "TooMany", "ParseError", "NothingToUndo"] ["EstimateError", "InvalidTrials", "InvalidQuantity", "InvalidEstimate", "InvalidNumber", "InvalidPoints", "NoEstimate", "HasEstimate", "IsHonest", "TooMany", "ParseError", "NothingToUndo"] := by
    exact ⟨(allC ec_InvalidTrials (allC ec_InvalidQuantity (allC ec_InvalidEstimate (allC ec_InvalidNumber (allC ec_InvalidPoints (allC ec_NoEstimate (allC ec_HasEstimate (allC ec_IsHonest (allC ec_TooMany (allC ec_ParseError (allC ec_NothingToUndo allN))))))))))), (allC (PySem.W.exm_ref eb_EstimateError hd_EstimateError et_EstimateError ys_InvalidTrials_EstimateError) (allC (PySem.W.exm_ref eb_EstimateError hd_EstimateError et_EstimateError ys_InvalidQuantity_EstimateError) (allC (PySem.W.exm_ref eb_EstimateError hd_EstimateError et_EstimateError ys_InvalidEstimate_EstimateError) (allC (PySem.W.exm_ref eb_EstimateError hd_EstimateError et_EstimateError ys_InvalidNumber_EstimateError) (allC (PySem.W.exm_ref eb_EstimateError hd_EstimateError et_EstimateError ys_InvalidPoints_EstimateError) (allC (PySem.W.exm_ref eb_EstimateError hd_EstimateError et_EstimateError ys_NoEstimate_EstimateError) (allC (PySem.W.exm_ref eb_EstimateError hd_EstimateError et_EstimateError ys_HasEstimate_EstimateError) (allC (PySem.W.exm_ref eb_EstimateError hd_EstimateError et_EstimateError ys_IsHonest_EstimateError) (allC (PySem.W.exm_ref eb_EstimateError hd_EstimateError et_EstimateError ys_TooMany_EstimateError) (allC (PySem.W.exm_ref eb_EstimateError hd_EstimateError et_EstimateError ys_ParseError_EstimateError) (allC (PySem.W.exm_ref eb_EstimateError hd_EstimateError et_EstimateError ys_NothingToUndo_EstimateError) allN))))))))))), (allC (allC (kit_refs ys_InvalidTrials_InvalidTrials hd_EstimateError et_EstimateError ys_InvalidTrials_EstimateError) (allC (kit_refs ys_InvalidTrials_InvalidTrials hd_InvalidTrials et_InvalidTrials ys_InvalidTrials_InvalidTrials) (allC (kit_refs ys_InvalidTrials_InvalidTrials hd_InvalidQuantity et_InvalidQuantity ys_InvalidTrials_InvalidQuantity) (allC (kit_refs ys_InvalidTrials_InvalidTrials hd_InvalidEstimate et_InvalidEstimate ys_InvalidTrials_InvalidEstimate) (allC (kit_refs ys_InvalidTrials_InvalidTrials hd_InvalidNumber et_InvalidNumber ys_InvalidTrials_InvalidNumber) (allC (kit_refs ys_InvalidTrials_InvalidTrials hd_InvalidPoints et_InvalidPoints ys_InvalidTrials_InvalidPoints) (allC (kit_refs ys_InvalidTrials_InvalidTrials hd_NoEstimate et_NoEstimate ys_InvalidTrials_NoEstimate) (allC (kit_refs ys_InvalidTrials_InvalidTrials hd_HasEstimate et_HasEstimate ys_InvalidTrials_HasEstimate) (allC (kit_refs ys_InvalidTrials_InvalidTrials hd_IsHonest et_IsHonest ys_InvalidTrials_IsHonest) (allC (kit_refs ys_InvalidTrials_InvalidTrials hd_TooMany et_TooMany ys_InvalidTrials_TooMany) (allC (kit_refs ys_InvalidTrials_InvalidTrials hd_ParseError et_ParseError ys_InvalidTrials_ParseError) (allC (kit_refs ys_InvalidTrials_InvalidTrials hd_NothingToUndo et_NothingToUndo ys_InvalidTrials_NothingToUndo) allN)))))))))))) (allC (allC (kit_refs ys_InvalidQuantity_InvalidQuantity hd_EstimateError et_EstimateError ys_InvalidQuantity_EstimateError) (allC (kit_refs ys_InvalidQuantity_InvalidQuantity hd_InvalidTrials et_InvalidTrials ys_InvalidQuantity_InvalidTrials) (allC (kit_refs ys_InvalidQuantity_InvalidQuantity hd_InvalidQuantity et_InvalidQuantity ys_InvalidQuantity_InvalidQuantity) (allC (kit_refs ys_InvalidQuantity_InvalidQuantity hd_InvalidEstimate et_InvalidEstimate ys_InvalidQuantity_InvalidEstimate) (allC (kit_refs ys_InvalidQuantity_InvalidQuantity hd_InvalidNumber et_InvalidNumber ys_InvalidQuantity_InvalidNumber) (allC (kit_refs ys_InvalidQuantity_InvalidQuantity hd_InvalidPoints et_InvalidPoints ys_InvalidQuantity_InvalidPoints) (allC (kit_refs ys_InvalidQuantity_InvalidQuantity hd_NoEstimate et_NoEstimate ys_InvalidQuantity_NoEstimate) (allC (kit_refs ys_InvalidQuantity_InvalidQuantity hd_HasEstimate et_HasEstimate ys_InvalidQuantity_HasEstimate) (allC (kit_refs ys_InvalidQuantity_InvalidQuantity hd_IsHonest et_IsHonest ys_InvalidQuantity_IsHonest) (allC (kit_refs ys_InvalidQuantity_InvalidQuantity hd_TooMany et_TooMany ys_InvalidQuantity_TooMany) (allC (kit_refs ys_InvalidQuantity_InvalidQuantity hd_ParseError et_ParseError ys_InvalidQuantity_ParseError) (allC (kit_refs ys_InvalidQuantity_InvalidQuantity hd_NothingToUndo et_NothingToUndo ys_InvalidQuantity_NothingToUndo) allN)))))))))))) (allC (allC (kit_refs ys_InvalidEstimate_InvalidEstimate hd_EstimateError et_EstimateError ys_InvalidEstimate_EstimateError) (allC (kit_refs ys_InvalidEstimate_InvalidEstimate hd_InvalidTrials et_InvalidTrials ys_InvalidEstimate_InvalidTrials) (allC (kit_refs ys_InvalidEstimate_InvalidEstimate hd_InvalidQuantity et_InvalidQuantity ys_InvalidEstimate_InvalidQuantity) (allC (kit_refs ys_InvalidEstimate_InvalidEstimate hd_InvalidEstimate et_InvalidEstimate ys_InvalidEstimate_InvalidEstimate) (allC (kit_refs ys_InvalidEstimate_InvalidEstimate hd_InvalidNumber et_InvalidNumber ys_InvalidEstimate_InvalidNumber) (allC (kit_refs ys_InvalidEstimate_InvalidEstimate hd_InvalidPoints et_InvalidPoints ys_InvalidEstimate_InvalidPoints) (allC (kit_refs ys_InvalidEstimate_InvalidEstimate hd_NoEstimate et_NoEstimate ys_InvalidEstimate_NoEstimate) (allC (kit_refs ys_InvalidEstimate_InvalidEstimate hd_HasEstimate et_HasEstimate ys_InvalidEstimate_HasEstimate) (allC (kit_refs ys_InvalidEstimate_InvalidEstimate hd_IsHonest et_IsHonest ys_InvalidEstimate_IsHonest) (allC (kit_refs ys_InvalidEstimate_InvalidEstimate hd_TooMany et_TooMany ys_InvalidEstimate_TooMany) (allC (kit_refs ys_InvalidEstimate_InvalidEstimate hd_ParseError et_ParseError ys_InvalidEstimate_ParseError) (allC (kit_refs ys_InvalidEstimate_InvalidEstimate hd_NothingToUndo et_NothingToUndo ys_InvalidEstimate_NothingToUndo) allN)))))))))))) (allC (allC (kit_refs ys_InvalidNumber_InvalidNumber hd_EstimateError et_EstimateError ys_InvalidNumber_EstimateError) (allC (kit_refs ys_InvalidNumber_InvalidNumber hd_InvalidTrials et_InvalidTrials ys_InvalidNumber_InvalidTrials) (allC (kit_refs ys_InvalidNumber_InvalidNumber hd_InvalidQuantity et_InvalidQuantity ys_InvalidNumber_InvalidQuantity) (allC (kit_refs ys_InvalidNumber_InvalidNumber hd_InvalidEstimate et_InvalidEstimate ys_InvalidNumber_InvalidEstimate) (allC (kit_refs ys_InvalidNumber_InvalidNumber hd_InvalidNumber et_InvalidNumber ys_InvalidNumber_InvalidNumber) (allC (kit_refs ys_InvalidNumber_InvalidNumber hd_InvalidPoints et_InvalidPoints ys_InvalidNumber_InvalidPoints) (allC (kit_refs ys_InvalidNumber_InvalidNumber hd_NoEstimate et_NoEstimate ys_InvalidNumber_NoEstimate) (allC (kit_refs ys_InvalidNumber_InvalidNumber hd_HasEstimate et_HasEstimate ys_InvalidNumber_HasEstimate) (allC (kit_refs ys_InvalidNumber_InvalidNumber hd_IsHonest et_IsHonest ys_InvalidNumber_IsHonest) (allC (kit_refs ys_InvalidNumber_InvalidNumber hd_TooMany et_TooMany ys_InvalidNumber_TooMany) (allC (kit_refs ys_InvalidNumber_InvalidNumber hd_ParseError et_ParseError ys_InvalidNumber_ParseError) (allC (kit_refs ys_InvalidNumber_InvalidNumber hd_NothingToUndo et_NothingToUndo ys_InvalidNumber_NothingToUndo) allN)))))))))))) (allC (allC (kit_refs ys_InvalidPoints_InvalidPoints hd_EstimateError et_EstimateError ys_InvalidPoints_EstimateError) (allC (kit_refs ys_InvalidPoints_InvalidPoints hd_InvalidTrials et_InvalidTrials ys_InvalidPoints_InvalidTrials) (allC (kit_refs ys_InvalidPoints_InvalidPoints hd_InvalidQuantity et_InvalidQuantity ys_InvalidPoints_InvalidQuantity) (allC (kit_refs ys_InvalidPoints_InvalidPoints hd_InvalidEstimate et_InvalidEstimate ys_InvalidPoints_InvalidEstimate) (allC (kit_refs ys_InvalidPoints_InvalidPoints hd_InvalidNumber et_InvalidNumber ys_InvalidPoints_InvalidNumber) (allC (kit_refs ys_InvalidPoints_InvalidPoints hd_InvalidPoints et_InvalidPoints ys_InvalidPoints_InvalidPoints) (allC (kit_refs ys_InvalidPoints_InvalidPoints hd_NoEstimate et_NoEstimate ys_InvalidPoints_NoEstimate) (allC (kit_refs ys_InvalidPoints_InvalidPoints hd_HasEstimate et_HasEstimate ys_InvalidPoints_HasEstimate) (allC (kit_refs ys_InvalidPoints_InvalidPoints hd_IsHonest et_IsHonest ys_InvalidPoints_IsHonest) (allC (kit_refs ys_InvalidPoints_InvalidPoints hd_TooMany et_TooMany ys_InvalidPoints_TooMany) (allC (kit_refs ys_InvalidPoints_InvalidPoints hd_ParseError et_ParseError ys_InvalidPoints_ParseError) (allC (kit_refs ys_InvalidPoints_InvalidPoints hd_NothingToUndo et_NothingToUndo ys_InvalidPoints_NothingToUndo) allN)))))))))))) (allC (allC (kit_refs ys_NoEstimate_NoEstimate hd_EstimateError et_EstimateError ys_NoEstimate_EstimateError) (allC (kit_refs ys_NoEstimate_NoEstimate hd_InvalidTrials et_InvalidTrials ys_NoEstimate_InvalidTrials) (allC (kit_refs ys_NoEstimate_NoEstimate hd_InvalidQuantity et_InvalidQuantity ys_NoEstimate_InvalidQuantity) (allC (kit_refs ys_NoEstimate_NoEstimate hd_InvalidEstimate et_InvalidEstimate ys_NoEstimate_InvalidEstimate) (allC (kit_refs ys_NoEstimate_NoEstimate hd_InvalidNumber et_InvalidNumber ys_NoEstimate_InvalidNumber) (allC (kit_refs ys_NoEstimate_NoEstimate hd_InvalidPoints et_InvalidPoints ys_NoEstimate_InvalidPoints) (allC (kit_refs ys_NoEstimate_NoEstimate hd_NoEstimate et_NoEstimate ys_NoEstimate_NoEstimate) (allC (kit_refs ys_NoEstimate_NoEstimate hd_HasEstimate et_HasEstimate ys_NoEstimate_HasEstimate) (allC (kit_refs ys_NoEstimate_NoEstimate hd_IsHonest et_IsHonest ys_NoEstimate_IsHonest) (allC (kit_refs ys_NoEstimate_NoEstimate hd_TooMany et_TooMany ys_NoEstimate_TooMany) (allC (kit_refs ys_NoEstimate_NoEstimate hd_ParseError et_ParseError ys_NoEstimate_ParseError) (allC (kit_refs ys_NoEstimate_NoEstimate hd_NothingToUndo et_NothingToUndo ys_NoEstimate_NothingToUndo) allN)))))))))))) (allC (allC (kit_refs ys_HasEstimate_HasEstimate hd_EstimateError et_EstimateError ys_HasEstimate_EstimateError) (allC (kit_refs ys_HasEstimate_HasEstimate hd_InvalidTrials et_InvalidTrials ys_HasEstimate_InvalidTrials) (allC (kit_refs ys_HasEstimate_HasEstimate hd_InvalidQuantity et_InvalidQuantity ys_HasEstimate_InvalidQuantity) (allC (kit_refs ys_HasEstimate_HasEstimate hd_InvalidEstimate et_InvalidEstimate ys_HasEstimate_InvalidEstimate) (allC (kit_refs ys_HasEstimate_HasEstimate hd_InvalidNumber et_InvalidNumber ys_HasEstimate_InvalidNumber) (allC (kit_refs ys_HasEstimate_HasEstimate hd_InvalidPoints et_InvalidPoints ys_HasEstimate_InvalidPoints) (allC (kit_refs ys_HasEstimate_HasEstimate hd_NoEstimate et_NoEstimate ys_HasEstimate_NoEstimate) (allC (kit_refs ys_HasEstimate_HasEstimate hd_HasEstimate et_HasEstimate ys_HasEstimate_HasEstimate) (allC (kit_refs ys_HasEstimate_HasEstimate hd_IsHonest et_IsHonest ys_HasEstimate_IsHonest) (allC (kit_refs ys_HasEstimate_HasEstimate hd_TooMany et_TooMany ys_HasEstimate_TooMany) (allC (kit_refs ys_HasEstimate_HasEstimate hd_ParseError et_ParseError ys_HasEstimate_ParseError) (allC (kit_refs ys_HasEstimate_HasEstimate hd_NothingToUndo et_NothingToUndo ys_HasEstimate_NothingToUndo) allN)))))))))))) (allC (allC (kit_refs ys_IsHonest_IsHonest hd_EstimateError et_EstimateError ys_IsHonest_EstimateError) (allC (kit_refs ys_IsHonest_IsHonest hd_InvalidTrials et_InvalidTrials ys_IsHonest_InvalidTrials) (allC (kit_refs ys_IsHonest_IsHonest hd_InvalidQuantity et_InvalidQuantity ys_IsHonest_InvalidQuantity) (allC (kit_refs ys_IsHonest_IsHonest hd_InvalidEstimate et_InvalidEstimate ys_IsHonest_InvalidEstimate) (allC (kit_refs ys_IsHonest_IsHonest hd_InvalidNumber et_InvalidNumber ys_IsHonest_InvalidNumber) (allC (kit_refs ys_IsHonest_IsHonest hd_InvalidPoints et_InvalidPoints ys_IsHonest_InvalidPoints) (allC (kit_refs ys_IsHonest_IsHonest hd_NoEstimate et_NoEstimate ys_IsHonest_NoEstimate) (allC (kit_refs ys_IsHonest_IsHonest hd_HasEstimate et_HasEstimate ys_IsHonest_HasEstimate) (allC (kit_refs ys_IsHonest_IsHonest hd_IsHonest et_IsHonest ys_IsHonest_IsHonest) (allC (kit_refs ys_IsHonest_IsHonest hd_TooMany et_TooMany ys_IsHonest_TooMany) (allC (kit_refs ys_IsHonest_IsHonest hd_ParseError et_ParseError ys_IsHonest_ParseError) (allC (kit_refs ys_IsHonest_IsHonest hd_NothingToUndo et_NothingToUndo ys_IsHonest_NothingToUndo) allN)))))))))))) (allC (allC (kit_refs ys_TooMany_TooMany hd_EstimateError et_EstimateError ys_TooMany_EstimateError) (allC (kit_refs ys_TooMany_TooMany hd_InvalidTrials et_InvalidTrials ys_TooMany_InvalidTrials) (allC (kit_refs ys_TooMany_TooMany hd_InvalidQuantity et_InvalidQuantity ys_TooMany_InvalidQuantity) (allC (kit_refs ys_TooMany_TooMany hd_InvalidEstimate et_InvalidEstimate ys_TooMany_InvalidEstimate) (allC (kit_refs ys_TooMany_TooMany hd_InvalidNumber et_InvalidNumber ys_TooMany_InvalidNumber) (allC (kit_refs ys_TooMany_TooMany hd_InvalidPoints et_InvalidPoints ys_TooMany_InvalidPoints) (allC (kit_refs ys_TooMany_TooMany hd_NoEstimate et_NoEstimate ys_TooMany_NoEstimate) (allC (kit_refs ys_TooMany_TooMany hd_HasEstimate et_HasEstimate ys_TooMany_HasEstimate) (allC (kit_refs ys_TooMany_TooMany hd_IsHonest et_IsHonest ys_TooMany_IsHonest) (allC (kit_refs ys_TooMany_TooMany hd_TooMany et_TooMany ys_TooMany_TooMany) (allC (kit_refs ys_TooMany_TooMany hd_ParseError et_ParseError ys_TooMany_ParseError) (allC (kit_refs ys_TooMany_TooMany hd_NothingToUndo et_NothingToUndo ys_TooMany_NothingToUndo) allN)))))))))))) (allC (allC (kit_refs ys_ParseError_ParseError hd_EstimateError et_EstimateError ys_ParseError_EstimateError) (allC (kit_refs ys_ParseError_ParseError hd_InvalidTrials et_InvalidTrials ys_ParseError_InvalidTrials) (allC (kit_refs ys_ParseError_ParseError hd_InvalidQuantity et_InvalidQuantity ys_ParseError_InvalidQuantity) (allC (kit_refs ys_ParseError_ParseError hd_InvalidEstimate et_InvalidEstimate ys_ParseError_InvalidEstimate) (allC (kit_refs ys_ParseError_ParseError hd_InvalidNumber et_InvalidNumber ys_ParseError_InvalidNumber) (allC (kit_refs ys_ParseError_ParseError hd_InvalidPoints et_InvalidPoints ys_ParseError_InvalidPoints) (allC (kit_refs ys_ParseError_ParseError hd_NoEstimate et_NoEstimate ys_ParseError_NoEstimate) (allC (kit_refs ys_ParseError_ParseError hd_HasEstimate et_HasEstimate ys_ParseError_HasEstimate) (allC (kit_refs ys_ParseError_ParseError hd_IsHonest et_IsHonest ys_ParseError_IsHonest) (allC (kit_refs ys_ParseError_ParseError hd_TooMany et_TooMany ys_ParseError_TooMany) (allC (kit_refs ys_ParseError_ParseError hd_ParseError et_ParseError ys_ParseError_ParseError) (allC (kit_refs ys_ParseError_ParseError hd_NothingToUndo et_NothingToUndo ys_ParseError_NothingToUndo) allN)))))))))))) (allC (allC (kit_refs ys_NothingToUndo_NothingToUndo hd_EstimateError et_EstimateError ys_NothingToUndo_EstimateError) (allC (kit_refs ys_NothingToUndo_NothingToUndo hd_InvalidTrials et_InvalidTrials ys_NothingToUndo_InvalidTrials) (allC (kit_refs ys_NothingToUndo_NothingToUndo hd_InvalidQuantity et_InvalidQuantity ys_NothingToUndo_InvalidQuantity) (allC (kit_refs ys_NothingToUndo_NothingToUndo hd_InvalidEstimate et_InvalidEstimate ys_NothingToUndo_InvalidEstimate) (allC (kit_refs ys_NothingToUndo_NothingToUndo hd_InvalidNumber et_InvalidNumber ys_NothingToUndo_InvalidNumber) (allC (kit_refs ys_NothingToUndo_NothingToUndo hd_InvalidPoints et_InvalidPoints ys_NothingToUndo_InvalidPoints) (allC (kit_refs ys_NothingToUndo_NothingToUndo hd_NoEstimate et_NoEstimate ys_NothingToUndo_NoEstimate) (allC (kit_refs ys_NothingToUndo_NothingToUndo hd_HasEstimate et_HasEstimate ys_NothingToUndo_HasEstimate) (allC (kit_refs ys_NothingToUndo_NothingToUndo hd_IsHonest et_IsHonest ys_NothingToUndo_IsHonest) (allC (kit_refs ys_NothingToUndo_NothingToUndo hd_TooMany et_TooMany ys_NothingToUndo_TooMany) (allC (kit_refs ys_NothingToUndo_NothingToUndo hd_ParseError et_ParseError ys_NothingToUndo_ParseError) (allC (kit_refs ys_NothingToUndo_NothingToUndo hd_NothingToUndo et_NothingToUndo ys_NothingToUndo_NothingToUndo) allN)))))))))))) allN))))))))))), (allC (kit_ve ev_InvalidTrials) (allC (kit_ve ev_InvalidQuantity) (allC (kit_ve ev_InvalidEstimate) (allC (kit_ve ev_InvalidNumber) (allC (kit_ve ev_InvalidPoints) (allC (kit_ve ev_NoEstimate) (allC (kit_ve ev_HasEstimate) (allC (kit_ve ev_IsHonest) (allC (kit_ve ev_TooMany) (allC (kit_ve ev_ParseError) (allC (kit_ve ev_NothingToUndo) allN))))))))))), hLn, pNl⟩
  refine ⟨PySem.W.fnOf "law" "law" (defArgs s_law) (defBody s_law) (defScope s_law) .none kV45 dc45 pm45 an45 cd45 ct45, fun s v => .of_eq rfl, fun base _ _ => ?_⟩
  have F0 := fun_mk (st := s_law_cell) l0 c0 k0
  have b0 := F0.binds (ps := ["script", "k"]) fun _ _ _ _ _ _ us hl => match us, hl with | [_, _], _ => rfl
  have o_law_cell := ok_law_cell (P := l.prog) (w := w) (base := base) (ca := ca) F0 b0 (PySem.W.mg_of X G a0) (PySem.W.mg_none_of X G z_len)
  have F1 := fun_mk (st := s_in_range) l1 c1 k1
  have b1 := F1.binds (ps := ["value", "low", "high"]) fun _ _ _ _ _ _ us hl => match us, hl with | [_, _, _], _ => rfl
  have o_in_range := ok_in_range (P := l.prog) (w := w) (base := base) (ca := ca) F1 b1 (PySem.W.mg_of X G a1) (PySem.W.mg_none_of X G z_bool) (PySem.W.mg_none_of X G z_int) (PySem.W.mg_none_of X G z_isinstance)
  have F2 := fun_mk (st := s_is_quantity) l2 c2 k2
  have b2 := F2.binds (ps := ["value"]) fun _ _ _ _ _ _ us hl => match us, hl with | [_], _ => rfl
  have o_is_quantity := ok_is_quantity (P := l.prog) (w := w) (base := base) (ca := ca) F2 b2 (PySem.W.mg_of X G a2) (PySem.W.mg_none_of X G z_isinstance) (PySem.W.mg_none_of X G z_len) (PySem.W.mg_none_of X G z_tuple) (PySem.W.mg_of X G k_MAX_DEGREE) o_in_range
  have F3 := fun_mk (st := s_check_quantity) l3 c3 k3
  have b3 := F3.binds (ps := ["quantity"]) fun _ _ _ _ _ _ us hl => match us, hl with | [_], _ => rfl
  have o_check_quantity := ok_check_quantity (P := l.prog) (w := w) (base := base) (ca := ca) F3 b3 (PySem.W.mg_of X G a3) x_InvalidQuantity o_is_quantity
  have F4 := fun_mk (st := s_C_init) l4 c4 k4
  have b4 := F4.binds (ps := ["self", "quantity"]) fun _ _ _ _ _ _ us hl => match us, hl with | [_, _], _ => rfl
  have o_C_init := ok_C_init (P := l.prog) (w := w) (base := base) (ca := ca) F4 b4 ⟨a4, i4, k4⟩ cF o_check_quantity
  have F5 := fun_mk (st := s_C_undo) l5 c5 k5
  have b5 := F5.binds (ps := ["self"]) fun _ _ _ _ _ _ us hl => match us, hl with | [_], _ => rfl
  have o_C_undo := ok_C_undo (P := l.prog) (w := w) (base := base) (ca := ca) F5 b5 ⟨a5, i5, k5⟩ cF (PySem.W.mg_none_of X G z_len) x_NothingToUndo
  have F6 := fun_mk (st := s_choices) l6 c6 k6
  have b6 := F6.binds (ps := ["n", "k"]) fun _ _ _ _ _ _ us hl => match us, hl with | [_, _], _ => rfl
  have o_choices := ok_choices (P := l.prog) (w := w) (base := base) (ca := ca) F6 b6 (PySem.W.mg_of X G a6) (PySem.W.mg_none_of X G z_range)
  have F7 := fun_mk (st := s_greatest_divisor) l7 c7 k7
  have b7 := F7.binds (ps := ["one", "other"]) fun _ _ _ _ _ _ us hl => match us, hl with | [_, _], _ => rfl
  have o_greatest_divisor := ok_greatest_divisor (P := l.prog) (w := w) (base := base) (ca := ca) F7 b7 (PySem.W.mg_of X G a7)
  have F8 := fun_mk (st := s_reduced) l8 c8 k8
  have b8 := F8.binds (ps := ["above", "below"]) fun _ _ _ _ _ _ us hl => match us, hl with | [_, _], _ => rfl
  have o_reduced := ok_reduced (P := l.prog) (w := w) (base := base) (ca := ca) F8 b8 (PySem.W.mg_of X G a8) (PySem.W.mg_none_of X G z_abs) o_greatest_divisor
  have F9 := fun_mk (st := s_times) l9 c9 k9
  have b9 := F9.binds (ps := ["one", "other"]) fun _ _ _ _ _ _ us hl => match us, hl with | [_, _], _ => rfl
  have o_times := ok_times (P := l.prog) (w := w) (base := base) (ca := ca) F9 b9 (PySem.W.mg_of X G a9) o_reduced
  have F10 := fun_mk (st := s_trimmed) l10 c10 k10
  have b10 := F10.binds (ps := ["row"]) fun _ _ _ _ _ _ us hl => match us, hl with | [_], _ => rfl
  have o_trimmed := ok_trimmed (P := l.prog) (w := w) (base := base) (ca := ca) F10 b10 (PySem.W.mg_of X G a10) (PySem.W.mg_none_of X G z_list) (PySem.W.mg_none_of X G z_tuple)
  have F11 := fun_mk (st := s_multiple_of) l11 c11 k11
  have b11 := F11.binds (ps := ["factor", "row"]) fun _ _ _ _ _ _ us hl => match us, hl with | [_, _], _ => rfl
  have o_multiple_of := ok_multiple_of (P := l.prog) (w := w) (base := base) (ca := ca) F11 b11 (PySem.W.mg_of X G a11) o_times o_trimmed
  have F12 := fun_mk (st := s_plus) l12 c12 k12
  have b12 := F12.binds (ps := ["one", "other"]) fun _ _ _ _ _ _ us hl => match us, hl with | [_, _], _ => rfl
  have o_plus := ok_plus (P := l.prog) (w := w) (base := base) (ca := ca) F12 b12 (PySem.W.mg_of X G a12) o_reduced
  have F13 := fun_mk (st := s_product_of) l13 c13 k13
  have b13 := F13.binds (ps := ["one", "other"]) fun _ _ _ _ _ _ us hl => match us, hl with | [_, _], _ => rfl
  have o_product_of := ok_product_of (P := l.prog) (w := w) (base := base) (ca := ca) F13 b13 (PySem.W.mg_of X G a13) (PySem.W.mg_none_of X G z_enumerate) (PySem.W.mg_none_of X G z_len) o_plus o_times o_trimmed
  have F14 := fun_mk (st := s_power_of) l14 c14 k14
  have b14 := F14.binds (ps := ["row", "exponent"]) fun _ _ _ _ _ _ us hl => match us, hl with | [_, _], _ => rfl
  have o_power_of := ok_power_of (P := l.prog) (w := w) (base := base) (ca := ca) F14 b14 (PySem.W.mg_of X G a14) (PySem.W.mg_none_of X G z_range) o_product_of
  have F15 := fun_mk (st := s_chance_of) l15 c15 k15
  have b15 := F15.binds (ps := ["trials", "successes"]) fun _ _ _ _ _ _ us hl => match us, hl with | [_, _], _ => rfl
  have o_chance_of := ok_chance_of (P := l.prog) (w := w) (base := base) (ca := ca) F15 b15 (PySem.W.mg_of X G a15) o_choices o_multiple_of o_power_of o_product_of
  have F16 := fun_mk (st := s_sum_of) l16 c16 k16
  have b16 := F16.binds (ps := ["one", "other"]) fun _ _ _ _ _ _ us hl => match us, hl with | [_, _], _ => rfl
  have o_sum_of := ok_sum_of (P := l.prog) (w := w) (base := base) (ca := ca) F16 b16 (PySem.W.mg_of X G a16) (PySem.W.mg_none_of X G z_len) (PySem.W.mg_none_of X G z_max) (PySem.W.mg_none_of X G z_range) o_plus o_trimmed
  have F17 := fun_mk (st := s_average_of) l17 c17 k17
  have b17 := F17.binds (ps := ["trials", "estimate"]) fun _ _ _ _ _ _ us hl => match us, hl with | [_, _], _ => rfl
  have o_average_of := ok_average_of (P := l.prog) (w := w) (base := base) (ca := ca) F17 b17 (PySem.W.mg_of X G a17) (PySem.W.mg_none_of X G z_enumerate) o_chance_of o_multiple_of o_sum_of
  have F18 := fun_mk (st := s_is_fraction) l18 c18 k18
  have b18 := F18.binds (ps := ["value"]) fun _ _ _ _ _ _ us hl => match us, hl with | [_], _ => rfl
  have o_is_fraction := ok_is_fraction (P := l.prog) (w := w) (base := base) (ca := ca) F18 b18 (PySem.W.mg_of X G a18) (PySem.W.mg_none_of X G z_abs) (PySem.W.mg_none_of X G z_isinstance) (PySem.W.mg_none_of X G z_len) (PySem.W.mg_none_of X G z_tuple) (PySem.W.mg_of X G k_MAX_PART) o_greatest_divisor o_in_range
  have F19 := fun_mk (st := s_are_values) l19 c19 k19
  have b19 := F19.binds (ps := ["value", "count"]) fun _ _ _ _ _ _ us hl => match us, hl with | [_, _], _ => rfl
  have o_are_values := ok_are_values (P := l.prog) (w := w) (base := base) (ca := ca) F19 b19 (PySem.W.mg_of X G a19) (PySem.W.mg_none_of X G z_isinstance) (PySem.W.mg_none_of X G z_len) (PySem.W.mg_none_of X G z_tuple) o_is_fraction
  have F20 := fun_mk (st := s_check_trials) l20 c20 k20
  have b20 := F20.binds (ps := ["trials"]) fun _ _ _ _ _ _ us hl => match us, hl with | [_], _ => rfl
  have o_check_trials := ok_check_trials (P := l.prog) (w := w) (base := base) (ca := ca) F20 b20 (PySem.W.mg_of X G a20) (PySem.W.mg_of X G k_MAX_TRIALS) x_InvalidTrials o_in_range
  have F21 := fun_mk (st := s_check_estimate) l21 c21 k21
  have b21 := F21.binds (ps := ["trials", "estimate"]) fun _ _ _ _ _ _ us hl => match us, hl with | [_, _], _ => rfl
  have o_check_estimate := ok_check_estimate (P := l.prog) (w := w) (base := base) (ca := ca) F21 b21 (PySem.W.mg_of X G a21) x_InvalidEstimate o_are_values o_check_trials
  have F22 := fun_mk (st := s_average) l22 c22 k22
  have b22 := F22.binds (ps := ["trials", "estimate"]) fun _ _ _ _ _ _ us hl => match us, hl with | [_, _], _ => rfl
  have o_average := ok_average (P := l.prog) (w := w) (base := base) (ca := ca) F22 b22 (PySem.W.mg_of X G a22) o_average_of o_check_estimate
  have F23 := fun_mk (st := s_is_chance) l23 c23 k23
  have b23 := F23.binds (ps := ["value"]) fun _ _ _ _ _ _ us hl => match us, hl with | [_], _ => rfl
  have o_is_chance := ok_is_chance (P := l.prog) (w := w) (base := base) (ca := ca) F23 b23 (PySem.W.mg_of X G a23) o_is_fraction
  have F24 := fun_mk (st := s_check_chance) l24 c24 k24
  have b24 := F24.binds (ps := ["chance"]) fun _ _ _ _ _ _ us hl => match us, hl with | [_], _ => rfl
  have o_check_chance := ok_check_chance (P := l.prog) (w := w) (base := base) (ca := ca) F24 b24 (PySem.W.mg_of X G a24) x_InvalidNumber o_is_chance
  have F25 := fun_mk (st := s_value_at) l25 c25 k25
  have b25 := F25.binds (ps := ["row", "point"]) fun _ _ _ _ _ _ us hl => match us, hl with | [_, _], _ => rfl
  have o_value_at := ok_value_at (P := l.prog) (w := w) (base := base) (ca := ca) F25 b25 (PySem.W.mg_of X G a25) o_plus o_times
  have F26 := fun_mk (st := s_average_at) l26 c26 k26
  have b26 := F26.binds (ps := ["trials", "estimate", "chance"]) fun _ _ _ _ _ _ us hl => match us, hl with | [_, _, _], _ => rfl
  have o_average_at := ok_average_at (P := l.prog) (w := w) (base := base) (ca := ca) F26 b26 (PySem.W.mg_of X G a26) o_average_of o_check_chance o_check_estimate o_value_at
  have F27 := fun_mk (st := s_polynomial_of) l27 c27 k27
  have b27 := F27.binds (ps := ["quantity"]) fun _ _ _ _ _ _ us hl => match us, hl with | [_], _ => rfl
  have o_polynomial_of := ok_polynomial_of (P := l.prog) (w := w) (base := base) (ca := ca) F27 b27 (PySem.W.mg_of X G a27) (PySem.W.mg_none_of X G z_tuple)
  have F28 := fun_mk (st := s_failing_chance) l28 c28 k28
  have b28 := F28.binds (ps := ["trials", "quantity", "estimate"]) fun _ _ _ _ _ _ us hl => match us, hl with | [_, _, _], _ => rfl
  have o_failing_chance := ok_failing_chance (P := l.prog) (w := w) (base := base) (ca := ca) F28 b28 (PySem.W.mg_of X G a28) x_InvalidEstimate x_IsHonest o_are_values o_average_of o_check_quantity o_check_trials o_multiple_of o_polynomial_of o_reduced o_sum_of o_value_at
  have F29 := fun_mk (st := s_check_points) l29 c29 k29
  have b29 := F29.binds (ps := ["trials", "points"]) fun _ _ _ _ _ _ us hl => match us, hl with | [_, _], _ => rfl
  have o_check_points := ok_check_points (P := l.prog) (w := w) (base := base) (ca := ca) F29 b29 (PySem.W.mg_of X G a29) (PySem.W.mg_none_of X G z_isinstance) (PySem.W.mg_none_of X G z_len) (PySem.W.mg_none_of X G z_tuple) (PySem.W.mg_none_of X G z_zip) x_InvalidPoints o_check_trials o_is_chance o_is_fraction
  have F30 := fun_mk (st := s_divided) l30 c30 k30
  have b30 := F30.binds (ps := ["one", "other"]) fun _ _ _ _ _ _ us hl => match us, hl with | [_, _], _ => rfl
  have o_divided := ok_divided (P := l.prog) (w := w) (base := base) (ca := ca) F30 b30 (PySem.W.mg_of X G a30) o_reduced
  have F31 := fun_mk (st := s_falling) l31 c31 k31
  have b31 := F31.binds (ps := ["number", "steps"]) fun _ _ _ _ _ _ us hl => match us, hl with | [_, _], _ => rfl
  have o_falling := ok_falling (P := l.prog) (w := w) (base := base) (ca := ca) F31 b31 (PySem.W.mg_of X G a31) (PySem.W.mg_none_of X G z_range)
  have F32 := fun_mk (st := s_total) l32 c32 k32
  have b32 := F32.binds (ps := ["some"]) fun _ _ _ _ _ _ us hl => match us, hl with | [_], _ => rfl
  have o_total := ok_total (P := l.prog) (w := w) (base := base) (ca := ca) F32 b32 (PySem.W.mg_of X G a32) o_plus
  have F33 := fun_mk (st := s_honest_of) l33 c33 k33
  have b33 := F33.binds (ps := ["trials", "row"]) fun _ _ _ _ _ _ us hl => match us, hl with | [_, _], _ => rfl
  have o_honest_of := ok_honest_of (P := l.prog) (w := w) (base := base) (ca := ca) F33 b33 (PySem.W.mg_of X G a33) (PySem.W.mg_none_of X G z_enumerate) (PySem.W.mg_none_of X G z_range) (PySem.W.mg_none_of X G z_tuple) o_falling o_reduced o_times o_total
  have F34 := fun_mk (st := s_minus) l34 c34 k34
  have b34 := F34.binds (ps := ["one", "other"]) fun _ _ _ _ _ _ us hl => match us, hl with | [_, _], _ => rfl
  have o_minus := ok_minus (P := l.prog) (w := w) (base := base) (ca := ca) F34 b34 (PySem.W.mg_of X G a34) o_plus
  have F35 := fun_mk (st := s_from_averages) l35 c35 k35
  have b35 := F35.binds (ps := ["trials", "points"]) fun _ _ _ _ _ _ us hl => match us, hl with | [_, _], _ => rfl
  have o_from_averages := ok_from_averages (P := l.prog) (w := w) (base := base) (ca := ca) F35 b35 (PySem.W.mg_of X G a35) o_check_points o_divided o_honest_of o_minus o_multiple_of o_product_of o_sum_of
  have F36 := fun_mk (st := s_honest) l36 c36 k36
  have b36 := F36.binds (ps := ["trials", "quantity"]) fun _ _ _ _ _ _ us hl => match us, hl with | [_, _], _ => rfl
  have o_honest := ok_honest (P := l.prog) (w := w) (base := base) (ca := ca) F36 b36 (PySem.W.mg_of X G a36) (PySem.W.mg_none_of X G z_len) x_NoEstimate o_check_quantity o_check_trials o_honest_of o_polynomial_of
  have F37 := fun_mk (st := s_more_trials) l37 c37 k37
  have b37 := F37.binds (ps := ["trials", "estimate", "many"]) fun _ _ _ _ _ _ us hl => match us, hl with | [_, _, _], _ => rfl
  have o_more_trials := ok_more_trials (P := l.prog) (w := w) (base := base) (ca := ca) F37 b37 (PySem.W.mg_of X G a37) (PySem.W.mg_none_of X G z_enumerate) (PySem.W.mg_none_of X G z_range) (PySem.W.mg_none_of X G z_tuple) x_TooMany o_check_estimate o_choices o_in_range o_reduced o_times o_total
  have F38 := fun_mk (st := s_paper_of) l38 c38 k38
  have b38 := F38.binds (ps := ["trials", "row"]) fun _ _ _ _ _ _ us hl => match us, hl with | [_, _], _ => rfl
  have o_paper_of := ok_paper_of (P := l.prog) (w := w) (base := base) (ca := ca) F38 b38 (PySem.W.mg_of X G a38) (PySem.W.mg_none_of X G z_len) (PySem.W.mg_none_of X G z_range) (PySem.W.mg_none_of X G z_tuple) o_choices o_reduced o_times o_total o_value_at
  have F39 := fun_mk (st := s_paper) l39 c39 k39
  have b39 := F39.binds (ps := ["trials", "quantity"]) fun _ _ _ _ _ _ us hl => match us, hl with | [_, _], _ => rfl
  have o_paper := ok_paper (P := l.prog) (w := w) (base := base) (ca := ca) F39 b39 (PySem.W.mg_of X G a39) (PySem.W.mg_none_of X G z_len) x_HasEstimate o_check_quantity o_check_trials o_paper_of o_polynomial_of
  have F40 := fun_mk (st := s_PI) l40 c40 k40
  have b40 := F40.binds (ps := ["self", "line"]) fun _ _ _ _ _ _ us hl => match us, hl with | [_, _], _ => rfl
  have o_PI := ok_PI (P := l.prog) (w := w) (base := base) (ca := ca) F40 b40  gP oT a40 i40 ei pNl
  have F41 := fun_mk (st := s_parse_integer) l41 c41 k41
  have b41 := F41.binds (ps := ["token"]) fun _ _ _ _ _ _ us hl => match us, hl with | [_], _ => rfl
  have o_parse_integer := ok_parse_integer (P := l.prog) (w := w) (base := base) (ca := ca) F41 b41 (PySem.W.mg_of X G a41) (PySem.W.mg_none_of X G z_int) (PySem.W.mg_none_of X G z_len) (PySem.W.mg_none_of X G z_str) (PySem.W.mg_of X G k_DIGITS)
  have F42 := fun_mk (st := s_parse_fraction) l42 c42 k42
  have b42 := F42.binds (ps := ["token"]) fun _ _ _ _ _ _ us hl => match us, hl with | [_], _ => rfl
  have o_parse_fraction := ok_parse_fraction (P := l.prog) (w := w) (base := base) (ca := ca) F42 b42 (PySem.W.mg_of X G a42) (PySem.W.mg_none_of X G z_len) o_is_fraction o_parse_integer
  have F43 := fun_mk (st := s_parse_estimate) l43 c43 k43
  have b43 := F43.binds (ps := ["text"]) fun _ _ _ _ _ _ us hl => match us, hl with | [_], _ => rfl
  have o_parse_estimate := ok_parse_estimate (P := l.prog) (w := w) (base := base) (ca := ca) F43 b43 (PySem.W.mg_of X G a43) (PySem.W.mg_none_of X G z_isinstance) (PySem.W.mg_none_of X G z_len) (PySem.W.mg_none_of X G z_str) (PySem.W.mg_none_of X G z_tuple) hPE o_PI o_parse_fraction
  have F44 := fun_mk (st := s_law_raise) l44 c44 k44
  have b44 := F44.binds (ps := ["mode"]) fun _ _ _ _ _ _ us hl => match us, hl with | [_], _ => rfl
  have o_law_raise := ok_law_raise (P := l.prog) (w := w) (base := base) (ca := ca) F44 b44 (PySem.W.mg_of X G a44) cF mk kc o_C_init o_C_undo o_average o_average_at o_failing_chance o_from_averages o_honest o_more_trials o_paper o_parse_estimate
  have F45 := fun_mk (st := s_law) l45 c45 k45
  have b45 := F45.binds (ps := ["script"]) fun _ _ _ _ _ _ us hl => match us, hl with | [_], _ => rfl
  have o_law := ok_law (P := l.prog) (w := w) (base := base) (ca := ca) F45 b45 (PySem.W.mg_of X G a45) (PySem.W.mg_none_of X G z_ValueError) (PySem.W.mg_none_of X G z_isinstance) (PySem.W.mg_none_of X G z_range) x_EstimateError x_HasEstimate x_InvalidEstimate x_InvalidNumber x_InvalidPoints x_InvalidQuantity x_InvalidTrials x_IsHonest x_NoEstimate x_NothingToUndo x_TooMany yy gP o_law_cell o_law_raise
  exact o_law.imp law_sp
end HW
open PySem PySem.W PyProof.Rows
set_option maxHeartbeats 0 in
theorem PySem.Challenge.cw_honestestimates_k15_exceptions_holds : PySem.Challenge.rw_honestestimates_k15_exceptions.Holds := by
  w_on; o_law; k_head; (case hw => w_witness2)
  k_fill
  refine L2.walk_of (l := PySem.Challenge.rw_honestestimates_k15_exceptions) (n := 63) (k := 10) (x := "script") (CX := fun w => L2.CX (PySem.Challenge.rw_honestestimates_k15_exceptions).prog w) (sp := fun w => HW.spLaw _) rfl (by decide) rfl ⟨rfl, by decide, by decide⟩ (fun w h Y => PySem.W.kIn_of Y) ?F (fun _ _ a ns hl _ hS => ⟨a, ns, rfl, hS, hl, fun _ => rfl⟩) (fun _ _ _ _ _ h => HW.no_exc h)
  case F =>
    intro w mg fa h KX G hmg
    refine' HW.all_mk KX G hmg ?aC ?pg ?hd ?po ?sa ?nq ?ns ?nk ?cha ?chn ?cht ?chm ?cty ?css ?cst ?csr ?cne ?mk ?kc ?a0 ?l0 ?c0 ?k0 ?a1 ?l1 ?c1 ?k1 ?a2 ?l2 ?c2 ?k2 ?a3 ?l3 ?c3 ?k3 ?a4 ?i4 ?l4 ?c4 ?k4 ?a5 ?i5 ?l5 ?c5 ?k5 ?a6 ?l6 ?c6 ?k6 ?a7 ?l7 ?c7 ?k7 ?a8 ?l8 ?c8 ?k8 ?a9 ?l9 ?c9 ?k9 ?a10 ?l10 ?c10 ?k10 ?a11 ?l11 ?c11 ?k11 ?a12 ?l12 ?c12 ?k12 ?a13 ?l13 ?c13 ?k13 ?a14 ?l14 ?c14 ?k14 ?a15 ?l15 ?c15 ?k15 ?a16 ?l16 ?c16 ?k16 ?a17 ?l17 ?c17 ?k17 ?a18 ?l18 ?c18 ?k18 ?a19 ?l19 ?c19 ?k19 ?a20 ?l20 ?c20 ?k20 ?a21 ?l21 ?c21 ?k21 ?a22 ?l22 ?c22 ?k22 ?a23 ?l23 ?c23 ?k23 ?a24 ?l24 ?c24 ?k24 ?a25 ?l25 ?c25 ?k25 ?a26 ?l26 ?c26 ?k26 ?a27 ?l27 ?c27 ?k27 ?a28 ?l28 ?c28 ?k28 ?a29 ?l29 ?c29 ?k29 ?a30 ?l30 ?c30 ?k30 ?a31 ?l31 ?c31 ?k31 ?a32 ?l32 ?c32 ?k32 ?a33 ?l33 ?c33 ?k33 ?a34 ?l34 ?c34 ?k34 ?a35 ?l35 ?c35 ?k35 ?a36 ?l36 ?c36 ?k36 ?a37 ?l37 ?c37 ?k37 ?a38 ?l38 ?c38 ?k38 ?a39 ?l39 ?c39 ?k39 ?a40 ?i40 ?l40 ?c40 ?k40 ?a41 ?l41 ?c41 ?k41 ?a42 ?l42 ?c42 ?k42 ?a43 ?l43 ?c43 ?k43 ?a44 ?l44 ?c44 ?k44 ?a45 ?l45 ?c45 ?k45 ?z_ValueError ?z_abs ?z_bool ?z_enumerate ?z_int ?z_isinstance ?z_len ?z_list ?z_max ?z_range ?z_str ?z_tuple ?z_zip ?k_DIGITS ?k_MAX_DEGREE ?k_MAX_PART ?k_MAX_TRIALS ?eg_EstimateError ?ex_EstimateError ?ek_EstimateError ?eb_EstimateError ?et_EstimateError ?eg_HasEstimate ?ex_HasEstimate ?ek_HasEstimate ?eb_HasEstimate ?et_HasEstimate ?eg_InvalidEstimate ?ex_InvalidEstimate ?ek_InvalidEstimate ?eb_InvalidEstimate ?et_InvalidEstimate ?eg_InvalidNumber ?ex_InvalidNumber ?ek_InvalidNumber ?eb_InvalidNumber ?et_InvalidNumber ?eg_InvalidPoints ?ex_InvalidPoints ?ek_InvalidPoints ?eb_InvalidPoints ?et_InvalidPoints ?eg_InvalidQuantity ?ex_InvalidQuantity ?ek_InvalidQuantity ?eb_InvalidQuantity ?et_InvalidQuantity ?eg_InvalidTrials ?ex_InvalidTrials ?ek_InvalidTrials ?eb_InvalidTrials ?et_InvalidTrials ?eg_IsHonest ?ex_IsHonest ?ek_IsHonest ?eb_IsHonest ?et_IsHonest ?eg_NoEstimate ?ex_NoEstimate ?ek_NoEstimate ?eb_NoEstimate ?et_NoEstimate ?eg_NothingToUndo ?ex_NothingToUndo ?ek_NothingToUndo ?eb_NothingToUndo ?et_NothingToUndo ?eg_TooMany ?ex_TooMany ?ek_TooMany ?eb_TooMany ?et_TooMany ?pgP ?pL ?pV ?pSa ?pB ?pT ?pK ?pNl ?pEga ?pErd ?pEfi ?ec_InvalidTrials ?ec_InvalidQuantity ?ec_InvalidEstimate ?ec_InvalidNumber ?ec_InvalidPoints ?ec_NoEstimate ?ec_HasEstimate ?ec_IsHonest ?ec_TooMany ?ec_ParseError ?ec_NothingToUndo ?ev_InvalidTrials ?ev_InvalidQuantity ?ev_InvalidEstimate ?ev_InvalidNumber ?ev_InvalidPoints ?ev_NoEstimate ?ev_HasEstimate ?ev_IsHonest ?ev_TooMany ?ev_ParseError ?ev_NothingToUndo ?ys_InvalidTrials_EstimateError ?ys_InvalidTrials_InvalidTrials ?ys_InvalidTrials_InvalidQuantity ?ys_InvalidTrials_InvalidEstimate ?ys_InvalidTrials_InvalidNumber ?ys_InvalidTrials_InvalidPoints ?ys_InvalidTrials_NoEstimate ?ys_InvalidTrials_HasEstimate ?ys_InvalidTrials_IsHonest ?ys_InvalidTrials_TooMany ?ys_InvalidTrials_ParseError ?ys_InvalidTrials_NothingToUndo ?ys_InvalidQuantity_EstimateError ?ys_InvalidQuantity_InvalidTrials ?ys_InvalidQuantity_InvalidQuantity ?ys_InvalidQuantity_InvalidEstimate ?ys_InvalidQuantity_InvalidNumber ?ys_InvalidQuantity_InvalidPoints ?ys_InvalidQuantity_NoEstimate ?ys_InvalidQuantity_HasEstimate ?ys_InvalidQuantity_IsHonest ?ys_InvalidQuantity_TooMany ?ys_InvalidQuantity_ParseError ?ys_InvalidQuantity_NothingToUndo ?ys_InvalidEstimate_EstimateError ?ys_InvalidEstimate_InvalidTrials ?ys_InvalidEstimate_InvalidQuantity ?ys_InvalidEstimate_InvalidEstimate ?ys_InvalidEstimate_InvalidNumber ?ys_InvalidEstimate_InvalidPoints ?ys_InvalidEstimate_NoEstimate ?ys_InvalidEstimate_HasEstimate ?ys_InvalidEstimate_IsHonest ?ys_InvalidEstimate_TooMany ?ys_InvalidEstimate_ParseError ?ys_InvalidEstimate_NothingToUndo ?ys_InvalidNumber_EstimateError ?ys_InvalidNumber_InvalidTrials ?ys_InvalidNumber_InvalidQuantity ?ys_InvalidNumber_InvalidEstimate ?ys_InvalidNumber_InvalidNumber ?ys_InvalidNumber_InvalidPoints ?ys_InvalidNumber_NoEstimate ?ys_InvalidNumber_HasEstimate ?ys_InvalidNumber_IsHonest ?ys_InvalidNumber_TooMany ?ys_InvalidNumber_ParseError ?ys_InvalidNumber_NothingToUndo ?ys_InvalidPoints_EstimateError ?ys_InvalidPoints_InvalidTrials ?ys_InvalidPoints_InvalidQuantity ?ys_InvalidPoints_InvalidEstimate ?ys_InvalidPoints_InvalidNumber ?ys_InvalidPoints_InvalidPoints ?ys_InvalidPoints_NoEstimate ?ys_InvalidPoints_HasEstimate ?ys_InvalidPoints_IsHonest ?ys_InvalidPoints_TooMany ?ys_InvalidPoints_ParseError ?ys_InvalidPoints_NothingToUndo ?ys_NoEstimate_EstimateError ?ys_NoEstimate_InvalidTrials ?ys_NoEstimate_InvalidQuantity ?ys_NoEstimate_InvalidEstimate ?ys_NoEstimate_InvalidNumber ?ys_NoEstimate_InvalidPoints ?ys_NoEstimate_NoEstimate ?ys_NoEstimate_HasEstimate ?ys_NoEstimate_IsHonest ?ys_NoEstimate_TooMany ?ys_NoEstimate_ParseError ?ys_NoEstimate_NothingToUndo ?ys_HasEstimate_EstimateError ?ys_HasEstimate_InvalidTrials ?ys_HasEstimate_InvalidQuantity ?ys_HasEstimate_InvalidEstimate ?ys_HasEstimate_InvalidNumber ?ys_HasEstimate_InvalidPoints ?ys_HasEstimate_NoEstimate ?ys_HasEstimate_HasEstimate ?ys_HasEstimate_IsHonest ?ys_HasEstimate_TooMany ?ys_HasEstimate_ParseError ?ys_HasEstimate_NothingToUndo ?ys_IsHonest_EstimateError ?ys_IsHonest_InvalidTrials ?ys_IsHonest_InvalidQuantity ?ys_IsHonest_InvalidEstimate ?ys_IsHonest_InvalidNumber ?ys_IsHonest_InvalidPoints ?ys_IsHonest_NoEstimate ?ys_IsHonest_HasEstimate ?ys_IsHonest_IsHonest ?ys_IsHonest_TooMany ?ys_IsHonest_ParseError ?ys_IsHonest_NothingToUndo ?ys_TooMany_EstimateError ?ys_TooMany_InvalidTrials ?ys_TooMany_InvalidQuantity ?ys_TooMany_InvalidEstimate ?ys_TooMany_InvalidNumber ?ys_TooMany_InvalidPoints ?ys_TooMany_NoEstimate ?ys_TooMany_HasEstimate ?ys_TooMany_IsHonest ?ys_TooMany_TooMany ?ys_TooMany_ParseError ?ys_TooMany_NothingToUndo ?ys_ParseError_EstimateError ?ys_ParseError_InvalidTrials ?ys_ParseError_InvalidQuantity ?ys_ParseError_InvalidEstimate ?ys_ParseError_InvalidNumber ?ys_ParseError_InvalidPoints ?ys_ParseError_NoEstimate ?ys_ParseError_HasEstimate ?ys_ParseError_IsHonest ?ys_ParseError_TooMany ?ys_ParseError_ParseError ?ys_ParseError_NothingToUndo ?ys_NothingToUndo_EstimateError ?ys_NothingToUndo_InvalidTrials ?ys_NothingToUndo_InvalidQuantity ?ys_NothingToUndo_InvalidEstimate ?ys_NothingToUndo_InvalidNumber ?ys_NothingToUndo_InvalidPoints ?ys_NothingToUndo_NoEstimate ?ys_NothingToUndo_HasEstimate ?ys_NothingToUndo_IsHonest ?ys_NothingToUndo_TooMany ?ys_NothingToUndo_ParseError ?ys_NothingToUndo_NothingToUndo ?hd_EstimateError ?hd_HasEstimate ?hd_InvalidEstimate ?hd_InvalidNumber ?hd_InvalidPoints ?hd_InvalidQuantity ?hd_InvalidTrials ?hd_IsHonest ?hd_NoEstimate ?hd_NothingToUndo ?hd_ParseError ?hd_TooMany
    (case eg_EstimateError => k_is); (case eg_HasEstimate => k_is); (case eg_InvalidEstimate => k_is); (case eg_InvalidNumber => k_is); (case eg_InvalidPoints => k_is); (case eg_InvalidQuantity => k_is); (case eg_InvalidTrials => k_is); (case eg_IsHonest => k_is); (case eg_NoEstimate => k_is); (case eg_NothingToUndo => k_is); (case eg_TooMany => k_is); (case pgP => k_is); (case aC => k_is); (case pg => k_is); (case hd => k_is); (case po => k_is); (case sa => k_is); (case nq => k_is); (case ns => k_is); (case nk => k_is); (case cha => k_is); (case chn => k_is); (case cht => k_is); (case chm => k_is); (case cty => k_is); (case css => k_is); (case cst => k_is); (case csr => k_is); (case cne => k_is); (case mk => k_is); (case kc => k_is); (case a0 => k_is); (case l0 => k_is); (case c0 => k_is); (case k0 => k_is); (case a1 => k_is); (case l1 => k_is); (case c1 => k_is); (case k1 => k_is); (case a2 => k_is); (case l2 => k_is); (case c2 => k_is); (case k2 => k_is); (case a3 => k_is); (case l3 => k_is); (case c3 => k_is); (case k3 => k_is); (case a4 => k_is); (case i4 => k_is); (case l4 => k_is); (case c4 => k_is); (case k4 => k_is); (case a5 => k_is); (case i5 => k_is); (case l5 => k_is); (case c5 => k_is); (case k5 => k_is); (case a6 => k_is); (case l6 => k_is); (case c6 => k_is); (case k6 => k_is); (case a7 => k_is); (case l7 => k_is); (case c7 => k_is); (case k7 => k_is); (case a8 => k_is); (case l8 => k_is); (case c8 => k_is); (case k8 => k_is); (case a9 => k_is); (case l9 => k_is); (case c9 => k_is); (case k9 => k_is); (case a10 => k_is); (case l10 => k_is); (case c10 => k_is); (case k10 => k_is); (case a11 => k_is); (case l11 => k_is); (case c11 => k_is); (case k11 => k_is); (case a12 => k_is); (case l12 => k_is); (case c12 => k_is); (case k12 => k_is); (case a13 => k_is); (case l13 => k_is); (case c13 => k_is); (case k13 => k_is); (case a14 => k_is); (case l14 => k_is); (case c14 => k_is); (case k14 => k_is); (case a15 => k_is); (case l15 => k_is); (case c15 => k_is); (case k15 => k_is); (case a16 => k_is); (case l16 => k_is); (case c16 => k_is); (case k16 => k_is); (case a17 => k_is); (case l17 => k_is); (case c17 => k_is); (case k17 => k_is); (case a18 => k_is); (case l18 => k_is); (case c18 => k_is); (case k18 => k_is); (case a19 => k_is); (case l19 => k_is); (case c19 => k_is); (case k19 => k_is); (case a20 => k_is); (case l20 => k_is); (case c20 => k_is); (case k20 => k_is); (case a21 => k_is); (case l21 => k_is); (case c21 => k_is); (case k21 => k_is); (case a22 => k_is); (case l22 => k_is); (case c22 => k_is); (case k22 => k_is); (case a23 => k_is); (case l23 => k_is); (case c23 => k_is); (case k23 => k_is); (case a24 => k_is); (case l24 => k_is); (case c24 => k_is); (case k24 => k_is); (case a25 => k_is); (case l25 => k_is); (case c25 => k_is); (case k25 => k_is); (case a26 => k_is); (case l26 => k_is); (case c26 => k_is); (case k26 => k_is); (case a27 => k_is); (case l27 => k_is); (case c27 => k_is); (case k27 => k_is); (case a28 => k_is); (case l28 => k_is); (case c28 => k_is); (case k28 => k_is); (case a29 => k_is); (case l29 => k_is); (case c29 => k_is); (case k29 => k_is); (case a30 => k_is); (case l30 => k_is); (case c30 => k_is); (case k30 => k_is); (case a31 => k_is); (case l31 => k_is); (case c31 => k_is); (case k31 => k_is); (case a32 => k_is); (case l32 => k_is); (case c32 => k_is); (case k32 => k_is); (case a33 => k_is); (case l33 => k_is); (case c33 => k_is); (case k33 => k_is); (case a34 => k_is); (case l34 => k_is); (case c34 => k_is); (case k34 => k_is); (case a35 => k_is); (case l35 => k_is); (case c35 => k_is); (case k35 => k_is); (case a36 => k_is); (case l36 => k_is); (case c36 => k_is); (case k36 => k_is); (case a37 => k_is); (case l37 => k_is); (case c37 => k_is); (case k37 => k_is); (case a38 => k_is); (case l38 => k_is); (case c38 => k_is); (case k38 => k_is); (case a39 => k_is); (case l39 => k_is); (case c39 => k_is); (case k39 => k_is); (case a40 => k_is); (case i40 => k_is); (case l40 => k_is); (case c40 => k_is); (case k40 => k_is); (case a41 => k_is); (case l41 => k_is); (case c41 => k_is); (case k41 => k_is); (case a42 => k_is); (case l42 => k_is); (case c42 => k_is); (case k42 => k_is); (case a43 => k_is); (case l43 => k_is); (case c43 => k_is); (case k43 => k_is); (case a44 => k_is); (case l44 => k_is); (case c44 => k_is); (case k44 => k_is); (case a45 => k_is); (case l45 => k_is); (case c45 => k_is); (case k45 => k_is); (case z_ValueError => k_is); (case z_abs => k_is); (case z_bool => k_is); (case z_enumerate => k_is); (case z_int => k_is); (case z_isinstance => k_is); (case z_len => k_is); (case z_list => k_is); (case z_max => k_is); (case z_range => k_is); (case z_str => k_is); (case z_tuple => k_is); (case z_zip => k_is); (case k_DIGITS => k_is); (case k_MAX_DEGREE => k_is); (case k_MAX_PART => k_is); (case k_MAX_TRIALS => k_is); (case ex_EstimateError => k_exc); (case ek_EstimateError => k_is); (case eb_EstimateError => k_is); (case et_EstimateError => k_is); (case ex_HasEstimate => k_exc); (case ek_HasEstimate => k_is); (case eb_HasEstimate => k_is); (case et_HasEstimate => k_is); (case ex_InvalidEstimate => k_exc); (case ek_InvalidEstimate => k_is); (case eb_InvalidEstimate => k_is); (case et_InvalidEstimate => k_is); (case ex_InvalidNumber => k_exc); (case ek_InvalidNumber => k_is); (case eb_InvalidNumber => k_is); (case et_InvalidNumber => k_is); (case ex_InvalidPoints => k_exc); (case ek_InvalidPoints => k_is); (case eb_InvalidPoints => k_is); (case et_InvalidPoints => k_is); (case ex_InvalidQuantity => k_exc); (case ek_InvalidQuantity => k_is); (case eb_InvalidQuantity => k_is); (case et_InvalidQuantity => k_is); (case ex_InvalidTrials => k_exc); (case ek_InvalidTrials => k_is); (case eb_InvalidTrials => k_is); (case et_InvalidTrials => k_is); (case ex_IsHonest => k_exc); (case ek_IsHonest => k_is); (case eb_IsHonest => k_is); (case et_IsHonest => k_is); (case ex_NoEstimate => k_exc); (case ek_NoEstimate => k_is); (case eb_NoEstimate => k_is); (case et_NoEstimate => k_is); (case ex_NothingToUndo => k_exc); (case ek_NothingToUndo => k_is); (case eb_NothingToUndo => k_is); (case et_NothingToUndo => k_is); (case ex_TooMany => k_exc); (case ek_TooMany => k_is); (case eb_TooMany => k_is); (case et_TooMany => k_is); (case pL => k_is); (case pV => decide +kernel); (case pSa => k_is); (case pB => k_is); (case pT => k_is); (case pK => k_is); (case pNl => k_is); (case pEga => k_is); (case pErd => k_is); (case pEfi => k_is); (case ec_InvalidTrials => exact ⟨by k_is, by k_is, by k_is, by k_is, by k_is, by k_is, by k_is, by k_is⟩); (case ec_InvalidQuantity => exact ⟨by k_is, by k_is, by k_is, by k_is, by k_is, by k_is, by k_is, by k_is⟩); (case ec_InvalidEstimate => exact ⟨by k_is, by k_is, by k_is, by k_is, by k_is, by k_is, by k_is, by k_is⟩); (case ec_InvalidNumber => exact ⟨by k_is, by k_is, by k_is, by k_is, by k_is, by k_is, by k_is, by k_is⟩); (case ec_InvalidPoints => exact ⟨by k_is, by k_is, by k_is, by k_is, by k_is, by k_is, by k_is, by k_is⟩); (case ec_NoEstimate => exact ⟨by k_is, by k_is, by k_is, by k_is, by k_is, by k_is, by k_is, by k_is⟩); (case ec_HasEstimate => exact ⟨by k_is, by k_is, by k_is, by k_is, by k_is, by k_is, by k_is, by k_is⟩); (case ec_IsHonest => exact ⟨by k_is, by k_is, by k_is, by k_is, by k_is, by k_is, by k_is, by k_is⟩); (case ec_TooMany => exact ⟨by k_is, by k_is, by k_is, by k_is, by k_is, by k_is, by k_is, by k_is⟩); (case ec_ParseError => exact ⟨by k_is, by k_is, by k_is, by k_is, by k_is, by k_is, by k_is, by k_is⟩); (case ec_NothingToUndo => exact ⟨by k_is, by k_is, by k_is, by k_is, by k_is, by k_is, by k_is, by k_is⟩); (case ev_InvalidTrials => k_is); (case ev_InvalidQuantity => k_is); (case ev_InvalidEstimate => k_is); (case ev_InvalidNumber => k_is); (case ev_InvalidPoints => k_is); (case ev_NoEstimate => k_is); (case ev_HasEstimate => k_is); (case ev_IsHonest => k_is); (case ev_TooMany => k_is); (case ev_ParseError => k_is); (case ev_NothingToUndo => k_is); (case ys_InvalidTrials_EstimateError => k_is); (case ys_InvalidTrials_InvalidTrials => k_is); (case ys_InvalidTrials_InvalidQuantity => k_is); (case ys_InvalidTrials_InvalidEstimate => k_is); (case ys_InvalidTrials_InvalidNumber => k_is); (case ys_InvalidTrials_InvalidPoints => k_is); (case ys_InvalidTrials_NoEstimate => k_is); (case ys_InvalidTrials_HasEstimate => k_is); (case ys_InvalidTrials_IsHonest => k_is); (case ys_InvalidTrials_TooMany => k_is); (case ys_InvalidTrials_ParseError => k_is); (case ys_InvalidTrials_NothingToUndo => k_is); (case ys_InvalidQuantity_EstimateError => k_is); (case ys_InvalidQuantity_InvalidTrials => k_is); (case ys_InvalidQuantity_InvalidQuantity => k_is); (case ys_InvalidQuantity_InvalidEstimate => k_is); (case ys_InvalidQuantity_InvalidNumber => k_is); (case ys_InvalidQuantity_InvalidPoints => k_is); (case ys_InvalidQuantity_NoEstimate => k_is); (case ys_InvalidQuantity_HasEstimate => k_is); (case ys_InvalidQuantity_IsHonest => k_is); (case ys_InvalidQuantity_TooMany => k_is); (case ys_InvalidQuantity_ParseError => k_is); (case ys_InvalidQuantity_NothingToUndo => k_is); (case ys_InvalidEstimate_EstimateError => k_is); (case ys_InvalidEstimate_InvalidTrials => k_is); (case ys_InvalidEstimate_InvalidQuantity => k_is); (case ys_InvalidEstimate_InvalidEstimate => k_is); (case ys_InvalidEstimate_InvalidNumber => k_is); (case ys_InvalidEstimate_InvalidPoints => k_is); (case ys_InvalidEstimate_NoEstimate => k_is); (case ys_InvalidEstimate_HasEstimate => k_is); (case ys_InvalidEstimate_IsHonest => k_is); (case ys_InvalidEstimate_TooMany => k_is); (case ys_InvalidEstimate_ParseError => k_is); (case ys_InvalidEstimate_NothingToUndo => k_is); (case ys_InvalidNumber_EstimateError => k_is); (case ys_InvalidNumber_InvalidTrials => k_is); (case ys_InvalidNumber_InvalidQuantity => k_is); (case ys_InvalidNumber_InvalidEstimate => k_is); (case ys_InvalidNumber_InvalidNumber => k_is); (case ys_InvalidNumber_InvalidPoints => k_is); (case ys_InvalidNumber_NoEstimate => k_is); (case ys_InvalidNumber_HasEstimate => k_is); (case ys_InvalidNumber_IsHonest => k_is); (case ys_InvalidNumber_TooMany => k_is); (case ys_InvalidNumber_ParseError => k_is); (case ys_InvalidNumber_NothingToUndo => k_is); (case ys_InvalidPoints_EstimateError => k_is); (case ys_InvalidPoints_InvalidTrials => k_is); (case ys_InvalidPoints_InvalidQuantity => k_is); (case ys_InvalidPoints_InvalidEstimate => k_is); (case ys_InvalidPoints_InvalidNumber => k_is); (case ys_InvalidPoints_InvalidPoints => k_is); (case ys_InvalidPoints_NoEstimate => k_is); (case ys_InvalidPoints_HasEstimate => k_is); (case ys_InvalidPoints_IsHonest => k_is); (case ys_InvalidPoints_TooMany => k_is); (case ys_InvalidPoints_ParseError => k_is); (case ys_InvalidPoints_NothingToUndo => k_is); (case ys_NoEstimate_EstimateError => k_is); (case ys_NoEstimate_InvalidTrials => k_is); (case ys_NoEstimate_InvalidQuantity => k_is); (case ys_NoEstimate_InvalidEstimate => k_is); (case ys_NoEstimate_InvalidNumber => k_is); (case ys_NoEstimate_InvalidPoints => k_is); (case ys_NoEstimate_NoEstimate => k_is); (case ys_NoEstimate_HasEstimate => k_is); (case ys_NoEstimate_IsHonest => k_is); (case ys_NoEstimate_TooMany => k_is); (case ys_NoEstimate_ParseError => k_is); (case ys_NoEstimate_NothingToUndo => k_is); (case ys_HasEstimate_EstimateError => k_is); (case ys_HasEstimate_InvalidTrials => k_is); (case ys_HasEstimate_InvalidQuantity => k_is); (case ys_HasEstimate_InvalidEstimate => k_is); (case ys_HasEstimate_InvalidNumber => k_is); (case ys_HasEstimate_InvalidPoints => k_is); (case ys_HasEstimate_NoEstimate => k_is); (case ys_HasEstimate_HasEstimate => k_is); (case ys_HasEstimate_IsHonest => k_is); (case ys_HasEstimate_TooMany => k_is); (case ys_HasEstimate_ParseError => k_is); (case ys_HasEstimate_NothingToUndo => k_is); (case ys_IsHonest_EstimateError => k_is); (case ys_IsHonest_InvalidTrials => k_is); (case ys_IsHonest_InvalidQuantity => k_is); (case ys_IsHonest_InvalidEstimate => k_is); (case ys_IsHonest_InvalidNumber => k_is); (case ys_IsHonest_InvalidPoints => k_is); (case ys_IsHonest_NoEstimate => k_is); (case ys_IsHonest_HasEstimate => k_is); (case ys_IsHonest_IsHonest => k_is); (case ys_IsHonest_TooMany => k_is); (case ys_IsHonest_ParseError => k_is); (case ys_IsHonest_NothingToUndo => k_is); (case ys_TooMany_EstimateError => k_is); (case ys_TooMany_InvalidTrials => k_is); (case ys_TooMany_InvalidQuantity => k_is); (case ys_TooMany_InvalidEstimate => k_is); (case ys_TooMany_InvalidNumber => k_is); (case ys_TooMany_InvalidPoints => k_is); (case ys_TooMany_NoEstimate => k_is); (case ys_TooMany_HasEstimate => k_is); (case ys_TooMany_IsHonest => k_is); (case ys_TooMany_TooMany => k_is); (case ys_TooMany_ParseError => k_is); (case ys_TooMany_NothingToUndo => k_is); (case ys_ParseError_EstimateError => k_is); (case ys_ParseError_InvalidTrials => k_is); (case ys_ParseError_InvalidQuantity => k_is); (case ys_ParseError_InvalidEstimate => k_is); (case ys_ParseError_InvalidNumber => k_is); (case ys_ParseError_InvalidPoints => k_is); (case ys_ParseError_NoEstimate => k_is); (case ys_ParseError_HasEstimate => k_is); (case ys_ParseError_IsHonest => k_is); (case ys_ParseError_TooMany => k_is); (case ys_ParseError_ParseError => k_is); (case ys_ParseError_NothingToUndo => k_is); (case ys_NothingToUndo_EstimateError => k_is); (case ys_NothingToUndo_InvalidTrials => k_is); (case ys_NothingToUndo_InvalidQuantity => k_is); (case ys_NothingToUndo_InvalidEstimate => k_is); (case ys_NothingToUndo_InvalidNumber => k_is); (case ys_NothingToUndo_InvalidPoints => k_is); (case ys_NothingToUndo_NoEstimate => k_is); (case ys_NothingToUndo_HasEstimate => k_is); (case ys_NothingToUndo_IsHonest => k_is); (case ys_NothingToUndo_TooMany => k_is); (case ys_NothingToUndo_ParseError => k_is); (case ys_NothingToUndo_NothingToUndo => k_is); (case hd_EstimateError => k_is); (case hd_HasEstimate => k_is); (case hd_InvalidEstimate => k_is); (case hd_InvalidNumber => k_is); (case hd_InvalidPoints => k_is); (case hd_InvalidQuantity => k_is); (case hd_InvalidTrials => k_is); (case hd_IsHonest => k_is); (case hd_NoEstimate => k_is); (case hd_NothingToUndo => k_is); (case hd_ParseError => k_is); (case hd_TooMany => k_is)
